import PyProof.Rows.All
import Wide.All
import OpenK.AllK
import Wide.FinOn
import KE.KDictWalk
import KE.KeyNested
import KE.KDictKeyed
import KE.SortData
import HandS.TupLe
import HandS.ForMost
import HandS.Lambda
import HandS.ExcInit
import HandS.TupAny
import HandS.Wide
import KE.KDictPairs
import HandS.Dict
import HandS.Words
import KE.GoesEnum
import HandS.Iter
import HandS.Exc
import HandS.ExcOwn
import HandS.ExcField
import HandS.CallSlots
import HandS.WordsExc
import HandS.Conv
import HandS.Deep
import HandS.IsInst
import HandS.Style
import HandS.More
import HandS.Star
import HandS.SuiteRaise
import HandS.HeadHook3
import HandS.Evl
import HandS.Defaults
import HandS.Head2
import HandS.HeadEnd
import HandS.HeadHook2
import HandS.ListItems
import KE.KOpsOwn
import HandS.OwnEq
import HandS.SortKw
import KE.SortKeyHeap
import HandS.Flow
import HandS.IterVal
import KE.KOwnIter
import OpenK.KMeth
import KE.DataMinKey
import HandS.HeadHook4
import HandS.EndTab
import HandS.NestedK
import HandS.TryOnly
import HandS.DictComp
import HandS.Small
import HandS.Property
import HandS.MakeKwOnly
import KE.KExcIs
import HandS.ExcIs
import HandS.Strs
import HandS.TupSets
import HandS.SetBool
import KE.KDictCopyH
import KE.KDictZip
import KE.KDictSum
import KE.KDictItemsList
import HandS.Text
import HandS.RaiseMore
import PyProof.WalkInts
import KE.KUnpackStar
import PyProof.ListStr
import PyProof.StrOps2
import PyProof.FitsStr
import KE.KEqNest
import PyProof.EqKinds
import KE.KEqDict
import KE.KItemsList
import HandS.Zip
import HandS.Finally
import HandS.StrMore
import PyProof.AutoSeq1
import HandS.CallLocal
import HandS.TupMul
import KE.KStrBytes
import PySem.Challenge.RW_refusedahead_k20_tests_known
set_option Elab.async false
set_option linter.all false
set_option maxRecDepth 100000
set_option maxHeartbeats 1000000
namespace DL
open PySem
def KeyE (w : World) (h : Heap) (k : NestedKey) (e : DictEntry) : Prop := e.hash = k.hash w ∧ NestedIs h k e.key ∧ k.depth ≤ 8
theorem p2_len {α β : Type} {F : α → β → Prop} {l1 : List α} {l2 : List β} (h : Paired F l1 l2) : l1.length = l2.length := by
  induction h with
  | nil => rfl
  | cons r t ih => simp [ih]
theorem p2_at {α β : Type} {F : α → β → Prop} {l1 : List α} {l2 : List β} (h : Paired F l1 l2) : ∀ {i : Nat} {b : β}, l2[i]? = some b → ∃ a, l1[i]? = some a ∧ F a b := by
  induction h with
  | nil => intro i b e; simp at e
  | @cons a b l1 l2 r t ih =>
    intro i c e
    cases i with
    | zero => simp only [List.getElem?_cons_zero, Option.some.injEq] at e; subst e; exact ⟨a, rfl, r⟩
    | succ n => simp only [List.getElem?_cons_succ] at e ⊢; exact ih e
theorem p2_at' {α β : Type} {F : α → β → Prop} {l1 : List α} {l2 : List β} (h : Paired F l1 l2) : ∀ {i : Nat} {a : α}, l1[i]? = some a → ∃ b, l2[i]? = some b ∧ F a b := by
  induction h with
  | nil => intro i b e; simp at e
  | @cons a b l1 l2 r t ih =>
    intro i c e
    cases i with
    | zero => simp only [List.getElem?_cons_zero, Option.some.injEq] at e; subst e; exact ⟨b, rfl, r⟩
    | succ n => simp only [List.getElem?_cons_succ] at e ⊢; exact ih e
theorem nodup_at {ks : List NestedKey} (h : ks.Nodup) : ∀ {i j : Nat} {k : NestedKey}, ks[i]? = some k → ks[j]? = some k → i = j := fun {i j k} hi hj => by
  obtain ⟨h1, e1⟩ := List.getElem?_eq_some_iff.mp hi
  exact (List.getElem?_inj h1 h).mp (hi.trans hj.symm)
section
variable {prog : Program} {w : World} {A : Around} {E : Value → Shared → Prop} {s : Shared}
theorem tell_quiet {key : Value} {k : NestedKey} {stored : List Value} {Q : Bool → Shared → Prop} (hk : NestedIs s.heap k key) (dk : k.depth ≤ 8) (hst : ∀ v ∈ stored, ∃ k', NestedIs s.heap k' v ∧ k'.depth ≤ 8) (h : Q false s) : wpAny (model prog w) A (tableMayTell key stored) Q E s := by
  unfold tableMayTell
  split
  · exact wpAny_pure h
  · refine wpAny_bind (quiet_key k key 8 s hk dk _ _ _ ?_)
    simp only [Bool.not_true, Bool.false_eq_true, if_false]
    refine wpAny_bind (wpAny_forIn_list _ (fun rest r t => t = s ∧ r = (none, ()) ∧ ∀ v ∈ rest, ∃ k', NestedIs s.heap k' v ∧ k'.depth ≤ 8) _ ?_ ?_ _ _ ⟨rfl, rfl, hst⟩)
    · rintro v rest r t ⟨rfl, rfl, hr⟩
      obtain ⟨k', i1, i2⟩ := hr v (List.Mem.head _)
      refine wpAny_bind (quiet_key k' v 8 _ i1 i2 _ _ _ ?_)
      simp only [Bool.not_true, Bool.false_eq_true, if_false]
      exact wpAny_pure ⟨rfl, rfl, fun u hu => hr u (List.Mem.tail _ hu)⟩
    · rintro r t ⟨rfl, rfl, _⟩
      exact wpAny_pure h
theorem eq_mix {x y : NestedKey} {u v : Value} {Q : Bool → Shared → Prop} (hu : A.units + 8 < cLine) (hx : NestedIs s.heap x u) (hy : NestedIs s.heap y v) (dx : x.depth ≤ 8) (h : Q (decide (x = y)) s) : wpAny (model prog w) A (eqBool u v) Q E s :=
  eqAt_key x y A s u v hx hy (by omega) _ _ _ _ (by rw [← NestedKey.decide_eq]; exact h)
def Hit (ks : List NestedKey) (k : NestedKey) (i : Nat) (hit : Option Nat) : Prop := (hit = none ∧ ∀ j, j < i → ks[j]? ≠ some k) ∨ ∃ j, hit = some j ∧ j < i ∧ ks[j]? = some k
theorem Hit.done {ks : List NestedKey} {k : NestedKey} {n : Nat} {hit : Option Nat} {Q : Option Nat → Shared → Prop} (x : Hit ks k n hit) (hn : ks.length ≤ n) (h0 : k ∉ ks → Q none s) (h1 : ∀ j, ks[j]? = some k → Q (some j) s) : Q hit s := by
  rcases x with ⟨rfl, h⟩ | ⟨j, rfl, _, h⟩
  · refine h0 fun hm => ?_
    obtain ⟨j, hj⟩ := List.mem_iff_getElem?.mp hm
    exact h j (Nat.lt_of_lt_of_le (List.getElem?_eq_some_iff.mp hj).1 hn) hj
  · exact h1 j h
theorem Hit.to {ks : List NestedKey} {k : NestedKey} {i n : Nat} {hit : Option Nat} (x : Hit ks k i hit) (hin : i ≤ n) (h : ∀ j, i ≤ j → j < n → ks[j]? ≠ some k) : Hit ks k n hit := by
  rcases x with ⟨rfl, g⟩ | ⟨j, rfl, hj, g⟩
  · exact .inl ⟨rfl, fun j hj => if c : j < i then g j c else h j (Nat.le_of_not_lt c) hj⟩
  · exact .inr ⟨j, rfl, Nat.lt_of_lt_of_le hj hin, g⟩
theorem places_cons {n i x : Nat} {p : Nat → Bool} {rest : List Nat} (h : (List.range' i (n - i)).filter p = x :: rest) : i ≤ x ∧ x < n ∧ p x = true ∧ (∀ j, i ≤ j → j < x → p j = false) ∧ (List.range' (x + 1) (n - (x + 1))).filter p = rest := by
  obtain ⟨a, b, c, d, e⟩ := filter_range'_cons _ _ _ _ _ h
  have b' : x < n := by omega
  refine ⟨a, b', c, d, ?_⟩
  rw [e]
  have : i + (n - i) - (x + 1) = n - (x + 1) := by omega
  first | rw [this] | (congr 2; omega)
theorem wpAny_turn {ks : List NestedKey} {k k' : NestedKey} {x : Nat} {hit : Option Nat} {c : Prop} [Decidable c] {q : Bool} {R : ForInStep (Option (Option Nat) × Option Nat) → Shared → Prop} (hn : ks.Nodup) (hh : Hit ks k x hit) (e1 : ks[x]? = some k')
    (r1 : ∀ hit', Hit ks k (x + 1) hit' → R (.yield (none, hit')) s) (r2 : ∀ j, ks[j]? = some k → R (.done (some (some j), hit)) s) :
    wpAny (model prog w) A (if decide (k' = k) = true then
      if hit.isSome = true then do
        unsupported "dict.find:order-among-keys-of-one-hash"
        rule "dict.find.hit"
        if c then pure (ForInStep.done (some (some x), hit)) else pure (ForInStep.yield (none, some x))
      else do
        rule "dict.find.hit"
        if c then pure (ForInStep.done (some (some x), hit)) else pure (ForInStep.yield (none, some x))
    else do
      rule "dict.find.same-hash-other-key"
      if (false && q) = true then do
        unsupported "dict.find:asked-again-or-not-hangs-on-the-table"
        pure (ForInStep.yield (none, hit))
      else pure (ForInStep.yield (none, hit))) R E s := by
  by_cases hkk : k' = k
  · rw [if_pos (decide_eq_true hkk)]
    subst hkk
    rcases hh with ⟨rfl, hno⟩ | ⟨j, _, hj, g⟩
    · rw [if_neg (by simp)]
      refine wpAny_bind (wpAny_rule ?_)
      by_cases hc : c
      · rw [if_pos hc]; exact wpAny_pure (r2 x e1)
      · rw [if_neg hc]; exact wpAny_pure (r1 _ (.inr ⟨x, rfl, Nat.lt_succ_self x, e1⟩))
    · exact absurd (nodup_at hn g e1) (Nat.ne_of_lt hj)
  · rw [if_neg (by simp [hkk])]
    refine wpAny_bind (wpAny_rule ?_)
    rw [if_neg (by simp)]
    refine wpAny_pure (r1 hit ?_)
    rcases hh with ⟨rfl, hno⟩ | ⟨j, e, hj, g⟩
    · exact .inl ⟨rfl, fun j hj => by
        rcases Nat.lt_succ_iff_lt_or_eq.mp hj with c | rfl
        · exact hno j c
        · rw [e1]; exact fun c => hkk (Option.some.inj c)⟩
    · exact .inr ⟨j, e, Nat.lt_succ_of_lt hj, g⟩
theorem find_mix {d : Addr} {key : Value} {o : Obj} {ea : Array DictEntry} {ep : Nat} {ks : List NestedKey} {k : NestedKey} {Q : Option Nat → Shared → Prop} (hu : A.units + 8 < cLine) (hk : NestedIs s.heap k key) (dk : k.depth ≤ 8)
    (ho : s.heap.get? d = some o) (hd : o.data = .dict ea ep) (hp : Paired (KeyE w s.heap) ks ea.toList) (hn : ks.Nodup) (h0 : k ∉ ks → Q none s) (h1 : ∀ j, ks[j]? = some k → Q (some j) s) : wpAny (model prog w) A (dictFind d key (k.hash w)) Q E s := by
  have hl : ks.length = ea.size := (p2_len hp).trans Array.length_toList
  have hat : ∀ {i : Nat} {e : DictEntry}, ea[i]? = some e → ∃ k', ks[i]? = some k' ∧ KeyE w s.heap k' e := fun {i e} hi => p2_at hp (by rw [Array.getElem?_toList]; exact hi)
  have hkey : ∀ {j : Nat}, ks[j]? = some k → ((ea[j]?.map (·.hash)) == some (k.hash w)) = true := fun {j} hj => by
    obtain ⟨e, he, r, _⟩ := p2_at' hp hj
    rw [Array.getElem?_toList] at he
    rw [he, Option.map_some, r]
    simp
  have skip : ∀ {i x : Nat}, (∀ j, i ≤ j → j < x → ((ea[j]?.map (·.hash)) == some (k.hash w)) = false) → ∀ j, i ≤ j → j < x → ks[j]? ≠ some k := fun {i x} h j a b c => by
    have := hkey c
    rw [h j a b] at this
    cases this
  have hst : ∀ v ∈ (placesWithHash ea.size (fun i => ea[i]?.map (·.hash)) (k.hash w)).filterMap (fun i => ea[i]?.map (·.key)), ∃ k', NestedIs s.heap k' v ∧ k'.depth ≤ 8 := fun v hv => by
    obtain ⟨i, _, hi⟩ := List.mem_filterMap.mp hv
    obtain ⟨e, he, rfl⟩ := Option.map_eq_some_iff.mp hi
    obtain ⟨k', _, _, z⟩ := hat he
    exact ⟨k', z⟩
  unfold dictFind
  try with_reducible refine wpAny_holding ?_
  refine wpAny_bind (wpAny_dictEntries ho hd ?_)
  dsimp only
  -- the walk over what is carried by value
  have plain : wpAny (model prog w) A (dictWalkPlain d key (k.hash w) ea (placesWithHash ea.size (fun i => ea[i]?.map (·.hash)) (k.hash w))) Q E s := by
    unfold dictWalkPlain
    refine wpAny_bind ?_
    refine wpAny_forIn_list _ (fun rest b t => t = s ∧ b = (none, ()) ∧ ∃ i, (List.range' i (ea.size - i)).filter (fun i => (ea[i]?.map (·.hash)) == some (k.hash w)) = rest ∧ i ≤ ea.size ∧ ∀ j, j < i → ks[j]? ≠ some k) _ ?_ ?_ _ _
      ⟨rfl, rfl, 0, by rw [placesWithHash, List.range_eq_range', Nat.sub_zero], Nat.zero_le _, fun _ c => absurd c (Nat.not_lt_zero _)⟩
    · rintro x rest b t ⟨rfl, rfl, i, hr, hi, hno⟩
      obtain ⟨a1, a2, a3, a4, a5⟩ := places_cons hr
      have ex : ea[x]? = some ea[x] := Array.getElem?_eq_getElem a2
      obtain ⟨k', e1, e2, e3, e4⟩ := hat ex
      have bef : ∀ j, j < x → ks[j]? ≠ some k := fun j hj => if c : j < i then hno j c else skip a4 j (Nat.le_of_not_lt c) hj
      rw [ex]
      dsimp only
      have hh : (ea[x].hash == k.hash w) = true := by
        rw [ex, Option.map_some] at a3
        simpa using a3
      rw [if_pos hh]
      refine wpAny_bind (wpAny_dictEpoch ho hd (wpAny_bind (eq_mix hu e3 hk e4 (wpAny_bind (wpAny_dictEpoch ho hd ?_)))))
      show wpAny _ _ (if (ep != ep) = true then _ else _) _ E _
      rw [if_neg (by simp)]
      by_cases hkk : k' = k
      · rw [decide_eq_true hkk]
        exact wpAny_bind (wpAny_rule (wpAny_pure (wpAny_pure (h1 x (hkk ▸ e1)))))
      · rw [decide_eq_false hkk]
        exact wpAny_bind (wpAny_rule (wpAny_pure ⟨rfl, rfl, x + 1, a5, a2, fun j hj => by
          rcases Nat.lt_succ_iff_lt_or_eq.mp hj with c | rfl
          · exact bef j c
          · rw [e1]; exact fun c => hkk (Option.some.inj c)⟩))
    · rintro b t ⟨rfl, rfl, i, hr, hi, hno⟩
      refine wpAny_pure (h0 fun hm => ?_)
      obtain ⟨j, hj⟩ := List.mem_iff_getElem?.mp hm
      rcases Nat.lt_or_ge j i with c | c
      · exact hno j c hj
      · have hjl : j < ea.size := by rw [← hl]; exact (List.getElem?_eq_some_iff.mp hj).1
        have := List.filter_eq_nil_iff.mp hr j (List.mem_range'_1.mpr ⟨c, by omega⟩)
        exact this (hkey hj)
  have nohash : ¬ (ea.any fun e => e.key == key && e.hash != k.hash w) = true := by
    rw [← Array.any_toList, List.any_eq_true]
    rintro ⟨e, he, hc⟩
    obtain ⟨i, hi⟩ := List.mem_iff_getElem?.mp he
    obtain ⟨k', _, e1, e2, _⟩ := p2_at hp hi
    simp only [Bool.and_eq_true, beq_iff_eq, bne_iff_ne, ne_eq] at hc
    obtain ⟨c1, c2⟩ := hc
    rw [c1] at e2
    exact c2 (by rw [e1, NestedIs.inj _ _ _ e2 hk])
  have loop : ∀ (tells : Bool) (stored : List Value), tells = false → ∀ (body : Nat → Option (Option Nat) × Option Nat → Sem (ForInStep (Option (Option Nat) × Option Nat))),
      (∀ x hit, x < ea.size → (ea[x]?.map (·.hash) == some (k.hash w)) = true → Hit ks k x hit → ∀ R : ForInStep (Option (Option Nat) × Option Nat) → Shared → Prop, (∀ hit', Hit ks k (x + 1) hit' → R (.yield (none, hit')) s) → (∀ j, ks[j]? = some k → R (.done (some (some j), hit)) s) → wpAny (model prog w) A (body x (none, hit)) R E s) →
      wpAny (model prog w) A (forIn (placesWithHash ea.size (fun i => ea[i]?.map (·.hash)) (k.hash w)) ((none, none) : Option (Option Nat) × Option Nat) body) (fun b t => t = s ∧ ((b.1 = none ∧ Hit ks k ea.size b.2) ∨ ∃ j, b.1 = some (some j) ∧ ks[j]? = some k)) E s := fun tells stored ht body hb => by
    refine wpAny_forIn_list _ (fun rest b t => t = s ∧ ((b.1 = none ∧ ∃ i, (List.range' i (ea.size - i)).filter (fun i => (ea[i]?.map (·.hash)) == some (k.hash w)) = rest ∧ i ≤ ea.size ∧ Hit ks k i b.2))) _ ?_ ?_ _ _
      ⟨rfl, rfl, 0, by rw [placesWithHash, List.range_eq_range', Nat.sub_zero], Nat.zero_le _, .inl ⟨rfl, fun _ c => absurd c (Nat.not_lt_zero _)⟩⟩
    · rintro x rest ⟨b1, b2⟩ t ⟨rfl, e1, i, hr, hi, hh⟩
      obtain rfl : b1 = none := e1
      obtain ⟨a1, a2, a3, a4, a5⟩ := places_cons hr
      refine hb x b2 a2 a3 (hh.to a1 (skip a4)) _ (fun hit' h' => ⟨rfl, rfl, x + 1, a5, a2, h'⟩) fun j hj => ⟨rfl, .inr ⟨j, rfl, hj⟩⟩
    · rintro ⟨b1, b2⟩ t ⟨rfl, e1, i, hr, hi, hh⟩
      refine ⟨rfl, .inl ⟨e1, hh.to hi fun j c1 c2 hj => ?_⟩⟩
      exact List.filter_eq_nil_iff.mp hr j (List.mem_range'_1.mpr ⟨c1, by omega⟩) (hkey hj)
  have fin : ∀ (b : Option (Option Nat) × Option Nat) (t : Shared), (t = s ∧ ((b.1 = none ∧ Hit ks k ea.size b.2) ∨ ∃ j, b.1 = some (some j) ∧ ks[j]? = some k)) → Q (match b.1 with | some r => r | none => b.2) t := fun b t h => by
    obtain ⟨rfl, ⟨e1, hh⟩ | ⟨j, e1, hj⟩⟩ := h
    · rw [e1]; exact hh.done (Nat.le_of_eq hl) h0 h1
    · rw [e1]; exact h1 j hj
  have str : ∀ x t, key = .str x t → (ea.all fun e => isExactStrKey e.key) = true → wpAny (model prog w) A (foundByValue d key ea x) Q E s := fun x t ek hall => by
    subst ek
    cases hk
    have same : ∀ {i : Nat} {e : DictEntry}, ea[i]? = some e → ∃ y, ks[i]? = some (.text y) ∧ (e.key.isStr x = decide (y = x)) := fun {i e} hi => by
      obtain ⟨k', e1, e2, e3, e4⟩ := hat hi
      have := (Array.all_eq_true'.mp hall) e (Array.mem_of_getElem? hi)
      cases hkk : e.key <;> rw [hkk] at this e3 <;> first | (exfalso; simp [isExactStrKey] at this; done) | skip
      cases e3
      exact ⟨_, e1, by rw [Bool.eq_iff_iff]; simp [Value.isStr]⟩
    unfold foundByValue
    cases hf : ea.findIdx? (fun e => e.key.isStr x) with
    | none =>
      refine wpAny_pure (h0 fun hm => ?_)
      obtain ⟨j, hj⟩ := List.mem_iff_getElem?.mp hm
      obtain ⟨e, he, _⟩ := p2_at' hp hj
      rw [Array.getElem?_toList] at he
      obtain ⟨y, e1, e2⟩ := same he
      rw [hj] at e1
      cases e1
      have := Array.findIdx?_eq_none_iff.mp hf e (Array.mem_of_getElem? he)
      rw [e2] at this
      simp at this
    | some i =>
      obtain ⟨hlt, hi, _⟩ := Array.findIdx?_eq_some_iff_getElem.mp hf
      have ex : ea[i]? = some ea[i] := Array.getElem?_eq_getElem hlt
      obtain ⟨y, e1, e2⟩ := same ex
      rw [e2] at hi
      obtain rfl : y = x := by simpa using hi
      obtain ⟨k', f1, f2, f3, f4⟩ := hat ex
      rw [e1] at f1
      cases f1
      dsimp only
      rw [ex]
      dsimp only
      refine wpAny_bind (wpAny_dictEpoch ho hd (wpAny_bind (eq_mix hu f3 (.text _ _) f4 (wpAny_bind (wpAny_dictEpoch ho hd ?_)))))
      rw [if_neg (by simp), if_pos (by simp)]
      exact wpAny_bind (wpAny_rule (wpAny_pure (h1 i e1)))
  have kk := hk
  by_cases hs : (ea.all fun e => isExactStrKey e.key) = true
  all_goals by_cases hall : ((key :: (placesWithHash ea.size (fun i => ea[i]?.map (·.hash)) (k.hash w)).filterMap (fun i => ea[i]?.map (·.key))).all carriedByValue) = true
  all_goals by_cases hone : (((placesWithHash ea.size (fun i => ea[i]?.map (·.hash)) (k.hash w)).filterMap (fun i => ea[i]?.map (·.key))) == [key]) = true
  all_goals cases hk
  all_goals dsimp only
  all_goals first
    | (rw [if_pos hs]; exact str _ _ rfl hs)
    | (first | rw [if_neg hs] | skip
       rw [if_pos hall]; exact plain)
    | skip
  all_goals (
    first | rw [if_neg hs] | skip
    rw [if_neg hall]
    try dsimp only
    first | rw [if_neg nohash] | skip
    first | rw [if_pos hone] | rw [if_neg hone]
    first
      | refine wpAny_bind (wpAny_pure ?_)
      | refine wpAny_bind (tell_quiet kk dk hst ?_)
    rw [if_neg (by simp)]
    refine wpAny_bind (wpAny_mono (loop false [] rfl _ ?_) (fun b t hb => ?_) fun _ _ e => e)
    · intro x hit a2 a3 hh R r1 r2
      have ex : ea[x]? = some ea[x] := Array.getElem?_eq_getElem a2
      obtain ⟨k', e1, e2, e3, e4⟩ := hat ex
      rw [ex]
      dsimp only
      rw [if_pos (by rw [ex, Option.map_some] at a3; simpa using a3)]
      refine wpAny_bind (wpAny_dictEpoch ho hd (wpAny_bind (eq_mix hu e3 kk e4 (wpAny_bind (wpAny_dictEpoch ho hd ?_)))))
      rw [if_neg (by simp)]
      exact wpAny_turn hn hh e1 r1 r2
    · have := fin b t hb
      obtain ⟨b1, b2⟩ := b
      cases b1 <;> exact wpAny_pure this)
end
end DL
set_option maxHeartbeats 1000000
namespace DL
open PySem PySem.W PySem.SeqAt PyProof.Rows PySem.Calls
open AutoSeq1 (wpAny_loadPart')
open MeetsSeq MeetsSeq2 MeetsSeq3 SeqRoads2
mutual
def comp : PyData → PyData → Bool
  | .none, .none => true
  | .bool _, .bool _ => true
  | .int _, .int _ => true
  | .str _, .str _ => true
  | .tuple xs, .tuple ys => compAll xs ys
  | _, _ => false
def compAll : List PyData → List PyData → Bool
  | x :: xs, y :: ys => comp x y && (!PyData.eqv x y || compAll xs ys)
  | [], _ => true
  | _ :: _, [] => true
end
end DL
set_option maxHeartbeats 1000000
namespace DL
open PySem PySem.W PySem.SeqAt PyProof.Rows PySem.Calls
structure CompAll (ds : List PyData) : Prop where
  two : ∀ d, d ∈ ds → ∀ d', d' ∈ ds → comp d d' = true
  kind : (∀ d, d ∈ ds → ∃ xs, d = PyData.tuple xs) ∨ ∀ d, d ∈ ds → ∃ x, d = PyData.str x
  lay : ∀ d, d ∈ ds → d.canLay0 = true
section
variable {prog : Program} {w : World} {A : Around} {s : Shared}
end
section
variable {prog : Program} {w : World} {A : Around} {E : Value → Shared → Prop} {s : Shared} {β : Type} {vs : List Value} {bs : List β} {enc : β → PyData} {R : Value → β → Prop}
end
end DL
namespace DL
open PySem PySem.Spec L2
inductive D where
  | non | bl (b : Bool) | int (i : Int) | str (x : Str)
  | lst (xs : List D) | tup (xs : List D) | dic (kvs : List (Key × D)) | ins (C : Addr) (fs : List (Str × D))
  | ty (n : String)
  | exc (a d : Addr) (fs : List (Str × D))
  /-- a dict whose keys are data; a thing of which only the class is known -/
  | dct (w : World) (kds : List (D × D)) | obx (C a : Addr)
  /-- a dict whose keys are of mixed sorts -/
  | dcm (w : World) (kds : List (D × D))
mutual
def nkOf : D → Option NestedKey
  | .non => some .none
  | .int i => some (.num i)
  | .str x => some (.text x)
  | .tup ds => (nkOfs ds).map .tup
  | _ => none
def nkOfs : List D → Option (List NestedKey)
  | [] => some []
  | d :: ds => (nkOf d).bind fun k => (nkOfs ds).map (k :: ·)
end
def kOf (d : D) : Option NestedKey := match nkOf d with
  | some (.tup ks) => if (NestedKey.tup ks).depth ≤ 8 then some (.tup ks) else none
  | _ => none
def DctB (w : World) (h : Heap) (a : Addr) (kvs : List (NestedKey × Addr × V)) : Prop :=
  ∃ (o : Obj) (es : Array DictEntry) (ep : Nat) (xs : List (NestedKey × Addr × Value)), h.get? a = some o ∧ o.ExactDict ∧ o.data = .dict es ep ∧ es.toList = xs.map (fun x => ⟨x.1.hash w, .ref x.2.1, x.2.2⟩) ∧
    Paired (fun (p : NestedKey × Addr × V) (q : NestedKey × Addr × Value) => p.1 = q.1 ∧ p.2.1 = q.2.1 ∧ RelV p.2.2 q.2.2) kvs xs ∧ (kvs.map (·.1)).Nodup ∧ (a == sysModules) = false
def DctO (w : World) (a : Addr) (kvs : List (NestedKey × Addr × V)) : HO := .ext fun h => DctB w h a kvs
theorem DctB.keep {w : World} {h h' : Heap} {a : Addr} {kvs : List (NestedKey × Addr × V)} (x : DctB w h a kvs) (k : ∀ o, h.get? a = some o → h'.get? a = some o) : DctB w h' a kvs := by
  obtain ⟨o, es, ep, xs, ho, r⟩ := x
  exact ⟨o, es, ep, xs, k o ho, r⟩
open Classical in
noncomputable def flatO : HO → Bool
  | .tbl _ => false
  | .ext φ => decide (¬ ∃ (c : Addr) (q : Str), .ext φ = LamX.CodeO c q)
  | _ => true
theorem flat_code {c : Addr} {q : Str} : flatO (LamX.CodeO c q) = false := by
  unfold LamX.CodeO
  rw [flatO]
  exact @decide_eq_false _ (_) fun h => h ⟨c, q, rfl⟩
theorem flat_ext {φ : Heap → Prop} (h : ∀ hp, φ hp → ∃ (a : Addr) (o : Obj), hp.get? a = some o ∧ ∀ vs, vs.size ≤ 2 → vs[0]? = some .none → o.data ≠ .fields vs) : flatO (.ext φ) = true := by
  rw [flatO]
  refine @decide_eq_true _ (_) fun ⟨c, q, e⟩ => ?_
  have e : φ = fun h => ∃ (oc : Obj) (vs : Array Value) (t : Tok), h.get? c = some oc ∧ oc.data = .fields vs ∧ vs[1]? = some (.str q t) := by injection e
  generalize ob : ({ cls := .none, data := .fields #[.none, .str q 0] } : Obj) = oc0
  have g : ∀ b o, ({ objs := Array.replicate (c + 1) oc0 } : Heap).get? b = some o → o = oc0 := fun b o h => by
    simp only [Heap.get?, Array.getElem?_replicate] at h
    by_cases hb : b < c + 1
    · rw [if_pos hb, ← ob] at h
      rw [← ob]
      exact (Option.some.inj h).symm
    · rw [if_neg hb] at h
      cases h
  have l : φ ({ objs := Array.replicate (c + 1) oc0 } : Heap) := by
    rw [e]
    exact ⟨oc0, #[.none, .str q 0], 0, by simp only [Heap.get?, Array.getElem?_replicate]; rw [if_pos (Nat.lt_succ_self c), ← ob], by rw [← ob], rfl⟩
  obtain ⟨a, o, ho, hd⟩ := h _ l
  have := g _ _ ho
  rw [this, ← ob] at hd
  exact hd #[.none, .str q 0] (Nat.le_refl 2) rfl rfl
theorem flat_exo {a C : Addr} {d : Option Addr} : flatO (exo a C d) = true := flat_ext fun hp ⟨t1, ho⟩ => ⟨a, _, ho, fun vs hz h0 z => by
  injection z with z
  subst z
  cases h0⟩
theorem flat_exd {d : Addr} {fs : List (Str × V)} : flatO (exd d fs) = true := flat_ext fun hp ⟨mA, ⟨o, es, ep, ho, hd, _⟩, _⟩ => ⟨d, o, ho, fun vs _ _ z => by rw [hd] at z; cases z⟩
def keyM : D → Option NestedKey
  | .bl b => some (.num (if b = true then 1 else 0))
  | d => nkOf d
def kOfM (d : D) : Option NestedKey := (keyM d).bind fun k => if k.depth ≤ 8 then some k else none
def MixE (w : World) (p : NestedKey × V × V) (e : DictEntry) : Prop := e.hash = p.1.hash w ∧ RelV p.2.1 e.key ∧ RelV p.2.2 e.val
def MixB (w : World) (o : Obj) (kvs : List (NestedKey × V × V)) : Prop := ∃ (ea : Array DictEntry) (ep : Nat), o.ExactDict ∧ o.data = .dict ea ep ∧ Paired (MixE w) kvs ea.toList ∧ (kvs.map (·.1)).Nodup
def MixO (w : World) (a : Addr) (o : Obj) (kvs : List (NestedKey × V × V)) : HO := .ext fun h => h.get? a = some o ∧ MixB w o kvs ∧ (a == sysModules) = false
theorem flat_mix {w : World} {a : Addr} {o : Obj} {kvs : List (NestedKey × V × V)} : flatO (MixO w a o kvs) = true := flat_ext fun hp ⟨ho, ⟨ea, ep, _, hd, _⟩, _⟩ => ⟨a, o, ho, fun vs _ _ z => by rw [hd] at z; cases z⟩
def Ex (H H' : Hp) : Prop := ∀ a o, H a = some o → H' a = some o
theorem Ex.refl (H : Hp) : Ex H H := fun _ _ h => h
theorem Ex.trans {H H1 H2 : Hp} (a : Ex H H1) (b : Ex H1 H2) : Ex H H2 := fun x o h => b x o (a x o h)
theorem Ex.new {H : Hp} {p : Addr} {o : HO} (h : H p = none) : Ex H (upd H p o) := fun a u e => by
  rw [upd_ne (ne_of_none e h)]; exact e
theorem Ex.back {H H' : Hp} {p : Addr} (e : Ex H H') (h : H' p = none) : H p = none := by
  cases q : H p with
  | none => rfl
  | some o => rw [e p o q] at h; cases h
theorem ex_rd {H H' : Hp} {a : Addr} {u : HO} (e : Ex H H') (h : Rd H a u) : Rd H' a u := by
  rcases h with h | ⟨o, h⟩
  · exact .inl (e a _ h)
  · exact .inr ⟨o, e a _ h⟩
theorem ex_t {K : PySem.W.Frag} {H H' : Hp} {a : Addr} {xs : List V} (e : Ex H H') (h : SqT K H a xs) : SqT K H' a xs := by
  rcases h with h | h
  · exact .inl (ex_rd e h)
  · exact .inr h
def All2 {α β : Type} (F : α → β → Prop) (xs : List α) (ys : List β) : Prop := xs.length = ys.length ∧ ∀ (i : Nat) x y, xs[i]? = some x → ys[i]? = some y → F x y
def TupP (K : PySem.W.Frag) (G : Hp) (a : Addr) (vs : List V) : Prop := (∃ o : Obj, G a = some (.frz o (.tup vs)) ∧ o.dict = none) ∨
  ∃ (o : Obj) (its : Array Value) (n : Nat), K.lookup a = some o ∧ o.cls = .type "tuple" ∧ o.data = .seq its n ∧ its.size ≤ sizeLine ∧ Vals vs its.toList ∧ o.dict = none
theorem TupP.sq {K : PySem.W.Frag} {G : Hp} {a : Addr} {vs : List V} (h : TupP K G a vs) : SqT K G a vs := h.elim (fun ⟨o, e, _⟩ => .inl (.inr ⟨o, e⟩)) fun ⟨o, its, n, e1, e2, e3, e4, e5, _⟩ => .inr ⟨o, its, n, e1, e2, e3, e4, e5⟩
theorem TupP.mono {K : PySem.W.Frag} {G G' : Hp} {a : Addr} {vs : List V} (h : TupP K G a vs) (x : Ex G G') : TupP K G' a vs := h.imp (fun ⟨o, e, n⟩ => ⟨o, x _ _ e, n⟩) id
inductive Den (K : PySem.W.Frag) (G : Hp) : V → D → Prop
  | non : Den K G .non .non
  | bl (b : Bool) : Den K G (.bl b) (.bl b)
  | int (i : Int) : Den K G (.int i) (.int i)
  | str (x : Str) : Den K G (.str x) (.str x)
  | ty (n : String) : Den K G (.ty n) (.ty n)
  | lst {a : Addr} {vs : List V} {ds : List D} (h : G a = some (.lst vs)) (l : vs.length = ds.length) (e : ∀ (i : Nat) v d, vs[i]? = some v → ds[i]? = some d → Den K G v d) : Den K G (.ref a) (.lst ds)
  | tup {a : Addr} {vs : List V} {ds : List D} (h : TupP K G a vs) (l : vs.length = ds.length) (e : ∀ (i : Nat) v d, vs[i]? = some v → ds[i]? = some d → Den K G v d) : Den K G (.ref a) (.tup ds)
  | dic {a : Addr} {kvs : List (Key × V)} {kds : List (Key × D)} (h : Rd G a (.dK kvs)) (l : kvs.length = kds.length) (k : ∀ (i : Nat) p q, kvs[i]? = some p → kds[i]? = some q → p.1 = q.1)
      (e : ∀ (i : Nat) p q, kvs[i]? = some p → kds[i]? = some q → Den K G p.2 q.2) : Den K G (.ref a) (.dic kds)
  | ins {a C dx : Addr} {fs : List (Str × V)} {fds : List (Str × D)} (h : G a = some (.ins C dx fs)) (l : fs.length = fds.length) (k : ∀ (i : Nat) p q, fs[i]? = some p → fds[i]? = some q → p.1 = q.1)
      (e : ∀ (i : Nat) p q, fs[i]? = some p → fds[i]? = some q → Den K G p.2 q.2) : Den K G (.ref a) (.ins C fds)
  | exc {a d : Addr} {fs : List (Str × V)} {fds : List (Str × D)} (h : G d = some (.xd fs)) (l : fs.length = fds.length) (k : ∀ (i : Nat) p q, fs[i]? = some p → fds[i]? = some q → p.1 = q.1)
      (e : ∀ (i : Nat) p q, fs[i]? = some p → fds[i]? = some q → Den K G p.2 q.2) : Den K G (.ref a) (.exc a d fds)
  | dct {a : Addr} {w : World} {kvs : List (NestedKey × Addr × V)} {kds : List (D × D)} (h : G a = some (DctO w a kvs)) (l : kvs.length = kds.length) (k : ∀ (i : Nat) p q, kvs[i]? = some p → kds[i]? = some q → kOf q.1 = some p.1)
      (n : ∀ (i : Nat) p q, kvs[i]? = some p → kds[i]? = some q → Den K G (.ref p.2.1) q.1) (e : ∀ (i : Nat) p q, kvs[i]? = some p → kds[i]? = some q → Den K G p.2.2 q.2) : Den K G (.ref a) (.dct w kds)
  | obx {a d C : Addr} {fs : List (Str × V)} (h : G a = some (exo a C (some d))) (e : G d = some (exd d fs)) : Den K G (.ref a) (.obx C a)
  | dcm {a : Addr} {w : World} {o : Obj} {kvs : List (NestedKey × V × V)} {kds : List (D × D)} (h : G a = some (MixO w a o kvs)) (l : kvs.length = kds.length) (k : ∀ (i : Nat) p q, kvs[i]? = some p → kds[i]? = some q → kOfM q.1 = some p.1)
      (n : ∀ (i : Nat) p q, kvs[i]? = some p → kds[i]? = some q → Den K G p.2.1 q.1) (e : ∀ (i : Nat) p q, kvs[i]? = some p → kds[i]? = some q → Den K G p.2.2 q.2) : Den K G (.ref a) (.dcm w kds)
abbrev Dens (K : PySem.W.Frag) (G : Hp) : List V → List D → Prop := All2 (Den K G)
def DensT (K : PySem.W.Frag) (G : Hp) : List (NestedKey × Addr × V) → List (D × D) → Prop := All2 fun p q => kOf q.1 = some p.1 ∧ Den K G (.ref p.2.1) q.1 ∧ Den K G p.2.2 q.2
def DensM (K : PySem.W.Frag) (G : Hp) : List (NestedKey × V × V) → List (D × D) → Prop := All2 fun p q => kOfM q.1 = some p.1 ∧ Den K G p.2.1 q.1 ∧ Den K G p.2.2 q.2
def DensP {κ : Type} (K : PySem.W.Frag) (G : Hp) : List (κ × V) → List (κ × D) → Prop := All2 fun p q => p.1 = q.1 ∧ Den K G p.2 q.2
section
variable {K : PySem.W.Frag} {G G' H : Hp}
theorem Den.mono {v : V} {d : D} (h : Den K G v d) : Ex G G' → Den K G' v d := by
  intro x
  induction h with
  | non => exact .non
  | bl b => exact .bl b
  | int i => exact .int i
  | str x => exact .str x
  | ty n => exact .ty n
  | lst h l e ih => exact .lst (x _ _ h) l ih
  | tup h l e ih => exact .tup (h.mono x) l ih
  | dic h l k e ih => exact .dic (ex_rd x h) l k ih
  | ins h l k e ih => exact .ins (x _ _ h) l k ih
  | exc h l k e ih => exact .exc (x _ _ h) l k ih
  | dct h l k n e in_ ih => exact .dct (x _ _ h) l k in_ ih
  | obx h e => exact .obx (x _ _ h) (x _ _ e)
  | dcm h l k n e in_ ih => exact .dcm (x _ _ h) l k in_ ih
theorem All2.nil {α β : Type} {F : α → β → Prop} : All2 F [] [] := ⟨rfl, fun i x y h => by simp at h⟩
theorem All2.cons {α β : Type} {F : α → β → Prop} {x : α} {y : β} {xs : List α} {ys : List β} (h : F x y) (t : All2 F xs ys) : All2 F (x :: xs) (y :: ys) := by
  refine ⟨by simp [t.1], fun i a b ha hb => ?_⟩
  cases i with
  | zero => simp at ha hb; subst ha; subst hb; exact h
  | succ n => exact t.2 n a b (by simpa using ha) (by simpa using hb)
theorem All2.head {α β : Type} {F : α → β → Prop} {x : α} {y : β} {xs : List α} {ys : List β} (h : All2 F (x :: xs) (y :: ys)) : F x y := h.2 0 x y rfl rfl
theorem All2.tail {α β : Type} {F : α → β → Prop} {x : α} {y : β} {xs : List α} {ys : List β} (h : All2 F (x :: xs) (y :: ys)) : All2 F xs ys :=
  ⟨by have := h.1; simpa using this, fun i a b ha hb => h.2 (i + 1) a b (by simpa using ha) (by simpa using hb)⟩
theorem All2.nil_left {α β : Type} {F : α → β → Prop} {ys : List β} (h : All2 F [] ys) : ys = [] := by
  have := h.1; cases ys with | nil => rfl | cons => simp at this
theorem All2.nil_right {α β : Type} {F : α → β → Prop} {xs : List α} (h : All2 F xs []) : xs = [] := by
  have := h.1; cases xs with | nil => rfl | cons => simp at this
theorem All2.cons_right {α β : Type} {F : α → β → Prop} {y : β} {ys : List β} {xs : List α} (h : All2 F xs (y :: ys)) : ∃ x r, xs = x :: r ∧ F x y ∧ All2 F r ys := by
  cases xs with
  | nil => have := h.1; simp at this
  | cons x r => exact ⟨x, r, rfl, h.head, h.tail⟩
theorem All2.imp {α β : Type} {F F' : α → β → Prop} {xs : List α} {ys : List β} (h : All2 F xs ys) (f : ∀ a b, F a b → F' a b) : All2 F' xs ys := ⟨h.1, fun i a b ha hb => f a b (h.2 i a b ha hb)⟩
theorem All2.append {α β : Type} {F : α → β → Prop} : ∀ {xs xs' : List α} {ys ys' : List β}, All2 F xs ys → All2 F xs' ys' → All2 F (xs ++ xs') (ys ++ ys')
  | [], _, ys, _, h, t => by rw [h.nil_left]; exact t
  | x :: xs, _, [], _, h, t => by have := h.1; simp at this
  | x :: xs, _, y :: ys, _, h, t => .cons h.head (All2.append h.tail t)
theorem All2.get {α β : Type} {F : α → β → Prop} {xs : List α} {ys : List β} (h : All2 F xs ys) {i : Nat} {y : β} (e : ys[i]? = some y) : ∃ x, xs[i]? = some x ∧ F x y := by
  have hi : i < ys.length := (List.getElem?_eq_some_iff.mp e).1
  have hx : i < xs.length := by rw [h.1]; exact hi
  exact ⟨xs[i], List.getElem?_eq_getElem hx, h.2 i _ _ (List.getElem?_eq_getElem hx) e⟩
theorem All2.getL {α β : Type} {F : α → β → Prop} {xs : List α} {ys : List β} (h : All2 F xs ys) {i : Nat} {x : α} (e : xs[i]? = some x) : ∃ y, ys[i]? = some y ∧ F x y := by
  have hi : i < xs.length := (List.getElem?_eq_some_iff.mp e).1
  have hx : i < ys.length := by rw [← h.1]; exact hi
  exact ⟨ys[i], List.getElem?_eq_getElem hx, h.2 i _ _ e (List.getElem?_eq_getElem hx)⟩
theorem All2.set {α β : Type} {F : α → β → Prop} {xs : List α} {ys : List β} (h : All2 F xs ys) (i : Nat) {x : α} {y : β} (e : F x y) : All2 F (xs.set i x) (ys.set i y) := by
  refine ⟨by simp [h.1], fun j a b ha hb => ?_⟩
  rw [List.getElem?_set] at ha hb
  by_cases hij : i = j
  · subst hij
    simp only [if_true] at ha hb
    split at ha
    · split at hb
      · cases ha; cases hb; exact e
      · cases hb
    · cases ha
  · rw [if_neg hij] at ha hb
    exact h.2 j a b ha hb
theorem Dens.mono {vs : List V} {ds : List D} (h : Dens K G vs ds) (x : Ex G G') : Dens K G' vs ds := h.imp fun _ _ z => z.mono x
theorem DensP.mono {κ : Type} {vs : List (κ × V)} {ds : List (κ × D)} (h : DensP K G vs ds) (x : Ex G G') : DensP K G' vs ds := h.imp fun _ _ z => ⟨z.1, z.2.mono x⟩
theorem DensT.mono {vs : List (NestedKey × Addr × V)} {ds : List (D × D)} (h : DensT K G vs ds) (x : Ex G G') : DensT K G' vs ds := h.imp fun _ _ z => ⟨z.1, z.2.1.mono x, z.2.2.mono x⟩
theorem Den.of_dct {v : V} {w : World} {kds : List (D × D)} (h : Den K G v (.dct w kds)) : ∃ a kvs, v = .ref a ∧ G a = some (DctO w a kvs) ∧ DensT K G kvs kds := by
  cases h with | dct h l k n e => exact ⟨_, _, rfl, h, l, fun i p q a b => ⟨k i p q a b, n i p q a b, e i p q a b⟩⟩
theorem Den.dct' {a : Addr} {w : World} {kvs : List (NestedKey × Addr × V)} {kds : List (D × D)} (h : G a = some (DctO w a kvs)) (e : DensT K G kvs kds) : Den K G (.ref a) (.dct w kds) := .dct h e.1 (fun i p q a b => (e.2 i p q a b).1) (fun i p q a b => (e.2 i p q a b).2.1) fun i p q a b => (e.2 i p q a b).2.2
theorem DensM.mono {vs : List (NestedKey × V × V)} {ds : List (D × D)} (h : DensM K G vs ds) (x : Ex G G') : DensM K G' vs ds := h.imp fun _ _ z => ⟨z.1, z.2.1.mono x, z.2.2.mono x⟩
theorem Den.of_dcm {v : V} {w : World} {kds : List (D × D)} (h : Den K G v (.dcm w kds)) : ∃ a o kvs, v = .ref a ∧ G a = some (MixO w a o kvs) ∧ DensM K G kvs kds := by
  cases h with | dcm h l k n e => exact ⟨_, _, _, rfl, h, l, fun i p q a b => ⟨k i p q a b, n i p q a b, e i p q a b⟩⟩
theorem Den.dcm' {a : Addr} {w : World} {o : Obj} {kvs : List (NestedKey × V × V)} {kds : List (D × D)} (h : G a = some (MixO w a o kvs)) (e : DensM K G kvs kds) : Den K G (.ref a) (.dcm w kds) := .dcm h e.1 (fun i p q a b => (e.2 i p q a b).1) (fun i p q a b => (e.2 i p q a b).2.1) fun i p q a b => (e.2 i p q a b).2.2
theorem Den.of_obx {v : V} {C a : Addr} (h : Den K G v (.obx C a)) : ∃ d fs, v = .ref a ∧ G a = some (exo a C (some d)) ∧ G d = some (exd d fs) := by
  cases h with | obx h e => exact ⟨_, _, rfl, h, e⟩
theorem Den.lst' {a : Addr} {vs : List V} {ds : List D} (h : G a = some (.lst vs)) (e : Dens K G vs ds) : Den K G (.ref a) (.lst ds) := .lst h e.1 e.2
theorem Den.tup' {a : Addr} {vs : List V} {ds : List D} (h : TupP K G a vs) (e : Dens K G vs ds) : Den K G (.ref a) (.tup ds) := .tup h e.1 e.2
theorem Den.of_lst {v : V} {ds : List D} (h : Den K G v (.lst ds)) : ∃ a vs, v = .ref a ∧ G a = some (.lst vs) ∧ Dens K G vs ds := by
  cases h with | lst h l e => exact ⟨_, _, rfl, h, l, e⟩
theorem Den.of_tup {v : V} {ds : List D} (h : Den K G v (.tup ds)) : ∃ a vs, v = .ref a ∧ SqT K G a vs ∧ Dens K G vs ds := by
  cases h with | tup h l e => exact ⟨_, _, rfl, h.sq, l, e⟩
theorem Den.of_ins {v : V} {C : Addr} {fs : List (Str × D)} (h : Den K G v (.ins C fs)) : ∃ a dx vs, v = .ref a ∧ G a = some (.ins C dx vs) ∧ DensP K G vs fs := by
  cases h with | ins h l k e => exact ⟨_, _, _, rfl, h, l, fun i p q a b => ⟨k i p q a b, e i p q a b⟩⟩
theorem Den.of_dic {v : V} {kvs : List (Key × D)} (h : Den K G v (.dic kvs)) : ∃ a vs, v = .ref a ∧ Rd G a (.dK vs) ∧ DensP K G vs kvs := by
  cases h with | dic h l k e => exact ⟨_, _, rfl, h, l, fun i p q a b => ⟨k i p q a b, e i p q a b⟩⟩
theorem Den.of_int {v : V} {i : Int} (h : Den K G v (.int i)) : v = .int i := by cases h; rfl
theorem Den.of_bl {v : V} {b : Bool} (h : Den K G v (.bl b)) : v = .bl b := by cases h; rfl
theorem Den.of_str {v : V} {x : Str} (h : Den K G v (.str x)) : v = .str x := by cases h; rfl
theorem Den.of_non {v : V} (h : Den K G v .non) : v = .non := by cases h; rfl
end
inductive R where
  | no | val (d : D) | own (d : D) | bag | pk (i : Nat) | bor (d : D)
def gt : List R → Nat → R
  | [], _ => .no
  | x :: _, 0 => x
  | _ :: xs, n + 1 => gt xs n
def st : List R → Nat → R → List R
  | [], _, _ => []
  | _ :: xs, 0, r => r :: xs
  | x :: xs, n + 1, r => x :: st xs n r
theorem gt_st_same : ∀ (δ : List R) (i : Nat) (r : R), gt (st δ i r) i = r ∨ gt (st δ i r) i = .no
  | [], _, _ => .inr rfl
  | _ :: _, 0, _ => .inl rfl
  | _ :: xs, n + 1, r => gt_st_same xs n r
theorem gt_st_ne : ∀ (δ : List R) (i j : Nat) (r : R), i ≠ j → gt (st δ i r) j = gt δ j
  | [], _, _, _, _ => rfl
  | _ :: _, 0, 0, _, h => absurd rfl h
  | _ :: _, 0, _ + 1, _, _ => rfl
  | _ :: _, _ + 1, 0, _, _ => rfl
  | _ :: xs, n + 1, m + 1, r, h => gt_st_ne xs n m r (fun e => h (by rw [e]))
theorem flat_dct {w : World} {a : Addr} {kvs : List (NestedKey × Addr × V)} : flatO (DctO w a kvs) = true := flat_ext fun hp ⟨o, es, ep, xs, ho, _, hd, _⟩ => ⟨a, o, ho, fun vs _ _ z => by rw [hd] at z; cases z⟩
def nlk : HO → Bool
  | .frz _ (.dK _) => false
  | _ => true
def Top (K : PySem.W.Frag) (G H : Hp) (p : Addr) : D → Prop
  | .lst ds => ∃ vs, H p = some (.lst vs) ∧ Dens K G vs ds
  | .dic kds => ∃ kvs, H p = some (.dK kvs) ∧ DensP K G kvs kds
  | .ins C fds => ∃ dx fs, H p = some (.ins C dx fs) ∧ DensP K G fs fds
  | .dct w kds => ∃ kvs, H p = some (DctO w p kvs) ∧ DensT K G kvs kds
  | .dcm w kds => ∃ o kvs, H p = some (MixO w p o kvs) ∧ DensM K G kvs kds
  | _ => False
theorem Top.mono {K : PySem.W.Frag} {G G' H H' : Hp} {p : Addr} {d : D} (h : Top K G H p d) (x : Ex G G') (e : H' p = H p) : Top K G' H' p d := by
  cases d with
  | lst ds => obtain ⟨vs, h1, h2⟩ := h; exact ⟨vs, e.trans h1, h2.mono x⟩
  | dic ds => obtain ⟨vs, h1, h2⟩ := h; exact ⟨vs, e.trans h1, h2.mono x⟩
  | ins C ds => obtain ⟨dx, vs, h1, h2⟩ := h; exact ⟨dx, vs, e.trans h1, h2.mono x⟩
  | non => exact h.elim
  | bl => exact h.elim
  | int => exact h.elim
  | str => exact h.elim
  | tup => exact h.elim
  | ty => exact h.elim
  | exc => exact h.elim
  | dct w ds => obtain ⟨vs, h1, h2⟩ := h; exact ⟨vs, e.trans h1, h2.mono x⟩
  | dcm w ds => obtain ⟨o, vs, h1, h2⟩ := h; exact ⟨o, vs, e.trans h1, h2.mono x⟩
  | obx => exact h.elim
theorem Top.there {K : PySem.W.Frag} {G H : Hp} {p : Addr} {d : D} (h : Top K G H p d) : ∃ o, H p = some o := by
  cases d with
  | lst ds => obtain ⟨vs, h1, h2⟩ := h; exact ⟨_, h1⟩
  | dic ds => obtain ⟨vs, h1, h2⟩ := h; exact ⟨_, h1⟩
  | ins C ds => obtain ⟨dx, vs, h1, h2⟩ := h; exact ⟨_, h1⟩
  | non => exact h.elim
  | bl => exact h.elim
  | int => exact h.elim
  | str => exact h.elim
  | tup => exact h.elim
  | ty => exact h.elim
  | exc => exact h.elim
  | dct w ds => obtain ⟨vs, h1, h2⟩ := h; exact ⟨_, h1⟩
  | dcm w ds => obtain ⟨o, vs, h1, h2⟩ := h; exact ⟨_, h1⟩
  | obx => exact h.elim
theorem Top.flat {K : PySem.W.Frag} {G H : Hp} {p : Addr} {d : D} (h : Top K G H p d) : ∀ u, H p = some u → flatO u = true := by
  cases d with
  | lst ds => obtain ⟨vs, h1, h2⟩ := h; intro u e; rw [h1] at e; cases e; rfl
  | dic ds => obtain ⟨vs, h1, h2⟩ := h; intro u e; rw [h1] at e; cases e; rfl
  | ins C ds => obtain ⟨dx, vs, h1, h2⟩ := h; intro u e; rw [h1] at e; cases e; rfl
  | non => exact h.elim
  | bl => exact h.elim
  | int => exact h.elim
  | str => exact h.elim
  | tup => exact h.elim
  | ty => exact h.elim
  | exc => exact h.elim
  | dct w ds => obtain ⟨vs, h1, h2⟩ := h; intro u e; rw [h1] at e; cases e; exact flat_dct
  | dcm w ds => obtain ⟨o, vs, h1, h2⟩ := h; intro u e; rw [h1] at e; cases e; exact flat_mix
  | obx => exact h.elim
def Lkd (K : PySem.W.Frag) (G H : Hp) (p : Addr) : D → Prop
  | .dic kds => ∃ od kvs, H p = some (.frz od (.dK kvs)) ∧ DensP K G kvs kds
  | _ => False
theorem Lkd.of {K : PySem.W.Frag} {G H : Hp} {p : Addr} {d : D} (h : Lkd K G H p d) : ∃ kds od kvs, d = .dic kds ∧ H p = some (.frz od (.dK kvs)) ∧ DensP K G kvs kds := by
  cases d with
  | dic ds => obtain ⟨od, kvs, h1, h2⟩ := h; exact ⟨ds, od, kvs, rfl, h1, h2⟩
  | lst => exact h.elim
  | ins => exact h.elim
  | non => exact h.elim
  | bl => exact h.elim
  | int => exact h.elim
  | str => exact h.elim
  | tup => exact h.elim
  | ty => exact h.elim
  | exc => exact h.elim
  | dct => exact h.elim
  | dcm => exact h.elim
  | obx => exact h.elim
def TopL (lk : Bool) (K : PySem.W.Frag) (G H : Hp) (p : Addr) (d : D) : Prop := Top K G H p d ∨ (lk = true ∧ Lkd K G H p d)
theorem TopL.mono {lk : Bool} {K : PySem.W.Frag} {G G' H H' : Hp} {p : Addr} {d : D} (h : TopL lk K G H p d) (x : Ex G G') (e : H' p = H p) : TopL lk K G' H' p d := by
  rcases h with h | ⟨t, h⟩
  · exact .inl (h.mono x e)
  · obtain ⟨kds, od, kvs, rfl, h1, h2⟩ := h.of
    exact .inr ⟨t, od, kvs, e.trans h1, h2.mono x⟩
theorem TopL.there {lk : Bool} {K : PySem.W.Frag} {G H : Hp} {p : Addr} {d : D} (h : TopL lk K G H p d) : ∃ o, H p = some o := by
  rcases h with h | ⟨t, h⟩
  · exact h.there
  · obtain ⟨kds, od, kvs, rfl, h1, h2⟩ := h.of
    exact ⟨_, h1⟩
theorem TopL.flat {lk : Bool} {K : PySem.W.Frag} {G H : Hp} {p : Addr} {d : D} (h : TopL lk K G H p d) : ∀ u, H p = some u → flatO u = true := by
  rcases h with h | ⟨t, h⟩
  · exact h.flat
  · obtain ⟨kds, od, kvs, rfl, h1, h2⟩ := h.of
    intro u e; rw [h1] at e; cases e; rfl
theorem Top.nlk {K : PySem.W.Frag} {G H : Hp} {p : Addr} {d : D} (h : Top K G H p d) : ∀ u, H p = some u → DL.nlk u = true := by
  cases d with
  | lst ds => obtain ⟨vs, h1, h2⟩ := h; intro u e; rw [h1] at e; cases e; rfl
  | dic ds => obtain ⟨vs, h1, h2⟩ := h; intro u e; rw [h1] at e; cases e; rfl
  | ins C ds => obtain ⟨dx, vs, h1, h2⟩ := h; intro u e; rw [h1] at e; cases e; rfl
  | non => exact h.elim
  | bl => exact h.elim
  | int => exact h.elim
  | str => exact h.elim
  | tup => exact h.elim
  | ty => exact h.elim
  | exc => exact h.elim
  | dct w ds => obtain ⟨vs, h1, h2⟩ := h; intro u e; rw [h1] at e; cases e; rfl
  | dcm w ds => obtain ⟨o, vs, h1, h2⟩ := h; intro u e; rw [h1] at e; cases e; rfl
  | obx => exact h.elim
theorem TopL.top {K : PySem.W.Frag} {G H : Hp} {p : Addr} {d : D} (h : TopL false K G H p d) : Top K G H p d := by
  rcases h with h | ⟨t, h⟩
  · exact h
  · cases t
theorem Top.den {K : PySem.W.Frag} {G H : Hp} {p : Addr} {d : D} {o : HO} (h : Top K G H p d) (n : G p = none) (e : H p = some o) : Den K (upd G p o) (.ref p) d := by
  have x : Ex G (upd G p o) := Ex.new n
  cases d with
  | lst ds => obtain ⟨vs, h1, h2⟩ := h; rw [h1] at e; cases e; exact .lst' upd_same (h2.mono x)
  | dic ds =>
    obtain ⟨vs, h1, h2⟩ := h; rw [h1] at e; cases e
    exact .dic (.inl upd_same) h2.1 (fun i p q a b => (h2.2 i p q a b).1) fun i p q a b => (h2.2 i p q a b).2.mono x
  | ins C ds =>
    obtain ⟨dx, vs, h1, h2⟩ := h; rw [h1] at e; cases e
    exact .ins upd_same h2.1 (fun i p q a b => (h2.2 i p q a b).1) fun i p q a b => (h2.2 i p q a b).2.mono x
  | non => exact h.elim
  | bl => exact h.elim
  | int => exact h.elim
  | str => exact h.elim
  | tup => exact h.elim
  | ty => exact h.elim
  | exc => exact h.elim
  | dct w ds => obtain ⟨vs, h1, h2⟩ := h; rw [h1] at e; cases e; exact .dct' upd_same (h2.mono x)
  | dcm w ds => obtain ⟨o', vs, h1, h2⟩ := h; rw [h1] at e; cases e; exact .dcm' upd_same (h2.mono x)
  | obx => exact h.elim
def Bag (G H : Hp) (b : Addr) : Prop := G b = none ∧ ∃ (x y z : Int) (c : Addr) (ns : List Int), H b = some (.lst [.int x, .int y, .int z, .ref c]) ∧ G c = some (.lst (ns.map V.int)) ∧
  0 ≤ x ∧ 0 ≤ y ∧ y < 2147483647 ∧ 0 ≤ z ∧ ∀ n ∈ ns, 0 ≤ n
theorem Bag.mono {G G' H H' : Hp} {b : Addr} (h : Bag G H b) (x : Ex G G') (n : G' b = none) (e : H' b = H b) : Bag G' H' b := by
  obtain ⟨_, x0, y, z, c, ns, h1, h2, h3⟩ := h
  exact ⟨n, x0, y, z, c, ns, e.trans h1, x _ _ h2, h3⟩
class TabsC where
  tb : List (Addr × Str)
instance (priority := low) noTabs : TabsC := ⟨[]⟩
def IsTab [TabsC] (a : Addr) : Prop := ∃ q, (a, q) ∈ TabsC.tb
structure TabsX [TabsC] (H : Hp) : Prop where
  t : LamX.Tabs TabsC.tb H
  o : ∀ a ps, H a = some (.tbl ps) → IsTab a
theorem flat_tbl {o : HO} (h : flatO o = true) (ps : Array Value) : o ≠ .tbl ps := fun e => by rw [e] at h; cases h
structure BagT [TabsC] (bo : Option Addr) (H0 G H : Hp) : Prop where
  of : ∀ b, bo = some b → Bag G H b
  bs : ∀ b, bo = some b → ∃ x y z c, H0 b = some (.lst [.int x, .int y, .int z, .ref c])
  sc : ∀ b x y z c x' y' z' c', bo = some b → H0 b = some (.lst [.int x, .int y, .int z, .ref c]) → H b = some (.lst [.int x', .int y', .int z', .ref c']) → c' = c
  tb : TabsX H
  ng : ∀ a, IsTab a → G a = none
  nl : ∀ a o kvs, H a = some (.frz o (.dK kvs)) ↔ H0 a = some (.frz o (.dK kvs))
variable [TabsC]
theorem tabs_tab {H : Hp} {p : Addr} (t : TabsX H) (h : IsTab p) : ∃ ps, H p = some (.tbl ps) := by
  obtain ⟨q, hm⟩ := h
  obtain ⟨ps, e, _⟩ := t.t _ hm
  exact ⟨ps, e⟩
theorem tabs_not {H : Hp} {p : Addr} (t : TabsX H) (hp : ∀ u, H p = some u → flatO u = true) : ¬ IsTab p := fun h => by
  obtain ⟨ps, e⟩ := tabs_tab t h
  exact absurd (hp _ e) (by simp [flatO])
theorem only_upd {H : Hp} {p : Addr} {o : HO} (t : TabsX H) (ho : ∀ ps, o ≠ .tbl ps) : ∀ a ps, upd H p o a = some (.tbl ps) → IsTab a := fun a ps e => by
  by_cases h : a = p
  · rw [h, upd_same] at e
    exact absurd (Option.some.inj e) (ho ps)
  · rw [upd_ne h] at e
    exact t.o a ps e
theorem tabs_upd {H : Hp} {p : Addr} {o : HO} (t : TabsX H) (hp : ∀ u, H p = some u → flatO u = true) (ho : ∀ ps, o ≠ .tbl ps) : TabsX (upd H p o) := by
  refine ⟨fun x hx => ?_, only_upd t ho⟩
  obtain ⟨ps, h1, h2, h3⟩ := t.t x hx
  have ne : x.1 ≠ p := by
    rintro rfl
    exact absurd (hp _ h1) (by simp [flatO])
  refine ⟨ps, by rw [upd_ne ne]; exact h1, h2, fun pos cv hc => ?_⟩
  obtain ⟨c, e1, e2⟩ := h3 pos cv hc
  have nc : c ≠ p := by
    rintro rfl
    exact absurd (hp _ e2) (by rw [flat_code]; decide)
  exact ⟨c, e1, by rw [upd_ne nc]; exact e2⟩
def NL (H H' : Hp) : Prop := ∀ a o kvs, H' a = some (.frz o (.dK kvs)) → H a = some (.frz o (.dK kvs))
theorem NL.new {H : Hp} {p : Addr} {o : HO} (n : nlk o = true := by rfl) : NL H (upd H p o) := fun a x kvs e => by
  by_cases h : a = p
  · rw [h, upd_same] at e; cases e; cases n
  · rw [upd_ne h] at e; exact e
def ExT (H H' : Hp) : Prop := (∀ a o, ¬ IsTab a → H a = some o → H' a = some o) ∧ NL H H'
theorem ExT.trans {H H1 H2 : Hp} (a : ExT H H1) (b : ExT H1 H2) : ExT H H2 := ⟨fun x o n h => b.1 x o n (a.1 x o n h), fun x o k h => a.2 x o k (b.2 x o k h)⟩
open Classical in
theorem BagT.not {bo : Option Addr} {H0 G H : Hp} {p : Addr} (B : BagT bo H0 G H) (hp : ∀ u, H p = some u → flatO u = true) : ¬ IsTab p := tabs_not B.tb hp
theorem BagT.notO {bo : Option Addr} {H0 G H : Hp} {p : Addr} {o : HO} (B : BagT bo H0 G H) (hp : H p = some o) (hf : flatO o = true) : ¬ IsTab p := tabs_not B.tb fun u e => by
  rw [hp] at e; cases e; exact hf
theorem BagT.notN {bo : Option Addr} {H0 G H : Hp} {p : Addr} (B : BagT bo H0 G H) (hp : H p = none) : ¬ IsTab p := tabs_not B.tb fun u e => by
  rw [hp] at e; cases e
theorem BagT.updH {bo : Option Addr} {H0 G H : Hp} {p : Addr} {o : HO} (B : BagT bo H0 G H) (nb : bo ≠ some p) (hp : ∀ u, H p = some u → flatO u = true) (ho : flatO o = true) (hq : ∀ u, H p = some u → nlk u = true) (hn : nlk o = true := by rfl) : BagT bo H0 G (upd H p o) :=
  ⟨fun b hb => (B.of b hb).mono (Ex.refl G) (B.of b hb).1 (upd_ne (by rintro rfl; exact nb hb)), B.bs, fun b x y z c x' y' z' c' hb e1 e2 => B.sc b x y z c x' y' z' c' hb e1 (by rw [upd_ne (by rintro rfl; exact nb hb)] at e2; exact e2), tabs_upd B.tb hp (flat_tbl ho), B.ng, fun a x kvs => by
    by_cases h : a = p
    · subst h
      rw [upd_same]
      exact ⟨fun e => (by cases e; cases hn), fun e => (by have := hq _ ((B.nl a x kvs).mpr e); cases this)⟩
    · rw [upd_ne h]; exact B.nl a x kvs⟩
theorem BagT.updG {bo : Option Addr} {H0 G H : Hp} {p : Addr} {o : HO} (B : BagT bo H0 G H) (nb : bo ≠ some p) (gp : G p = none) (nt : ¬ IsTab p) : BagT bo H0 (upd G p o) H :=
  ⟨fun b hb => (B.of b hb).mono (Ex.new gp) (by rw [upd_ne (by rintro rfl; exact nb hb)]; exact (B.of b hb).1) rfl, B.bs, B.sc, B.tb, fun a h => by
    rw [upd_ne (by rintro rfl; exact nt h)]; exact B.ng a h, B.nl⟩
theorem BagT.here {bo : Option Addr} {H0 G H : Hp} (B : BagT bo H0 G H) : BagT bo H G H := ⟨B.of, fun b hb => by
  obtain ⟨_, x, y, z, c, _, e, _⟩ := B.of b hb
  exact ⟨x, y, z, c, e⟩, fun b x y z c x' y' z' c' _ e1 e2 => by rw [e1] at e2; cases e2; rfl, B.tb, B.ng, fun _ _ _ => Iff.rfl⟩
theorem BagT.trans {bo : Option Addr} {H0 G H G' H' : Hp} (B : BagT bo H0 G H) (B' : BagT bo H G' H') : BagT bo H0 G' H' := ⟨B'.of, B.bs, fun b x y z c x' y' z' c' hb e1 e2 => by
  obtain ⟨_, x1, y1, z1, c1, ns, h1, _⟩ := B.of b hb
  rw [B'.sc b _ _ _ _ _ _ _ _ hb h1 e2, B.sc b _ _ _ _ _ _ _ _ hb e1 h1], B'.tb, B'.ng, fun a x kvs => (B'.nl a x kvs).trans (B.nl a x kvs)⟩
structure Ct where
  bo : Option Addr
  mo : Option Addr
  H0 : Hp
  G0 : Hp
  T : Hp
  lk : Bool
abbrev Ow := Addr → Option Nat
def ROk (K : PySem.W.Frag) (C : Ct) (σ : St) (H G : Hp) (W : Ow) (t : Option Nat) (v : V) : R → Prop
  | .no => True
  | .val d => Den K G v d
  | .own d => ∃ p, v = .ref p ∧ (G p = none ∧ C.H0 p = none ∧ C.bo ≠ some p ∧ C.T p = none) ∧ W p = t ∧ Top K G H p d
  | .bag => ∃ b, C.bo = some b ∧ v = .ref b
  | .pk i => t = none ∧ σ[i]? = some (some v)
  | .bor d => t ≠ none ∧ ∃ p, C.mo = some p ∧ v = .ref p ∧ TopL C.lk K G H p d
structure SI (K : PySem.W.Frag) (C : Ct) (σ : St) (H G : Hp) (W : Ow) (δ : List R) : Prop where
  gh : Ex G H
  g0 : Ex C.G0 G
  hh : ∀ a o, C.bo ≠ some a → C.mo ≠ some a → ¬ IsTab a → C.H0 a = some o → H a = some o
  gz : ∀ a, C.H0 a ≠ none → G a = C.G0 a
  b0 : ∀ b, C.bo = some b → C.H0 b ≠ none
  bag : BagT C.bo C.H0 G H
  tm : ∀ a o, C.T a = some o → H a = some o ∧ G a = none ∧ C.bo ≠ some a ∧ flatO o = true
  mu : ∀ p, C.mo = some p → C.H0 p ≠ none ∧ C.G0 p = none ∧ C.bo ≠ some p ∧ C.T p = none ∧ H p ≠ none
  ln : δ.length ≤ σ.length
  sl : ∀ i, gt δ i ≠ .no → ∃ v, σ[i]? = some (some v) ∧ ROk K C σ H G W (some i) v (gt δ i)
def R.pub : R → R
  | .own d => .val d
  | r => r
section
variable {K : PySem.W.Frag} {C : Ct} {σ : St} {H H' G G' : Hp} {W : Ow} {δ : List R} {v : V} {r : R}
def Mine (C : Ct) (G : Hp) (p : Addr) : Prop := G p = none ∧ C.H0 p = none ∧ C.bo ≠ some p ∧ C.T p = none
theorem Top.at_ne {p q : Addr} {d : D} (h : Top K G H q d) (e : H p = none) : q ≠ p := by
  obtain ⟨u, hu⟩ := h.there
  exact ne_of_none hu e
theorem SI.publish {p : Addr} {o : HO} (I : SI K C σ H G W δ) (hp : H p = some o) (m : Mine C G p) (hw : ∀ i d, gt δ i = .own d → W p ≠ some i) (hf : flatO o = true) : SI K C σ H (upd G p o) W δ := by
  obtain ⟨gp, h0, nb, nt⟩ := m
  have x : Ex G (upd G p o) := Ex.new gp
  refine ⟨fun a u e => ?_, I.g0.trans x, I.hh, fun a n => ?_, I.b0, I.bag.updG nb gp (I.bag.notO hp hf), fun a u e => ?_, I.mu, I.ln, fun i hi => ?_⟩
  · by_cases ha : a = p
    · subst ha; rw [upd_same] at e; cases e; exact hp
    · rw [upd_ne ha] at e; exact I.gh a u e
  · have ne : a ≠ p := by rintro rfl; exact n h0
    rw [upd_ne ne]; exact I.gz a n
  · have ne : a ≠ p := by rintro rfl; rw [nt] at e; cases e
    rw [upd_ne ne]; exact I.tm a u e
  · obtain ⟨v, h1, h2⟩ := I.sl i hi
    refine ⟨v, h1, ?_⟩
    cases hr : gt δ i with
    | no => exact trivial
    | val d => rw [hr] at h2; exact Den.mono h2 x
    | bag => rw [hr] at h2; exact h2
    | pk j => rw [hr] at h2; exact h2
    | bor d =>
      rw [hr] at h2
      obtain ⟨t0, q, e, ev, h6⟩ := h2
      exact ⟨t0, q, e, ev, h6.mono x rfl⟩
    | own d =>
      rw [hr] at h2
      obtain ⟨q, e, ⟨g, h3, h4, h4'⟩, h5, h6⟩ := h2
      have ne : q ≠ p := fun e => hw i d hr (e ▸ h5)
      exact ⟨q, e, ⟨by rw [upd_ne ne]; exact g, h3, h4, h4'⟩, h5, h6.mono x rfl⟩
theorem SI.pub (I : SI K C σ H G W δ) (h : ROk K C σ H G W none v r) : ∃ G', Ex G G' ∧ SI K C σ H G' W δ ∧ ROk K C σ H G' W none v r.pub := by
  cases r with
  | own d =>
    obtain ⟨p, e, m, h5, h6⟩ := h
    obtain ⟨o, ho⟩ := h6.there
    refine ⟨upd G p o, Ex.new m.1, I.publish ho m (fun i d' _ => by rw [h5]; simp) (h6.flat _ ho), ?_⟩
    subst e
    exact h6.den m.1 ho
  | no => exact ⟨G, Ex.refl G, I, h⟩
  | val d => exact ⟨G, Ex.refl G, I, h⟩
  | bag => exact ⟨G, Ex.refl G, I, h⟩
  | bor d => exact ⟨G, Ex.refl G, I, h⟩
  | pk j => exact ⟨G, Ex.refl G, I, h⟩
theorem ROk.keep {W' : Ow} (h : ROk K C σ H G W none v r.pub) (x : Ex G G') : ROk K C σ H' G' W' none v r.pub := by
  cases r with
  | bor d => exact absurd rfl h.1
  | own d => exact Den.mono (show Den K G v d from h) x
  | no => exact trivial
  | val d => exact Den.mono (show Den K G v d from h) x
  | bag => exact h
  | pk j => exact h
theorem SI.laid {p : Addr} {o : HO} (I : SI K C σ H G W δ) (hp : H p = none) (hf : flatO o = true := by rfl) (hn : nlk o = true := by rfl) : SI K C σ (upd H p o) G W δ := by
  have x : Ex H (upd H p o) := Ex.new hp
  have hk : ∀ {a : Addr} {u : HO}, H a = some u → upd H p o a = H a := fun {a u} e => by rw [upd_ne (ne_of_none e hp)]
  refine ⟨I.gh.trans x, I.g0, fun a u n n' nt e => x a u (I.hh a u n n' nt e), I.gz, I.b0, I.bag.updH (fun e => by
    obtain ⟨_, x0, y, z, c, ns, h1, _⟩ := I.bag.of p e
    rw [hp] at h1; cases h1) (fun u e => by rw [hp] at e; cases e) hf (fun u e => by rw [hp] at e; cases e) hn, fun a u e => ⟨x a u (I.tm a u e).1, (I.tm a u e).2⟩, fun q hq => ?_, I.ln, fun i hi => ?_⟩
  · obtain ⟨m1, m2, m3, m4, m5⟩ := I.mu q hq
    refine ⟨m1, m2, m3, m4, fun z => m5 ?_⟩
    cases e : H q with
    | none => rfl
    | some u => rw [hk e, e] at z; cases z
  · obtain ⟨v, h1, h2⟩ := I.sl i hi
    refine ⟨v, h1, ?_⟩
    cases hr : gt δ i with
    | no => exact trivial
    | val d => rw [hr] at h2; exact h2
    | bag => rw [hr] at h2; exact h2
    | pk j => rw [hr] at h2; exact h2
    | bor d =>
      rw [hr] at h2
      obtain ⟨t0, q, e, ev, h6⟩ := h2
      obtain ⟨u, hu⟩ := h6.there
      exact ⟨t0, q, e, ev, h6.mono (Ex.refl G) (hk hu)⟩
    | own d =>
      rw [hr] at h2
      obtain ⟨q, e, m, h5, h6⟩ := h2
      obtain ⟨u, hu⟩ := h6.there
      exact ⟨q, e, m, h5, h6.mono (Ex.refl G) (hk hu)⟩
theorem SI.fresh {p : Addr} (I : SI K C σ H G W δ) (hp : H p = none) : Mine C G p := by
  have hb : C.bo ≠ some p := fun e => by
    obtain ⟨_, x, y, z, c, ns, h, _⟩ := I.bag.of p e
    rw [hp] at h; cases h
  refine ⟨I.gh.back hp, ?_, hb, ?_⟩
  · cases q : C.H0 p with
    | none => rfl
    | some o =>
      have hm : C.mo ≠ some p := fun e => (I.mu p e).2.2.2.2 hp
      have := I.hh p o hb hm (I.bag.notN hp) q; rw [hp] at this; cases this
  · cases q : C.T p with
    | none => rfl
    | some o => have := (I.tm p o q).1; rw [hp] at this; cases this
theorem SI.disown {p : Addr} (I : SI K C σ H G W δ) (h : ∀ i d q, gt δ i = .own d → W q = some i → Top K G H q d → σ[i]? = some (some (.ref q)) → q ≠ p) : SI K C σ H G (fun a => if a = p then none else W a) δ := by
  refine ⟨I.gh, I.g0, I.hh, I.gz, I.b0, I.bag, I.tm, I.mu, I.ln, fun i hi => ?_⟩
  obtain ⟨v, h1, h2⟩ := I.sl i hi
  refine ⟨v, h1, ?_⟩
  cases hr : gt δ i with
  | no => exact trivial
  | val d => rw [hr] at h2; exact h2
  | bag => rw [hr] at h2; exact h2
  | pk j => rw [hr] at h2; exact h2
  | bor d => rw [hr] at h2; exact h2
  | own d =>
    rw [hr] at h2
    obtain ⟨q, e, m, h5, h6⟩ := h2
    subst e
    refine ⟨q, rfl, m, ?_, h6⟩
    show (if q = p then none else W q) = some i
    rw [if_neg (h i d q hr h5 h6 h1)]; exact h5
theorem SI.lay {p : Addr} {o : HO} (I : SI K C σ H G W δ) (hp : H p = none) (hf : flatO o = true := by rfl) (hn : nlk o = true := by rfl) : SI K C σ (upd H p o) G (fun a => if a = p then none else W a) δ :=
  (I.laid hp hf hn).disown fun i d q e h5 h6 h1 => by
    obtain ⟨v, h1', h2⟩ := I.sl i (by rw [e]; simp)
    rw [h1] at h1'; cases h1'
    rw [e] at h2
    obtain ⟨q', e', _, _, h7⟩ := h2
    cases e'
    exact h7.at_ne hp
end
end DL
namespace DL
open PySem PySem.Spec L2
variable [TabsC]
section
variable {X : Cx}
theorem PE.weak {e : Expr} {t t' : TE} (h : PE X e t) (w : ∀ σ H Q, t' σ H Q → t σ H Q) : PE X e t' := ⟨fun pins s σ H Q I q => h.run pins s σ H Q I (w σ H Q q)⟩
theorem PT.weak {e : Expr} {t t' : TT} (h : PT X e t) (w : ∀ σ H Q, t' σ H Q → t σ H Q) : PT X e t' := ⟨fun pins s σ H Q I q => h.run pins s σ H Q I (w σ H Q q)⟩
theorem PW.weak {e : Expr} {t t' : TT} (h : PW X e t) (w : ∀ σ H Q, t' σ H Q → t σ H Q) : PW X e t' := ⟨fun wh pins s σ H Q I q => h.run wh pins s σ H Q I (w σ H Q q)⟩
theorem PA.weak {e : List Expr} {t t' : TA} (h : PA X e t) (w : ∀ σ H Q, t' σ H Q → t σ H Q) : PA X e t' := ⟨fun pos pins s σ H Q I q => h.run pos pins s σ H Q I (w σ H Q q)⟩
theorem PS.weak {e : Stmt} {t t' : TS} (h : PS X e t) (w : ∀ D σ H, t' D σ H → t D σ H) : PS X e t' := ⟨fun pins s σ H D I q => h.run pins s σ H D I (w D σ H q)⟩
theorem PSs.weak {e : List Stmt} {t t' : TS} (h : PSs X e t) (w : ∀ D σ H, t' D σ H → t D σ H) : PSs X e t' := ⟨fun pins s σ H D I q => h.run pins s σ H D I (w D σ H q)⟩
end
abbrev DE := List R → (R → List R → Prop) → Prop
abbrev DT := List R → (Bool → List R → Prop) → Prop
abbrev DA := List R → (List R → List R → Prop) → Prop
structure Lk where
  E : Value → Option Addr → St → Hp → Prop
  x : Addr → List (Str × D) → List R → Prop
def L0 : Lk := ⟨fun _ _ _ _ => False, fun _ _ _ => False⟩
def Lnk (K : PySem.W.Frag) (L : Lk) (C : Ct) (G : Hp) : Prop := ∀ c fs δ' d σ' H' G' W' fvs, L.x c fs δ' → Ex G G' → SI K C σ' H' G' W' δ' → G' d = some (.xd fvs) → DensP K G' fvs fs → L.E (.ref c) (some d) σ' H'
theorem Lnk.mono {K : PySem.W.Frag} {L : Lk} {C : Ct} {G G1 : Hp} (h : Lnk K L C G) (x : Ex G G1) : Lnk K L C G1 := fun c fs δ' d σ' H' G' W' fvs h1 h2 => h c fs δ' d σ' H' G' W' fvs h1 (x.trans h2)
theorem Lnk.zero {K : PySem.W.Frag} {C : Ct} {G : Hp} : Lnk K L0 C G := fun _ _ _ _ _ _ _ _ _ h => h.elim
def lift (K : PySem.W.Frag) (L : Lk) (de : DE) : TE := fun σ H Q => ∃ (C : Ct) (G : Hp) (W : Ow) (δ : List R) (P : R → List R → Prop), SI K C σ H G W δ ∧ Lnk K L C G ∧ de δ P ∧
  ∀ r δ' v H' G' W', P r δ' → Ex G G' → SI K C σ H' G' W' δ' → ROk K C σ H' G' W' none v r → Q v H'
def liftT (K : PySem.W.Frag) (L : Lk) (dt : DT) : TT := fun σ H Q => ∃ (C : Ct) (G : Hp) (W : Ow) (δ : List R) (P : Bool → List R → Prop), SI K C σ H G W δ ∧ Lnk K L C G ∧ dt δ P ∧
  ∀ b δ' H' G' W', P b δ' → Ex G G' → SI K C σ H' G' W' δ' → Q b H'
def liftA (K : PySem.W.Frag) (L : Lk) (da : DA) : TA := fun σ H Q => ∃ (C : Ct) (G : Hp) (W : Ow) (δ : List R) (P : List R → List R → Prop), SI K C σ H G W δ ∧ Lnk K L C G ∧ da δ P ∧
  ∀ rs δ' vs H' G' W', P rs δ' → Ex G G' → SI K C σ H' G' W' δ' → All2 (fun v r => ROk K C σ H' G' W' none v (R.pub r)) vs rs → Q vs H'
def R.on : R → Bool
  | .no => false
  | _ => true
def R.dat : R → Option D
  | .val d => some d
  | .own d => some d
  | .bor d => some d
  | _ => none
def peek : R → List R → Option D
  | .pk i, δ => (gt δ i).dat
  | r, _ => r.dat
def usePk : R → Nat → List R → Option (R × List R)
  | .val d, _, δ => some (.val d, δ)
  | .own d, i, δ => some (.val d, st δ i (.val d))
  | .bag, _, δ => some (.bag, δ)
  | .no, _, _ => none
  | .pk _, _, _ => none
  | .bor _, _, _ => none
def use : R → List R → Option (R × List R)
  | .pk i, δ => usePk (gt δ i) i δ
  | .val d, δ => some (.val d, δ)
  | .own d, δ => some (.val d, δ)
  | .bag, δ => some (.bag, δ)
  | .no, _ => none
  | .bor _, _ => none
def peekAll : List R → List R → Option (List D)
  | [], _ => some []
  | r :: rs, δ => match peek r δ, peekAll rs δ with
    | some d, some ds => some (d :: ds)
    | _, _ => none
def useAll : List R → List R → Option (List R × List R)
  | [], δ => some ([], δ)
  | r :: rs, δ => match use r δ with
    | some (r', δ') => match useAll rs δ' with
      | some (rs', δ'') => some (r' :: rs', δ'')
      | none => none
    | none => none
theorem st_len : ∀ (δ : List R) (i : Nat) (a : R), (st δ i a).length = δ.length
  | [], _, _ => rfl
  | _ :: _, 0, _ => rfl
  | _ :: xs, n + 1, a => by simp only [st, List.length_cons]; rw [st_len xs n a]
theorem st_st : ∀ (δ : List R) (i : Nat) (a b : R), st (st δ i a) i b = st δ i b
  | [], _, _, _ => rfl
  | _ :: _, 0, _, _ => rfl
  | _ :: xs, n + 1, a, b => by simp only [st]; rw [st_st xs n a b]
section
variable {K : PySem.W.Frag} {C : Ct} {σ : St} {H H' G G' : Hp} {W : Ow} {δ δ' : List R} {v : V} {r r' : R} {d : D}
theorem SI.drop (I : SI K C σ H G W δ) (i : Nat) : SI K C σ H G W (st δ i .no) := by
  refine ⟨I.gh, I.g0, I.hh, I.gz, I.b0, I.bag, I.tm, I.mu, by rw [st_len]; exact I.ln, fun j hj => ?_⟩
  by_cases e : i = j
  · subst e
    rcases gt_st_same δ i .no with z | z <;> exact absurd z hj
  · rw [gt_st_ne δ i j .no e] at hj ⊢
    exact I.sl j hj
theorem SI.put (I : SI K C σ H G W δ) {i : Nat} (h : σ[i]? = some (some v)) (hr : ROk K C σ H G W (some i) v r) : SI K C σ H G W (st δ i r) := by
  refine ⟨I.gh, I.g0, I.hh, I.gz, I.b0, I.bag, I.tm, I.mu, by rw [st_len]; exact I.ln, fun j hj => ?_⟩
  by_cases e : i = j
  · subst e
    rcases gt_st_same δ i r with z | z
    · rw [z]; exact ⟨v, h, hr⟩
    · exact absurd z hj
  · rw [gt_st_ne δ i j r e] at hj ⊢
    exact I.sl j hj
theorem gt_put_own {i j : Nat} {d d' : D} (h : gt (st δ i .no) j = .own d') : i ≠ j ∧ gt δ j = .own d' := by
  by_cases e : i = j
  · subst e
    rcases gt_st_same δ i .no with z | z <;> rw [z] at h <;> cases h
  · rw [gt_st_ne δ i j .no e] at h
    exact ⟨e, h⟩
theorem SI.useOk (I : SI K C σ H G W δ) (h : ROk K C σ H G W none v r) (e : use r δ = some (r', δ')) : ∃ G', Ex G G' ∧ SI K C σ H G' W δ' ∧ ROk K C σ H G' W none v r' ∧ r'.pub = r' := by
  cases r with
  | no => cases e
  | bor d => cases e
  | val d => cases e; exact ⟨G, Ex.refl G, I, h, rfl⟩
  | bag => cases e; exact ⟨G, Ex.refl G, I, h, rfl⟩
  | own d =>
    cases e
    obtain ⟨G', x, I', h'⟩ := I.pub h
    exact ⟨G', x, I', h', rfl⟩
  | pk i =>
    have e : usePk (gt δ i) i δ = some (r', δ') := e
    cases q : gt δ i with
    | no => rw [q] at e; cases e
    | pk j => rw [q] at e; cases e
    | bor d => rw [q] at e; cases e
    | val d =>
      rw [q] at e; cases e
      obtain ⟨v', h1, h2⟩ := I.sl i (by rw [q]; simp)
      rw [q] at h2
      have : v = v' := by have := h.2.symm.trans h1; simpa using this
      subst this
      exact ⟨G, Ex.refl G, I, h2, rfl⟩
    | bag =>
      rw [q] at e; cases e
      obtain ⟨v', h1, h2⟩ := I.sl i (by rw [q]; simp)
      rw [q] at h2
      have : v = v' := by have := h.2.symm.trans h1; simpa using this
      subst this
      exact ⟨G, Ex.refl G, I, h2, rfl⟩
    | own d =>
      rw [q] at e; cases e
      obtain ⟨v', h1, h2⟩ := I.sl i (by rw [q]; simp)
      rw [q] at h2
      have : v = v' := by have := h.2.symm.trans h1; simpa using this
      subst this
      obtain ⟨p, e, m, h5, h6⟩ := h2
      obtain ⟨o, ho⟩ := h6.there
      subst e
      have dn : Den K (upd G p o) (.ref p) d := h6.den m.1 ho
      have I1 := (I.drop i).publish ho m fun j d' hj => by
        obtain ⟨ne, _⟩ := gt_put_own (d := d) hj
        rw [h5]; intro z; exact ne (Option.some.inj z)
      have I1 := I1 (h6.flat _ ho)
      have I2 : SI K C σ H (upd G p o) W (st (st δ i .no) i (.val d)) := I1.put h1 dn
      rw [st_st] at I2
      exact ⟨upd G p o, Ex.new m.1, I2, dn, rfl⟩
def Seen (K : PySem.W.Frag) (G H : Hp) (v : V) (d : D) : Prop := Den K G v d ∨ ∃ p, v = .ref p ∧ TopL true K G H p d
theorem TopL.any {lk : Bool} {K : PySem.W.Frag} {p : Addr} (h : TopL lk K G H p d) : TopL true K G H p d := h.imp id fun z => ⟨rfl, z.2⟩
theorem SI.peekOk (I : SI K C σ H G W δ) (h : ROk K C σ H G W none v r) (e : peek r δ = some d) : Seen K G H v d := by
  cases r with
  | no => cases e
  | bor d' => exact absurd rfl h.1
  | val d' => cases e; exact .inl h
  | bag => cases e
  | own d' => cases e; obtain ⟨p, e, _, _, h6⟩ := h; exact .inr ⟨p, e, .inl h6⟩
  | pk i =>
    have e' : (gt δ i).dat = some d := e
    obtain ⟨v', h1, h2⟩ := I.sl i (by intro z; rw [z] at e'; cases e')
    have : v = v' := by have := h.2.symm.trans h1; simpa using this
    subst this
    cases q : gt δ i with
    | no => rw [q] at e'; cases e'
    | pk j => rw [q] at e'; cases e'
    | bag => rw [q] at e'; cases e'
    | bor d' => rw [q] at e' h2; cases e'; obtain ⟨_, p, _, e, h6⟩ := h2; exact .inr ⟨p, e, h6.any⟩
    | val d' => rw [q] at e' h2; cases e'; exact .inl h2
    | own d' => rw [q] at e' h2; cases e'; obtain ⟨p, e, _, _, h6⟩ := h2; exact .inr ⟨p, e, .inl h6⟩
theorem Seen.den {K : PySem.W.Frag} (h : Seen K G H v d) (x : Ex G H) : Den K H v d := by
  rcases h with h | ⟨p, rfl, h | ⟨_, h⟩⟩
  · exact h.mono x
  · cases d with
    | lst ds => obtain ⟨vs, h1, h2⟩ := h; exact .lst' h1 (h2.mono x)
    | dic ds => obtain ⟨vs, h1, h2⟩ := h; exact .dic (.inl h1) h2.1 (fun i p q a b => (h2.2 i p q a b).1) fun i p q a b => (h2.2 i p q a b).2.mono x
    | ins C ds => obtain ⟨dx, vs, h1, h2⟩ := h; exact .ins h1 h2.1 (fun i p q a b => (h2.2 i p q a b).1) fun i p q a b => (h2.2 i p q a b).2.mono x
    | non => exact h.elim
    | bl => exact h.elim
    | int => exact h.elim
    | str => exact h.elim
    | tup => exact h.elim
    | ty => exact h.elim
    | exc => exact h.elim
    | dct w ds => obtain ⟨vs, h1, h2⟩ := h; exact .dct' h1 (h2.mono x)
    | dcm w ds => obtain ⟨o, vs, h1, h2⟩ := h; exact .dcm' h1 (h2.mono x)
    | obx => exact h.elim
  · obtain ⟨kds, od, kvs, rfl, h1, h2⟩ := h.of
    exact .dic (.inr ⟨od, h1⟩) h2.1 (fun i p q a b => (h2.2 i p q a b).1) fun i p q a b => (h2.2 i p q a b).2.mono x
theorem Seen.lst {K : PySem.W.Frag} {ds : List D} (h : Seen K G H v (.lst ds)) (x : Ex G H) : ∃ a vs, v = .ref a ∧ H a = some (.lst vs) ∧ Dens K G vs ds := by
  rcases h with h | ⟨p, rfl, h | ⟨_, h⟩⟩
  · obtain ⟨a, vs, e, h1, h2⟩ := h.of_lst
    exact ⟨a, vs, e, x _ _ h1, h2⟩
  · obtain ⟨vs, h1, h2⟩ := h
    exact ⟨p, vs, rfl, h1, h2⟩
  · exact h.elim
theorem Seen.tup {K : PySem.W.Frag} {ds : List D} (h : Seen K G H v (.tup ds)) (x : Ex G H) : ∃ a vs, v = .ref a ∧ SqT K H a vs ∧ Dens K G vs ds := by
  rcases h with h | ⟨p, rfl, h | ⟨_, h⟩⟩
  · obtain ⟨a, vs, e, h1, h2⟩ := h.of_tup
    exact ⟨a, vs, e, ex_t x h1, h2⟩
  · exact h.elim
  · exact h.elim
theorem Seen.ins {K : PySem.W.Frag} {C : Addr} {fs : List (Str × D)} (h : Seen K G H v (.ins C fs)) (x : Ex G H) : ∃ a dx vs, v = .ref a ∧ H a = some (.ins C dx vs) ∧ DensP K G vs fs := by
  rcases h with h | ⟨p, rfl, h | ⟨_, h⟩⟩
  · obtain ⟨a, dx, vs, e, h1, h2⟩ := h.of_ins
    exact ⟨a, dx, vs, e, x _ _ h1, h2⟩
  · obtain ⟨dx, vs, h1, h2⟩ := h
    exact ⟨p, dx, vs, rfl, h1, h2⟩
  · exact h.elim
theorem Seen.dic {K : PySem.W.Frag} {kvs : List (Key × D)} (h : Seen K G H v (.dic kvs)) (x : Ex G H) : ∃ a vs, v = .ref a ∧ Rd H a (.dK vs) ∧ DensP K G vs kvs := by
  rcases h with h | ⟨p, rfl, h | ⟨_, h⟩⟩
  · obtain ⟨a, vs, e, h1, h2⟩ := h.of_dic
    exact ⟨a, vs, e, ex_rd x h1, h2⟩
  · obtain ⟨vs, h1, h2⟩ := h
    exact ⟨p, vs, rfl, .inl h1, h2⟩
  · obtain ⟨od, vs, h1, h2⟩ := h
    exact ⟨p, vs, rfl, .inr ⟨od, h1⟩, h2⟩
theorem SI.useAllOk : ∀ {rs : List R} {vs : List V} {δ δ' : List R} {rs' : List R} {G : Hp}, SI K C σ H G W δ → All2 (fun v r => ROk K C σ H G W none v (R.pub r)) vs rs → useAll rs δ = some (rs', δ') →
    ∃ G', Ex G G' ∧ SI K C σ H G' W δ' ∧ All2 (fun v r => ROk K C σ H G' W none v r ∧ r.pub = r) vs rs'
  | [], vs, δ, δ', rs', G, I, h, e => by
    cases e; rw [h.nil_right]; exact ⟨G, Ex.refl G, I, .nil⟩
  | r :: rs, vs, δ, δ', rs', G, I, h, e => by
    obtain ⟨v, vs, rfl, h1, h2⟩ := h.cons_right
    unfold useAll at e
    cases q : use r δ with
    | none => rw [q] at e; cases e
    | some p =>
      obtain ⟨r1, δ1⟩ := p
      rw [q] at e
      simp only at e
      have q' : use r.pub δ = some (r1, δ1) := by cases r <;> exact q
      obtain ⟨G1, x1, I1, o1, p1⟩ := I.useOk h1 q'
      cases q2 : useAll rs δ1 with
      | none => rw [q2] at e; cases e
      | some p =>
        obtain ⟨rs2, δ2⟩ := p
        rw [q2] at e; cases e
        obtain ⟨G2, x2, I2, o2⟩ := SI.useAllOk I1 (h2.imp fun _ _ z => ROk.keep z x1) q2
        refine ⟨G2, x1.trans x2, I2, .cons ⟨?_, p1⟩ o2⟩
        rw [← p1] at o1 ⊢
        exact ROk.keep o1 x2
theorem SI.peekAllOk (I : SI K C σ H G W δ) : ∀ {rs : List R} {vs : List V} {ds : List D}, All2 (fun v r => ROk K C σ H G W none v (R.pub r)) vs rs → peekAll rs δ = some ds → All2 (Seen K G H) vs ds
  | [], vs, ds, h, e => by cases e; rw [h.nil_right]; exact .nil
  | r :: rs, vs, ds, h, e => by
    obtain ⟨v, vs, rfl, h1, h2⟩ := h.cons_right
    unfold peekAll at e
    cases q : peek r δ with
    | none => rw [q] at e; cases e
    | some d =>
      rw [q] at e
      cases q2 : peekAll rs δ with
      | none => rw [q2] at e; cases e
      | some ds =>
        rw [q2] at e; cases e
        have q' : peek r.pub δ = some d := by cases r <;> exact q
        exact .cons (I.peekOk h1 q') (I.peekAllOk h2 q2)
end
def dVar (i : Nat) : DE := fun δ P => (gt δ i).on = true ∧ P (.pk i) δ
def dC (d : D) : DE := fun δ P => P (.val d) δ
section
variable {X : Cx} {K : PySem.W.Frag} {L : Lk} {pos : Pos} {a b e : Expr} {es : List Expr} {da db de : DE}
theorem lift_of {t : TE} {de : DE} (h : ∀ C σ H G W δ P (Q : VK), SI K C σ H G W δ → Lnk K L C G → de δ P → (∀ r δ' v H' G' W', P r δ' → Ex G G' → SI K C σ H' G' W' δ' → ROk K C σ H' G' W' none v r → Q v H') → t σ H Q) : ∀ σ H Q, lift K L de σ H Q → t σ H Q :=
  fun σ H Q ⟨C, G, W, δ, P, I, lk, hd, k⟩ => h C σ H G W δ P Q I lk hd k
theorem dv (i : Nat) {x : Str} (hN : X.N[i]? = some x := by rfl) (hv : Vis X.env.scope x := by first | exact Or.inl rfl | exact Or.inr (Or.inl rfl) | exact Or.inr (Or.inr rfl)) (hd : (x == ("__debug__" : Str)) = false := by decide)
    (hcd : (x == ("__classdict__" : Str)) = false := by decide) : PE X (.Name x pos) (lift X.K L (dVar i)) :=
  PE.weak (pe_var hN hv hd hcd) <| lift_of fun C σ H G W δ P Q I lk h k => by
    obtain ⟨h1, h2⟩ := h
    obtain ⟨v, e, _⟩ := I.sl i (by intro z; rw [z] at h1; cases h1)
    exact ⟨v, e, k _ _ v H G W h2 (Ex.refl G) I ⟨rfl, e⟩⟩
theorem lift_c {v : V} {d : D} (h : ∀ G, Den K G v d) : ∀ σ H Q, lift K L (dC d) σ H Q → tC v σ H Q := lift_of fun C σ H G W δ P Q I lk hp k => k _ _ v H G W hp (Ex.refl G) I (h G)
theorem dk_int {i j} : PE X (.Constant (.int i) j pos) (lift X.K L (dC (.int i))) := PE.weak pe_int (lift_c fun _ => .int i)
theorem dk_bl {b j} : PE X (.Constant (.bool b) j pos) (lift X.K L (dC (.bl b))) := PE.weak pe_bl (lift_c fun _ => .bl b)
theorem dk_non {j} : PE X (.Constant .none j pos) (lift X.K L (dC .non)) := PE.weak pe_non (lift_c fun _ => .non)
theorem dk_str {x j} : PE X (.Constant (.str x) j pos) (lift X.K L (dC (.str x))) := PE.weak pe_str (lift_c fun _ => .str x)
def dBin (g : D → D → (R → Prop) → Prop) (da db : DE) : DE := fun δ P => da δ fun r1 δ1 => db δ1 fun r2 δ2 => ∃ d1 δ3 d2 δ4, use r1 δ2 = some (.val d1, δ3) ∧ use r2 δ3 = some (.val d2, δ4) ∧ g d1 d2 fun r => P r δ4
def OpSem (K : PySem.W.Frag) (r : R2) (g : D → D → (R → Prop) → Prop) : Prop := ∀ (C : Ct) (σ : St) (H G : Hp) (W : Ow) (δ : List R) (x y : V) (d1 d2 : D) (P : R → Prop) (Q : VK), SI K C σ H G W δ → Den K G x d1 → Den K G y d2 → g d1 d2 P →
  (∀ r v H' G' W', P r → Ex G G' → SI K C σ H' G' W' δ → ROk K C σ H' G' W' none v r → Q v H') → r x y H Q
theorem use_pub (r : R) (δ : List R) : use r.pub δ = use r δ := by cases r <;> rfl
theorem peek_pub (r : R) (δ : List R) : peek r.pub δ = peek r δ := by cases r <;> rfl
theorem lift_two {P2 : R → R → List R → Prop} {T : V → V → Hp → Prop} {σ : St} {H G : Hp} {W : Ow} {δ : List R} {C : Ct} (I : SI K C σ H G W δ) (lk : Lnk K L C G) (h : da δ fun r1 δ1 => db δ1 fun r2 δ2 => P2 r1 r2 δ2)
    (k : ∀ r1 r2 δ2 x y H2 G2 W2, P2 r1 r2 δ2 → Ex G G2 → SI K C σ H2 G2 W2 δ2 → ROk K C σ H2 G2 W2 none x r1.pub → ROk K C σ H2 G2 W2 none y r2.pub → T x y H2) : lift K L da σ H fun x H1 => lift K L db σ H1 fun y H2 => T x y H2 := by
  refine ⟨C, G, W, δ, _, I, lk, h, fun r1 δ1 x H1 G1 W1 h1 x1 I1 o1 => ?_⟩
  obtain ⟨G1', x1', I1', o1'⟩ := I1.pub o1
  refine ⟨C, G1', W1, δ1, _, I1', lk.mono (x1.trans x1'), h1, fun r2 δ2 y H2 G2 W2 h2 x2 I2 o2 => ?_⟩
  obtain ⟨G2', x2', I2', o2'⟩ := I2.pub o2
  exact k r1 r2 δ2 x y H2 G2' W2 h2 (((x1.trans x1').trans x2).trans x2') I2' (ROk.keep o1' (x2.trans x2')) o2'
theorem lift_bin {r : R2} {g : D → D → (R → Prop) → Prop} (hs : OpSem K r g) : ∀ σ H Q, lift K L (dBin g da db) σ H Q → tOp r (lift K L da) (lift K L db) σ H Q :=
  lift_of fun C σ H G W δ P Q I lk h k => lift_two I lk h fun r1 r2 δ2 x y H2 G2 W2 h2 x2 I2 o1 o2 => by
    obtain ⟨d1, δ3, d2, δ4, e1, e2, hg⟩ := h2
    rw [← use_pub] at e1 e2
    obtain ⟨G3, x3, I3, p1, _⟩ := I2.useOk o1 e1
    obtain ⟨G4, x4, I4, p2, _⟩ := I3.useOk (ROk.keep o2 x3) e2
    exact hs C σ H2 G4 W2 δ4 x y d1 d2 _ Q I4 (Den.mono (show Den K G3 x d1 from p1) x4) p2 hg fun r v H' G' W' hp x' I' o' => k r δ4 v H' G' W' hp (((x2.trans x3).trans x4).trans x') I' o'
theorem de_op {op : Operator} {r : R2} {g : D → D → (R → Prop) → Prop} (ho : OpR X (binaryOp op) r) (hs : OpSem X.K r g) (ha : PE X a (lift X.K L da)) (hb : PE X b (lift X.K L db)) : PE X (.BinOp a op b pos) (lift X.K L (dBin g da db)) :=
  PE.weak (pe_op ho ha hb) (lift_bin hs)
def dCmp (f : D → D → Bool → Prop) (da db : DE) : DE := fun δ P => da δ fun r1 δ1 => db δ1 fun r2 δ2 => ∃ d1 d2 b, peek r1 δ2 = some d1 ∧ peek r2 δ2 = some d2 ∧ f d1 d2 b ∧ P (.val (.bl b)) δ2
def CmpSem (K : PySem.W.Frag) (r : R2) (f : D → D → Bool → Prop) : Prop := ∀ (H : Hp) (x y : V) (d1 d2 : D) (b : Bool) (Q : VK), Den K H x d1 → Den K H y d2 → f d1 d2 b → Q (.bl b) H → r x y H Q
theorem lift_cmp {r : R2} {f : D → D → Bool → Prop} (hs : CmpSem K r f) : ∀ σ H Q, lift K L (dCmp f da db) σ H Q → tOp r (lift K L da) (lift K L db) σ H Q :=
  lift_of fun C σ H G W δ P Q I lk h k => lift_two I lk h fun r1 r2 δ2 x y H2 G2 W2 h2 x2 I2 o1 o2 => by
    obtain ⟨d1, d2, b, e1, e2, e3, hp⟩ := h2
    rw [← peek_pub] at e1 e2
    exact hs H2 x y d1 d2 b Q ((I2.peekOk o1 e1).den I2.gh) ((I2.peekOk o2 e2).den I2.gh) e3 (k _ δ2 _ H2 G2 W2 hp x2 I2 (.bl b))
theorem de_cmp {op : CmpOp} {r : R2} {f : D → D → Bool → Prop} (ho : OpR X (compareOp op) r) (hs : CmpSem X.K r f) (ha : PE X a (lift X.K L da)) (hb : PE X b (lift X.K L db)) (hm : behindInMarks op b = false) : PE X (.Compare a [op] [b] pos) (lift X.K L (dCmp f da db)) :=
  PE.weak (pe_cmpR ho ha hb hm) (lift_cmp hs)
def dTst (de : DE) : DT := fun δ P => de δ fun r δ1 => ∃ b, peek r δ1 = some (.bl b) ∧ P b δ1
theorem liftT_of {t : TT} {dt : DT} (h : ∀ C σ H G W δ P (Q : Bool → Hp → Prop), SI K C σ H G W δ → Lnk K L C G → dt δ P → (∀ b δ' H' G' W', P b δ' → Ex G G' → SI K C σ H' G' W' δ' → Q b H') → t σ H Q) : ∀ σ H Q, liftT K L dt σ H Q → t σ H Q :=
  fun σ H Q ⟨C, G, W, δ, P, I, lk, hd, k⟩ => h C σ H G W δ P Q I lk hd k
theorem lift_tst : ∀ σ H Q, liftT K L (dTst de) σ H Q → tB (lift K L de) σ H Q := liftT_of fun C σ H G W δ P Q I lk h k =>
  ⟨C, G, W, δ, _, I, lk, h, fun r δ1 v H1 G1 W1 h1 x1 I1 o1 => by
    obtain ⟨b, e, hp⟩ := h1
    have := ((I1.peekOk o1 e).den I1.gh).of_bl
    exact ⟨b, this, k b δ1 H1 G1 W1 hp x1 I1⟩⟩
theorem lift_tst' : ∀ σ H Q, liftT K L (dTst (dCmp f da db)) σ H Q → ∀ {r : R2}, CmpSem K r f → tTest (tOp r (lift K L da) (lift K L db)) σ H Q := by
  intro σ H Q ⟨C, G, W, δ, P, I, lk, hd, k⟩ r hs
  exact lift_two I lk hd fun r1 r2 δ2 x y H2 G2 W2 h2 x2 I2 o1 o2 => by
    obtain ⟨d1, d2, b, e1, e2, e3, b', e, hp⟩ := h2
    cases e
    rw [← peek_pub] at e1 e2
    exact hs H2 x y d1 d2 b _ ((I2.peekOk o1 e1).den I2.gh) ((I2.peekOk o2 e2).den I2.gh) e3 ⟨b, rfl, k _ δ2 H2 G2 W2 hp x2 I2⟩
theorem dt_cmp {op : CmpOp} {r : R2} {f : D → D → Bool → Prop} (ho : OpR X (compareOp op) r) (hs : CmpSem X.K r f) (ha : PE X a (lift X.K L da)) (hb : PE X b (lift X.K L db)) (hm : behindInMarks op b = false) : PT X (.Compare a [op] [b] pos) (liftT X.K L (dTst (dCmp f da db))) :=
  PT.weak (pt_cmpR ho ha hb hm) fun σ H Q h => lift_tst' σ H Q h hs
theorem dt_val (h : PE X e (lift X.K L de)) (he : ∀ whole, isTrue e X.env whole = (do let v ← whole; standAt e.pos; holding [v] (truthy v)) := by intro _; rfl) : PT X e (liftT X.K L (dTst de)) := PT.weak (pt_val h he) lift_tst
def dAnd (t u : DT) : DT := fun δ P => t δ fun c δ1 => (c = true → u δ1 P) ∧ (c = false → P false δ1)
def dOr (t u : DT) : DT := fun δ P => t δ fun c δ1 => (c = true → P true δ1) ∧ (c = false → u δ1 P)
def dNot (t : DT) : DT := fun δ P => t δ fun c δ1 => P (!c) δ1
variable {ta tb : DT} {rest : List Expr}
theorem dt_and1 (ha : PT X a (liftT X.K L ta)) : PW X (.BoolOp .And [a] pos) (liftT X.K L ta) := pw_and1 ha
theorem dt_or1 (ha : PT X a (liftT X.K L ta)) : PW X (.BoolOp .Or [a] pos) (liftT X.K L ta) := pw_or1 ha
theorem dt_and (ha : PT X a (liftT X.K L ta)) (hb : PW X (.BoolOp .And (b :: rest) pos) (liftT X.K L tb)) : PW X (.BoolOp .And (a :: b :: rest) pos) (liftT X.K L (dAnd ta tb)) :=
  PW.weak (pw_and ha hb) <| liftT_of fun C σ H G W δ P Q I lk h k => ⟨C, G, W, δ, _, I, lk, h, fun c δ1 H1 G1 W1 h1 x1 I1 => by
    cases c with
    | true => exact ⟨C, G1, W1, δ1, P, I1, lk.mono x1, h1.1 rfl, fun b δ2 H2 G2 W2 hp x2 I2 => k b δ2 H2 G2 W2 hp (x1.trans x2) I2⟩
    | false => exact k false δ1 H1 G1 W1 (h1.2 rfl) x1 I1⟩
theorem dt_or (ha : PT X a (liftT X.K L ta)) (hb : PW X (.BoolOp .Or (b :: rest) pos) (liftT X.K L tb)) : PW X (.BoolOp .Or (a :: b :: rest) pos) (liftT X.K L (dOr ta tb)) :=
  PW.weak (pw_or ha hb) <| liftT_of fun C σ H G W δ P Q I lk h k => ⟨C, G, W, δ, _, I, lk, h, fun c δ1 H1 G1 W1 h1 x1 I1 => by
    cases c with
    | true => exact k true δ1 H1 G1 W1 (h1.1 rfl) x1 I1
    | false => exact ⟨C, G1, W1, δ1, P, I1, lk.mono x1, h1.2 rfl, fun b δ2 H2 G2 W2 hp x2 I2 => k b δ2 H2 G2 W2 hp (x1.trans x2) I2⟩⟩
theorem dt_not (ha : PT X a (liftT X.K L ta)) : PT X (.UnaryOp .Not a pos) (liftT X.K L (dNot ta)) :=
  PT.weak (pt_not ha) <| liftT_of fun C σ H G W δ P Q I lk h k => ⟨C, G, W, δ, _, I, lk, h, fun c δ1 H1 G1 W1 h1 x1 I1 => k _ δ1 H1 G1 W1 h1 x1 I1⟩
def dAndV (da db : DE) : DE := fun δ P => da δ fun r δ1 => ∃ c, peek r δ1 = some (.bl c) ∧ (c = true → db δ1 P) ∧ (c = false → P (.val (.bl false)) δ1)
def dOrV (da db : DE) : DE := fun δ P => da δ fun r δ1 => ∃ c, peek r δ1 = some (.bl c) ∧ (c = true → P (.val (.bl true)) δ1) ∧ (c = false → db δ1 P)
def dNotV (da : DE) : DE := fun δ P => da δ fun r δ1 => ∃ c, peek r δ1 = some (.bl c) ∧ P (.val (.bl (!c))) δ1
theorem de_one {op} (h : PE X a (lift X.K L da)) : PE X (.BoolOp op [a] pos) (lift X.K L da) := pe_one h
theorem de_and (ha : PE X a (lift X.K L da)) (hb : PE X (.BoolOp .And (b :: rest) pos) (lift X.K L db)) : PE X (.BoolOp .And (a :: b :: rest) pos) (lift X.K L (dAndV da db)) :=
  PE.weak (pe_and ha hb) <| lift_of fun C σ H G W δ P Q I lk h k => ⟨C, G, W, δ, _, I, lk, h, fun r δ1 v H1 G1 W1 h1 x1 I1 o1 => by
    obtain ⟨c, e, p1, p2⟩ := h1
    refine ⟨c, ((I1.peekOk o1 e).den I1.gh).of_bl, ?_⟩
    cases c with
    | true => exact ⟨C, G1, W1, δ1, P, I1, lk.mono x1, p1 rfl, fun r δ2 v H2 G2 W2 hp x2 I2 o2 => k r δ2 v H2 G2 W2 hp (x1.trans x2) I2 o2⟩
    | false => exact k _ δ1 _ H1 G1 W1 (p2 rfl) x1 I1 (.bl false)⟩
theorem de_or (ha : PE X a (lift X.K L da)) (hb : PE X (.BoolOp .Or (b :: rest) pos) (lift X.K L db)) : PE X (.BoolOp .Or (a :: b :: rest) pos) (lift X.K L (dOrV da db)) :=
  PE.weak (pe_or ha hb) <| lift_of fun C σ H G W δ P Q I lk h k => ⟨C, G, W, δ, _, I, lk, h, fun r δ1 v H1 G1 W1 h1 x1 I1 o1 => by
    obtain ⟨c, e, p1, p2⟩ := h1
    refine ⟨c, ((I1.peekOk o1 e).den I1.gh).of_bl, ?_⟩
    cases c with
    | true => exact k _ δ1 _ H1 G1 W1 (p1 rfl) x1 I1 (.bl true)
    | false => exact ⟨C, G1, W1, δ1, P, I1, lk.mono x1, p2 rfl, fun r δ2 v H2 G2 W2 hp x2 I2 o2 => k r δ2 v H2 G2 W2 hp (x1.trans x2) I2 o2⟩⟩
theorem de_not (ha : PE X a (lift X.K L da)) : PE X (.UnaryOp .Not a pos) (lift X.K L (dNotV da)) :=
  PE.weak (pe_not ha) <| lift_of fun C σ H G W δ P Q I lk h k => ⟨C, G, W, δ, _, I, lk, h, fun r δ1 v H1 G1 W1 h1 x1 I1 o1 => by
    obtain ⟨c, e, p1⟩ := h1
    exact ⟨c, ((I1.peekOk o1 e).den I1.gh).of_bl, k _ δ1 _ H1 G1 W1 p1 x1 I1 (.bl _)⟩⟩
def dIf (t : DT) (da db : DE) : DE := fun δ P => t δ fun c δ1 => (c = true → da δ1 P) ∧ (c = false → db δ1 P)
theorem de_if {c : Expr} (hc : PT X c (liftT X.K L ta)) (ha : PE X a (lift X.K L da)) (hb : PE X b (lift X.K L db)) : PE X (.IfExp c a b pos) (lift X.K L (dIf ta da db)) :=
  PE.weak (pe_ifExp hc ha hb) <| lift_of fun C σ H G W δ P Q I lk h k => ⟨C, G, W, δ, _, I, lk, h, fun c δ1 H1 G1 W1 h1 x1 I1 => by
    cases c with
    | true => exact ⟨C, G1, W1, δ1, P, I1, lk.mono x1, h1.1 rfl, fun r δ2 v H2 G2 W2 hp x2 I2 o2 => k r δ2 v H2 G2 W2 hp (x1.trans x2) I2 o2⟩
    | false => exact ⟨C, G1, W1, δ1, P, I1, lk.mono x1, h1.2 rfl, fun r δ2 v H2 G2 W2 hp x2 I2 o2 => k r δ2 v H2 G2 W2 hp (x1.trans x2) I2 o2⟩⟩
def dNil : DA := fun δ P => P [] δ
def dCons (da : DE) (dr : DA) : DA := fun δ P => da δ fun r δ1 => dr δ1 fun rs δ2 => P (r.pub :: rs) δ2
theorem pub_pub (r : R) : r.pub.pub = r.pub := by cases r <;> rfl
theorem liftA_of {t : TA} {da : DA} (h : ∀ C σ H G W δ P (Q : List V → Hp → Prop), SI K C σ H G W δ → Lnk K L C G → da δ P → (∀ rs δ' vs H' G' W', P rs δ' → Ex G G' → SI K C σ H' G' W' δ' → All2 (fun v r => ROk K C σ H' G' W' none v (R.pub r)) vs rs → Q vs H') → t σ H Q) : ∀ σ H Q, liftA K L da σ H Q → t σ H Q :=
  fun σ H Q ⟨C, G, W, δ, P, I, lk, hd, k⟩ => h C σ H G W δ P Q I lk hd k
theorem da_nil : PA X [] (liftA X.K L dNil) := PA.weak pa_nil <| liftA_of fun C σ H G W δ P Q I lk h k => k [] δ [] H G W h (Ex.refl G) I .nil
theorem da_cons {dr : DA} (ha : PE X e (lift X.K L de)) (hr : PA X es (liftA X.K L dr)) (hs : starEach (e :: es) X.env = (false, eval e X.env) :: starEach es X.env := by rfl) : PA X (e :: es) (liftA X.K L (dCons de dr)) :=
  PA.weak (pa_cons ha hr hs) <| liftA_of fun C σ H G W δ P Q I lk h k => ⟨C, G, W, δ, _, I, lk, h, fun r δ1 v H1 G1 W1 h1 x1 I1 o1 => by
    obtain ⟨G1', x1', I1', o1'⟩ := I1.pub o1
    refine ⟨C, G1', W1, δ1, _, I1', lk.mono (x1.trans x1'), h1, fun rs δ2 vs H2 G2 W2 h2 x2 I2 o2 => ?_⟩
    refine k _ δ2 _ H2 G2 W2 h2 ((x1.trans x1').trans x2) I2 (.cons ?_ o2)
    rw [pub_pub]
    exact ROk.keep o1' x2⟩
def vals? : List R → Option (List D)
  | [] => some []
  | .val d :: rs => (vals? rs).map (d :: ·)
  | _ => none
theorem vals_ok {C : Ct} {σ : St} {H G : Hp} {W : Ow} : ∀ {rs : List R} {vs : List V} {ds : List D}, All2 (fun v r => ROk K C σ H G W none v r ∧ r.pub = r) vs rs → vals? rs = some ds → Dens K G vs ds
  | [], vs, ds, h, e => by cases e; rw [h.nil_right]; exact .nil
  | .val d :: rs, vs, ds, h, e => by
    obtain ⟨v, vs, rfl, h1, h2⟩ := h.cons_right
    cases q : vals? rs with
    | none => simp [vals?, q] at e
    | some ds' => simp [vals?, q] at e; subst e; exact .cons h1.1 (vals_ok h2 q)
  | .no :: rs, vs, ds, h, e => by cases e
  | .own d :: rs, vs, ds, h, e => by cases e
  | .bag :: rs, vs, ds, h, e => by cases e
  | .pk i :: rs, vs, ds, h, e => by cases e
  | .bor i :: rs, vs, ds, h, e => by cases e
def dTup (da : DA) : DE := fun δ P => da δ fun rs δ1 => ∃ rs' δ2 ds, useAll rs δ1 = some (rs', δ2) ∧ vals? rs' = some ds ∧ ds.length ≤ sizeLine ∧ P (.val (.tup ds)) δ2
def dLst (da : DA) : DE := fun δ P => da δ fun rs δ1 => ∃ rs' δ2 ds, useAll rs δ1 = some (rs', δ2) ∧ vals? rs' = some ds ∧ ds.length ≤ sizeLine ∧ P (.own (.lst ds)) δ2
abbrev tupObj (its : List Value) : Obj := { cls := .type "tuple", data := .seq its.toArray }
theorem SI.newTup {C : Ct} {σ : St} {H G : Hp} {W : Ow} {δ : List R} {p : Addr} {vs : List V} {ds : List D} {its : List Value} (I : SI K C σ H G W δ) (hp : H p = none) (h : Dens K G vs ds) : SI K C σ (upd H p (.frz (tupObj its) (.tup vs))) (upd G p (.frz (tupObj its) (.tup vs))) (fun a => if a = p then none else W a) δ ∧ Den K (upd G p (.frz (tupObj its) (.tup vs))) (.ref p) (.tup ds) := by
  have m := I.fresh hp
  exact ⟨(I.lay hp).publish upd_same m (fun i d _ => by simp) rfl, .tup' (.inl ⟨_, upd_same, rfl⟩) (h.mono (Ex.new m.1))⟩
theorem SI.newLst {C : Ct} {σ : St} {H G : Hp} {W : Ow} {δ : List R} {p : Addr} {vs : List V} {ds : List D} (I : SI K C σ H G W δ) (hp : H p = none) (h : Dens K G vs ds) : SI K C σ (upd H p (.lst vs)) G (fun a => if a = p then none else W a) δ ∧ ROk K C σ (upd H p (.lst vs)) G (fun a => if a = p then none else W a) none (.ref p) (.own (.lst ds)) := by
  have m := I.fresh hp
  exact ⟨I.lay hp, p, rfl, m, if_pos rfl, vs, upd_same, h⟩
theorem layTup {X : Cx} {pins : List (Addr × Obj)} {σ : St} {H : Hp} {s : Shared} {vs : List V} {its : List Value} (I : Inv X pins σ H s) (r : Vals vs its) (l : vs.length ≤ sizeLine) (tk : Nat) :
    Inv X pins σ (upd H s.heap.objs.size (.frz (tupObj its) (.tup vs))) { s with heap := s.heap.push (tupObj its), toks := tk } :=
  I.laid (fun _ _ z => Heap.get?_push_of_some _ z) (Nat.le_refl _) ⟨Heap.get?_push_size _ rfl, l, its, r, PyProof.Rows.IsTup.new _ _⟩
def tTupF (t : TA) : TE := fun σ H Q => t σ H fun xs H1 => xs.length ≤ sizeLine ∧ ∀ p its, H1 p = none → Q (.ref p) (upd H1 p (.frz (tupObj its) (.tup xs)))
theorem pe_tupF {x1} {t : TA} (h : PA X es t) : PE X (.Tuple es x1 pos) (tTupF t) := ⟨fun pins s σ H Q I hq => wpAny_Tuple_spliced (thn (h.run pos pins s σ H _ I hq) fun us s1 z => by
  obtain ⟨vs, H1, J, rv, l, k⟩ := z
  exact ⟨by rw [← rv.length]; exact l, .ref s1.heap.objs.size, _, layTup J rv l s1.toks, rfl, k _ us (J.hok.fresh (Nat.le_refl _))⟩)⟩
theorem de_tup {x1} {da : DA} (h : PA X es (liftA X.K L da)) : PE X (.Tuple es x1 pos) (lift X.K L (dTup da)) :=
  PE.weak (pe_tupF h) <| lift_of fun C σ H G W δ P Q I lk h k => ⟨C, G, W, δ, _, I, lk, h, fun rs δ1 vs H1 G1 W1 h1 x1 I1 o1 => by
    obtain ⟨rs', δ2, ds, e1, e2, hl, hp⟩ := h1
    obtain ⟨G2, x2, I2, o2⟩ := I1.useAllOk o1 e1
    have dn := vals_ok o2 e2
    refine ⟨by rw [dn.1]; exact hl, fun p its np => ?_⟩
    obtain ⟨I3, dd⟩ := I2.newTup (its := its) np dn
    exact k _ δ2 _ _ _ _ hp ((x1.trans x2).trans (Ex.new (I2.fresh np).1)) I3 dd⟩
theorem de_lst {da : DA} (h : PA X es (liftA X.K L da)) : PE X (.List es pos) (lift X.K L (dLst da)) :=
  PE.weak (pe_lst h) <| lift_of fun C σ H G W δ P Q I lk h k => ⟨C, G, W, δ, _, I, lk, h, fun rs δ1 vs H1 G1 W1 h1 x1 I1 o1 => by
    obtain ⟨rs', δ2, ds, e1, e2, hl, hp⟩ := h1
    obtain ⟨G2, x2, I2, o2⟩ := I1.useAllOk o1 e1
    have dn := vals_ok o2 e2
    refine ⟨by rw [dn.1]; exact hl, fun p np => ?_⟩
    obtain ⟨I3, dd⟩ := I2.newLst np dn
    exact k _ δ2 _ _ _ _ hp (x1.trans x2) I3 dd⟩
end
end DL
namespace DL
open PySem PySem.Spec L2
variable [TabsC]
structure DEnds where
  nx : List R → Prop
  rt : R → List R → Prop
  bk : List R → Prop := fun _ => False
  ct : List R → Prop := fun _ => False
abbrev DS := DEnds → List R → Prop
def R.fine : R → Bool
  | .no => false
  | .bor _ => false
  | .pk _ => false
  | _ => true
structure Links (K : PySem.W.Frag) (C : Ct) (G : Hp) (D : Ends) (DD : DEnds) : Prop where
  nx : ∀ σ' H' G' W' δ', Ex G G' → SI K C σ' H' G' W' δ' → DD.nx δ' → D.nx σ' H'
  rt : ∀ v σ' H' G' W' δ' r, Ex G G' → SI K C σ' H' G' W' δ' → ROk K C σ' H' G' W' none v r → r.fine = true → DD.rt r δ' → D.rt v H'
  bk : ∀ σ' H' G' W' δ', Ex G G' → SI K C σ' H' G' W' δ' → DD.bk δ' → D.bk σ' H'
  ct : ∀ σ' H' G' W' δ', Ex G G' → SI K C σ' H' G' W' δ' → DD.ct δ' → D.ct σ' H'
theorem Links.mono {K : PySem.W.Frag} {C : Ct} {G G1 : Hp} {D : Ends} {DD : DEnds} (h : Links K C G D DD) (x : Ex G G1) : Links K C G1 D DD :=
  ⟨fun σ' H' G' W' δ' z => h.nx σ' H' G' W' δ' (x.trans z), fun v σ' H' G' W' δ' r z => h.rt v σ' H' G' W' δ' r (x.trans z), fun σ' H' G' W' δ' z => h.bk σ' H' G' W' δ' (x.trans z), fun σ' H' G' W' δ' z => h.ct σ' H' G' W' δ' (x.trans z)⟩
def liftS (K : PySem.W.Frag) (L : Lk) (ds : DS) : TS := fun D σ H => ∃ (C : Ct) (G : Hp) (W : Ow) (δ : List R) (DD : DEnds), SI K C σ H G W δ ∧ Lnk K L C G ∧ ds DD δ ∧ Links K C G D DD
abbrev DG := D → List R → (List R → Prop) → Prop
def liftG (K : PySem.W.Frag) (dg : DG) : TG := fun v σ H Q => ∃ (C : Ct) (G : Hp) (W : Ow) (δ : List R) (d : D) (P : List R → Prop), SI K C σ H G W δ ∧ Den K G v d ∧ dg d δ P ∧
  ∀ σ' H' G' W' δ', P δ' → Ex G G' → SI K C σ' H' G' W' δ' → Q σ' H'
section
variable {K : PySem.W.Frag} {L : Lk} {C : Ct} {σ : St} {H G : Hp} {W : Ow} {δ : List R}
theorem gt_len : ∀ {δ : List R} {i : Nat}, gt δ i ≠ .no → i < δ.length
  | [], _, h => absurd rfl h
  | _ :: _, 0, _ => Nat.zero_lt_succ _
  | _ :: xs, n + 1, h => Nat.succ_lt_succ (gt_len (δ := xs) (i := n) h)
theorem gt_st_here : ∀ {δ : List R} {i : Nat} {r : R}, i < δ.length → gt (st δ i r) i = r
  | [], _, _, h => absurd h (Nat.not_lt_zero _)
  | _ :: _, 0, _, _ => rfl
  | _ :: xs, n + 1, r, h => gt_st_here (δ := xs) (i := n) (Nat.lt_of_succ_lt_succ h)
theorem SI.others {v : V} {r : R} {i j : Nat} {W' : Ow} (I : SI K C σ H G W δ) (e : i ≠ j) (hj : gt (st δ i r) j ≠ .no) (hw : ∀ q, W q = some j → W' q = some j) : ∃ w, (σ.set i (some v))[j]? = some (some w) ∧ ROk K C (σ.set i (some v)) H G W' (some j) w (gt (st δ i r) j) := by
  rw [gt_st_ne δ i j r e] at hj ⊢
  obtain ⟨w, h1, h2⟩ := I.sl j hj
  refine ⟨w, by rw [List.getElem?_set_ne e]; exact h1, ?_⟩
  cases q : gt δ j with
  | no => exact trivial
  | val d => rw [q] at h2; exact h2
  | bag => rw [q] at h2; exact h2
  | own d =>
    rw [q] at h2
    obtain ⟨p, e1, m, h5, h6⟩ := h2
    exact ⟨p, e1, m, hw p h5, h6⟩
  | pk k => rw [q] at h2; exact absurd h2.1 (by simp)
  | bor d => rw [q] at h2; exact ⟨by simp, h2.2⟩
theorem SI.store {v : V} {r : R} {i : Nat} (I : SI K C σ H G W δ) (hr : ROk K C σ H G W none v r) (nk : ∀ j, r ≠ .pk j) : ∃ W', SI K C (σ.set i (some v)) H G W' (st δ i r) := by
  have hs : i < δ.length → (σ.set i (some v))[i]? = some (some v) := fun h => by
    have : i < σ.length := Nat.lt_of_lt_of_le h I.ln
    simp [this]
  have mk : ∀ W' : Ow, (∀ j q, i ≠ j → W q = some j → W' q = some j) → ROk K C (σ.set i (some v)) H G W' (some i) v r → SI K C (σ.set i (some v)) H G W' (st δ i r) := fun W' hw ho =>
    ⟨I.gh, I.g0, I.hh, I.gz, I.b0, I.bag, I.tm, I.mu, by rw [st_len, List.length_set]; exact I.ln, fun j hj => by
      by_cases e : i = j
      · subst e
        have hl : i < δ.length := by have := gt_len hj; rwa [st_len] at this
        rw [gt_st_here hl]
        exact ⟨v, hs hl, ho⟩
      · exact I.others e hj fun q hq => hw j q e hq⟩
  cases r with
  | no => exact ⟨W, mk W (fun _ _ _ h => h) trivial⟩
  | val d => exact ⟨W, mk W (fun _ _ _ h => h) hr⟩
  | bag => exact ⟨W, mk W (fun _ _ _ h => h) hr⟩
  | pk j => exact absurd rfl (nk j)
  | bor d => exact absurd rfl hr.1
  | own d =>
    obtain ⟨p, e, m, h5, h6⟩ := hr
    refine ⟨fun a => if a = p then some i else W a, mk _ (fun j q hj hq => ?_) ⟨p, e, m, if_pos rfl, h6⟩⟩
    have ne : q ≠ p := by rintro rfl; rw [h5] at hq; cases hq
    show (if q = p then some i else W q) = some j
    rw [if_neg ne]; exact hq
def asR : R → List R → Option (R × List R)
  | .own d, δ => some (.own d, δ)
  | r, δ => use r δ
theorem use_nk {r r' : R} {δ δ' : List R} (e : use r δ = some (r', δ')) : ∀ j, r' ≠ .pk j := by
  intro j z; subst z
  cases r with
  | no => cases e
  | bor d => cases e
  | val d => cases e
  | bag => cases e
  | own d => cases e
  | pk i =>
    have e : usePk (gt δ i) i δ = some (.pk j, δ') := e
    cases q : gt δ i <;> rw [q] at e <;> cases e
theorem SI.asOk {v : V} {r r' : R} {δ' : List R} (I : SI K C σ H G W δ) (h : ROk K C σ H G W none v r) (e : asR r δ = some (r', δ')) : ∃ G', Ex G G' ∧ SI K C σ H G' W δ' ∧ ROk K C σ H G' W none v r' ∧ ∀ j, r' ≠ .pk j := by
  by_cases q : ∃ d, r = .own d
  · obtain ⟨d, rfl⟩ := q
    cases e
    exact ⟨G, Ex.refl G, I, h, fun j z => by cases z⟩
  · have e' : use r δ = some (r', δ') := by
      cases r with
      | own d => exact absurd ⟨d, rfl⟩ q
      | no => exact e
      | bor d => exact e
      | val d => exact e
      | bag => exact e
      | pk j => exact e
    obtain ⟨G', x, I', o, _⟩ := I.useOk h e'
    exact ⟨G', x, I', o, use_nk e'⟩
def retPk : R → Nat → List R → Option (R × List R)
  | .val d, _, δ => some (.val d, δ)
  | .own d, i, δ => some (.own d, st δ i .no)
  | .bag, _, δ => some (.bag, δ)
  | .no, _, _ => none
  | .pk _, _, _ => none
  | .bor _, _, _ => none
def retR : R → List R → Option (R × List R)
  | .pk i, δ => retPk (gt δ i) i δ
  | .val d, δ => some (.val d, δ)
  | .own d, δ => some (.own d, δ)
  | .bag, δ => some (.bag, δ)
  | .no, _ => none
  | .bor _, _ => none
theorem SI.retOk {v : V} {r r' : R} {δ' : List R} (I : SI K C σ H G W δ) (h : ROk K C σ H G W none v r) (e : retR r δ = some (r', δ')) : ∃ W', SI K C σ H G W' δ' ∧ ROk K C σ H G W' none v r' ∧ r'.fine = true := by
  cases r with
  | no => cases e
  | bor d => cases e
  | val d => cases e; exact ⟨W, I, h, rfl⟩
  | bag => cases e; exact ⟨W, I, h, rfl⟩
  | own d => cases e; exact ⟨W, I, h, rfl⟩
  | pk i =>
    have e : retPk (gt δ i) i δ = some (r', δ') := e
    have hn : gt δ i ≠ .no := by intro z; rw [z] at e; cases e
    obtain ⟨v', h1, h2⟩ := I.sl i hn
    have : v = v' := by have := h.2.symm.trans h1; simpa using this
    subst this
    cases q : gt δ i with
    | no => exact absurd q hn
    | pk j => rw [q] at e; cases e
    | bor d => rw [q] at e; cases e
    | val d => rw [q] at e h2; cases e; exact ⟨W, I, h2, rfl⟩
    | bag => rw [q] at e h2; cases e; exact ⟨W, I, h2, rfl⟩
    | own d =>
      rw [q] at e h2; cases e
      obtain ⟨p, e1, m, h5, h6⟩ := h2
      refine ⟨fun a => if a = p then none else W a, (I.drop i).disown fun j d' q' hj hq _ _ => ?_, ⟨p, e1, m, if_pos rfl, h6⟩, rfl⟩
      obtain ⟨ne, _⟩ := gt_put_own (d := d) hj
      rintro rfl
      rw [h5] at hq
      exact ne (Option.some.inj hq)
theorem liftS_of {t : TS} {ds : DS} (h : ∀ C D σ H G W δ DD, SI K C σ H G W δ → Lnk K L C G → ds DD δ → Links K C G D DD → t D σ H) : ∀ D σ H, liftS K L ds D σ H → t D σ H :=
  fun D σ H ⟨C, G, W, δ, DD, I, lk, hd, k⟩ => h C D σ H G W δ DD I lk hd k
end
def dNext : DS := fun DD δ => DD.nx δ
def dSq (a b : DS) : DS := fun DD δ => a { DD with nx := b DD } δ
def dRet (de : DE) : DS := fun DD δ => de δ fun r δ1 => ∃ r' δ2, retR r δ1 = some (r', δ2) ∧ DD.rt r' δ2
def dIfS (t : DT) (a b : DS) : DS := fun DD δ => t δ fun c δ1 => (c = true → a DD δ1) ∧ (c = false → b DD δ1)
def dSet (i : Nat) (de : DE) : DS := fun DD δ => de δ fun r δ1 => ∃ r' δ2, asR r δ1 = some (r', δ2) ∧ DD.nx (st δ2 i r')
section
variable {X : Cx} {K : PySem.W.Frag} {L : Lk} {pos : Pos} {e : Expr} {de : DE} {sm : Stmt} {rest body orelse : List Stmt} {a b : DS} {ta : DT}
theorem dss_nil : PSs X [] (liftS X.K L dNext) := PSs.weak pss_nil <| liftS_of fun C D σ H G W δ DD I lk h k => k.nx σ H G W δ (Ex.refl G) I h
theorem lift_seq : ∀ D σ H, liftS K L (dSq a b) D σ H → tSeq (liftS K L a) (liftS K L b) D σ H := liftS_of fun C D σ H G W δ DD I lk h k =>
  ⟨C, G, W, δ, { DD with nx := b DD }, I, lk, h, ⟨fun σ' H' G' W' δ' x I' h' => ⟨C, G', W', δ', DD, I', lk.mono x, h', k.mono x⟩, k.rt, k.bk, k.ct⟩⟩
theorem dss_cons (h1 : PS X sm (liftS X.K L a)) (h2 : PSs X rest (liftS X.K L b)) : PSs X (sm :: rest) (liftS X.K L (dSq a b)) := PSs.weak (pss_cons h1 h2) lift_seq
theorem dss_one (h1 : PS X sm (liftS X.K L a)) : PSs X [sm] (liftS X.K L a) := pss_one h1
theorem ds_ret (he : PE X e (lift X.K L de)) : PS X (.Return (some e) pos) (liftS X.K L (dRet de)) :=
  PS.weak (ps_ret he) <| liftS_of fun C D σ H G W δ DD I lk h k => ⟨C, G, W, δ, _, I, lk, h, fun r δ1 v H1 G1 W1 h1 x1 I1 o1 => by
    obtain ⟨r', δ2, e, hp⟩ := h1
    obtain ⟨W2, I2, o2, fi⟩ := I1.retOk o1 e
    exact k.rt v σ H1 G1 W2 δ2 r' x1 I2 o2 fi hp⟩
theorem ds_if {c : Expr} (hc : PT X c (liftT X.K L ta)) (ha : PSs X body (liftS X.K L a)) (hb : PSs X orelse (liftS X.K L b)) : PS X (.If c body orelse pos) (liftS X.K L (dIfS ta a b)) :=
  PS.weak (ps_if hc ha hb) <| liftS_of fun C D σ H G W δ DD I lk h k => ⟨C, G, W, δ, _, I, lk, h, fun c δ1 H1 G1 W1 h1 x1 I1 => by
    cases c with
    | true => exact ⟨C, G1, W1, δ1, DD, I1, lk.mono x1, h1.1 rfl, k.mono x1⟩
    | false => exact ⟨C, G1, W1, δ1, DD, I1, lk.mono x1, h1.2 rfl, k.mono x1⟩⟩
theorem ds_set {i : Nat} {x : Str} {pos' : Pos} (hN : X.N.Nodup) (he : PE X e (lift X.K L de)) (hi : X.N[i]? = some x := by rfl) (hx : Loc X.env.scope x := by first | exact Or.inl rfl | exact Or.inr rfl) (hs : swapsWith e (some (.Name x pos')) pos.line X.env = pure false := by rfl) (hf : X.fn x = true ∨ X.env.scope.names.lookup x = some .local := by first | exact .inl rfl | exact .inr rfl | assumption) :
    PS X (.Assign [.Name x pos'] e pos) (liftS X.K L (dSet i de)) :=
  PS.weak (ps_set (i := i) hN hi hx he hs hf) <| liftS_of fun C D σ H G W δ DD I lk h k => ⟨C, G, W, δ, _, I, lk, h, fun r δ1 v H1 G1 W1 h1 x1 I1 o1 => by
    obtain ⟨r', δ2, e, hp⟩ := h1
    obtain ⟨G2, x2, I2, o2, nk⟩ := I1.asOk o1 e
    obtain ⟨W3, I3⟩ := I2.store (i := i) o2 nk
    exact k.nx _ H1 G2 W3 _ (x1.trans x2) I3 hp⟩
def gN (i : Nat) : DG := fun d δ P => P (st δ i (.val d))
abbrev DGs := List D → List R → (List R → Prop) → Prop
def gsNil : DGs := fun ds δ P => ds = [] ∧ P δ
def gsCons (g : DG) (u : DGs) : DGs := fun ds δ P => ∃ d r, ds = d :: r ∧ g d δ fun δ' => u r δ' P
def gT (n : Nat) (u : DGs) : DG := fun d δ P => ∃ ds, d = .tup ds ∧ ds.length = n ∧ u ds δ P
def liftGs (K : PySem.W.Frag) (dg : DGs) : TGs := fun vs σ H Q => ∃ (C : Ct) (G : Hp) (W : Ow) (δ : List R) (ds : List D) (P : List R → Prop), SI K C σ H G W δ ∧ Dens K G vs ds ∧ dg ds δ P ∧
  ∀ σ' H' G' W' δ', P δ' → Ex G G' → SI K C σ' H' G' W' δ' → Q σ' H'
variable {tg : Expr} {ts : List Expr} {g : DG} {gs : DGs}
theorem PG.weak {t t' : TG} (h : PG X tg t) (w : ∀ v σ H Q, t' v σ H Q → t v σ H Q) : PG X tg t' := ⟨fun pins s σ H v u Q I r q => h.run pins s σ H v u Q I r (w v σ H Q q)⟩
theorem PGs.weak {t t' : TGs} (h : PGs X ts t) (w : ∀ v σ H Q, t' v σ H Q → t v σ H Q) : PGs X ts t' := ⟨fun pins s σ H v u Q I r q => h.run pins s σ H v u Q I r (w v σ H Q q)⟩
theorem dg_name {i : Nat} {x : Str} (hN : X.N.Nodup) (hi : X.N[i]? = some x := by rfl) (hx : Loc X.env.scope x := by first | exact Or.inl rfl | exact Or.inr rfl) (hf : X.fn x = true ∨ X.env.scope.names.lookup x = some .local := by first | exact .inl rfl | exact .inr rfl | assumption) : PG X (.Name x pos) (liftG X.K (gN i)) :=
  PG.weak (pg_name (i := i) hN hi hx hf) fun v σ H Q ⟨C, G, W, δ, d, P, I, dn, h, k⟩ => by
    obtain ⟨W', I'⟩ := I.store (i := i) (r := .val d) dn (fun j z => by cases z)
    exact k _ H G W' _ h (Ex.refl G) I'
theorem dgs_nil : PGs X [] (liftGs X.K gsNil) := PGs.weak pgs_nil fun vs σ H Q ⟨C, G, W, δ, ds, P, I, dn, h, k⟩ => by
  obtain ⟨rfl, hp⟩ := h
  exact ⟨dn.nil_right, k σ H G W δ hp (Ex.refl G) I⟩
theorem dgs_cons {es : List Expr} (h1 : PG X tg (liftG X.K g)) (h2 : PGs X es (liftGs X.K gs)) (hs : (assignEach (tg :: es) X.env).map (·.2) = assign tg X.env :: (assignEach es X.env).map (·.2) := by rfl) : PGs X (tg :: es) (liftGs X.K (gsCons g gs)) :=
  PGs.weak (pgs_cons h1 h2 hs) fun vs σ H Q ⟨C, G, W, δ, ds, P, I, dn, h, k⟩ => by
    obtain ⟨d, r, rfl, h⟩ := h
    obtain ⟨v, vr, rfl, d1, d2⟩ := dn.cons_right
    refine ⟨v, vr, rfl, C, G, W, δ, d, _, I, d1, h, fun σ1 H1 G1 W1 δ1 h1 x1 I1 => ?_⟩
    exact ⟨C, G1, W1, δ1, r, P, I1, Dens.mono d2 x1, h1, fun σ2 H2 G2 W2 δ2 hp x2 I2 => k σ2 H2 G2 W2 δ2 hp (x1.trans x2) I2⟩
theorem dg_tup {es : List Expr} {kk : Nat} {n : Nat} (hc : X.calm = true) (h : PGs X es (liftGs X.K gs)) (hn : (assignEach es X.env).length = n := by rfl) (hst : (assignEach es X.env).findIdx? (·.1) = none := by rfl) : PG X (.Tuple es kk pos) (liftG X.K (gT n gs)) :=
  PG.weak (pg_tup hc h hn hst) fun v σ H Q ⟨C, G, W, δ, d, P, I, dn, h, k⟩ => by
    obtain ⟨ds, rfl, hl, h⟩ := h
    obtain ⟨a, vs, rfl, hs, hd⟩ := dn.of_tup
    exact ⟨a, vs, rfl, ex_t I.gh hs, by rw [hd.1]; exact hl, C, G, W, δ, ds, P, I, hd, h, k⟩
def dAsg (de : DE) (g : DG) : DS := fun DD δ => de δ fun r δ1 => ∃ d δ2, use r δ1 = some (.val d, δ2) ∧ g d δ2 DD.nx
theorem ds_asg (he : PE X e (lift X.K L de)) (hg : PG X tg (liftG X.K g)) (hs : swapsWithSole [tg] e pos.line X.env = pure false := by rfl) (hw : swappedStores [tg] e X.env = pure none := by rfl) (h1 : (assignEach [tg] X.env).map (·.2) = [assign tg X.env] := by rfl) : PS X (.Assign [tg] e pos) (liftS X.K L (dAsg de g)) :=
  PS.weak (ps_asg he hg hs hw h1) <| liftS_of fun C D σ H G W δ DD I lk h k => ⟨C, G, W, δ, _, I, lk, h, fun r δ1 v H1 G1 W1 h1 x1 I1 o1 => by
    obtain ⟨d, δ2, e, hg⟩ := h1
    obtain ⟨G2, x2, I2, o2, _⟩ := I1.useOk o1 e
    exact ⟨C, G2, W1, δ2, d, _, I2, o2, hg, fun σ' H' G' W' δ' hp x' I' => k.nx σ' H' G' W' δ' ((x1.trans x2).trans x') I' hp⟩⟩
structure JOk (K : PySem.W.Frag) (C : Ct) (G : Hp) (J : It) (ds : List D) : Prop where
  go : ∀ (i : Nat) σ H G' W δ, i < ds.length → Ex G G' → SI K C σ H G' W δ → J.go i H
  stop : ∀ σ H G' W δ, Ex G G' → SI K C σ H G' W δ → J.stop ds.length H
  yld : ∀ (i : Nat) d σ H G' W δ x H', ds[i]? = some d → Ex G G' → SI K C σ H G' W δ → J.yld i H x H' → ∃ G'' W'', Ex G' G'' ∧ SI K C σ H' G'' W'' δ ∧ Den K G'' x d
abbrev DI := List R → (List D → List R → Prop) → Prop
structure Less (C C' : Ct) : Prop where
  bo : C'.bo = C.bo
  mo : C'.mo = C.mo
  h0 : C'.H0 = C.H0
  g0 : C'.G0 = C.G0
  tm : ∀ a o, C.T a = some o → C'.T a = some o
  lk : C'.lk = C.lk
theorem Less.refl (C : Ct) : Less C C := ⟨rfl, rfl, rfl, rfl, fun _ _ h => h, rfl⟩
theorem SI.less {C C' : Ct} {σ : St} {H G : Hp} {W : Ow} {δ : List R} (l : Less C C') (I : SI K C' σ H G W δ) : SI K C σ H G W δ := by
  obtain ⟨bo, mo, H0, G0, T, lk⟩ := C
  obtain ⟨bo', mo', H0', G0', T', lk'⟩ := C'
  obtain ⟨e1, e0, e2, e3, e4, e5⟩ := l
  simp only at e1 e0 e2 e3 e4 e5
  subst e1; subst e0; subst e2; subst e3; subst e5
  have tz : ∀ p, T' p = none → T p = none := fun p m4 => by
    cases z : T p with
    | none => rfl
    | some o => have := e4 p o z; rw [this] at m4; cases m4
  refine ⟨I.gh, I.g0, I.hh, I.gz, I.b0, I.bag, fun a o e => I.tm a o (e4 a o e), fun p hp => ?_, I.ln, fun i hi => ?_⟩
  · obtain ⟨m1, m2, m3, m4, m5⟩ := I.mu p hp
    exact ⟨m1, m2, m3, tz p m4, m5⟩
  obtain ⟨v, h1, h2⟩ := I.sl i hi
  refine ⟨v, h1, ?_⟩
  cases q : gt δ i with
  | no => exact trivial
  | val d => rw [q] at h2; exact h2
  | bag => rw [q] at h2; exact h2
  | pk j => rw [q] at h2; exact h2
  | bor d => rw [q] at h2; exact h2
  | own d =>
    rw [q] at h2
    obtain ⟨p, e, ⟨m1, m2, m3, m4⟩, h5, h6⟩ := h2
    refine ⟨p, e, ⟨m1, m2, m3, ?_⟩, h5, h6⟩
    show T p = none
    have m4 : T' p = none := m4
    cases z : T p with
    | none => rfl
    | some o => have := e4 p o z; rw [this] at m4; cases m4
def liftI (K : PySem.W.Frag) (L : Lk) (di : DI) : TI := fun σ H Q => ∃ (C : Ct) (G : Hp) (W : Ow) (δ : List R) (P : List D → List R → Prop), SI K C σ H G W δ ∧ Lnk K L C G ∧ di δ P ∧
  ∀ ds δ' J H' G' W', P ds δ' → Ex G G' → SI K C σ H' G' W' δ' → (∀ C' : Ct, True → JOk K C' G' J ds) → Q J H'
theorem PI.weak {iter : Expr} {t t' : TI} (h : PI X tg iter t) (w : ∀ σ H Q, t' σ H Q → t σ H Q) : PI X tg iter t' := ⟨fun pins s σ H Q I q => h.run pins s σ H Q I (w σ H Q q)⟩
def iSeq (K : PySem.W.Frag) (tl : TE) : TI := fun σ H R => tl σ H fun x H1 => ∃ a, x = .ref a ∧ (((∃ xs, SqL K H1 a xs) ∧ R (Itl K a) H1) ∨ ((∃ xs, SqT K H1 a xs) ∧ R (Itt K a) H1))
theorem pi_seq {l : Expr} {tl : TE} (hl : PE X l tl) : PI X tg l (iSeq X.K tl) := by
  constructor
  intro pins s σ H R I h
  refine thn (hl.run pins s σ H _ I h) fun v s1 z => ?_
  obtain ⟨x, H1, J, rx, a, rfl, w⟩ := z
  cases rx
  have fp : ∀ b ∈ [s1.heap.objs.size], FpOk X pins H1 b := fun b hb => by
    rw [List.mem_singleton] at hb
    exact hb ▸ J.fpOk (Nat.le_refl _) (J.hok.fresh (Nat.le_refl _))
  have kp : ∀ (o : Obj) b u, s1.heap.get? b = some u → (s1.heap.push o).get? b = some u := fun o b u e => Heap.get?_push_of_some _ e
  rcases w with ⟨⟨xs, hq⟩, q⟩ | ⟨⟨xs, hq⟩, q⟩
  · obtain ⟨ws, _, pl, _⟩ := J.list hq
    exact wpAny_pyIter_list pl.isList ⟨_, _, _, _, H1, rfl, J.kept (t' := s1.toks) (kp _), turn_list a _, ⟨_, Heap.get?_push_size _ rfl, rfl, rfl⟩, fp, q⟩
  · obtain ⟨ws, _, pl, _⟩ := J.tuple hq
    exact wpAny_pyIter_tuple (show s1.heap.IsTuple a ws.toArray from pl) ⟨_, _, _, _, H1, rfl, J.kept (t' := s1.toks) (kp _), turn_tuple a _, ⟨_, Heap.get?_push_size _ rfl, rfl, rfl⟩, fp, q⟩
def D.items : D → Option (List D)
  | .lst ds => some ds
  | .tup ds => some ds
  | _ => none
def diSeq (de : DE) : DI := fun δ P => de δ fun r δ1 => ∃ d δ2 ds, use r δ1 = some (.val d, δ2) ∧ d.items = some ds ∧ P ds δ2
theorem jok_list {C : Ct} {G : Hp} {a : Addr} {vs : List V} {ds : List D} (h0 : G a = some (.lst vs)) (e : Dens K G vs ds) : JOk K C G (Itl K a) ds where
  go := fun i σ H G' W δ hi x I => by
    have hv : i < vs.length := by rw [e.1]; exact hi
    exact ⟨vs, vs[i], SqL.of (I.gh _ _ (x _ _ h0)), by simp [hv]⟩
  stop := fun σ H G' W δ x I => ⟨vs, SqL.of (I.gh _ _ (x _ _ h0)), by rw [e.1]; exact Nat.le_refl _⟩
  yld := fun i d σ H G' W δ v H' hd x I y => by
    obtain ⟨rfl, y⟩ := y
    have hv := y vs (SqL.of (I.gh _ _ (x _ _ h0)))
    exact ⟨G', W, Ex.refl G', I, (e.2 i v d hv hd).mono x⟩
theorem jok_tup {C : Ct} {G : Hp} {a : Addr} {vs : List V} {ds : List D} (h : SqT K G a vs) (e : Dens K G vs ds) : JOk K C G (Itt K a) ds where
  go := fun i σ H G' W δ hi x I => by
    have hv : i < vs.length := by rw [e.1]; exact hi
    exact ⟨vs, vs[i], ex_t I.gh (ex_t x h), by simp [hv]⟩
  stop := fun σ H G' W δ x I => ⟨vs, ex_t I.gh (ex_t x h), by rw [e.1]; exact Nat.le_refl _⟩
  yld := fun i d σ H G' W δ v H' hd x I y => by
    obtain ⟨rfl, y⟩ := y
    have hv := y vs (ex_t I.gh (ex_t x h))
    exact ⟨G', W, Ex.refl G', I, (e.2 i v d hv hd).mono x⟩
theorem liftI_of {t : TI} {di : DI} (h : ∀ C σ H G W δ P (Q : It → Hp → Prop), SI K C σ H G W δ → Lnk K L C G → di δ P → (∀ ds δ' J H' G' W', P ds δ' → Ex G G' → SI K C σ H' G' W' δ' → (∀ C' : Ct, True → JOk K C' G' J ds) → Q J H') → t σ H Q) : ∀ σ H Q, liftI K L di σ H Q → t σ H Q :=
  fun σ H Q ⟨C, G, W, δ, P, I, lk, hd, k⟩ => h C σ H G W δ P Q I lk hd k
theorem di_seq {l : Expr} (hl : PE X l (lift X.K L de)) : PI X tg l (liftI X.K L (diSeq de)) :=
  PI.weak (pi_seq hl) <| liftI_of fun C σ H G W δ P Q I lk h k => ⟨C, G, W, δ, _, I, lk, h, fun r δ1 v H1 G1 W1 h1 x1 I1 o1 => by
    obtain ⟨d, δ2, ds, e1, e2, hp⟩ := h1
    obtain ⟨G2, x2, I2, o2, _⟩ := I1.useOk o1 e1
    have o2 : Den X.K G2 v d := o2
    cases d with
    | lst ds' =>
      cases e2
      obtain ⟨a, vs, rfl, hs, hd⟩ := o2.of_lst
      exact ⟨a, rfl, .inl ⟨⟨vs, .of (I2.gh _ _ hs)⟩, k ds δ2 _ H1 G2 W1 hp (x1.trans x2) I2 fun C' _ => jok_list hs hd⟩⟩
    | tup ds' =>
      cases e2
      obtain ⟨a, vs, rfl, hs, hd⟩ := o2.of_tup
      exact ⟨a, rfl, .inr ⟨⟨vs, ex_t I2.gh hs⟩, k ds δ2 _ H1 G2 W1 hp (x1.trans x2) I2 fun C' _ => jok_tup hs hd⟩⟩
    | non => cases e2
    | bl => cases e2
    | int => cases e2
    | str => cases e2
    | dic => cases e2
    | ins => cases e2
    | ty => cases e2
    | exc => cases e2
    | dct => cases e2
    | dcm => cases e2
    | obx => cases e2⟩
def rngD (lo : Int) (n : Nat) : List D := (List.range n).map fun (i : Nat) => D.int (lo + (i : Int))
theorem jok_range {C : Ct} {G : Hp} {lo : Int} {n : Nat} : JOk K C G (Itr lo n) (rngD lo n) where
  go := fun i σ H G' W δ hi x I => by show i < n; simpa [rngD] using hi
  stop := fun σ H G' W δ x I => by show n ≤ (rngD lo n).length; simp [rngD]
  yld := fun i d σ H G' W δ v H' hd x I y => by
    obtain ⟨rfl, rfl⟩ := y
    have : d = .int (lo + i) := by
      unfold rngD at hd
      rw [List.getElem?_map] at hd
      cases q : (List.range n)[i]? with
      | none => rw [q] at hd; cases hd
      | some j =>
        rw [q] at hd
        have hj : j = i := by
          rw [List.getElem?_eq_some_iff] at q
          obtain ⟨h1, h2⟩ := q
          simpa using h2.symm
        subst hj
        simpa using hd.symm
    subst this
    exact ⟨G', W, Ex.refl G', I, .int _⟩
def diRng1 (da : DA) : DI := fun δ P => da δ fun rs δ1 => ∃ j : Int, peekAll rs δ1 = some [.int j] ∧ (-(2 ^ 62) ≤ j ∧ j < 2 ^ 62) ∧ P (rngD 0 j.toNat) δ1
def diRng2 (da : DA) : DI := fun δ P => da δ fun rs δ1 => ∃ i j : Int, peekAll rs δ1 = some [.int i, .int j] ∧ (-(2 ^ 62) ≤ i ∧ i < 2 ^ 62 ∧ -(2 ^ 62) ≤ j ∧ j < 2 ^ 62) ∧ P (rngD i (j - i).toNat) δ1
theorem di_rng1 {a : Expr} {da : DA} {p pos : Pos} (hg : Gl X "range") (hm : X.mg "range" = none) (ha : PA X [a] (liftA X.K L da)) (hs : starEach [a] X.env = [(false, eval a X.env)] := by rfl) : PI X tg (.Call (.Name "range" p) [a] [] pos) (liftI X.K L (diRng1 da)) :=
  PI.weak (pi_range1 hg hm ha hs) <| liftI_of fun C σ H G W δ P Q I lk h k => ⟨C, G, W, δ, _, I, lk, h, fun rs δ1 vs H1 G1 W1 h1 x1 I1 o1 => by
    obtain ⟨j, e, hj, hp⟩ := h1
    have z := I1.peekAllOk o1 e
    obtain ⟨v, r, rfl, z1, z2⟩ := z.cons_right
    rw [z2.nil_right]
    have := (z1.den I1.gh).of_int
    subst this
    exact ⟨j, rfl, hj.1, hj.2, k _ δ1 _ H1 G1 W1 hp x1 I1 fun _ _ => jok_range⟩⟩
theorem di_rng2 {a b : Expr} {da : DA} {p pos : Pos} (hg : Gl X "range") (hm : X.mg "range" = none) (ha : PA X [a, b] (liftA X.K L da)) (hs : starEach [a, b] X.env = [(false, eval a X.env), (false, eval b X.env)] := by rfl) (hs2 : starEach [b] X.env = [(false, eval b X.env)] := by rfl) :
    PI X tg (.Call (.Name "range" p) [a, b] [] pos) (liftI X.K L (diRng2 da)) :=
  PI.weak (pi_range2 hg hm ha hs hs2) <| liftI_of fun C σ H G W δ P Q I lk h k => ⟨C, G, W, δ, _, I, lk, h, fun rs δ1 vs H1 G1 W1 h1 x1 I1 o1 => by
    obtain ⟨i, j, e, hj, hp⟩ := h1
    have z := I1.peekAllOk o1 e
    obtain ⟨v, r, rfl, z1, z2⟩ := z.cons_right
    obtain ⟨v', r', rfl, z3, z4⟩ := z2.cons_right
    rw [z4.nil_right]
    have := (z1.den I1.gh).of_int
    subst this
    have := (z3.den I1.gh).of_int
    subst this
    exact ⟨i, j, rfl, hj, k _ δ1 _ H1 G1 W1 hp x1 I1 fun _ _ => jok_range⟩⟩
def dLoop (g : DG) (b : DS) (DD : DEnds) : List D → List R → Prop
  | [], δ => DD.nx δ
  | d :: ds, δ => g d δ fun δ1 => b { DD with nx := dLoop g b DD ds, ct := dLoop g b DD ds, bk := DD.nx } δ1
def dFor (di : DI) (g : DG) (b : DS) : DS := fun DD δ => di δ fun ds δ1 => dLoop g b DD ds δ1
theorem drop_get {α : Type} {xs : List α} {i : Nat} {x : α} (h : xs[i]? = some x) : xs.drop i = x :: xs.drop (i + 1) := by
  obtain ⟨h1, h2⟩ := List.getElem?_eq_some_iff.mp h
  rw [← h2]
  exact List.drop_eq_getElem_cons h1
theorem lift_for {di : DI} : ∀ D σ H, liftS K L (dFor di g b) D σ H → tFor (liftI K L di) (liftG K g) (liftS K L b) D σ H :=
  liftS_of fun C D σ H G W δ DD I lk h k => ⟨C, G, W, δ, _, I, lk, h, fun ds δ1 J H1 G1 W1 h1 x1 I1 jo => by
    have J0 := jo C trivial
    refine ⟨fun i m σ H => i + m = ds.length ∧ ∃ G' W' δ', Ex G1 G' ∧ SI K C σ H G' W' δ' ∧ dLoop g b DD (ds.drop i) δ', ⟨ds.length, Nat.zero_add _, G1, W1, δ1, Ex.refl G1, I1, h1⟩, fun i m σ' H' hW => ?_⟩
    obtain ⟨em, G2, W2, δ2, x2, I2, h2⟩ := hW
    by_cases hi : i < ds.length
    · refine .inr ⟨J0.go i σ' H' G2 W2 δ2 hi x2 I2, fun σ3 H3 => ∃ G' W' δ', Ex G1 G' ∧ SI K C σ3 H3 G' W' δ' ∧ dLoop g b DD (ds.drop (i + 1)) δ', fun σ3 H3 h3 => ⟨m - 1, by omega, by omega, h3⟩, fun x H3 hy => ?_⟩
      have hd : ds[i]? = some ds[i] := List.getElem?_eq_getElem hi
      obtain ⟨G3, W3, x3, I3, dn⟩ := J0.yld i ds[i] σ' H' G2 W2 δ2 x H3 hd x2 I2 hy
      rw [drop_get hd] at h2
      refine ⟨C, G3, W3, δ2, ds[i], _, I3, dn, h2, fun σ4 H4 G4 W4 δ4 h4 x4 I4 => ?_⟩
      have xx : Ex G1 G4 := (x2.trans x3).trans x4
      refine ⟨C, G4, W4, δ4, _, I4, lk.mono (x1.trans xx), h4, ⟨fun σ5 H5 G5 W5 δ5 x5 I5 h5 => ⟨G5, W5, δ5, xx.trans x5, I5, h5⟩, (k.mono (x1.trans xx)).rt, fun σ5 H5 G5 W5 δ5 x5 I5 h5 => k.nx σ5 H5 G5 W5 δ5 ((x1.trans xx).trans x5) I5 h5, fun σ5 H5 G5 W5 δ5 x5 I5 h5 => ⟨G5, W5, δ5, xx.trans x5, I5, h5⟩⟩⟩
    · have e : i = ds.length := by omega
      subst e
      rw [List.drop_length] at h2
      exact .inl ⟨J0.stop σ' H' G2 W2 δ2 x2 I2, k.nx σ' H' G2 W2 δ2 (x1.trans x2) I2 h2⟩⟩
theorem ds_for {iter : Expr} {di : DI} (hp : PassesOwn (model X.prog X.w) X.A X.env X.xe) (hc : X.calm = true) (hi : PI X tg iter (liftI X.K L di)) (hg : PG X tg (liftG X.K g)) (hb : PSs X body (liftS X.K L b))
    (hs : ∀ x, foldedSetIterable iter X.env x = pure x := by intro _; rfl) : PS X (.For tg iter body [] pos) (liftS X.K L (dFor di g b)) := PS.weak (ps_for hp hc hi hg hb hs) lift_for
end
end DL
namespace DL
open PySem PySem.Spec L2
variable [TabsC]
def wipeD (δ : List R) : List Nat → List R
  | [] => δ
  | v :: vs => st (wipeD δ vs) v .no
def R.stay : R → R
  | .val d => .val d
  | .bag => .bag
  | _ => .no
def backD (δ δ0 : List R) : List Nat → List R
  | [] => δ
  | v :: vs => st (backD δ δ0 vs) v (gt δ0 v).stay
def dLc (g : DG) (t : DT) (e : DE) (vs : List Nat) : List D → List D → List R → (List D → List R → Prop) → Prop
  | [], acc, δ, P => P acc δ
  | d :: ds, acc, δ, P => g d δ fun δ1 => t δ1 fun b δ2 => (b = true → e δ2 fun r δ3 => ∃ d' δ4, use r δ3 = some (.val d', δ4) ∧ acc.length < sizeLine ∧ dLc g t e vs ds (acc ++ [d']) (wipeD δ4 vs) P) ∧ (b = false → dLc g t e vs ds acc (wipeD δ2 vs) P)
def dComp (di : DI) (g : DG) (t : DT) (e : DE) (vs : List Nat) : DE := fun δ P => di δ fun ds δ1 => dLc g t e vs ds [] (wipeD δ1 vs) fun acc δ2 => P (.own (.lst acc)) (backD δ2 δ1 vs)
def dYes : DT := fun δ P => P true δ
section
variable {K : PySem.W.Frag} {L : Lk} {C : Ct} {σ σ2 : St} {H G : Hp} {W : Ow} {δ : List R}
theorem gt_wipe (δ : List R) : ∀ (vs : List Nat) (i : Nat), i ∉ vs → gt (wipeD δ vs) i = gt δ i
  | [], _, _ => rfl
  | v :: vs, i, h => by
    show gt (st (wipeD δ vs) v .no) i = _
    rw [gt_st_ne _ _ _ _ (fun e => h (by rw [e]; exact List.mem_cons_self ..))]
    exact gt_wipe δ vs i fun z => h (List.mem_cons_of_mem _ z)
theorem gt_wipe_in (δ : List R) : ∀ (vs : List Nat) (i : Nat), i ∈ vs → gt (wipeD δ vs) i = .no
  | v :: vs, i, h => by
    show gt (st (wipeD δ vs) v .no) i = _
    by_cases e : v = i
    · subst e; rcases gt_st_same (wipeD δ vs) v .no with z | z <;> exact z
    · rw [gt_st_ne _ _ _ _ e]
      rcases List.mem_cons.mp h with z | z
      · exact absurd z.symm e
      · exact gt_wipe_in δ vs i z
theorem wipeD_len (δ : List R) : ∀ vs : List Nat, (wipeD δ vs).length = δ.length
  | [] => rfl
  | v :: vs => by show (st (wipeD δ vs) v .no).length = _; rw [st_len, wipeD_len δ vs]
theorem backD_len (δ δ0 : List R) : ∀ vs : List Nat, (backD δ δ0 vs).length = δ.length
  | [] => rfl
  | v :: vs => by show (st (backD δ δ0 vs) v _).length = _; rw [st_len, backD_len δ δ0 vs]
theorem gt_back (δ δ0 : List R) : ∀ (vs : List Nat) (i : Nat), i ∉ vs → gt (backD δ δ0 vs) i = gt δ i
  | [], _, _ => rfl
  | v :: vs, i, h => by
    show gt (st (backD δ δ0 vs) v _) i = _
    rw [gt_st_ne _ _ _ _ (fun e => h (by rw [e]; exact List.mem_cons_self ..))]
    exact gt_back δ δ0 vs i fun z => h (List.mem_cons_of_mem _ z)
theorem gt_back_in (δ δ0 : List R) : ∀ (vs : List Nat) (i : Nat), i ∈ vs → gt (backD δ δ0 vs) i = (gt δ0 i).stay ∨ gt (backD δ δ0 vs) i = .no
  | v :: vs, i, h => by
    show gt (st (backD δ δ0 vs) v _) i = _ ∨ gt (st (backD δ δ0 vs) v _) i = _
    by_cases e : v = i
    · subst e; exact gt_st_same (backD δ δ0 vs) v _
    · rw [gt_st_ne _ _ _ _ e]
      rcases List.mem_cons.mp h with z | z
      · exact absurd z.symm e
      · exact gt_back_in δ δ0 vs i z
theorem wipe_get {σ : St} : ∀ {vs : List Nat} {i : Nat}, i ∉ vs → (wipe σ vs)[i]? = σ[i]?
  | [], _, _ => rfl
  | v :: vs, i, h => by
    show ((wipe σ vs).set v none)[i]? = _
    rw [List.getElem?_set_ne (fun e => h (by rw [e]; exact List.mem_cons_self ..))]
    exact wipe_get fun z => h (List.mem_cons_of_mem _ z)
theorem SI.wipe {vs : List Nat} (I : SI K C σ2 H G W δ) (e : L2.wipe σ2 vs = L2.wipe σ vs) : SI K C (L2.wipe σ vs) H G W (wipeD δ vs) := by
  refine ⟨I.gh, I.g0, I.hh, I.gz, I.b0, I.bag, I.tm, I.mu, by rw [wipeD_len, ← e, wipe_length]; exact I.ln, fun i hi => ?_⟩
  by_cases hv : i ∈ vs
  · exact absurd (gt_wipe_in δ vs i hv) hi
  · rw [gt_wipe δ vs i hv] at hi ⊢
    obtain ⟨v, h1, h2⟩ := I.sl i hi
    refine ⟨v, by rw [← e, wipe_get hv]; exact h1, ?_⟩
    cases q : gt δ i with
    | no => exact trivial
    | val d => rw [q] at h2; exact h2
    | bag => rw [q] at h2; exact h2
    | own d => rw [q] at h2; exact h2
    | bor d => rw [q] at h2; exact h2
    | pk j => rw [q] at h2; exact absurd h2.1 (by simp)
theorem SI.back {vs : List Nat} {δ0 : List R} {H0 G0 : Hp} {W0 : Ow} (I : SI K C (L2.wipe σ vs) H G W δ) (I0 : SI K C σ H0 G0 W0 δ0) (x : Ex G0 G) : SI K C σ H G W (backD δ δ0 vs) := by
  refine ⟨I.gh, I.g0, I.hh, I.gz, I.b0, I.bag, I.tm, I.mu, by rw [backD_len]; have := I.ln; rwa [wipe_length] at this, fun i hi => ?_⟩
  by_cases hv : i ∈ vs
  · rcases gt_back_in δ δ0 vs i hv with z | z
    · rw [z] at hi ⊢
      have hn : gt δ0 i ≠ .no := fun e => hi (by rw [e]; rfl)
      obtain ⟨v, h1, h2⟩ := I0.sl i hn
      refine ⟨v, h1, ?_⟩
      cases q : gt δ0 i with
      | no => exact absurd q hn
      | val d => rw [q] at h2; exact Den.mono (show Den K G0 v d from h2) x
      | bag => rw [q] at h2; exact h2
      | own d => rw [q] at hi; exact absurd rfl hi
      | bor d => rw [q] at hi; exact absurd rfl hi
      | pk j => rw [q] at hi; exact absurd rfl hi
    · exact absurd z hi
  · rw [gt_back δ δ0 vs i hv] at hi ⊢
    obtain ⟨v, h1, h2⟩ := I.sl i hi
    refine ⟨v, by rw [← wipe_get hv]; exact h1, ?_⟩
    cases q : gt δ i with
    | no => exact trivial
    | val d => rw [q] at h2; exact h2
    | bag => rw [q] at h2; exact h2
    | own d => rw [q] at h2; exact h2
    | bor d => rw [q] at h2; exact h2
    | pk j => rw [q] at h2; exact absurd h2.1 (by simp)
def Ct.hold (C : Ct) (p : Addr) (o : HO) : Ct := { C with T := upd C.T p o }
theorem Ct.hold_less {p : Addr} {o : HO} (n : C.T p = none) : Less C (C.hold p o) := ⟨rfl, rfl, rfl, rfl, fun a u e => by show upd C.T p o a = some u; rw [upd_ne (ne_of_none e n)]; exact e, rfl⟩
theorem SI.hold {p : Addr} {o : HO} (I : SI K C σ H G W δ) (hp : H p = none) (hf : flatO o = true := by rfl) (hn : nlk o = true := by rfl) : SI K (C.hold p o) σ (upd H p o) G W δ := by
  have m := I.fresh hp
  have J := I.laid (o := o) hp hf hn
  refine ⟨J.gh, J.g0, J.hh, J.gz, J.b0, J.bag, fun a u e => ?_, fun q hq => ?_, J.ln, fun i hi => ?_⟩
  · by_cases ha : a = p
    · subst ha
      have e : upd C.T a o a = some u := e
      rw [upd_same] at e; cases e
      exact ⟨upd_same, m.1, m.2.2.1, hf⟩
    · have e : upd C.T p o a = some u := e
      rw [upd_ne ha] at e
      exact J.tm a u e
  · obtain ⟨m1, m2, m3, m4, m5⟩ := I.mu q hq
    have ne : q ≠ p := by rintro rfl; exact m5 hp
    exact ⟨m1, m2, m3, by show upd C.T p o q = none; rw [upd_ne ne]; exact m4, by rw [upd_ne ne]; exact m5⟩
  · obtain ⟨v, h1, h2⟩ := J.sl i hi
    obtain ⟨v', h1', h2'⟩ := I.sl i hi
    rw [h1] at h1'; cases h1'
    refine ⟨v, h1, ?_⟩
    cases q : gt δ i with
    | no => exact trivial
    | val d => rw [q] at h2; exact h2
    | bag => rw [q] at h2; exact h2
    | pk j => rw [q] at h2; exact absurd h2.1 (by simp)
    | bor d => rw [q] at h2; exact h2
    | own d =>
      rw [q] at h2 h2'
      obtain ⟨a, e, ⟨m1, m2, m3, m4⟩, h5, h6⟩ := h2
      obtain ⟨a', e', _, _, h7⟩ := h2'
      rw [e] at e'; cases e'
      refine ⟨a, e, ⟨m1, m2, m3, ?_⟩, h5, h6⟩
      show upd C.T p o a = none
      rw [upd_ne (h7.at_ne hp)]; exact m4
theorem SI.rehold {p : Addr} {o o' : HO} (I : SI K (C.hold p o) σ H G W δ) (n : C.H0 p = none) (hf : flatO o' = true := by rfl) (hn : nlk o' = true := by rfl) (hn0 : nlk o = true := by rfl) : SI K (C.hold p o') σ (upd H p o') G W δ := by
  have hpT : (C.hold p o).T p = some o := upd_same
  obtain ⟨t1, t2, t3, t4⟩ := I.tm p o hpT
  have tn : ∀ q, C.mo = some q → q ≠ p := fun q hq => by
    rintro rfl
    have := (I.mu q hq).2.2.2.1
    rw [hpT] at this; cases this
  refine ⟨fun a u e => ?_, I.g0, fun a u nb nm nt e => ?_, I.gz, I.b0, I.bag.updH t3 (fun u e => by rw [t1] at e; cases e; exact t4) hf (fun u e => by rw [t1] at e; cases e; exact hn0) hn, fun a u e => ?_, fun q hq => ?_, I.ln, fun i hi => ?_⟩
  · rw [upd_ne (ne_of_none e t2)]; exact I.gh a u e
  · rw [upd_ne (ne_of_none (H := C.H0) e n)]; exact I.hh a u nb nm nt e
  · by_cases ha : a = p
    · subst ha
      have e : upd C.T a o' a = some u := e
      rw [upd_same] at e; cases e
      exact ⟨upd_same, t2, t3, hf⟩
    · have e : upd C.T p o' a = some u := e
      rw [upd_ne ha] at e
      rw [upd_ne ha]
      exact I.tm a u (by show upd C.T p o a = some u; rw [upd_ne ha]; exact e)
  · obtain ⟨m1, m2, m3, m4, m5⟩ := I.mu q hq
    have ne := tn q hq
    have m4 : upd C.T p o q = none := m4
    rw [upd_ne ne] at m4
    exact ⟨m1, m2, m3, by show upd C.T p o' q = none; rw [upd_ne ne]; exact m4, by rw [upd_ne ne]; exact m5⟩
  · obtain ⟨v, h1, h2⟩ := I.sl i hi
    refine ⟨v, h1, ?_⟩
    cases q : gt δ i with
    | no => exact trivial
    | val d => rw [q] at h2; exact h2
    | bag => rw [q] at h2; exact h2
    | pk j => rw [q] at h2; exact absurd h2.1 (by simp)
    | bor d =>
      rw [q] at h2
      obtain ⟨t0, a, e, ev, h6⟩ := h2
      exact ⟨t0, a, e, ev, h6.mono (Ex.refl G) (upd_ne (tn a e))⟩
    | own d =>
      rw [q] at h2
      obtain ⟨a, e, ⟨m1, m2, m3, m4⟩, h5, h6⟩ := h2
      have ne : a ≠ p := by rintro rfl; rw [hpT] at m4; cases m4
      refine ⟨a, e, ⟨m1, m2, m3, ?_⟩, h5, h6.mono (Ex.refl G) (upd_ne ne)⟩
      show upd C.T p o' a = none
      rw [upd_ne ne]
      have m4 : upd C.T p o a = none := m4
      rwa [upd_ne ne] at m4
theorem SI.unhold {p : Addr} {vs : List V} {ds : List D} (I : SI K (C.hold p (.lst vs)) σ H G W δ) (n0 : C.H0 p = none) (nt : C.T p = none) (h : Dens K G vs ds) : ∃ W', SI K C σ H G W' δ ∧ ROk K C σ H G W' none (.ref p) (.own (.lst ds)) := by
  have hpT : (C.hold p (.lst vs)).T p = some (.lst vs) := upd_same
  obtain ⟨t1, t2, t3, _⟩ := I.tm p _ hpT
  have J : SI K (C.hold p (.lst vs)) σ H G (fun a => if a = p then none else W a) δ := I.disown fun i d q hi hw ht hs => by
    obtain ⟨v, h1, h2⟩ := I.sl i (by rw [hi]; simp)
    rw [hs] at h1; cases h1
    rw [hi] at h2
    obtain ⟨a, e, ⟨_, _, _, m4⟩, _⟩ := h2
    cases e
    rintro rfl
    rw [hpT] at m4; cases m4
  exact ⟨_, SI.less (Ct.hold_less nt) J, p, rfl, ⟨t2, n0, t3, nt⟩, if_pos rfl, vs, t1, h⟩
end
section
variable {X : Cx} {K : PySem.W.Frag} {L : Lk} {pos : Pos} {e elt tg iter : Expr} {de : DE} {ta : DT} {di : DI} {g : DG}
def GOk (g : DG) (tgt : TG) (K : PySem.W.Frag) (vs : List Nat) : Prop := ∀ (C : Ct) (G : Hp) (W : Ow) (δ : List R) (d : D) (P : List R → Prop) (v : V) (σ : St) (H : Hp) (Q : St → Hp → Prop), SI K C σ H G W δ → Den K G v d → g d δ P →
  (∀ σ' H' G' W' δ', L2.wipe σ' vs = L2.wipe σ vs → P δ' → Ex G G' → SI K C σ' H' G' W' δ' → Q σ' H') → tgt v σ H fun σ' H' => L2.wipe σ' vs = L2.wipe σ vs ∧ Q σ' H'
theorem wipe_set {σ : St} {i : Nat} {x : Option V} : ∀ {vs : List Nat}, i ∈ vs → L2.wipe (σ.set i x) vs = L2.wipe σ vs
  | v :: vs, h => by
    show (L2.wipe (σ.set i x) vs).set v none = (L2.wipe σ vs).set v none
    by_cases hv : i ∈ vs
    · rw [wipe_set hv]
    · have e : i = v := by rcases List.mem_cons.mp h with z | z; exact z; exact absurd z hv
      subst e
      have : ∀ (vs : List Nat), i ∉ vs → L2.wipe (σ.set i x) vs = (L2.wipe σ vs).set i x := by
        intro vs
        induction vs with
        | nil => intro _; rfl
        | cons w ws ih =>
          intro hn
          show (L2.wipe (σ.set i x) ws).set w none = ((L2.wipe σ ws).set w none).set i x
          rw [ih (fun z => hn (List.mem_cons_of_mem _ z)), List.set_comm _ _ (fun e => hn (by rw [e]; exact List.mem_cons_self ..))]
      rw [this vs hv, List.set_set]
theorem wipe_wipe (σ : St) : ∀ (vs : List Nat), L2.wipe (L2.wipe σ vs) vs = L2.wipe σ vs := by
  intro vs
  have : ∀ us, (∀ u ∈ us, u ∈ vs) → L2.wipe (L2.wipe σ us) vs = L2.wipe σ vs := by
    intro us
    induction us with
    | nil => intro _; rfl
    | cons u us ih =>
      intro h
      show L2.wipe ((L2.wipe σ us).set u none) vs = _
      rw [wipe_set (h u (List.mem_cons_self ..))]
      exact ih fun w hw => h w (List.mem_cons_of_mem _ hw)
  exact this vs fun _ h => h
theorem gok_name {i : Nat} {vs : List Nat} (h : i ∈ vs) : GOk (gN i) (gName i) K vs := fun C G W δ d P v σ H Q I dn hg k => by
  obtain ⟨W', I'⟩ := I.store (i := i) (r := .val d) dn (fun j z => by cases z)
  exact ⟨wipe_set h, k _ H G W' _ (wipe_set h) hg (Ex.refl G) I'⟩
theorem lift_lc {tgt : TG} {vs : List Nat} (hg : GOk g tgt K vs) : ∀ σ H Q, lift K L (dComp di g ta de vs) σ H Q → tLc (liftI K L di) tgt (liftT K L0 ta) (lift K L0 de) vs σ H Q := by
  refine lift_of fun C σ H G W δ P Q I lk h k => ⟨C, G, W, δ, _, I, lk, h, fun ds δ1 J H1 G1 W1 h1 x1 I1 jo D hD => ?_⟩
  have mD := I1.fresh hD
  have less : ∀ o, Less C (C.hold D o) := fun o => Ct.hold_less mD.2.2.2
  refine ⟨fun i m H' => i + m = ds.length ∧ ∃ accV acc G' W' δ', Ex G1 G' ∧ SI K (C.hold D (.lst accV)) (L2.wipe σ vs) H' G' W' δ' ∧ Dens K G' accV acc ∧ dLc g ta de vs (ds.drop i) acc δ' fun acc δ2 => P (.own (.lst acc)) (backD δ2 δ1 vs),
    ⟨ds.length, Nat.zero_add _, [], [], G1, W1, wipeD δ1 vs, Ex.refl G1, ((I1.wipe rfl).hold hD), .nil, h1⟩, fun i m H2 hW => ?_⟩
  obtain ⟨em, accV, acc, G2, W2, δ2, x2, I2, da, h2⟩ := hW
  have J0 := jo (C.hold D (.lst accV)) trivial
  by_cases hi : i < ds.length
  · refine .inr ⟨J0.go i _ H2 G2 W2 δ2 hi x2 I2, fun H' => ∃ accV acc G' W' δ', Ex G1 G' ∧ SI K (C.hold D (.lst accV)) (L2.wipe σ vs) H' G' W' δ' ∧ Dens K G' accV acc ∧ dLc g ta de vs (ds.drop (i + 1)) acc δ' fun acc δ2 => P (.own (.lst acc)) (backD δ2 δ1 vs),
      fun H' h' => ⟨m - 1, by omega, by omega, h'⟩, fun x H3 hy => ?_⟩
    have hd : ds[i]? = some ds[i] := List.getElem?_eq_getElem hi
    obtain ⟨G3, W3, x3, I3, dn⟩ := J0.yld i ds[i] _ H2 G2 W2 δ2 x H3 hd x2 I2 hy
    rw [drop_get hd] at h2
    have ew : L2.wipe (L2.wipe σ vs) vs = L2.wipe σ vs := wipe_wipe σ vs
    refine (fun step => by rw [ew] at step; exact step) (hg (C.hold D (.lst accV)) G3 W3 δ2 ds[i] _ x (L2.wipe σ vs) H3 (fun σ' H' => liftT K L0 ta σ' H' fun b H3 => if b = true then lift K L0 de σ' H3 fun y H4 => ∃ acc, H4 D = some (.lst acc) ∧ acc.length < sizeLine ∧ ∃ accV acc' G' W' δ', Ex G1 G' ∧ SI K (C.hold D (.lst accV)) (L2.wipe σ vs) (upd H4 D (.lst (acc ++ [y]))) G' W' δ' ∧ Dens K G' accV acc' ∧ dLc g ta de vs (ds.drop (i + 1)) acc' δ' fun acc δ2 => P (.own (.lst acc)) (backD δ2 δ1 vs)
        else ∃ accV acc G' W' δ', Ex G1 G' ∧ SI K (C.hold D (.lst accV)) (L2.wipe σ vs) H3 G' W' δ' ∧ Dens K G' accV acc ∧ dLc g ta de vs (ds.drop (i + 1)) acc δ' fun acc δ2 => P (.own (.lst acc)) (backD δ2 δ1 vs)) I3 dn h2 fun σ4 H4 G4 W4 δ4 e4 h4 x4 I4 => ?_)
    · have e4' : L2.wipe σ4 vs = L2.wipe σ vs := e4.trans ew
      refine ⟨_, G4, W4, δ4, _, I4, Lnk.zero, h4, fun b δ5 H5 G5 W5 h5 x5 I5 => ?_⟩
      cases b with
      | false => exact ⟨accV, acc, G5, W5, _, ((x2.trans x3).trans x4).trans x5, I5.wipe e4', da.mono ((x3.trans x4).trans x5), h5.2 rfl⟩
      | true =>
        refine ⟨_, G5, W5, δ5, _, I5, Lnk.zero, h5.1 rfl, fun r δ6 y H6 G6 W6 h6 x6 I6 o6 => ?_⟩
        obtain ⟨d', δ7, e7, hz, h7⟩ := h6
        obtain ⟨G7, x7, I7, o7, _⟩ := I6.useOk o6 e7
        have hT : (C.hold D (.lst accV)).T D = some (.lst accV) := upd_same
        have xx : Ex G2 G7 := (((x3.trans x4).trans x5).trans x6).trans x7
        refine ⟨accV, (I7.tm D _ hT).1, by rw [da.1]; exact hz, accV ++ [y], acc ++ [d'], G7, W6, _, x2.trans xx, (I7.wipe e4').rehold mD.2.1, (da.mono xx).append (.cons o7 .nil), h7⟩
  · have e : i = ds.length := by omega
    subst e
    rw [List.drop_length] at h2
    obtain ⟨W', J, o⟩ := I2.unhold mD.2.1 mD.2.2.2 da
    exact .inl ⟨J0.stop _ H2 G2 W2 δ2 x2 I2, k _ _ _ H2 G2 W' h2 (x1.trans x2) (J.back I1 x2) o⟩
end
end DL
namespace DL
open PySem PySem.Spec L2
variable [TabsC]
abbrev DSp := List R → (R → Option D → Prop) → (Addr → List (Str × D) → Prop) → Prop
structure Fin (bo mo : Option Addr) (G H G' H' : Hp) : Prop where
  ex : Ex G G'
  gh : Ex G' H'
  hh : ∀ a o, bo ≠ some a → mo ≠ some a → ¬ IsTab a → H a = some o → H' a = some o
  gz : ∀ a, H a ≠ none → G' a = G a
  bag : BagT bo H G' H'
  mf : ∀ p, mo = some p → H' p ≠ none
def RFin (K : PySem.W.Frag) (bo : Option Addr) (H G' H' : Hp) (v : V) : R → Prop
  | .val d => Den K G' v d
  | .own d => ∃ p, v = .ref p ∧ H p = none ∧ G' p = none ∧ Top K G' H' p d
  | .bag => ∃ b, bo = some b ∧ v = .ref b
  | _ => False
def MFin (K : PySem.W.Frag) (mo : Option Addr) (G' H' : Hp) (m : Option D) : Prop := ∀ d, m = some d → ∃ p, mo = some p ∧ Top K G' H' p d
def AOk (K : PySem.W.Frag) (bo mo : Option Addr) (G H : Hp) (v : V) : R → Prop
  | .val d => Den K G v d
  | .bag => ∃ b, bo = some b ∧ v = .ref b
  | .bor d => ∃ p, mo = some p ∧ v = .ref p ∧ Top K G H p d
  | _ => False
def Lent (bo mo : Option Addr) (G H : Hp) : Prop := ∀ p, mo = some p → H p ≠ none ∧ G p = none ∧ bo ≠ some p
def spOf (K : PySem.W.Frag) (S : DSp) : Sp := fun vs H Q E => ∃ (bo mo : Option Addr) (G : Hp) (rs : List R) (P : R → Option D → Prop) (Xc : Addr → List (Str × D) → Prop), Ex G H ∧ BagT bo H G H ∧ Lent bo mo G H ∧ All2 (AOk K bo mo G H) vs rs ∧ S rs P Xc ∧
  (∀ r m v G' H', P r m → Fin bo mo G H G' H' → RFin K bo H G' H' v r → MFin K mo G' H' m → Q v H') ∧
  (∀ c fs d fvs G' H', Xc c fs → Fin bo mo G H G' H' → G' d = some (.xd fvs) → DensP K G' fvs fs → E (.ref c) (some d) H')
def borOf : List R → Option D
  | [] => none
  | .bor d :: _ => some d
  | _ :: rs => borOf rs
def endD (P : R → Option D → Prop) : DEnds := { nx := fun δ => P (.val .non) none ∨ P (.val .non) (borOf δ), rt := fun r δ => P r none ∨ P r (borOf δ) }
theorem borOf_gt : ∀ {δ : List R} {d : D}, borOf δ = some d → ∃ i, gt δ i = .bor d
  | [], _, h => by cases h
  | .bor d' :: _, d, h => by cases h; exact ⟨0, rfl⟩
  | .no :: rs, d, h => let ⟨i, e⟩ := borOf_gt (δ := rs) h; ⟨i + 1, e⟩
  | .val _ :: rs, d, h => let ⟨i, e⟩ := borOf_gt (δ := rs) h; ⟨i + 1, e⟩
  | .own _ :: rs, d, h => let ⟨i, e⟩ := borOf_gt (δ := rs) h; ⟨i + 1, e⟩
  | .bag :: rs, d, h => let ⟨i, e⟩ := borOf_gt (δ := rs) h; ⟨i + 1, e⟩
  | .pk _ :: rs, d, h => let ⟨i, e⟩ := borOf_gt (δ := rs) h; ⟨i + 1, e⟩
theorem SI.mfin {K : PySem.W.Frag} {C : Ct} {σ : St} {H G : Hp} {W : Ow} {δ : List R} (I : SI K C σ H G W δ) (lk : C.lk = false) : MFin K C.mo G H (borOf δ) := fun d e => by
  obtain ⟨i, hi⟩ := borOf_gt e
  obtain ⟨v, _, h2⟩ := I.sl i (by rw [hi]; simp)
  rw [hi] at h2
  obtain ⟨_, p, e1, _, h6⟩ := h2
  rw [lk] at h6
  exact ⟨p, e1, h6.top⟩
def startD (N : List Str) (rs : List R) : List R := rs ++ List.replicate (N.length - rs.length) .no
theorem gt_nos : ∀ (ts : List R) (i : Nat), (∀ t ∈ ts, t = .no) → gt ts i = .no
  | [], _, _ => rfl
  | t :: _, 0, h => h t (List.mem_cons_self ..)
  | _ :: ts, n + 1, h => gt_nos ts n fun u hu => h u (List.mem_cons_of_mem _ hu)
theorem gt_append : ∀ {rs : List R} {i : Nat} {ts : List R}, (∀ t ∈ ts, t = .no) → gt (rs ++ ts) i ≠ .no → ∃ r, rs[i]? = some r ∧ gt (rs ++ ts) i = r
  | [], i, ts, ht, h => by
    exfalso; apply h
    exact gt_nos ts i ht
  | r :: rs, 0, ts, ht, h => ⟨r, rfl, rfl⟩
  | r :: rs, n + 1, ts, ht, h => by
    obtain ⟨q, h1, h2⟩ := gt_append (rs := rs) (i := n) (ts := ts) ht h
    exact ⟨q, by simpa using h1, h2⟩
section
variable {P : Program} {w : World} {K : PySem.W.Frag} {mg : Str → Option Value} {base : Heap} {C : Ct} {σ : St} {H H' G G' : Hp} {W : Ow} {δ : List R} {L : Lk}
theorem SI.start {N : List Str} {vs : List V} {rs : List R} {bo mo : Option Addr} (hl : vs.length ≤ N.length) (e : Ex G H) (hb : BagT bo H G H) (hm : Lent bo mo G H) (ha : All2 (AOk K bo mo G H) vs rs) : SI K ⟨bo, mo, H, G, fun _ => none, false⟩ (L2.start N vs) H G (fun _ => none) (startD N rs) := by
  refine ⟨e, Ex.refl G, fun _ _ _ _ _ h => h, fun _ _ => rfl, fun b h => ?_, hb, (fun a o h => by cases h), (fun p h => ⟨(hm p h).1, (hm p h).2.1, (hm p h).2.2, rfl, (hm p h).1⟩), ?_, fun i hi => ?_⟩
  · obtain ⟨_, x, y, z, c, ns, h1, _⟩ := hb.of b h
    show H b ≠ none
    rw [h1]; simp
  · unfold startD L2.start
    simp [ha.1]
  · obtain ⟨r, h1, h2⟩ := gt_append (rs := rs) (fun t ht => by simp at ht; exact ht.2) hi
    have h2 : gt (startD N rs) i = r := h2
    rw [h2]
    obtain ⟨v, hv, ho⟩ := ha.get h1
    refine ⟨v, ?_, ?_⟩
    · have hi : i < vs.length := (List.getElem?_eq_some_iff.mp hv).1
      unfold L2.start
      rw [List.getElem?_append_left (by simpa using hi), List.getElem?_map, hv]; rfl
    · cases r with
      | val d => exact ho
      | bag => exact ho
      | no => exact ho.elim
      | own d => exact ho.elim
      | pk j => exact ho.elim
      | bor d => obtain ⟨p, a1, a2, a3⟩ := ho; exact ⟨by simp, p, a1, a2, .inl a3⟩
theorem SI.fin (I : SI K C σ H G W δ) (h0 : ∀ b, C.bo = some b → C.H0 b ≠ none) : Fin C.bo C.mo C.G0 C.H0 G H := ⟨I.g0, I.gh, I.hh, I.gz, I.bag, fun p h => (I.mu p h).2.2.2.2⟩
theorem ROk.fin {v : V} {r : R} (h : ROk K C σ H G W none v r) (nk : r.fine = true) : RFin K C.bo C.H0 G H v r := by
  cases r with
  | no => cases nk
  | val d => exact h
  | bag => exact h
  | own d => obtain ⟨p, e, m, h5, h6⟩ := h; exact ⟨p, e, m.2.1, m.1, h6⟩
  | pk j => cases nk
  | bor j => cases nk
theorem SI.calledB {mo : Option Addr} {δ' : List R} (I : SI K C σ H G W δ) (f : Fin C.bo mo G H G' H') (hm : Lent C.bo mo G H) (hT : ∀ p, mo = some p → C.T p = none) (hz : ∀ p, mo = some p → C.mo = some p ∨ C.H0 p = none) (hl : δ'.length ≤ δ.length)
    (hs : ∀ i, gt δ' i ≠ .no → (gt δ' i = gt δ i ∧ ∀ p d, mo = some p → (gt δ i = .own d → σ[i]? ≠ some (some (.ref p))) ∧ (gt δ i = .bor d → C.mo ≠ some p)) ∨
      ∃ p, mo = some p ∧ σ[i]? = some (some (.ref p)) ∧ ROk K C σ H' G' W (some i) (.ref p) (gt δ' i))
    {v : V} {r : R} (h : RFin K C.bo H G' H' v r) : ∃ W', SI K C σ H' G' W' δ' ∧ ROk K C σ H' G' W' none v r := by
  have some_of : ∀ a, C.H0 a ≠ none → H a ≠ none := fun a n z => by
    by_cases hb : C.bo = some a
    · obtain ⟨_, x, y, zz, c, ns, h1, _⟩ := I.bag.of a hb
      rw [z] at h1; cases h1
    · by_cases hb' : C.mo = some a
      · exact (I.mu a hb').2.2.2.2 z
      · cases q : C.H0 a with
        | none => exact n q
        | some o => have := I.hh a o hb hb' (I.bag.notN z) q; rw [z] at this; cases this
  have J : SI K C σ H' G' W δ' := by
    refine ⟨f.gh, I.g0.trans f.ex, fun a o nb nm nt e => f.hh a o nb (fun z => ?_) nt (I.hh a o nb nm nt e), fun a n => (f.gz a (some_of a n)).trans (I.gz a n), I.b0, I.bag.trans f.bag, fun a o e => ?_, fun p hp => ?_, Nat.le_trans hl I.ln, fun i hi => ?_⟩
    · rcases hz a z with y | y
      · exact nm y
      · rw [y] at e; cases e
    · obtain ⟨t1, t2, t3, t4⟩ := I.tm a o e
      exact ⟨f.hh a o t3 (fun z => by rw [hT a z] at e; cases e) (I.bag.notO t1 t4) t1, (f.gz a (by rw [t1]; simp)).trans t2, t3, t4⟩
    · obtain ⟨m1, m2, m3, m4, m5⟩ := I.mu p hp
      refine ⟨m1, m2, m3, m4, ?_⟩
      by_cases z : mo = some p
      · exact f.mf p z
      · cases q : H p with
        | none => exact absurd q m5
        | some o =>
          by_cases it : IsTab p
          · obtain ⟨ps, e⟩ := tabs_tab f.bag.tb it
            rw [e]; simp
          · rw [f.hh p o m3 z it q]; simp
    · rcases hs i hi with ⟨ei, hn⟩ | z
      · rw [ei] at hi ⊢
        obtain ⟨v, h1, h2⟩ := I.sl i hi
        refine ⟨v, h1, ?_⟩
        cases q : gt δ i with
        | no => exact trivial
        | val d => rw [q] at h2; exact Den.mono (show Den K G v d from h2) f.ex
        | bag => rw [q] at h2; exact h2
        | pk j => rw [q] at h2; exact absurd h2.1 (by simp)
        | bor d =>
          rw [q] at h2
          obtain ⟨t0, p, e, ev, h6⟩ := h2
          obtain ⟨o, ho⟩ := h6.there
          exact ⟨t0, p, e, ev, h6.mono f.ex ((f.hh p o (I.mu p e).2.2.1 (fun z => (hn p d z).2 q e) (I.bag.not h6.flat) ho).trans ho.symm)⟩
        | own d =>
          rw [q] at h2
          obtain ⟨p, e, ⟨m1, m2, m3, m4⟩, h5, h6⟩ := h2
          obtain ⟨o, ho⟩ := h6.there
          exact ⟨p, e, ⟨(f.gz p (by rw [ho]; simp)).trans m1, m2, m3, m4⟩, h5, h6.mono f.ex ((f.hh p o m3 (fun z => (hn p d z).1 q (by rw [h1, e])) (I.bag.not h6.flat) ho).trans ho.symm)⟩
      · obtain ⟨p, _, z1, z2⟩ := z
        exact ⟨_, z1, z2⟩
  cases r with
  | no => exact h.elim
  | val d => exact ⟨W, J, h⟩
  | bag => exact ⟨W, J, h⟩
  | pk j => exact h.elim
  | bor j => exact h.elim
  | own d =>
    obtain ⟨p, e, np, gp, ht⟩ := h
    have m := I.fresh np
    refine ⟨fun a => if a = p then none else W a, J.disown fun i d' q hi hw _ hs' => ?_, p, e, ⟨gp, m.2.1, m.2.2.1, m.2.2.2⟩, if_pos rfl, ht⟩
    rcases hs i (by rw [hi]; simp) with ⟨ei, hn⟩ | ⟨p', hp', h1, h2⟩
    · rw [ei] at hi
      obtain ⟨v', h1, h2⟩ := I.sl i (by rw [hi]; simp)
      rw [hs'] at h1; cases h1
      rw [hi] at h2
      obtain ⟨a, e', _, _, h7⟩ := h2
      cases e'
      exact h7.at_ne np
    · rw [hs'] at h1
      cases h1
      rintro rfl
      exact (hm _ hp').1 np
theorem SI.called (I : SI K C σ H G W δ) (f : Fin C.bo none G H G' H') {v : V} {r : R} (h : RFin K C.bo H G' H' v r) : ∃ W', SI K C σ H' G' W' δ ∧ ROk K C σ H' G' W' none v r :=
  I.calledB f (fun p z => by cases z) (fun p z => by cases z) (fun p z => by cases z) (Nat.le_refl _) (fun i hi => .inl ⟨rfl, fun p d z => by cases z⟩) h
theorem fn_d {x qual : Str} {sm : Stmt} {f : Addr} {fd : FuncData} {N ps : List Str} {k : Nat} {S : DSp} (F : Fun K x qual sm f fd) (Sc : FnScope N ps (defScope sm)) (hl : ∀ rs P Xc, S rs P Xc → rs.length = ps.length) (hN : ps.length ≤ N.length)
    (hbody : ∀ (cdv : Value) (A : Around) (outer : List Env) (s : Shared) (H : Hp) (E : XK), Room k (A.deeper (PyProof.Rows.envOfC qual (defScope sm) s.heap.objs.size f cdv)) →
      ∃ ds, PSs (cxOf CX0 P w K mg base N qual (defScope sm) f cdv A outer s H E).nox (defBody sm) (liftS K L0 ds) ∧ ∀ rs P Xc, S rs P Xc → ds (endD P) (startD N rs)) : FnOk P w K mg base CX0 (k + 1) f fd ps (spOf K S) := by
  refine F.ok Sc (fun vs H Q E h => ?_) (fun cdv A outer s H vs Q E hr h => ?_)
  · obtain ⟨bo, mo, G, rs, P, Xc, _, _, _, ha, hs, _⟩ := h
    rw [ha.1]; exact hl rs P Xc hs
  · obtain ⟨bo, mo, G, rs, P, Xc, hg, hb, hm, ha, hs, hq, hx⟩ := h
    obtain ⟨ds, hd, hk⟩ := hbody cdv A outer s H E hr
    refine ⟨_, hd, ⟨bo, mo, H, G, fun _ => none, false⟩, G, fun _ => none, startD N rs, _, SI.start (by rw [ha.1, hl rs P Xc hs]; exact hN) hg hb hm ha, Lnk.zero, hk rs P Xc hs, ?_⟩
    refine ⟨fun σ' H' G' W' δ' x I hp => ?_, fun v σ' H' G' W' δ' r x I o fi hp => ?_, fun _ _ _ _ _ _ _ hp => hp, fun _ _ _ _ _ _ _ hp => hp⟩
    · rcases hp with hp | hp
      · exact hq _ _ _ G' H' hp (I.fin I.b0) Den.non (fun _ z => by cases z)
      · exact hq _ _ _ G' H' hp (I.fin I.b0) Den.non (I.mfin rfl)
    · rcases hp with hp | hp
      · exact hq _ _ v G' H' hp (I.fin I.b0) (ROk.fin o fi) (fun _ z => by cases z)
      · exact hq _ _ v G' H' hp (I.fin I.b0) (ROk.fin o fi) (I.mfin rfl)
end
def dCall (S : DSp) (da : DA) : DE := fun δ P => da δ fun rs δ1 => ∃ rs' δ2, useAll rs δ1 = some (rs', δ2) ∧ S rs' (fun r _ => P r δ2) (fun _ _ => False)
section
variable {X : Cx} {L : Lk} {k : Nat} {f : Addr} {fd : FuncData} {ps : List Str} {S : DSp} {x : Str} {p pos : Pos} {e : Expr} {es : List Expr} {da : DA}
theorem aok_of {K : PySem.W.Frag} {C : Ct} {σ : St} {H G : Hp} {W : Ow} {rs' : List R} {rs : List R} {δ δ' : List R} {vs : List V} (o : All2 (fun v r => ROk K C σ H G W none v r ∧ r.pub = r) vs rs') (nk : ∀ r ∈ rs', r.on = true ∧ ∀ j, r ≠ .pk j) : All2 (AOk K C.bo none G H) vs rs' := by
  refine ⟨o.1, fun i v r hv hr => ?_⟩
  obtain ⟨h1, h2⟩ := o.2 i v r hv hr
  obtain ⟨n1, n2⟩ := nk r (List.mem_of_getElem? hr)
  cases r with
  | no => cases n1
  | val d => exact h1
  | bag => exact h1
  | own d => cases h2
  | pk j => exact absurd rfl (n2 j)
  | bor d => exact absurd rfl h1.1
theorem use_on {r r' : R} {δ δ' : List R} (e : use r δ = some (r', δ')) : r'.on = true := by
  cases r with
  | no => cases e
  | val d => cases e; rfl
  | bag => cases e; rfl
  | own d => cases e; rfl
  | bor d => cases e
  | pk i =>
    have e : usePk (gt δ i) i δ = some (r', δ') := e
    cases q : gt δ i <;> rw [q] at e <;> first | (cases e; rfl) | cases e
theorem useAll_on : ∀ {rs rs' δ δ' : List R}, useAll rs δ = some (rs', δ') → ∀ r ∈ rs', r.on = true ∧ ∀ j, r ≠ .pk j
  | [], rs', δ, δ', e, r, h => by cases e; cases h
  | a :: rs, rs', δ, δ', e, r, h => by
    unfold useAll at e
    cases q : use a δ with
    | none => rw [q] at e; cases e
    | some p =>
      obtain ⟨r1, δ1⟩ := p
      rw [q] at e
      simp only at e
      cases q2 : useAll rs δ1 with
      | none => rw [q2] at e; cases e
      | some p =>
        obtain ⟨rs2, δ2⟩ := p
        rw [q2] at e; cases e
        rcases List.mem_cons.mp h with z | z
        · subst z; exact ⟨use_on q, use_nk q⟩
        · exact useAll_on q2 r z
theorem lift_call {K : PySem.W.Frag} : ∀ σ H Q, lift K L (dCall S da) σ H Q → tCall (spOf K S) [] E0 (liftA K L da) σ H Q :=
  lift_of fun C σ H G W δ P Q I lk h k => ⟨C, G, W, δ, _, I, lk, h, fun rs δ1 vs H1 G1 W1 h1 x1 I1 o1 => by
    obtain ⟨rs', δ2, e, hs⟩ := h1
    obtain ⟨G2, x2, I2, o2⟩ := I1.useAllOk o1 e
    rw [List.append_nil]
    refine ⟨C.bo, none, G2, rs', _, _, I2.gh, I2.bag.here, (fun p z => by cases z), aok_of (rs := rs) (δ := δ1) (δ' := δ2) o2 (useAll_on e), hs, fun r m v G' H' hp hf ho _ => ?_, fun c fs d fvs G' H' hx => hx.elim⟩
    obtain ⟨W', I3, o3⟩ := I2.called hf ho
    exact k r δ2 v H' G' W' hp ((x1.trans x2).trans hf.ex) I3 o3⟩
theorem de_call (F : FnOk X.prog X.w X.K X.mg X.base CX0 k f fd ps (spOf X.K S)) (hr : Room k X.A) (hg : Gl X x) (hm : X.mg x = some (.ref f)) (hk : PySem.W.keepIn X.K (.ref f) = true) (hb : Binds X.K fd ps [])
    (ha : PA X (e :: es) (liftA X.K L da)) (hdb : (x == ("__debug__" : Str)) = false := by decide) (he : starEach (e :: es) X.env = (false, eval e X.env) :: starEach es X.env := by rfl) (hpl : (backTo pos (starEach es X.env)).any (·.1) = false := by rfl) :
    PE X (.Call (.Name x p) (e :: es) [] pos) (lift X.K L (dCall S da)) := PE.weak (pe_call F hr hg hm hk hb .nil pass0 ha hdb he hpl) lift_call
theorem de_call0 (F : FnOk X.prog X.w X.K X.mg X.base CX0 k f fd ps (spOf X.K S)) (hr : Room k X.A) (hg : Gl X x) (hm : X.mg x = some (.ref f)) (hk : PySem.W.keepIn X.K (.ref f) = true) (hb : Binds X.K fd ps [])
    (hdb : (x == ("__debug__" : Str)) = false := by decide) : PE X (.Call (.Name x p) [] [] pos) (lift X.K L (dCall S dNil)) := PE.weak (pe_call0 F hr hg hm hk hb .nil pass0 hdb) fun σ H Q h => by
      have := lift_call σ H Q h
      obtain ⟨C, G, W, δ, P, I, lk, hd, kk⟩ := this
      exact kk [] δ [] H G W hd (Ex.refl G) I .nil
theorem de_lc {elt tg iter : Expr} {ifs : List Expr} {scope : Scope} {own : List (Str × Nat)} {di : DI} {g : DG} {tgt : TG} {dt : DT} {de : DE} {vs : List Nat} (hc : X.calm = true) (hN : X.N.Nodup) (hi : PI X tg iter (liftI X.K L di)) (ok : BlkOk X.N X.env.scope scope own)
    (gok : GOk g tgt X.K vs) (hv : own.map (·.2) = vs)
    (hg : ∀ (s : Shared) (H : Hp) (C : Addr) (cl : List (Str × Addr)) (fp : List Addr), PG (X.blk s H scope (compEnvC scope cl C X.env) fp) tg tgt) (ht : ∀ (s : Shared) (H : Hp) (C : Addr) (cl : List (Str × Addr)) (fp : List Addr), PTs (X.blk s H scope (compEnvC scope cl C X.env) fp) ifs (liftT X.K L0 dt))
    (he : ∀ (s : Shared) (H : Hp) (C : Addr) (cl : List (Str × Addr)) (fp : List Addr), PE (X.blk s H scope (compEnvC scope cl C X.env) fp) elt (lift X.K L0 de)) (hs : ∀ x, foldedSetIterable iter X.env x = pure x := by intro _; rfl) :
    PE X (.ListComp elt [⟨tg, iter, ifs, 0⟩] scope pos) (lift X.K L (dComp di g dt de vs)) := by
  have h := pe_lc (pos := pos) (own := own) hc hN hi ok hg ht he hs
  rw [hv] at h
  exact PE.weak h (lift_lc gok)
theorem ds_setLc {i : Nat} {y : Str} {py spos : Pos} {elt tg iter : Expr} {ifs : List Expr} {scope : Scope} {own : List (Str × Nat)} {di : DI} {g : DG} {tgt : TG} {dt : DT} {de : DE} {vs : List Nat} (hc : X.calm = true) (hN : X.N.Nodup)
    (hsw : swapsWith (.ListComp elt [⟨tg, iter, ifs, 0⟩] scope pos) (some (.Name y py)) spos.line X.env = pure true) (hi : PI X tg iter (liftI X.K L di)) (ok : BlkOk X.N X.env.scope scope own)
    (gok : GOk g tgt X.K vs) (hv : own.map (·.2) = vs)
    (hg : ∀ (s : Shared) (H : Hp) (C : Addr) (cl : List (Str × Addr)) (fp : List Addr), PG (X.blk s H scope (compEnvC scope cl C X.env) fp) tg tgt) (ht : ∀ (s : Shared) (H : Hp) (C : Addr) (cl : List (Str × Addr)) (fp : List Addr), PTs (X.blk s H scope (compEnvC scope cl C X.env) fp) ifs (liftT X.K L0 dt))
    (he : ∀ (s : Shared) (H : Hp) (C : Addr) (cl : List (Str × Addr)) (fp : List Addr), PE (X.blk s H scope (compEnvC scope cl C X.env) fp) elt (lift X.K L0 de)) (hy : X.N[i]? = some y := by rfl) (hyl : X.env.scope.names.lookup y = some .local := by rfl) (hs : ∀ x, foldedSetIterable iter X.env x = pure x := by intro _; rfl) :
    PS X (.Assign [.Name y py] (.ListComp elt [⟨tg, iter, ifs, 0⟩] scope pos) spos) (liftS X.K L (dSet i (dComp di g dt de vs))) := by
  have h := ps_setLc (i := i) (own := own) hc hN hy hyl hsw hi ok hg ht he hs
  rw [hv] at h
  refine PS.weak h <| liftS_of fun C D σ H G W δ DD I lk h k => ?_
  refine lift_lc gok σ H _ ⟨C, G, W, δ, _, I, lk, h, fun r δ1 v H1 G1 W1 h1 x1 I1 o1 => ?_⟩
  obtain ⟨r', δ2, e, hp⟩ := h1
  obtain ⟨G2, x2, I2, o2, nk⟩ := I1.asOk o1 e
  obtain ⟨W3, I3⟩ := I2.store (i := i) o2 nk
  exact k.nx _ H1 G2 W3 _ (x1.trans x2) I3 hp
theorem dts_nil : PTs X [] (liftT X.K L dYes) := ⟨fun pins s σ H Q I h => pts_nil.run pins s σ H Q I (by
  obtain ⟨C, G, W, δ, P, J, lk, hd, k⟩ := h
  exact k true δ H G W hd (Ex.refl G) J)⟩
theorem dts_one {c : Expr} {dt : DT} (h : PT X c (liftT X.K L dt)) : PTs X [c] (liftT X.K L dt) := pts_one h
end
end DL
namespace DL
open PySem PySem.Spec L2
variable [TabsC]
section
variable {X : Cx} {K : PySem.W.Frag} {L : Lk} {r r' : R2} {a b e : Expr} {da db de : DE} {pos : Pos}
theorem OpR.or {f : Value → Value → Sem Value} (h : OpR X f r) (h' : OpR X f r') : OpR X f (fun x y H Q => r x y H Q ∨ r' x y H Q) := fun pins s σ H x y v u Q I rx ry q => by
  rcases q with q | q
  · exact h pins s σ H x y v u Q I rx ry q
  · exact h' pins s σ H x y v u Q I rx ry q
def gI (c : Int → Int → Prop) (f : Int → Int → D) : D → D → (R → Prop) → Prop
  | .int i, .int j, P => c i j ∧ P (.val (f i j))
  | _, _, _ => False
theorem two_ints {d1 d2 : D} {c : Int → Int → Prop} {f : Int → Int → D} {P : R → Prop} (h : gI c f d1 d2 P) : ∃ i j, d1 = .int i ∧ d2 = .int j ∧ c i j ∧ P (.val (f i j)) := by
  cases d1 with
  | int i => cases d2 with
    | int j => exact ⟨i, j, rfl, rfl, h.1, h.2⟩
    | _ => exact h.elim
  | _ => cases d2 <;> exact h.elim
theorem os_I {c : Int → Int → Prop} {f : Int → Int → Int} : OpSem K (rI c fun i j => .int (f i j)) (gI c fun i j => .int (f i j)) := fun C σ H G W δ x y d1 d2 P Q I h1 h2 hg k => by
  obtain ⟨i, j, rfl, rfl, hc, hp⟩ := two_ints hg
  exact ⟨i, j, h1.of_int, h2.of_int, hc, k _ _ H G W hp (Ex.refl G) I (Den.int _)⟩
theorem os_I0 {f : Int → Int → Int} : OpSem K (rI0 fun i j => .int (f i j)) (gI (fun _ _ => True) fun i j => .int (f i j)) := fun C σ H G W δ x y d1 d2 P Q I h1 h2 hg k => by
  obtain ⟨i, j, rfl, rfl, hc, hp⟩ := two_ints hg
  exact ⟨i, j, h1.of_int, h2.of_int, k _ _ H G W hp (Ex.refl G) I (Den.int _)⟩
abbrev gMinus := gI (fun _ _ => True) fun i j => .int (i - j)
abbrev gMod := gI (fun _ j => j ≠ 0) fun i j => .int (i.fmod j)
abbrev gPow := gI CPow fun i j => .int (i ^ j.toNat)
def CDivA (i j : Int) : Prop := j ≠ 0 ∧ j.natAbs.log2 < 9000
theorem op_fdivA : OpR X (binaryOp .FloorDiv) (rI CDivA fun i j => .int (i.fdiv j)) := opI fun _ _ _ _ _ _ _ hc q => PyProof.Rows.floordiv_int hc.1 q (.inl (PyProof.noPylong_of_log2 hc.2))
abbrev gFdivA := gI CDivA fun i j => .int (i.fdiv j)
def rCatF (K : PySem.W.Frag) : R2 := fun x y H Q => ∃ a b xs ys, x = .ref a ∧ y = .ref b ∧ SqT K H a xs ∧ SqT K H b ys ∧ xs.length + ys.length ≤ sizeLine ∧
  (xs = [] → Q (.ref b) H) ∧ (xs ≠ [] → ys = [] → Q (.ref a) H) ∧ (xs ≠ [] → ys ≠ [] → ∀ p its, H p = none → Q (.ref p) (upd H p (.frz (tupObj its) (.tup (xs ++ ys)))))
theorem op_catF : OpR X (binaryOp .Add) (rCatF X.K) := fun pins s σ H x y v u Q I rx ry h => by
  obtain ⟨a, b, xs, ys, rfl, rfl, ha, hb, l, q0, q1, q2⟩ := h
  by_cases hx : xs = []
  · exact op_catA pins s σ H _ _ v u Q I rx ry ⟨a, b, xs, ys, rfl, rfl, ha, hb, l, q0, fun z => absurd hx z, fun z => absurd hx z⟩
  · cases rx
    cases ry
    obtain ⟨vs, rv, tv, _⟩ := I.tuple ha
    obtain ⟨ws, rw', tw, _⟩ := I.tuple hb
    refine HT.cat_tup tv tw (fun z => hx (rv.nil_iff.mp z)) (fun z => ⟨.ref a, H, I, rfl, q1 hx (rw'.nil_iff.mp z)⟩) (fun z => ?_) (by rw [← rv.length, ← rw'.length]; exact l)
    exact ⟨.ref s.heap.objs.size, _, layTup I (rv.append rw') (by rw [List.length_append]; exact l) s.toks, rfl, q2 hx (fun e => z (rw'.nil_iff.mpr e)) _ _ (I.hok.fresh (Nat.le_refl _))⟩
def gAdd : D → D → (R → Prop) → Prop
  | .int i, .int j, P => P (.val (.int (i + j)))
  | .str x, .str y, P => x.length + y.length ≤ sizeLine ∧ P (.val (.str (x ++ y)))
  | .lst x, .lst y, P => x.length + y.length ≤ sizeLine ∧ P (.own (.lst (x ++ y)))
  | .tup x, .tup y, P => x.length + y.length ≤ sizeLine ∧ P (.val (.tup (x ++ y)))
  | _, _, _ => False
def rAddA (K : PySem.W.Frag) : R2 := fun x y H Q => rI0 (fun i j => .int (i + j)) x y H Q ∨ (∃ i j, x = .str i ∧ y = .str j ∧ i.length + j.length ≤ sizeLine ∧ Q (.str (i ++ j)) H) ∨ rCat x y H Q ∨ rCatF K x y H Q
theorem op_addA : OpR X (binaryOp .Add) (rAddA X.K) := OpR.or op_add (OpR.or op_add_str (OpR.or op_cat op_catF))
theorem os_add : OpSem K (rAddA K) gAdd := fun C σ H G W δ x y d1 d2 P Q I h1 h2 hg k => by
  cases d1 with
  | int i => cases d2 with
    | int j => exact .inl ⟨i, j, h1.of_int, h2.of_int, k _ _ H G W hg (Ex.refl G) I (Den.int _)⟩
    | _ => exact hg.elim
  | str i => cases d2 with
    | str j => exact .inr (.inl ⟨i, j, h1.of_str, h2.of_str, hg.1, k _ _ H G W hg.2 (Ex.refl G) I (Den.str _)⟩)
    | _ => exact hg.elim
  | lst xs => cases d2 with
    | lst ys =>
      obtain ⟨p, vs, rfl, hp, dp⟩ := h1.of_lst
      obtain ⟨q, us, rfl, hq, dq⟩ := h2.of_lst
      refine .inr (.inr (.inl ⟨p, q, vs, us, rfl, rfl, I.gh _ _ hp, I.gh _ _ hq, by rw [dp.1, dq.1]; exact hg.1, fun t ht => ?_⟩))
      obtain ⟨I', o⟩ := I.newLst ht (dp.append dq)
      exact k _ _ _ _ _ hg.2 (Ex.refl G) I' o
    | _ => exact hg.elim
  | tup xs => cases d2 with
    | tup ys =>
      obtain ⟨p, vs, rfl, hp, dp⟩ := h1.of_tup
      obtain ⟨q, us, rfl, hq, dq⟩ := h2.of_tup
      refine .inr (.inr (.inr ⟨p, q, vs, us, rfl, rfl, ex_t I.gh hp, ex_t I.gh hq, by rw [dp.1, dq.1]; exact hg.1, ?_⟩))
      refine ⟨fun e => ?_, fun ne e => ?_, fun ne ne' t its ht => ?_⟩
      · subst e
        have e : xs = [] := dp.nil_left
        subst e
        exact k _ _ H G W hg.2 (Ex.refl G) I h2
      · subst e
        have e : ys = [] := dq.nil_left
        subst e
        have hp := hg.2
        rw [List.append_nil] at hp
        exact k _ _ H G W hp (Ex.refl G) I h1
      · obtain ⟨I', o⟩ := I.newTup (its := its) ht (dp.append dq)
        exact k _ _ _ _ _ hg.2 (Ex.new (I.fresh ht).1) I' o
    | _ => exact hg.elim
  | _ => cases d2 <;> exact hg.elim
def CMulA (i j : Int) : Prop := CMul i j ∨ CMulW i j
def gMul : D → D → (R → Prop) → Prop
  | .int i, .int j, P => CMulA i j ∧ P (.val (.int (i * j)))
  | .lst x, .int k, P => (-(2 ^ 63) ≤ k ∧ k < 2 ^ 63) ∧ x.length * k.toNat ≤ sizeLine ∧ P (.own (.lst (List.replicate k.toNat x).flatten))
  | _, _, _ => False
def rMulA : R2 := fun x y H Q => rI CMulA (fun i j => .int (i * j)) x y H Q ∨ rRep x y H Q
theorem op_mulA : OpR X (binaryOp .Mult) rMulA := by
  refine OpR.or (fun pins s σ H x y v u Q I rx ry h => ?_) op_rep
  obtain ⟨i, j, hx, hy, hc, q⟩ := h
  rcases hc with hc | hc
  · exact op_mul pins s σ H x y v u Q I rx ry ⟨i, j, hx, hy, hc, q⟩
  · exact op_mulW pins s σ H x y v u Q I rx ry ⟨i, j, hx, hy, hc, q⟩
theorem all2_flat {F : V → D → Prop} {vs : List V} {ds : List D} (h : All2 F vs ds) : ∀ n : Nat, All2 F (List.replicate n vs).flatten (List.replicate n ds).flatten
  | 0 => by simp; exact .nil
  | n + 1 => by
    rw [List.replicate_succ, List.replicate_succ, List.flatten_cons, List.flatten_cons]
    exact h.append (all2_flat h n)
theorem os_mul : OpSem K rMulA gMul := fun C σ H G W δ x y d1 d2 P Q I h1 h2 hg k => by
  cases d1 with
  | int i => cases d2 with
    | int j => exact .inl ⟨i, j, h1.of_int, h2.of_int, hg.1, k _ _ H G W hg.2 (Ex.refl G) I (Den.int _)⟩
    | _ => exact hg.elim
  | lst xs => cases d2 with
    | int n =>
      obtain ⟨p, vs, rfl, hp, dp⟩ := h1.of_lst
      obtain ⟨⟨g1, g2⟩, g3, g4⟩ := hg
      refine .inr ⟨p, n, vs, rfl, h2.of_int, I.gh _ _ hp, g1, g2, by rw [dp.1]; exact g3, fun t ht => ?_⟩
      obtain ⟨I', o⟩ := I.newLst ht (all2_flat dp n.toNat)
      exact k _ _ _ _ _ g4 (Ex.refl G) I' o
    | _ => exact hg.elim
  | _ => cases d2 <;> exact hg.elim
def dNeg (da : DE) : DE := fun δ P => da δ fun r δ1 => ∃ i, peek r δ1 = some (.int i) ∧ P (.val (.int (-i))) δ1
theorem de_neg (ha : PE X a (lift X.K L da)) : PE X (.UnaryOp .USub a pos) (lift X.K L (dNeg da)) :=
  PE.weak (pe_un un_neg ha) <| lift_of fun C σ H G W δ P Q I lk h k => ⟨C, G, W, δ, _, I, lk, h, fun r δ1 v H1 G1 W1 h1 x1 I1 o1 => by
    obtain ⟨i, e, hp⟩ := h1
    exact ⟨i, ((I1.peekOk o1 e).den I1.gh).of_int, k _ δ1 _ H1 G1 W1 hp x1 I1 (Den.int _)⟩⟩
def cI (f : Int → Int → Bool) : D → D → Bool → Prop
  | .int i, .int j, b => b = f i j
  | _, _, _ => False
theorem cs_I {f : Int → Int → Bool} : CmpSem K (rI0 fun i j => .bl (f i j)) (cI f) := fun H x y d1 d2 b Q h1 h2 hc q => by
  cases d1 with
  | int i => cases d2 with
    | int j => have hc : b = f i j := hc; subst hc; exact ⟨i, j, h1.of_int, h2.of_int, q⟩
    | _ => exact hc.elim
  | _ => cases d2 <;> exact hc.elim
end
end DL
namespace DL
open PySem PySem.Spec L2
variable [TabsC]
mutual
def D.py : D → PyData
  | .non => .none
  | .bl b => .bool b
  | .int i => .int i
  | .str x => .str x
  | .lst xs => .list (D.pys xs)
  | .tup xs => .tuple (D.pys xs)
  | .dic _ => .none
  | .ins _ _ => .none
  | .ty _ => .none
  | .exc _ _ _ => .none
  | .dct _ _ => .none
  | .dcm _ _ => .none
  | .obx _ _ => .none
def D.pys : List D → List PyData
  | [] => []
  | d :: ds => D.py d :: D.pys ds
end
def D.Ok : Nat → D → Prop
  | _, .non => True
  | _, .bl _ => True
  | _, .int _ => True
  | _, .str x => PyData.strOk x = true
  | n + 1, .lst xs => ∀ d ∈ xs, D.Ok n d
  | n + 1, .tup xs => ∀ d ∈ xs, D.Ok n d
  | _, _ => False
theorem pys_map : ∀ ds : List D, D.pys ds = ds.map D.py
  | [] => rfl
  | d :: ds => by rw [List.map_cons, ← pys_map ds]; rfl
section
variable {K : PySem.W.Frag} {H : Hp}
theorem dpAll_of : ∀ {vs : List V} {ds : List D}, vs.length = ds.length → (∀ (i : Nat) v d, vs[i]? = some v → ds[i]? = some d → Dp K H v d.py) → DpAll K H vs (D.pys ds)
  | [], [], _, _ => .nil
  | [], _ :: _, h, _ => by simp at h
  | _ :: _, [], h, _ => by simp at h
  | v :: vs, d :: ds, h, f => .cons (f 0 v d rfl rfl) (dpAll_of (by simpa using h) fun i a b ha hb => f (i + 1) a b (by simpa using ha) (by simpa using hb))
theorem Den.dp : ∀ {n : Nat} {v : V} {d : D}, Den K H v d → d.Ok n → Dp K H v d.py
  | _, _, _, .non, _ => .non
  | _, _, _, .bl b, _ => .bl b
  | _, _, _, .int i, _ => .int i
  | _, _, _, .str x, _ => .str x
  | _, _, _, .ty n, h => by unfold D.Ok at h; exact h.elim
  | 0, _, _, .lst h l e, o => o.elim
  | n + 1, _, _, .lst h l e, o => .lst (.of h) (dpAll_of l fun i v d hv hd => Den.dp (e i v d hv hd) (o d (List.mem_of_getElem? hd)))
  | 0, _, _, .tup h l e, o => o.elim
  | n + 1, _, _, .tup h l e, o => .tup h.sq (dpAll_of l fun i v d hv hd => Den.dp (e i v d hv hd) (o d (List.mem_of_getElem? hd)))
  | _, _, _, .dic h l k e, o => by unfold D.Ok at o; exact o.elim
  | _, _, _, .ins h l k e, o => by unfold D.Ok at o; exact o.elim
  | _, _, _, .exc h l k e, o => by unfold D.Ok at o; exact o.elim
  | _, _, _, .dct h l k n e, o => by unfold D.Ok at o; exact o.elim
  | _, _, _, .dcm h l k n e, o => by unfold D.Ok at o; exact o.elim
  | _, _, _, .obx h e, o => by unfold D.Ok at o; exact o.elim
end
theorem canLayAll_of : ∀ ds : List PyData, (∀ d ∈ ds, d.canLay0 = true) → PyData.canLayAll0 ds = true
  | [], _ => by simp only [PyData.canLayAll0]
  | d :: ds, h => by
    simp only [PyData.canLayAll0, Bool.and_eq_true]
    exact ⟨h d (List.mem_cons_self ..), canLayAll_of ds fun e he => h e (List.mem_cons_of_mem _ he)⟩
theorem depthAll_of {n : Nat} : ∀ ds : List PyData, (∀ d ∈ ds, d.depth ≤ n) → PyData.depthAll ds ≤ n
  | [], _ => by simp only [PyData.depthAll]; exact Nat.zero_le _
  | d :: ds, h => by
    simp only [PyData.depthAll]
    have h1 := h d (List.mem_cons_self ..)
    have h2 := depthAll_of ds fun e he => h e (List.mem_cons_of_mem _ he)
    omega
theorem Ok_lay : ∀ {n : Nat} {d : D}, d.Ok n → d.py.canLay0 = true ∧ d.py.depth ≤ n
  | n, .non, _ => by simp [D.py, PyData.canLay0, PyData.depth]
  | n, .bl b, _ => by simp [D.py, PyData.canLay0, PyData.depth]
  | n, .int i, _ => by simp [D.py, PyData.canLay0, PyData.depth]
  | n, .str x, h => by
    have h : PyData.strOk x = true := by unfold D.Ok at h; exact h
    simp [D.py, PyData.canLay0, PyData.depth, h]
  | 0, .lst xs, h => h.elim
  | 0, .tup xs, h => h.elim
  | n + 1, .lst xs, h => by
    have h : ∀ d ∈ xs, D.Ok n d := h
    have a : ∀ e ∈ D.pys xs, e.canLay0 = true ∧ e.depth ≤ n := fun e he => by
      rw [pys_map] at he
      obtain ⟨d, hd, rfl⟩ := List.mem_map.mp he
      exact Ok_lay (h d hd)
    simp only [D.py, PyData.canLay0, PyData.depth]
    have := depthAll_of (n := n) (D.pys xs) fun e he => (a e he).2
    exact ⟨canLayAll_of _ fun e he => (a e he).1, by omega⟩
  | n + 1, .tup xs, h => by
    have h : ∀ d ∈ xs, D.Ok n d := h
    have a : ∀ e ∈ D.pys xs, e.canLay0 = true ∧ e.depth ≤ n := fun e he => by
      rw [pys_map] at he
      obtain ⟨d, hd, rfl⟩ := List.mem_map.mp he
      exact Ok_lay (h d hd)
    simp only [D.py, PyData.canLay0, PyData.depth]
    have := depthAll_of (n := n) (D.pys xs) fun e he => (a e he).2
    exact ⟨canLayAll_of _ fun e he => (a e he).1, by omega⟩
  | 0, .dic _, h => h.elim
  | 0, .ins _ _, h => h.elim
  | 0, .ty _, h => h.elim
  | 0, .exc _ _ _, h => h.elim
  | 0, .dct _ _, h => h.elim
  | 0, .dcm _ _, h => h.elim
  | 0, .obx _ _, h => h.elim
  | n + 1, .dic _, h => h.elim
  | n + 1, .ins _ _, h => h.elim
  | n + 1, .ty _, h => h.elim
  | n + 1, .exc _ _ _, h => h.elim
  | n + 1, .dct _ _, h => h.elim
  | n + 1, .dcm _ _, h => h.elim
  | n + 1, .obx _ _, h => h.elim
theorem Ok_shaped {n : Nat} {d : D} (h : d.Ok n) (hn : n ≤ 64) : SeqAt.shaped d.py = true := by
  obtain ⟨a, b⟩ := Ok_lay h
  unfold SeqAt.shaped
  rw [a, decide_eq_true (Nat.le_trans b hn)]; rfl
def eqAll (f : D → D → Bool) : List D → List D → Bool
  | [], [] => true
  | x :: xs, y :: ys => f x y && eqAll f xs ys
  | _, _ => false
def eqD : Nat → D → D → Bool
  | _, .non, .non => true
  | _, .bl a, .bl b => a == b
  | _, .bl a, .int j => (if a then 1 else 0) == j
  | _, .int i, .bl b => i == (if b then 1 else 0)
  | _, .int i, .int j => i == j
  | _, .str x, .str y => x == y
  | n + 1, .lst xs, .lst ys => eqAll (eqD n) xs ys
  | n + 1, .tup xs, .tup ys => eqAll (eqD n) xs ys
  | _, _, _ => false
theorem eqvAll_eq {n : Nat} : ∀ (xs ys : List D), (∀ x ∈ xs, ∀ y ∈ ys, PyData.eqv x.py y.py = eqD n x y) → PyData.eqvAll (D.pys xs) (D.pys ys) = eqAll (eqD n) xs ys
  | [], [], _ => by simp [D.pys, PyData.eqvAll, eqAll]
  | [], _ :: _, _ => by simp [D.pys, PyData.eqvAll, eqAll]
  | _ :: _, [], _ => by simp [D.pys, PyData.eqvAll, eqAll]
  | x :: xs, y :: ys, h => by
    simp only [D.pys, PyData.eqvAll, eqAll]
    rw [h x (List.mem_cons_self ..) y (List.mem_cons_self ..), eqvAll_eq xs ys fun a ha b hb => h a (List.mem_cons_of_mem _ ha) b (List.mem_cons_of_mem _ hb)]
theorem eqv_eq : ∀ {n : Nat} {d e : D}, d.Ok n → e.Ok n → PyData.eqv d.py e.py = eqD n d e := by
  intro n
  induction n with
  | zero =>
    intro d e hd he
    cases d <;> first | exact hd.elim | (cases e <;> first | exact he.elim | simp [D.py, PyData.eqv, eqD])
  | succ n ih =>
    intro d e hd he
    cases d with
    | dic => exact hd.elim
    | ins => exact hd.elim
    | ty => exact hd.elim
    | exc => exact hd.elim
    | dct => exact hd.elim
    | dcm => exact hd.elim
    | obx => exact hd.elim
    | lst xs => cases e with
      | lst ys =>
        simp only [D.py, PyData.eqv, eqD]
        exact eqvAll_eq xs ys fun x hx y hy => ih (hd x hx) (he y hy)
      | _ => first | exact he.elim | simp [D.py, PyData.eqv, eqD]
    | tup xs => cases e with
      | tup ys =>
        simp only [D.py, PyData.eqv, eqD]
        exact eqvAll_eq xs ys fun x hx y hy => ih (hd x hx) (he y hy)
      | _ => first | exact he.elim | simp [D.py, PyData.eqv, eqD]
    | _ => cases e <;> first | exact he.elim | simp [D.py, PyData.eqv, eqD]
theorem eqAll_refl {n : Nat} : ∀ (xs : List D), (∀ x ∈ xs, eqD n x x = true) → eqAll (eqD n) xs xs = true
  | [], _ => rfl
  | x :: xs, h => by
    simp only [eqAll, Bool.and_eq_true]
    exact ⟨h x (List.mem_cons_self ..), eqAll_refl xs fun y hy => h y (List.mem_cons_of_mem _ hy)⟩
theorem eqD_refl : ∀ {n : Nat} {d : D}, d.Ok n → eqD n d d = true := by
  intro n
  induction n with
  | zero => intro d h; cases d <;> first | exact h.elim | simp [eqD]
  | succ n ih =>
    intro d h
    cases d with
    | lst xs => simp only [eqD]; exact eqAll_refl xs fun x hx => ih (h x hx)
    | tup xs => simp only [eqD]; exact eqAll_refl xs fun x hx => ih (h x hx)
    | dic => exact h.elim
    | ins => exact h.elim
    | ty => exact h.elim
    | exc => exact h.elim
    | dct => exact h.elim
    | dcm => exact h.elim
    | obx => exact h.elim
    | _ => simp [eqD]
def cEq (ne : Bool) : D → D → Bool → Prop := fun d e b => d.Ok 60 ∧ e.Ok 60 ∧ b = (if ne then !eqD 60 d e else eqD 60 d e)
section
variable {X : Cx} {K : PySem.W.Frag} {L : Lk} {a b e : Expr} {es : List Expr} {da db de : DE} {pos : Pos}
theorem cs_eq : CmpSem K (rEqD K) (cEq false) := fun H x y d1 d2 b Q h1 h2 hc q => by
  obtain ⟨o1, o2, rfl⟩ := hc
  exact ⟨d1.py, d2.py, h1.dp o1, h2.dp o2, Ok_shaped o1 (by decide), Ok_shaped o2 (by decide), by rw [eqv_eq o1 o2]; exact q⟩
theorem cs_ne : CmpSem K (rNeD K) (cEq true) := fun H x y d1 d2 b Q h1 h2 hc q => by
  obtain ⟨o1, o2, rfl⟩ := hc
  exact ⟨d1.py, d2.py, h1.dp o1, h2.dp o2, Ok_shaped o1 (by decide), Ok_shaped o2 (by decide), by rw [eqv_eq o1 o2]; exact q⟩
def rSlF (K : PySem.W.Frag) : V → Option Int → Option Int → Hp → VK → Prop := fun x lo hi H Q => ∃ a xs, x = .ref a ∧ SqT K H a xs ∧
  (HT.sIx xs.length 0 lo = 0 ∧ HT.sIx xs.length xs.length hi = xs.length → Q (.ref a) H) ∧ (¬ (HT.sIx xs.length 0 lo = 0 ∧ HT.sIx xs.length xs.length hi = xs.length) → ∀ p its, H p = none → Q (.ref p) (upd H p (.frz (tupObj its) (.tup (cutV xs lo hi)))))
theorem sl_tupF : SlR X (rSlF X.K) := fun pins s σ H x v vl vu lo hi sl Q I rx hs pl pu h => by
  obtain ⟨a, xs, rfl, hx, q1, q2⟩ := h
  by_cases hw : HT.sIx xs.length 0 lo = 0 ∧ HT.sIx xs.length xs.length hi = xs.length
  · exact sl_tupA pins s σ H _ v vl vu lo hi sl Q I rx hs pl pu ⟨a, xs, rfl, hx, q1, fun z => absurd hw z⟩
  · cases rx
    obtain ⟨ws, rel, tt, l⟩ := I.tuple hx
    have sz : ws.toArray.size = xs.length := by rw [List.size_toArray, rel.length]
    refine ⟨"tuple", _, PyProof.Rows.slot_tuple_getitem.lookup, tt.typeIs, HT.getItem_tuple_cut tt hs pl pu (by rw [sz]; exact hw) ?_ (by rw [sz]; exact l)⟩
    rw [sz]
    exact ⟨.ref s.heap.objs.size, _, layTup I ((rel.drop (HT.sIx xs.length 0 lo)).take (HT.sIx xs.length xs.length hi - HT.sIx xs.length 0 lo)) (Nat.le_trans (cutV_length xs lo hi) l) s.toks, rfl, q2 hw _ _ (I.hok.fresh (Nat.le_refl _))⟩
def ixD : D → Int → D → Prop
  | .lst xs, i, d => atI xs i = some d
  | .tup xs, i, d => atI xs i = some d
  | .str z, i, d => z.length ≤ sizeLine ∧ ∃ c, atI z.cps.toList i = some c ∧ d = .str ⟨#[c]⟩
  | _, _, _ => False
def dIx (da db : DE) : DE := fun δ P => da δ fun r1 δ1 => db δ1 fun r2 δ2 => ∃ d i d', peek r1 δ2 = some d ∧ peek r2 δ2 = some (.int i) ∧ ixD d i d' ∧ P (.val d') δ2
theorem all2_at {F : V → D → Prop} {vs : List V} {ds : List D} {i : Int} {d : D} (h : All2 F vs ds) (e : atI ds i = some d) : ∃ v, atI vs i = some v ∧ F v d := by
  unfold atI at e ⊢
  rw [h.1]
  cases q : ixN ds.length i with
  | none => rw [q] at e; cases e
  | some j =>
    rw [q] at e
    have e : ds[j]? = some d := e
    obtain ⟨v, hv, f⟩ := h.get e
    exact ⟨v, hv, f⟩
theorem de_ix (ha : PE X a (lift X.K L da)) (hb : PE X b (lift X.K L db)) (hs : PlainIx b := by exact fun _ _ => rfl) : PE X (.Subscript a b pos) (lift X.K L (dIx da db)) :=
  PE.weak (pe_ix ix_seq ha hb hs) <| lift_of fun C σ H G W δ P Q I lk h k => lift_two I lk h fun r1 r2 δ2 x y H2 G2 W2 h2 x2 I2 o1 o2 => by
    obtain ⟨d, i, d', e1, e2, hx, hp⟩ := h2
    rw [← peek_pub] at e1 e2
    have s1 := I2.peekOk o1 e1
    have ey := ((I2.peekOk o2 e2).den I2.gh).of_int
    subst ey
    cases d with
    | lst xs =>
      obtain ⟨p, vs, rfl, hl, dn⟩ := s1.lst I2.gh
      obtain ⟨v, hv, dv⟩ := all2_at dn hx
      exact .inl ⟨p, vs, i, v, rfl, rfl, .of hl, hv, k _ δ2 v H2 G2 W2 hp x2 I2 dv⟩
    | tup xs =>
      obtain ⟨p, vs, rfl, hl, dn⟩ := s1.tup I2.gh
      obtain ⟨v, hv, dv⟩ := all2_at dn hx
      exact .inr (.inl ⟨p, vs, i, v, rfl, rfl, hl, hv, k _ δ2 v H2 G2 W2 hp x2 I2 dv⟩)
    | str z =>
      obtain ⟨hz, c, hc, rfl⟩ := hx
      exact .inr (.inr ⟨z, i, c, (s1.den I2.gh).of_str, rfl, hz, hc, k _ δ2 _ H2 G2 W2 hp x2 I2 (Den.str _)⟩)
    | _ => exact hx.elim
abbrev DO := List R → (Option Int → List R → Prop) → Prop
def liftO (K : PySem.W.Frag) (L : Lk) (d : DO) : TO := fun σ H Q => ∃ (C : Ct) (G : Hp) (W : Ow) (δ : List R) (P : Option Int → List R → Prop), SI K C σ H G W δ ∧ Lnk K L C G ∧ d δ P ∧
  ∀ o δ' H' G' W', P o δ' → Ex G G' → SI K C σ H' G' W' δ' → Q o H'
def doNone : DO := fun δ P => P none δ
def doSome (de : DE) : DO := fun δ P => de δ fun r δ1 => ∃ i, peek r δ1 = some (.int i) ∧ P (some i) δ1
theorem PO.weak {o : Option Expr} {t t' : TO} (h : PO X o t) (w : ∀ σ H Q, t' σ H Q → t σ H Q) : PO X o t' := ⟨fun pins s σ H Q I q => h.run pins s σ H Q I (w σ H Q q)⟩
theorem do_none : PO X none (liftO X.K L doNone) := PO.weak po_none fun σ H Q ⟨C, G, W, δ, P, I, lk, hd, k⟩ => k none δ H G W hd (Ex.refl G) I
theorem do_some (h : PE X e (lift X.K L de)) : PO X (some e) (liftO X.K L (doSome de)) := PO.weak (po_some h) fun σ H Q ⟨C, G, W, δ, P, I, lk, hd, k⟩ => ⟨C, G, W, δ, _, I, lk, hd, fun r δ1 v H1 G1 W1 h1 x1 I1 o1 => by
  obtain ⟨i, e, hp⟩ := h1
  exact ⟨i, ((I1.peekOk o1 e).den I1.gh).of_int, k _ δ1 H1 G1 W1 hp x1 I1⟩⟩
def cut {α : Type} (xs : List α) (lo hi : Option Int) : List α := (xs.drop (HT.sIx xs.length 0 lo)).take (HT.sIx xs.length xs.length hi - HT.sIx xs.length 0 lo)
theorem all2_cut {F : V → D → Prop} {vs : List V} {ds : List D} (h : All2 F vs ds) (lo hi : Option Int) : All2 F (cutV vs lo hi) (cut ds lo hi) := by
  unfold cutV cut
  rw [h.1]
  refine ⟨by simp [h.1], fun i x y hx hy => ?_⟩
  rw [List.getElem?_take] at hx hy
  split at hx
  · rename_i hi
    rw [if_pos hi] at hy
    rw [List.getElem?_drop] at hx hy
    exact h.2 _ x y hx hy
  · cases hx
def slD : D → Option Int → Option Int → R → Prop
  | .lst xs, lo, hi, r => r = .own (.lst (cut xs lo hi))
  | .tup xs, lo, hi, r => r = .val (.tup (cut xs lo hi))
  | .str z, lo, hi, r => z.length ≤ sizeLine ∧ r = .val (.str (cutS z lo hi))
  | _, _, _, _ => False
def dSl (da : DE) (dl dh : DO) : DE := fun δ P => da δ fun r1 δ1 => dl δ1 fun lo δ2 => dh δ2 fun hi δ3 => ∃ d r, peek r1 δ3 = some d ∧ slD d lo hi r ∧ P r δ3
theorem cut_whole {α : Type} {xs : List α} {lo hi : Option Int} (h1 : HT.sIx xs.length 0 lo = 0) (h2 : HT.sIx xs.length xs.length hi = xs.length) : cut xs lo hi = xs := by
  unfold cut
  rw [h1, h2]
  simp
theorem de_sl {lo hi : Option Expr} {p2 : Pos} {dl dh : DO} (ha : PE X a (lift X.K L da)) (hl : PO X lo (liftO X.K L dl)) (hh : PO X hi (liftO X.K L dh)) : PE X (.Subscript a (.Slice lo hi none p2) pos) (lift X.K L (dSl da dl dh)) :=
  PE.weak (pe_slice (SlR.or sl_list (SlR.or sl_tupF sl_str)) ha hl hh) <| lift_of fun C σ H G W δ P Q I lk h k => ⟨C, G, W, δ, _, I, lk, h, fun r1 δ1 x H1 G1 W1 h1 x1 I1 o1 => by
    obtain ⟨G1', x1', I1', o1'⟩ := I1.pub o1
    refine ⟨C, G1', W1, δ1, _, I1', lk.mono (x1.trans x1'), h1, fun l δ2 H2 G2 W2 h2 x2 I2 => ?_⟩
    refine ⟨C, G2, W2, δ2, _, I2, lk.mono ((x1.trans x1').trans x2), h2, fun u δ3 H3 G3 W3 h3 x3 I3 => ?_⟩
    obtain ⟨d, r, e, hs, hp⟩ := h3
    rw [← peek_pub] at e
    have sn := I3.peekOk (ROk.keep o1' (x2.trans x3)) e
    have xx : Ex G G3 := ((x1.trans x1').trans x2).trans x3
    cases d with
    | lst xs =>
      have hs : r = .own (.lst (cut xs l u)) := hs
      subst hs
      obtain ⟨p, vs, rfl, hq, dn⟩ := sn.lst I3.gh
      refine .inl ⟨p, vs, rfl, .of hq, fun t ht => ?_⟩
      obtain ⟨I', o⟩ := I3.newLst ht (all2_cut dn l u)
      exact k _ _ _ _ _ _ hp xx I' o
    | tup xs =>
      have hs : r = .val (.tup (cut xs l u)) := hs
      subst hs
      obtain ⟨p, vs, rfl, hq, dn⟩ := sn.tup I3.gh
      refine .inr (.inl ⟨p, vs, rfl, hq, fun hw => ?_, fun hw t its ht => ?_⟩)
      · refine k _ δ3 _ H3 G3 W3 hp xx I3 ?_
        rw [dn.1] at hw
        rw [cut_whole hw.1 hw.2]
        rcases sn with sn | ⟨q, _, z | ⟨_, z⟩⟩
        · exact sn
        · exact z.elim
        · exact z.elim
      · obtain ⟨I', o⟩ := I3.newTup (its := its) ht (all2_cut dn l u)
        exact k _ _ _ _ _ _ hp (xx.trans (Ex.new (I3.fresh ht).1)) I' o
    | str z =>
      obtain ⟨hz, rfl⟩ := hs
      exact .inr (.inr ⟨z, (sn.den I3.gh).of_str, hz, k _ δ3 _ H3 G3 W3 hp xx I3 (Den.str _)⟩)
    | _ => exact hs.elim⟩
def CallLook (K : PySem.W.Frag) (r : List V → Hp → VK → Prop) (g : List D → (R → Prop) → Prop) : Prop := ∀ (C : Ct) (σ : St) (H G : Hp) (W : Ow) (δ : List R) (vs : List V) (ds : List D) (P : R → Prop) (Q : VK), SI K C σ H G W δ → All2 (Seen K G H) vs ds → g ds P →
  (∀ r v H' G' W', P r → Ex G G' → SI K C σ H' G' W' δ → ROk K C σ H' G' W' none v r → Q v H') → r vs H Q
def dCB (g : List D → (R → Prop) → Prop) (da : DA) : DE := fun δ P => da δ fun rs δ1 => ∃ ds, peekAll rs δ1 = some ds ∧ g ds fun r => P r δ1
theorem lift_cb {r : List V → Hp → VK → Prop} {g : List D → (R → Prop) → Prop} {da : DA} (hs : CallLook K r g) : ∀ σ H Q, lift K L (dCB g da) σ H Q → tCB r (liftA K L da) σ H Q :=
  lift_of fun C σ H G W δ P Q I lk h k => ⟨C, G, W, δ, _, I, lk, h, fun rs δ1 vs H1 G1 W1 h1 x1 I1 o1 => by
    obtain ⟨ds, e, hg⟩ := h1
    exact hs C σ H1 G1 W1 δ1 vs ds _ Q I1 (I1.peekAllOk o1 e) hg fun r v H' G' W' hp x' I' o' => k r δ1 v H' G' W' hp (x1.trans x') I' o'⟩
variable {x : Str} {p : Pos} {id T : String} {r : List V → Hp → VK → Prop} {g : List D → (R → Prop) → Prop} {da : DA}
theorem de_cb (hc : CallR X (.builtin id) r) (hs : CallLook X.K r g) (hg : Gl X x) (hm : X.mg x = none) (hv : bootBuiltins x = some (.builtin id)) (ha : PA X (e :: es) (liftA X.K L da)) (hn : x ≠ "__name__" := by decide) (hdb : (x == ("__debug__" : Str)) = false := by decide)
    (he : starEach (e :: es) X.env = (false, eval e X.env) :: starEach es X.env := by rfl) (hpl : (backTo pos (starEach es X.env)).any (·.1) = false := by rfl) : PE X (.Call (.Name x p) (e :: es) [] pos) (lift X.K L (dCB g da)) := PE.weak (pe_callB hc hg hm hv ha hn hdb he hpl) (lift_cb hs)
theorem de_ct (hc : CallR X (.type T) r) (hs : CallLook X.K r g) (hg : Gl X x) (hm : X.mg x = none) (hv : bootBuiltins x = some (.type T)) (ha : PA X (e :: es) (liftA X.K L da)) (hn : x ≠ "__name__" := by decide) (hdb : (x == ("__debug__" : Str)) = false := by decide)
    (he : starEach (e :: es) X.env = (false, eval e X.env) :: starEach es X.env := by rfl) (hpl : (backTo pos (starEach es X.env)).any (·.1) = false := by rfl) : PE X (.Call (.Name x p) (e :: es) [] pos) (lift X.K L (dCB g da)) := PE.weak (pe_callTy hc hg hm hv ha hn hdb he hpl) (lift_cb hs)
def bLen : List D → (R → Prop) → Prop
  | [.lst xs], P => P (.val (.int xs.length))
  | [.tup xs], P => P (.val (.int xs.length))
  | [.str z], P => z.length ≤ sizeLine ∧ P (.val (.int z.length))
  | _, _ => False
theorem one_of {F : V → D → Prop} {vs : List V} {d : D} (h : All2 F vs [d]) : ∃ v, vs = [v] ∧ F v d := by
  obtain ⟨v, r, rfl, f, t⟩ := h.cons_right
  rw [t.nil_right]
  exact ⟨v, rfl, f⟩
theorem two_of {F : V → D → Prop} {vs : List V} {d e : D} (h : All2 F vs [d, e]) : ∃ v u, vs = [v, u] ∧ F v d ∧ F u e := by
  obtain ⟨v, r, rfl, f, t⟩ := h.cons_right
  obtain ⟨u, rfl, f'⟩ := one_of t
  exact ⟨v, u, rfl, f, f'⟩
theorem cl_len : CallLook K (fun xs H Q => ∃ x n, xs = [x] ∧ LenV K x H n ∧ Q (.int n) H) bLen := fun C σ H G W δ vs ds P Q I a hg k => by
  match ds, hg with
  | [.lst xs], hg =>
    obtain ⟨v, rfl, s⟩ := one_of a
    obtain ⟨p, us, rfl, hl, dn⟩ := s.lst I.gh
    exact ⟨_, us.length, rfl, .inl ⟨us, .of hl, rfl⟩, by rw [dn.1]; exact k _ _ H G W hg (Ex.refl G) I (Den.int _)⟩
  | [.tup xs], hg =>
    obtain ⟨v, rfl, s⟩ := one_of a
    obtain ⟨p, us, rfl, hl, dn⟩ := s.tup I.gh
    exact ⟨_, us.length, rfl, .inr ⟨us, hl, rfl⟩, by rw [dn.1]; exact k _ _ H G W hg (Ex.refl G) I (Den.int _)⟩
  | [.str z], hg =>
    obtain ⟨v, rfl, s⟩ := one_of a
    have := (s.den I.gh).of_str
    subst this
    exact ⟨_, z.length, rfl, ⟨hg.1, rfl⟩, k _ _ H G W hg.2 (Ex.refl G) I (Den.int _)⟩
def bInt : List D → (R → Prop) → Prop
  | [.int i], P => P (.val (.int i))
  | [.bl k], P => P (.val (.int (if k then 1 else 0)))
  | _, _ => False
theorem cl_int : CallLook K (fun xs H Q => (∃ i, xs = [.int i] ∧ Q (.int i) H) ∨ ∃ k, xs = [.bl k] ∧ Q (.int (if k then 1 else 0)) H) bInt := fun C σ H G W δ vs ds P Q I a hg k => by
  match ds, hg with
  | [.int i], hg =>
    obtain ⟨v, rfl, s⟩ := one_of a
    have := (s.den I.gh).of_int
    subst this
    exact .inl ⟨i, rfl, k _ _ H G W hg (Ex.refl G) I (Den.int _)⟩
  | [.bl b], hg =>
    obtain ⟨v, rfl, s⟩ := one_of a
    have := (s.den I.gh).of_bl
    subst this
    exact .inr ⟨b, rfl, k _ _ H G W hg (Ex.refl G) I (Den.int _)⟩
def bAbs : List D → (R → Prop) → Prop
  | [.int i], P => P (.val (.int (if i < 0 then -i else i)))
  | _, _ => False
theorem cl_abs : CallLook K (fun xs H Q => ∃ i, xs = [.int i] ∧ Q (.int (if i < 0 then -i else i)) H) bAbs := fun C σ H G W δ vs ds P Q I a hg k => by
  match ds, hg with
  | [.int i], hg =>
    obtain ⟨v, rfl, s⟩ := one_of a
    have := (s.den I.gh).of_int
    subst this
    exact ⟨i, rfl, k _ _ H G W hg (Ex.refl G) I (Den.int _)⟩
def bMax2 : List D → (R → Prop) → Prop
  | [.int i, .int j], P => P (.val (.int (if j > i then j else i)))
  | _, _ => False
def bMin2 : List D → (R → Prop) → Prop
  | [.int i, .int j], P => P (.val (.int (if j < i then j else i)))
  | _, _ => False
theorem cl_max2 : CallLook K (fun xs H Q => ∃ i j, xs = [.int i, .int j] ∧ Q (.int (if j > i then j else i)) H) bMax2 := fun C σ H G W δ vs ds P Q I a hg k => by
  match ds, hg with
  | [.int i, .int j], hg =>
    obtain ⟨v, u, rfl, s, t⟩ := two_of a
    have := (s.den I.gh).of_int
    subst this
    have := (t.den I.gh).of_int
    subst this
    exact ⟨i, j, rfl, k _ _ H G W hg (Ex.refl G) I (Den.int _)⟩
theorem cl_min2 : CallLook K (fun xs H Q => ∃ i j, xs = [.int i, .int j] ∧ Q (.int (if j < i then j else i)) H) bMin2 := fun C σ H G W δ vs ds P Q I a hg k => by
  match ds, hg with
  | [.int i, .int j], hg =>
    obtain ⟨v, u, rfl, s, t⟩ := two_of a
    have := (s.den I.gh).of_int
    subst this
    have := (t.den I.gh).of_int
    subst this
    exact ⟨i, j, rfl, k _ _ H G W hg (Ex.refl G) I (Den.int _)⟩
def bList : List D → (R → Prop) → Prop
  | [.lst xs], P => P (.own (.lst xs))
  | [.tup xs], P => P (.own (.lst xs))
  | _, _ => False
theorem cl_list : CallLook K (fun xs H Q => ∃ p ys, xs = [.ref p] ∧ (SqL K H p ys ∨ SqT K H p ys) ∧ ∀ l, H l = none → Q (.ref l) (upd H l (.lst ys))) bList := fun C σ H G W δ vs ds P Q I a hg k => by
  match ds, hg with
  | [.lst xs], hg =>
    obtain ⟨v, rfl, s⟩ := one_of a
    obtain ⟨p, us, rfl, hl, dn⟩ := s.lst I.gh
    refine ⟨p, us, rfl, .inl (.of hl), fun t ht => ?_⟩
    obtain ⟨I', o⟩ := I.newLst ht dn
    exact k _ _ _ _ _ hg (Ex.refl G) I' o
  | [.tup xs], hg =>
    obtain ⟨v, rfl, s⟩ := one_of a
    obtain ⟨p, us, rfl, hl, dn⟩ := s.tup I.gh
    refine ⟨p, us, rfl, .inr hl, fun t ht => ?_⟩
    obtain ⟨I', o⟩ := I.newLst ht dn
    exact k _ _ _ _ _ hg (Ex.refl G) I' o
def bTuple : List D → (R → Prop) → Prop
  | [.lst xs], P => P (.val (.tup xs))
  | [.tup xs], P => P (.val (.tup xs))
  | _, _ => False
def rTupOf (K : PySem.W.Frag) : List V → Hp → VK → Prop := fun xs H Q => ∃ p ys, xs = [.ref p] ∧ ((SqL K H p ys ∧ ∀ l its, H l = none → Q (.ref l) (upd H l (.frz (tupObj its) (.tup ys)))) ∨ (SqT K H p ys ∧ Q (.ref p) H))
theorem call_tupF : CallR X (.type "tuple") (rTupOf X.K) := fun pins s σ H xs us Q I r h => by
  obtain ⟨p, ys, rfl, h⟩ := h
  rcases h with ⟨hl, q⟩ | ⟨ht, q⟩
  · obtain ⟨u, rfl, rx⟩ := vals1 r
    cases rx
    obtain ⟨ws, rel, pl, l⟩ := I.list hl
    have sz := rel.length
    refine call_tuple_list pl.isList (fun h' kp => ?_) (by rw [List.size_toArray]; omega)
    have J : Inv X pins σ H { s with heap := h' } := I.kept kp
    exact ⟨.ref h'.objs.size, _, layTup J rel l s.toks, rfl, q _ _ (J.hok.fresh (Nat.le_refl _))⟩
  · exact call_tuple_of pins s σ H _ us Q I r ⟨p, ys, rfl, .inr ⟨ht, q⟩⟩
theorem cl_tuple : CallLook K (rTupOf K) bTuple := fun C σ H G W δ vs ds P Q I a hg k => by
  match ds, hg with
  | [.lst xs], hg =>
    obtain ⟨v, rfl, s⟩ := one_of a
    obtain ⟨p, us, rfl, hl, dn⟩ := s.lst I.gh
    refine ⟨p, us, rfl, .inl ⟨.of hl, fun t its ht => ?_⟩⟩
    obtain ⟨I', o⟩ := I.newTup (its := its) ht dn
    exact k _ _ _ _ _ hg (Ex.new (I.fresh ht).1) I' o
  | [.tup xs], hg =>
    obtain ⟨v, rfl, s⟩ := one_of a
    obtain ⟨p, us, rfl, hl, dn⟩ := s.tup I.gh
    refine ⟨p, us, rfl, .inr ⟨hl, ?_⟩⟩
    rcases s with s | ⟨q, _, z | ⟨_, z⟩⟩
    · exact k _ _ H G W hg (Ex.refl G) I s
    · exact z.elim
    · exact z.elim
end
end DL
namespace DL
open PySem PySem.Spec L2
variable [TabsC]
abbrev Quiet (A : Around) : Prop := A.guards = some []
structure FnG (P : Program) (w : World) (K : PySem.W.Frag) (mg : Str → Option Value) (base : Heap) (CX : CXT) (k : Nat) (f : Addr) (fd : FuncData) (ps : List Str) (sp : Sp) : Prop where
  len : ∀ vs H Q E, sp vs H Q E → vs.length = ps.length
  run : ∀ (A : Around) (outer : List Env) (s : Shared) (H : Hp) (args : Args) (us : List Value) (vs : List V) (Q : VK) (E : XK), Quiet A → Room k A → Env0 P w K mg base A outer s H → BindsTo s fd args (ps.zip us) →
    Vals vs us → sp vs H Q E → codeAny (model P w) A (.call (.ref f) args) (CR CX outer P w H s Q E) s
section
variable {P : Program} {w : World} {K : PySem.W.Frag} {mg : Str → Option Value} {base : Heap} {CX : CXT} {k : Nat} {f : Addr} {fd : FuncData} {ps : List Str} {sp : Sp}
theorem FnG.of (F : FnOk P w K mg base CX k f fd ps sp) : FnG P w K mg base CX k f fd ps sp := ⟨F.len, fun A o s H args us vs Q E _ hr => F.run A o s H args us vs Q E hr⟩
theorem fn_quiet {name qual : Str} {params : Arguments} {body : List Stmt} {scope : Scope} {dV kV doc pm cdv ct oc : Value} {an od : Option Addr} {osl : Array (Option Value)} {N : List Str}
    (hlk : K.lookup f = some ⟨oc, od, .func (PySem.W.fnOf name qual params body scope dV kV doc pm an cdv ct), osl⟩) (hcd : PySem.W.codeIn K cdv qual = true) (Sc : FnScope N ps scope) (len : ∀ vs H Q E, sp vs H Q E → vs.length = ps.length)
    (bd : ∀ (A : Around) (outer : List Env) (s : Shared) (H : Hp) (vs : List V) (Q : VK) (E : XK), Quiet A → Room k (A.deeper (PyProof.Rows.envOfC qual scope s.heap.objs.size f cdv)) → sp vs H Q E →
      ∃ t, PSs (cxOf CX P w K mg base N qual scope f cdv A outer s H E) body t ∧ t { nx := fun _ H' => Q .non H', rt := Q } (start N vs) H) :
    FnG P w K mg base CX (k + 1) f (PySem.W.fnOf name qual params body scope dV kV doc pm an cdv ct) ps sp := by
  refine ⟨len, fun A outer s H args us vs Q E hgu hr e0 hb hv hsp => ?_⟩
  have kin : K.In s.heap := e0.mod.kin.keeps fun x y z => (e0.bs x y z).1
  have names : ∀ y ∈ ps.zip us, scope.names.lookup y.1 = some .local ∨ (scope.names.lookup y.1 = some .cell ∧ ((cellsFrom (s.heap.objs.size + 1) scope.names []).lookup y.1).isSome = true) := by
    rintro ⟨n, v⟩ hy
    exact (Sc.par n (List.of_mem_zip hy).1).imp id fun q => ⟨q, PySem.W.cellsFrom_some _ _ _ (.inl q)⟩
  apply codeAny_call_function hr.depth (kin _ _ hlk) rfl Sc.co Sc.gen rfl (PySem.W.codeRec_of kin hcd)
  apply hb
  apply wpAny_newFunctionEnv_cells Sc.kind names
  intro env henv s1 inn
  subst henv
  refine ⟨(e0.mod.nolimit.keeps fun x y z => (e0.bs x y z).1).keeps inn.toInCall.keep, codeAny_func ?_⟩
  obtain ⟨t, pt, ht⟩ := bd A outer s H vs Q E hgu (hr.deeper _) hsp
  refine wpAny_mono (pt.run [] s1 (start N vs) H _ (inv_start Sc hr.hd e0 (len _ _ _ _ hsp) hv inn) ht) (fun fl s' hs => ?_) fun _ _ z => z
  cases fl with
  | ret u => obtain ⟨v, σ', H', J, rv, q⟩ := hs; exact ⟨v, H', J.os, J.bare, J.base, J.hok, rv, q⟩
  | next => obtain ⟨σ', H', J, q⟩ := hs; exact ⟨V.non, H', J.os, J.bare, J.base, J.hok, rfl, q⟩
  | brk => obtain ⟨_, _, _, q⟩ := hs; exact q.elim
  | cont => obtain ⟨_, _, _, q⟩ := hs; exact q.elim
theorem fn_dg {x qual : Str} {sm : Stmt} {N : List Str} {S : DSp} (F : Fun K x qual sm f fd) (Sc : FnScope N ps (defScope sm)) (hl : ∀ rs P Xc, S rs P Xc → rs.length = ps.length) (hN : ps.length ≤ N.length)
    (hbody : ∀ (cdv : Value) (A : Around) (outer : List Env) (s : Shared) (H : Hp) (E : XK), Quiet A → Room k (A.deeper (PyProof.Rows.envOfC qual (defScope sm) s.heap.objs.size f cdv)) →
      ∃ ds, PSs (cxOf CX0 P w K mg base N qual (defScope sm) f cdv A outer s H E).nox (defBody sm) (liftS K L0 ds) ∧ ∀ rs P Xc, S rs P Xc → ds (endD P) (startD N rs)) : FnG P w K mg base CX0 (k + 1) f fd ps (spOf K S) := by
  obtain ⟨oc, od, kV, doc, pm, an, cdv, ct, osl, rfl, lk, hcd⟩ := F.ex
  refine fn_quiet lk hcd Sc (fun vs H Q E h => ?_) (fun A outer s H vs Q E hq hr h => ?_)
  · obtain ⟨bo, mo, G, rs, P, Xc, _, _, _, ha, hs, _⟩ := h
    rw [ha.1]; exact hl rs P Xc hs
  · obtain ⟨bo, mo, G, rs, P, Xc, hg, hb, hm, ha, hs, hq', hx⟩ := h
    obtain ⟨ds, hd, hk⟩ := hbody cdv A outer s H E hq hr
    refine ⟨_, hd.nox, ⟨bo, mo, H, G, fun _ => none, false⟩, G, fun _ => none, startD N rs, _, SI.start (by rw [ha.1, hl rs P Xc hs]; exact hN) hg hb hm ha, Lnk.zero, hk rs P Xc hs, ?_⟩
    refine ⟨fun σ' H' G' W' δ' x I hp => ?_, fun v σ' H' G' W' δ' r x I o fi hp => ?_, fun _ _ _ _ _ _ _ hp => hp, fun _ _ _ _ _ _ _ hp => hp⟩
    · rcases hp with hp | hp
      · exact hq' _ _ _ G' H' hp (I.fin I.b0) Den.non (fun _ z => by cases z)
      · exact hq' _ _ _ G' H' hp (I.fin I.b0) Den.non (I.mfin rfl)
    · rcases hp with hp | hp
      · exact hq' _ _ v G' H' hp (I.fin I.b0) (ROk.fin o fi) (fun _ z => by cases z)
      · exact hq' _ _ v G' H' hp (I.fin I.b0) (ROk.fin o fi) (I.mfin rfl)
end
section
variable {X : Cx} {L : Lk} {CX : CXT} {k : Nat} {f : Addr} {fd : FuncData} {ps : List Str} {sp : Sp} {S : DSp} {x : Str} {p pos : Pos} {e : Expr} {es : List Expr} {da : DA} {t : TA} {E : XK}
theorem run_quiet {pins : List (Addr × Obj)} {σ : St} {H : Hp} {s : Shared} {Q : VK} {us : List Value} {vs : List V} (F : FnG X.prog X.w X.K X.mg X.base CX k f fd ps sp) (hq : Quiet X.A) (hr : Room k X.A) (hb : Binds X.K fd ps []) (hx : Passes CX X E)
    (I : Inv X pins σ H s) (r : Vals vs us) (h : sp vs H Q E) : wpAny (model X.prog X.w) X.A (call (.ref f) us) (EP X pins σ Q) X.xe s := by
  have hl : (us ++ []).length = ps.length := by rw [List.append_nil, ← r.length]; exact F.len _ _ _ _ h
  have bb := hb s us I.kIn hl
  rw [List.append_nil] at bb
  apply wpAny_call
  apply codeAny_mono (F.run X.A X.stack s H ⟨us, []⟩ us vs Q E hq hr I.env0 bb r h)
  rintro (e | (u | _ | _ | _)) s' hz
  all_goals first | exact hx pins σ H s _ s' I hz | exact I.after hz | exact hz.elim
theorem pe_quiet (F : FnG X.prog X.w X.K X.mg X.base CX k f fd ps sp) (hq : Quiet X.A) (hr : Room k X.A) (hg : Gl X x) (hm : X.mg x = some (.ref f)) (hk : PySem.W.keepIn X.K (.ref f) = true) (hb : Binds X.K fd ps []) (hx : Passes CX X E)
    (ha : PA X (e :: es) t) (hdb : (x == ("__debug__" : Str)) = false := by decide) (he : starEach (e :: es) X.env = (false, eval e X.env) :: starEach es X.env := by rfl) (hpl : (backTo pos (starEach es X.env)).any (·.1) = false := by rfl) :
    PE X (.Call (.Name x p) (e :: es) [] pos) (fun σ H Q => t σ H fun vs H1 => sp vs H1 Q E) :=
  ⟨fun pins s σ H Q I h => wpAny_Call_Name_kw (ld_glob I hg hm (PySem.W.callWith_K (h₀ := X.base) I.ok.mod.kin hk (thn (ha.run pos pins s σ H _ I h) fun us s1 z => by
    obtain ⟨vs, H1, I1, rv, q⟩ := z
    exact ⟨I1.kIn, run_quiet F hq hr hb hx I1 rv q⟩) he hpl) hdb)⟩
theorem de_callG (F : FnG X.prog X.w X.K X.mg X.base CX0 k f fd ps (spOf X.K S)) (hq : Quiet X.A) (hr : Room k X.A) (hg : Gl X x) (hm : X.mg x = some (.ref f)) (hk : PySem.W.keepIn X.K (.ref f) = true) (hb : Binds X.K fd ps [])
    (ha : PA X (e :: es) (liftA X.K L da)) (hdb : (x == ("__debug__" : Str)) = false := by decide) (he : starEach (e :: es) X.env = (false, eval e X.env) :: starEach es X.env := by rfl) (hpl : (backTo pos (starEach es X.env)).any (·.1) = false := by rfl) :
    PE X (.Call (.Name x p) (e :: es) [] pos) (lift X.K L (dCall S da)) := PE.weak (pe_quiet F hq hr hg hm hk hb pass0 ha hdb he hpl) fun σ H Q h => by
      have z := lift_call σ H Q h
      obtain ⟨C, G, W, δ, P, I, lk, hd, kk⟩ := z
      refine ⟨C, G, W, δ, P, I, lk, hd, fun rs δ' vs H' G' W' h1 h2 h3 h4 => ?_⟩
      have z : spOf X.K S (vs ++ []) H' Q E0 := kk rs δ' vs H' G' W' h1 h2 h3 h4
      rwa [List.append_nil] at z
def D.fit : Nat → D → Bool
  | _, .non => true
  | _, .bl _ => true
  | _, .int i => decide (i.natAbs.log2 < 1900)
  | _, .str x => PyData.strOk x
  | n + 1, .lst xs => xs.all (D.fit n)
  | n + 1, .tup xs => xs.all (D.fit n)
  | _, _ => false
def D.wid : Nat → D → Nat
  | _, .non => 4
  | _, .bl _ => 5
  | _, .int i => i.natAbs.log2 + 2
  | _, .str x => 10 * x.length + 2
  | n + 1, .lst xs => 4 + (xs.map fun d => D.wid n d + 2).sum
  | n + 1, .tup xs => 4 + (xs.map fun d => D.wid n d + 2).sum
  | _, _ => 0
def D.Fits (n w : Nat) (d : D) : Prop := d.fit n = true ∧ d.wid n ≤ w
theorem fit_ok : ∀ {n : Nat} {d : D}, d.fit n = true → d.Ok n
  | n, .non, _ => by unfold D.Ok; trivial
  | n, .bl b, _ => by unfold D.Ok; trivial
  | n, .int i, _ => by unfold D.Ok; trivial
  | n, .str x, h => by unfold D.fit at h; unfold D.Ok; exact h
  | 0, .lst xs, h => by cases h
  | 0, .tup xs, h => by cases h
  | n + 1, .lst xs, h => fun d hd => fit_ok (List.all_eq_true.mp h d hd)
  | n + 1, .tup xs, h => fun d hd => fit_ok (List.all_eq_true.mp h d hd)
  | 0, .dic _, h => by cases h
  | 0, .ins _ _, h => by cases h
  | 0, .ty _, h => by cases h
  | 0, .exc _ _ _, h => by cases h
  | 0, .dct _ _, h => by cases h
  | 0, .dcm _ _, h => by cases h
  | 0, .obx _ _, h => by cases h
  | n + 1, .dic _, h => by cases h
  | n + 1, .ins _ _, h => by cases h
  | n + 1, .ty _, h => by cases h
  | n + 1, .exc _ _ _, h => by cases h
  | n + 1, .dct _ _, h => by cases h
  | n + 1, .dcm _ _, h => by cases h
  | n + 1, .obx _ _, h => by cases h
theorem Fits.ok {n w : Nat} {d : D} (h : d.Fits n w) : d.Ok n := fit_ok h.1
theorem shownAll_map : ∀ ds : List PyData, PyData.shownAll ds = ds.map PyData.shown
  | [] => by simp only [PyData.shownAll, List.map_nil]
  | d :: ds => by simp only [PyData.shownAll, List.map_cons, shownAll_map ds]
theorem showableAll_of : ∀ ds : List PyData, (∀ d ∈ ds, d.showable = true) → PyData.showableAll ds = true
  | [], _ => by simp only [PyData.showableAll]
  | d :: ds, h => by
    simp only [PyData.showableAll, Bool.and_eq_true]
    exact ⟨h d (List.mem_cons_self ..), showableAll_of ds fun e he => h e (List.mem_cons_of_mem _ he)⟩
theorem sum_le {m : Nat} : ∀ (l : List Nat), (∀ x ∈ l, x ≤ m) → l.sum ≤ l.length * m
  | [], _ => by simp
  | x :: l, h => by
    have h1 := h x (List.mem_cons_self ..)
    have h2 := sum_le l fun y hy => h y (List.mem_cons_of_mem _ hy)
    rw [List.sum_cons, List.length_cons, Nat.succ_mul]
    omega
theorem sum_map_le {f g : D → Nat} : ∀ (l : List D), (∀ x ∈ l, f x ≤ g x) → (l.map f).sum ≤ (l.map g).sum
  | [], _ => by simp
  | x :: l, h => by
    have h1 := h x (List.mem_cons_self ..)
    have h2 := sum_map_le l fun y hy => h y (List.mem_cons_of_mem _ hy)
    simp only [List.map_cons, List.sum_cons]
    omega
theorem sum_two (f : D → Nat) : ∀ (l : List D), (l.map fun d => f d + 2).sum = (l.map f).sum + 2 * l.length
  | [] => by simp
  | x :: l => by
    simp only [List.map_cons, List.sum_cons, List.length_cons, sum_two f l]
    omega
theorem fits_sum {f : D → Nat} {xs : List D} (h : ∀ d ∈ xs, d.py.shown.length ≤ f d) : ((PyData.shownAll (D.pys xs)).map (·.length)).sum + 2 * (PyData.shownAll (D.pys xs)).length + 3 ≤ 4 + (xs.map fun d => f d + 2).sum := by
  rw [shownAll_map, pys_map, sum_two]
  have a := sum_map_le (f := fun d => d.py.shown.length) (g := f) xs h
  have e : (((xs.map D.py).map PyData.shown).map (·.length)) = xs.map fun d => d.py.shown.length := by simp [List.map_map, Function.comp_def]
  rw [e]
  simp only [List.length_map]
  omega
theorem fit_shown : ∀ {n : Nat} {d : D}, d.fit n = true → d.py.showable = true ∧ d.py.shown.length ≤ d.wid n
  | n, .non, h => by
    simp only [D.py, PyData.showable, PyData.shown, D.wid]; exact ⟨trivial, by decide +kernel⟩
  | n, .bl b, h => by
    simp only [D.py, PyData.showable, PyData.shown, D.wid]
    refine ⟨trivial, ?_⟩
    cases b
    · exact (by decide +kernel : (Str.ofString "False").length ≤ 5)
    · exact (by decide +kernel : (Str.ofString "True").length ≤ 5)
  | n, .int i, h => by
    have h1 : i.natAbs.log2 < 1900 := by unfold D.fit at h; exact of_decide_eq_true h
    simp only [D.py, PyData.showable, PyData.shown, D.wid]
    refine ⟨decide_eq_true (by omega), ?_⟩
    have h2 : i.natAbs < 10 ^ (i.natAbs.log2 + 1) := Nat.lt_of_lt_of_le Nat.lt_log2_self (Nat.pow_le_pow_left (by decide) _)
    have := int_text_length_le10 (a := i) (k := i.natAbs.log2 + 1) (by omega) h2
    exact (show (Str.ofString (toString i)).length ≤ i.natAbs.log2 + 2 by rw [ofString_length]; omega)
  | n, .str x, h => by
    have h1 : PyData.strOk x = true := by unfold D.fit at h; exact h
    simp only [D.py, PyData.showable, PyData.shown, D.wid]
    refine ⟨trivial, PySem.StrLaws.reprText_len x fun c hc => ?_⟩
    unfold PyData.strOk at h1
    rw [Array.all_eq_true'] at h1
    have := h1 c (by simpa using hc)
    have : c < 0x110000 := of_decide_eq_true this
    omega
  | 0, .lst xs, h => by cases h
  | 0, .tup xs, h => by cases h
  | n + 1, .lst xs, h => by
    have h2 : ∀ d ∈ xs, d.fit n = true := List.all_eq_true.mp h
    have a : ∀ e ∈ D.pys xs, e.showable = true := fun e he => by
      rw [pys_map] at he
      obtain ⟨d, hd, rfl⟩ := List.mem_map.mp he
      exact (fit_shown (h2 d hd)).1
    simp only [D.py, PyData.showable, PyData.shown, D.wid]
    exact ⟨showableAll_of _ a, Nat.le_trans (listText_len_le _) (fits_sum fun d hd => (fit_shown (h2 d hd)).2)⟩
  | n + 1, .tup xs, h => by
    have h2 : ∀ d ∈ xs, d.fit n = true := List.all_eq_true.mp h
    have a : ∀ e ∈ D.pys xs, e.showable = true := fun e he => by
      rw [pys_map] at he
      obtain ⟨d, hd, rfl⟩ := List.mem_map.mp he
      exact (fit_shown (h2 d hd)).1
    simp only [D.py, PyData.showable, PyData.shown, D.wid]
    exact ⟨showableAll_of _ a, Nat.le_trans (tupleText_len_le _) (fits_sum fun d hd => (fit_shown (h2 d hd)).2)⟩
  | 0, .dic _, h => by cases h
  | 0, .ins _ _, h => by cases h
  | 0, .ty _, h => by cases h
  | 0, .exc _ _ _, h => by cases h
  | 0, .dct _ _, h => by cases h
  | 0, .dcm _ _, h => by cases h
  | 0, .obx _ _, h => by cases h
  | n + 1, .dic _, h => by cases h
  | n + 1, .ins _ _, h => by cases h
  | n + 1, .ty _, h => by cases h
  | n + 1, .exc _ _ _, h => by cases h
  | n + 1, .dct _ _, h => by cases h
  | n + 1, .dcm _ _, h => by cases h
  | n + 1, .obx _ _, h => by cases h
theorem Fits.shown {n w : Nat} {d : D} (h : d.Fits n w) : d.py.showable = true ∧ d.py.shown.length ≤ w := ⟨(fit_shown h.1).1, Nat.le_trans (fit_shown h.1).2 h.2⟩
end
end DL
namespace DL
open PySem PySem.Spec L2
variable [TabsC]
section
variable {X : Cx} {K : PySem.W.Frag} {L : Lk} {C : Ct} {σ : St} {H G : Hp} {W : Ow} {δ : List R} {pos : Pos} {e : Expr} {de : DE}
theorem SI.write {i : Nat} {p : Addr} {d d' : D} {o : HO} (I : SI K C σ H G W δ) (hi : gt δ i = .own d) (hs : σ[i]? = some (some (.ref p))) (ht : Top K G (upd H p o) p d') : SI K C σ (upd H p o) G W (st δ i (.own d')) := by
  obtain ⟨v, h1, h2⟩ := I.sl i (by rw [hi]; simp)
  rw [hs] at h1; cases h1
  rw [hi] at h2
  obtain ⟨q, e, ⟨m1, m2, m3, m4⟩, h5, h6⟩ := h2
  cases e
  have mn : ∀ z, C.mo = some z → z ≠ p := fun z hz => by rintro rfl; exact (I.mu z hz).1 m2
  refine ⟨fun a u e => ?_, I.g0, fun a u nb nm nt e => ?_, I.gz, I.b0, I.bag.updH m3 h6.flat (ht.flat _ upd_same) h6.nlk (ht.nlk _ upd_same), fun a u e => ?_, fun z hz => ?_, by rw [st_len]; exact I.ln, fun j hj => ?_⟩
  · rw [upd_ne (ne_of_none e m1)]; exact I.gh a u e
  · rw [upd_ne (ne_of_none (H := C.H0) e m2)]; exact I.hh a u nb nm nt e
  · have ne : a ≠ p := by rintro rfl; rw [m4] at e; cases e
    rw [upd_ne ne]; exact I.tm a u e
  · obtain ⟨n1, n2, n3, n4, n5⟩ := I.mu z hz
    exact ⟨n1, n2, n3, n4, by rw [upd_ne (mn z hz)]; exact n5⟩
  · by_cases hij : i = j
    · subst hij
      have hl : i < δ.length := by have := gt_len hj; rwa [st_len] at this
      rw [gt_st_here hl]
      exact ⟨_, hs, p, rfl, ⟨m1, m2, m3, m4⟩, h5, ht⟩
    · rw [gt_st_ne δ i j _ hij] at hj ⊢
      obtain ⟨v, h1, h2⟩ := I.sl j hj
      refine ⟨v, h1, ?_⟩
      cases q : gt δ j with
      | no => exact trivial
      | val d => rw [q] at h2; exact h2
      | bag => rw [q] at h2; exact h2
      | pk k => rw [q] at h2; exact absurd h2.1 (by simp)
      | bor d2 =>
        rw [q] at h2
        obtain ⟨t0, a, e, ev, h6⟩ := h2
        exact ⟨t0, a, e, ev, h6.mono (Ex.refl G) (upd_ne (mn a e))⟩
      | own d2 =>
        rw [q] at h2
        obtain ⟨a, e, m, h7, h8⟩ := h2
        have ne : a ≠ p := by rintro rfl; rw [h5] at h7; exact hij (Option.some.inj h7)
        exact ⟨a, e, m, h7, h8.mono (Ex.refl G) (upd_ne ne)⟩
theorem SI.ownAt {i : Nat} {d : D} (I : SI K C σ H G W δ) (hi : gt δ i = .own d) : ∃ p, σ[i]? = some (some (.ref p)) ∧ Top K G H p d := by
  obtain ⟨v, h1, h2⟩ := I.sl i (by rw [hi]; simp)
  rw [hi] at h2
  obtain ⟨q, e, m, h5, h6⟩ := h2
  subst e
  exact ⟨q, h1, h6⟩
def rGetL (K : PySem.W.Frag) : V → V → Hp → VK → Prop := fun o i H Q => ∃ p xs k v, o = .ref p ∧ i = .int (k : Nat) ∧ SqL K H p xs ∧ xs[k]? = some v ∧ k < 2 ^ 62 ∧ Q v H
theorem get_listG : PGet X (rGetL X.K) := fun pins s σ H o i ov iv Q I ro ri h => by
  obtain ⟨p, xs, k, v, rfl, rfl, hl, hv, hk, q⟩ := h
  cases ro
  obtain ⟨t, rfl⟩ := ri
  obtain ⟨ys, rel, pl, _⟩ := I.list hl
  obtain ⟨y, ey, ry⟩ := rel.get hv
  exact wpAny_getItem_list pl.isList (by omega) (by omega) (by simpa using ey) ⟨v, H, I, ry, q⟩
end
end DL
namespace DL
open PySem PySem.Spec L2
variable [TabsC]
section
variable {X : Cx} {K : PySem.W.Frag} {L : Lk} {pos : Pos} {e ix : Expr} {de dx : DE}
def dSetIx (i : Nat) (dx de : DE) : DS := fun DD δ => de δ fun r δ1 => (∃ ds0, gt δ1 i = .own (.lst ds0)) ∧ dx δ1 fun r2 δ2 => ∃ d δ3 ds k j, use r δ2 = some (.val d, δ3) ∧ peek r2 δ3 = some (.int k) ∧ gt δ3 i = .own (.lst ds) ∧ ixN ds.length k = some j ∧ DD.nx (st δ3 i (.own (.lst (ds.set j d))))
theorem ds_setIx {i : Nat} {x : Str} {px tpos : Pos} (he : PE X e (lift X.K L de)) (pg : PG X (.Subscript (.Name x px) ix tpos) (L2.gSub (tVar i) (lift X.K L dx) rSetL))
    (hs : swapsWithSole [.Subscript (.Name x px) ix tpos] e pos.line X.env = pure false := by rfl) (hw : swappedStores [.Subscript (.Name x px) ix tpos] e X.env = pure none := by rfl) (h1 : (assignEach [.Subscript (.Name x px) ix tpos] X.env).map (·.2) = [assign (.Subscript (.Name x px) ix tpos) X.env] := by rfl) :
    PS X (.Assign [.Subscript (.Name x px) ix tpos] e pos) (liftS X.K L (dSetIx i dx de)) :=
  PS.weak (ps_asg he pg hs hw h1) <| liftS_of fun C D σ H G W δ DD I lk h k => ⟨C, G, W, δ, _, I, lk, h, fun r δ1 v H1 G1 W1 h1 x1 I1 o1 => by
    obtain ⟨G1', x1', I1', o1'⟩ := I1.pub o1
    obtain ⟨⟨ds0, h0⟩, h1⟩ := h1
    obtain ⟨p, hp, _⟩ := I1'.ownAt h0
    refine ⟨.ref p, hp, C, G1', W1, δ1, _, I1', lk.mono (x1.trans x1'), h1, fun r2 δ2 y H2 G2 W2 h2 x2 I2 o2 => ?_⟩
    obtain ⟨d, δ3, ds, k', j, e1, e2, e3, e4, hn⟩ := h2
    obtain ⟨G2', x2', I2', o2'⟩ := I2.pub o2
    rw [← use_pub] at e1
    obtain ⟨G3, x3, I3, o3, _⟩ := I2'.useOk (ROk.keep o1' (x2.trans x2')) e1
    rw [← peek_pub] at e2
    have ey := ((I3.peekOk (ROk.keep o2' x3) e2).den I3.gh).of_int
    subst ey
    obtain ⟨q, hq, vs, hv, dn⟩ := I3.ownAt e3
    rw [hp] at hq
    have eq : p = q := by simpa using hq
    subst eq
    refine ⟨p, vs, k', j, rfl, rfl, hv, by rw [dn.1]; exact e4, ?_⟩
    exact k.nx σ _ G3 W2 _ ((((x1.trans x1').trans x2).trans x2').trans x3) (I3.write (d' := .lst (ds.set j d)) e3 hp ⟨_, upd_same, All2.set dn j o3⟩) hn⟩
end
def takeS : DSp := fun rs P _ => ∃ n, rs = [.bag, .val (.int n)] ∧ 0 < n ∧ n < 1461501637330902918203684832716283019655932542976 ∧ ∀ r : Int, 0 ≤ r → r < n → P (.val (.int r)) none
section
variable {P : Program} {w : World} {K : PySem.W.Frag} {mg : Str → Option Value} {base : Heap}
theorem take_fin {bo mo : Option Addr} {G H : Hp} (hm : Lent bo mo G H) (B : BagT bo H G H) {b c : Addr} {x y z : Int} {ns : List Int} (h0 : ∃ x y z : Int, H b = some (.lst [.int x, .int y, .int z, .ref c])) (hbo : bo = some b) (hg : Ex G H) (gb : G b = none) (gc : G c = some (.lst (ns.map V.int))) (h1 : 0 ≤ x) (h2 : 0 ≤ y) (h3 : y < 2147483647) (h4 : 0 ≤ z) (h5 : ∀ n ∈ ns, 0 ≤ n) :
    Fin bo mo G H G (upd H b (.lst [.int x, .int y, .int z, .ref c])) := by
  have hf : ∀ u, H b = some u → flatO u = true := fun u e => by
    obtain ⟨_, _, _, _, _, _, h, _⟩ := B.of b hbo
    rw [h] at e; cases e; rfl
  refine ⟨Ex.refl G, fun a o e => ?_, fun a o nb _ _ e => ?_, fun _ _ => rfl, ⟨fun b' e => ?_, fun b' e => by
    rw [hbo] at e; cases e
    obtain ⟨x, y, z, h0⟩ := h0
    exact ⟨x, y, z, c, h0⟩, fun b' x1 y1 z1 c1 x2 y2 z2 c2 e e1 e2 => by
    rw [hbo] at e; cases e
    obtain ⟨_, _, _, h0⟩ := h0
    rw [h0] at e1; cases e1
    rw [upd_same] at e2; cases e2; rfl, tabs_upd B.tb hf (flat_tbl rfl), B.ng, fun a u kvs => by
    by_cases q : a = b
    · subst q
      obtain ⟨_, _, _, h0⟩ := h0
      rw [upd_same, h0]
      exact ⟨fun e => by (cases e), fun e => by (cases e)⟩
    · rw [upd_ne q]⟩, fun p e => ?_⟩
  · rw [upd_ne (ne_of_none e gb)]; exact hg a o e
  · have ne : a ≠ b := by rintro rfl; exact nb hbo
    rw [upd_ne ne]; exact e
  · rw [hbo] at e; cases e
    exact ⟨gb, x, y, z, c, ns, upd_same, gc, h1, h2, h3, h4, h5⟩
  · have ne : p ≠ b := by rintro rfl; exact (hm p e).2.2 hbo
    rw [upd_ne ne]; exact (hm p e).1
end
def Df (K : PySem.W.Frag) (mg : Str → Option Value) (x : Str) (sm : Stmt) : Prop := ∃ (f : Addr) (fd : FuncData), Fun K x x sm f fd ∧ mg x = some (.ref f)
def Fc (P : Program) (w : World) (K : PySem.W.Frag) (mg : Str → Option Value) (base : Heap) (k : Nat) (x : Str) (ps : List Str) (S : DSp) : Prop :=
  ∃ (f : Addr) (fd : FuncData), FnOk P w K mg base CX0 k f fd ps (spOf K S) ∧ mg x = some (.ref f) ∧ PySem.W.keepIn K (.ref f) = true ∧ Binds K fd ps []
def FcG (P : Program) (w : World) (K : PySem.W.Frag) (mg : Str → Option Value) (base : Heap) (k : Nat) (x : Str) (ps : List Str) (S : DSp) : Prop :=
  ∃ (f : Addr) (fd : FuncData), FnG P w K mg base CX0 k f fd ps (spOf K S) ∧ mg x = some (.ref f) ∧ PySem.W.keepIn K (.ref f) = true ∧ Binds K fd ps []
section
variable {X : Cx} {L : Lk} {k : Nat} {ps : List Str} {S : DSp} {x : Str} {p pos : Pos} {e : Expr} {es : List Expr} {da : DA}
theorem de_fc (F : Fc X.prog X.w X.K X.mg X.base k x ps S) (hr : Room k X.A) (hg : Gl X x) (ha : PA X (e :: es) (liftA X.K L da)) (hdb : (x == ("__debug__" : Str)) = false := by decide)
    (he : starEach (e :: es) X.env = (false, eval e X.env) :: starEach es X.env := by rfl) (hpl : (backTo pos (starEach es X.env)).any (·.1) = false := by rfl) : PE X (.Call (.Name x p) (e :: es) [] pos) (lift X.K L (dCall S da)) :=
  let ⟨_, _, h1, h2, h3, h4⟩ := F
  de_call h1 hr hg h2 h3 h4 ha hdb he hpl
theorem de_fc0 (F : Fc X.prog X.w X.K X.mg X.base k x ps S) (hr : Room k X.A) (hg : Gl X x) (hdb : (x == ("__debug__" : Str)) = false := by decide) : PE X (.Call (.Name x p) [] [] pos) (lift X.K L (dCall S dNil)) :=
  let ⟨_, _, h1, h2, h3, h4⟩ := F
  de_call0 h1 hr hg h2 h3 h4 hdb
theorem de_fcG (F : FcG X.prog X.w X.K X.mg X.base k x ps S) (hq : Quiet X.A) (hr : Room k X.A) (hg : Gl X x) (ha : PA X (e :: es) (liftA X.K L da)) (hdb : (x == ("__debug__" : Str)) = false := by decide)
    (he : starEach (e :: es) X.env = (false, eval e X.env) :: starEach es X.env := by rfl) (hpl : (backTo pos (starEach es X.env)).any (·.1) = false := by rfl) : PE X (.Call (.Name x p) (e :: es) [] pos) (lift X.K L (dCall S da)) :=
  let ⟨_, _, h1, h2, h3, h4⟩ := F
  de_callG h1 hq hr hg h2 h3 h4 ha hdb he hpl
end
end DL
namespace DL
open PySem PySem.Spec L2
theorem okN {n : Nat} : D.Ok n .non := by unfold D.Ok; trivial
theorem okB {n : Nat} {b : Bool} : D.Ok n (.bl b) := by unfold D.Ok; trivial
section
variable {δ δ1 δ2 δ3 δ4 : List R} {P : R → List R → Prop} {PB : Bool → List R → Prop} {PA : List R → List R → Prop} {da db de dx : DE} {t u : DT} {DD : DEnds} {i j : Nat} {d d1 d2 d' : D} {r r1 r2 r' : R} {Q : R → Prop} {a b c : DS}
end
end DL
namespace DL
open PySem PySem.Spec L2 PyProof.Rows
theorem quiet_caller : Quiet callerA := rfl
theorem end_at {P : Program} {w : World} {K : PySem.W.Frag} {mg mb : Str → Option Value} {k : Nat} {fa a : Addr} {fd : FuncData} {x : Str} {sp : Sp} {s1 : Shared} {items : Array Value} {H : Hp}
    (kin : K.In s1.heap) (gl : s1.heap.Ns mainGlobals mg) (bl : s1.heap.Ns builtinsNs mb) (bb : ∀ x : Str, x ≠ "__name__" → mb x = bootBuiltins x) (lim : s1.heap.NoLimit) (gens : s1.gens = #[])
    (ha : s1.heap.get? a = some { cls := .type "list", data := .seq items }) (hr : Room k callerA)
    (F : ∀ base : Heap, K.In base → base.Ns mainGlobals mg → FnG P w K mg base CX0 k fa fd [x] sp) (bind : ∀ (s : Shared) (u : Value), BindsTo s fd ⟨[u], []⟩ [(x, u)])
    (only : Only H) (hok : HOk P w H s1.heap) (one : ∀ b, H b ≠ none → b = a) (noK : H a ≠ none → K.lookup a = none) (hsp : sp [.ref a] H (fun v _ => v = .bl true) fun _ _ _ => False) :
    codeAny (model P w) callerA (.call (.ref fa) ⟨[.ref a], []⟩) (fun r s' => r = .ok (.ret (.bool true)) ∧ OldK s1.heap s'.heap ∧ s'.os = s1.os ∧ AllBare s'.gens) s1 := by
  have back : ∀ {b : Addr} {o : Obj}, s1.heap.get? b = some o → H b = none → (hidT s1.heap H).get? b = some o := hidT_get
  have free : ∀ {b : Addr} {o : Obj} {es : Array DictEntry} {ep : Nat}, s1.heap.get? b = some o → o.data = .dict es ep → H b = none := by
    intro b o es ep e d
    refine Classical.byContradiction fun z => ?_
    obtain rfl := one b z
    rw [ha] at e
    cases e
    cases d
  have ns : ∀ {b : Addr} {m : Str → Option Value}, s1.heap.Ns b m → (hidT s1.heap H).Ns b m := by
    rintro b m ⟨o, es, ep, e, d, r⟩
    exact ⟨o, es, ep, back e (free e d), d, r⟩
  have kb : K.In (hidT s1.heap H) := fun b o e => back (kin b o e) (Classical.byContradiction fun z => by
    obtain rfl := one b z
    rw [noK z] at e
    cases e)
  obtain ⟨mc, l1, l2⟩ := lim
  have e0 : Env0 P w K mg (hidT s1.heap H) callerA [] s1 H :=
    { frames := rfl, mod := ⟨kb, ns gl, ⟨mb, ns bl, bb⟩, mc, ns l1, l2⟩, bs := fun b o e => of_hidT e, bsz := Nat.le_of_eq (hidT_size _ _), funs := trivial, frf := (fun b hb => by cases hb), hok := hok, bare := .of_eq gens }
  refine codeAny_mono ((F _ kb (ns gl)).run callerA [] s1 H ⟨[.ref a], []⟩ [.ref a] [.ref a] _ _ quiet_caller hr e0 (bind s1 (.ref a)) (.cons rfl .nil) hsp) ?_
  intro r s' z
  match r, z with
  | .ok (.ret u), z =>
    obtain ⟨v, H', os, bare, un, hok', r', q⟩ := z
    have q : v = .bl true := q
    subst q
    obtain rfl : u = Value.bool true := r'
    refine ⟨rfl, OldK.of_keep fun b o e => ?_, os, bare⟩
    rcases only b with z | ⟨ob, xs, z⟩
    · exact un.keep b o e z (by intro t; cases t) (by intro t; cases t)
    · have o1 : s1.heap.get? b = some ob := (hok b _ z).1
      have o2 : s'.heap.get? b = some ob := (hok' b _ (un.frzs b ob _ z)).1
      rw [o2, ← o1]; exact e
theorem law_quiet {l : PySem.W.OpenLaw} {n k : Nat} {q : Program} {loose : List Str} {XP : (Str → Option Value) → Heap → Prop} {YP : World → Heap → Prop} {d : DefRec} {x : Str} (hn : l.most = some n) (hn2 : n ≤ sizeLine) (hdf : d.params.defaults = []) (hr : Room k callerA)
    (F : ∀ (w : World) (mg : Str → Option Value) (fa : Addr) (h : Heap), YP w h → h.Ns mainGlobals mg → mg d.name = some (.ref fa) → ∃ (K : PySem.W.Frag) (fd : FuncData) (sp : Sp), K.In h ∧ (∀ (s : Shared) (u : Value), BindsTo s fd ⟨[u], []⟩ [(x, u)]) ∧
      (∀ (H : Hp) (a : Addr) (ns : List Int), ns.length ≤ n → Only H → SqL K H a (ns.map V.int) → sp [.ref a] H (fun v _ => v = .bl true) fun _ _ _ => False) ∧ ∀ base : Heap, K.In base → base.Ns mainGlobals mg → FnG l.prog w K mg base CX0 k fa fd [x] sp) :
    PySem.W.WalkO q loose XP YP l.row.toRowW d [] (fun f vs => PySem.call f vs) := by
  refine Att.attach_call hn hdf fun w s0 s1 mg mb fa o pm cd doc a vs ns G Y ho hd hcd hmg hobj hints hlen hg => ?_
  obtain ⟨K, fd, sp, kin, hb, hsp, hF⟩ := F w mg fa _ Y G.T.g hmg
  have rv := vals_ints hints
  have le : ns.length ≤ sizeLine := Nat.le_trans hlen hn2
  have go := fun H => end_at (H := H) kin G.T.g G.T.b G.T.builtins G.T.nolimit hg hobj hr hF hb
  by_cases hk : K.lookup a = none
  · let ob : Obj := { cls := .type "list", data := .seq vs.toArray }
    have hat : (fun b => if b = a then some (HO.frz ob (.lst (ns.map V.int))) else none : Hp) a = some (.frz ob (.lst (ns.map V.int))) := if_pos rfl
    have ho : ∀ b, (fun b => if b = a then some (HO.frz ob (.lst (ns.map V.int))) else none : Hp) b = none ∨ b = a := fun b => by
      by_cases e : b = a
      · exact .inr e
      · exact .inl (if_neg e)
    have on : Only (fun b => if b = a then some (HO.frz ob (.lst (ns.map V.int))) else none) := fun b => (ho b).imp id fun e => ⟨ob, ns.map V.int, by rw [e]; exact hat⟩
    refine go _ on (fun b u z => ?_) (fun b z => (ho b).resolve_left z) (fun _ => hk) (hsp _ a ns hlen on (.inl (.inr ⟨ob, hat⟩)))
    rcases ho b with e | e
    · have := e.symm.trans z; cases this
    · subst e
      have z' := hat.symm.trans z
      cases z'
      exact ⟨hobj, by rw [List.length_map]; exact le, vs, _, rv, hobj⟩
  · cases hl : K.lookup a with
    | none => exact absurd hl hk
    | some o1 =>
      have e := kin a o1 hl
      rw [hobj] at e
      cases e
      exact go (fun _ => none) (fun _ => .inl rfl) (fun b u z => by cases z) (fun b z => absurd rfl z) (fun z => absurd rfl z)
        (hsp _ a ns hlen (fun _ => .inl rfl) (.inr ⟨_, vs.toArray, _, hl, rfl, rfl, rfl, by rw [List.size_toArray, hints.length]; exact le, by simpa using rv⟩))
end DL
namespace DL
open PySem PySem.Spec L2
variable [TabsC]
def spBag (K : PySem.W.Frag) : Sp := fun vs H Q _ => ∃ (a : Addr) (ns : List Int), vs = [.ref a] ∧ SqL K H a (ns.map V.int) ∧ ns.length ≤ 63 ∧ ∀ (p c : Addr) (ms : List Int) (H' : Hp), p ≠ c → (TabsX H → TabsX H') → H' p = some (.lst [.int 0, .int 1234567891, .int 0, .ref c]) → H' c = some (.lst (ms.map V.int)) → (∀ m ∈ ms, 0 ≤ m) → Q (.ref p) H'
def spLaw (K : PySem.W.Frag) : Sp := fun vs H Q _ => ∃ (a : Addr) (ns : List Int), vs = [.ref a] ∧ SqL K H a (ns.map V.int) ∧ ns.length ≤ 63 ∧ TabsX H ∧ ∀ H', Q (.bl true) H'
def bagStart (N : List Str) : List R := .no :: .bag :: List.replicate (N.length - 2) .no
section
variable {P : Program} {w : World} {K : PySem.W.Frag} {mg : Str → Option Value} {base : Heap}
theorem gt_bagStart {N : List Str} : ∀ {i : Nat}, gt (bagStart N) i ≠ .no → i = 1
  | 0, h => absurd rfl h
  | 1, _ => rfl
  | i + 2, h => absurd (gt_nos _ i fun t ht => by simp at ht; exact ht.2) h
theorem enter_bag {N : List Str} {ds : DS} {D : Ends} {a p c : Addr} {ms : List Int} {H' : Hp} (hN : 2 ≤ N.length) (hpc : p ≠ c) (hT : TabsX H') (hp : H' p = some (.lst [.int 0, .int 1234567891, .int 0, .ref c])) (hc : H' c = some (.lst (ms.map V.int))) (hm : ∀ m ∈ ms, 0 ≤ m)
    (hd : ds { nx := fun _ => False, rt := fun r _ => r = .val (.bl true) } (bagStart N)) (hq : ∀ H', D.rt (.bl true) H') : liftS K L0 ds D ((start N [.ref a]).set 1 (some (.ref p))) H' := by
  let G : Hp := fun x => if x = c then H' c else none
  have gc : G c = some (.lst (ms.map V.int)) := (if_pos rfl).trans hc
  have gp : G p = none := if_neg hpc
  refine ⟨⟨some p, none, H', G, fun _ => none, false⟩, G, fun _ => none, bagStart N, _, ⟨fun x o e => ?_, Ex.refl G, fun _ _ _ _ _ e => e, fun _ _ => rfl, fun b e => ?_, ⟨fun b e => ?_, fun b e => (by cases e; exact ⟨_, _, _, _, hp⟩), fun b x y z c x' y' z' c' _ e1 e2 => (by have e1 : H' b = _ := e1; rw [e1] at e2; cases e2; rfl), hT, fun a ha => if_neg ?_, fun _ _ _ => Iff.rfl⟩, (fun _ _ e => by cases e), (fun _ e => by cases e), ?_, fun i hi => ?_⟩, Lnk.zero, hd, fun _ _ _ _ _ _ _ z => z.elim, fun v σ' H2 G2 W2 δ2 r x I o _ z => ?_, fun _ _ _ _ _ _ _ z => z.elim, fun _ _ _ _ _ _ _ z => z.elim⟩
  · by_cases hx : x = c
    · subst hx
      have e : (if x = x then H' x else none) = some o := e
      rw [if_pos rfl] at e; exact e
    · have e : (if x = c then H' c else none) = some o := e
      rw [if_neg hx] at e; cases e
  · cases e
    show H' p ≠ none
    rw [hp]; simp
  · cases e
    exact ⟨gp, 0, 1234567891, 0, c, ms, hp, gc, by decide, by decide, by decide, by decide, hm⟩
  · rintro rfl
    obtain ⟨ps, e⟩ := tabs_tab hT ha
    rw [hc] at e; cases e
  · unfold bagStart L2.start
    simp
    omega
  · obtain rfl := gt_bagStart hi
    refine ⟨.ref p, ?_, p, rfl, rfl⟩
    have : 1 < (start N [V.ref a]).length := by unfold L2.start; simp; omega
    simp [this]
  · have z : r = .val (.bl true) := z
    subst z
    have o : Den K G2 v (.bl true) := o
    rw [o.of_bl]
    exact hq H2
theorem fn_law {sm st0 : Stmt} {rest : List Stmt} {f : Addr} {fd : FuncData} {N : List Str} {k : Nat} {ds : DS} (F : Fun K "law" "law" sm f fd) (Sc : FnScope N ["_law_script"] (defScope sm)) (hN : 2 ≤ N.length) (hb : defBody sm = st0 :: rest)
    (h : ∀ (cdv : Value) (A : Around) (outer : List Env) (s : Shared) (H : Hp) (E : XK), Quiet A → Room k (A.deeper (PyProof.Rows.envOfC "law" (defScope sm) s.heap.objs.size f cdv)) →
      PS (cxOf CX0 P w K mg base N "law" (defScope sm) f cdv A outer s H E).nox st0 (tAsg (tCall (spBag K) [] E0 (tCons (tVar 0) tNil)) (gName 1)) ∧ PSs (cxOf CX0 P w K mg base N "law" (defScope sm) f cdv A outer s H E).nox rest (liftS K L0 ds))
    (hd : ds { nx := fun _ => False, rt := fun r _ => r = .val (.bl true) } (bagStart N)) : FnG P w K mg base CX0 (k + 1) f fd ["_law_script"] (spLaw K) := by
  obtain ⟨oc, od, kV, doc, pm, an, cdv, ct, osl, rfl, lk, hcd⟩ := F.ex
  refine fn_quiet lk hcd Sc (fun vs H Q E z => ?_) (fun A outer s H vs Q E hq hr z => ?_)
  · obtain ⟨a, ns, rfl, _⟩ := z; rfl
  · obtain ⟨a, ns, rfl, sq, l, tt, q⟩ := z
    obtain ⟨p0, pr⟩ := h cdv A outer s H E hq hr
    have e0 : (L2.start N [V.ref a])[0]? = some (some (.ref a)) := by unfold L2.start; simp
    have rd : tSeq (tAsg (tCall (spBag K) [] E0 (tCons (tVar 0) tNil)) (gName 1)) (liftS K L0 ds) { nx := fun _ H' => Q .non H', rt := Q } (L2.start N [V.ref a]) H :=
      ⟨.ref a, e0, a, ns, rfl, sq, l, fun p c ms H' n1 xe n2 n3 n4 => enter_bag hN n1 (xe tt) n2 n3 n4 hd q⟩
    exact ⟨_, PSs.nox (by rw [hb]; exact pss_cons p0 pr), rd⟩
end
end DL
namespace DL
open PySem PySem.Spec L2
variable [TabsC]
def putD (kvs : List (Key × D)) (k : Key) (d : D) : List (Key × D) := if (kvs.any fun kv => decide (kv.1 = k)) = true then kvs.map (fun kv => if kv.1 = k then (kv.1, d) else kv) else kvs ++ [(k, d)]
section
variable {X : Cx} {K : PySem.W.Frag} {L : Lk} {a b e : Expr} {da db de : DE} {pos : Pos} {G H : Hp}
theorem any_key {kvs : List (Key × V)} {kds : List (Key × D)} (h : DensP K G kvs kds) (k : Key) : (kvs.any fun kv => decide (kv.1 = k)) = (kds.any fun kv => decide (kv.1 = k)) := by
  induction kds generalizing kvs with
  | nil => rw [All2.nil_right h]; rfl
  | cons q r ih =>
    obtain ⟨p, vr, rfl, ⟨h1, h2⟩, h3⟩ := All2.cons_right h
    rw [List.any_cons, List.any_cons, ih h3, h1]
theorem map_key {kvs : List (Key × V)} {kds : List (Key × D)} (h : DensP K G kvs kds) {k : Key} {v : V} {d : D} (e : Den K G v d) : DensP K G (kvs.map fun kv => if kv.1 = k then (kv.1, v) else kv) (kds.map fun kv => if kv.1 = k then (kv.1, d) else kv) := by
  induction kds generalizing kvs with
  | nil => rw [All2.nil_right h]; exact .nil
  | cons q r ih =>
    obtain ⟨p, vr, rfl, ⟨h1, h2⟩, h3⟩ := All2.cons_right h
    refine .cons ?_ (ih h3)
    show (if p.1 = k then (p.1, v) else p).1 = (if q.1 = k then (q.1, d) else q).1 ∧ Den K G (if p.1 = k then (p.1, v) else p).2 (if q.1 = k then (q.1, d) else q).2
    by_cases z : q.1 = k
    · rw [if_pos z, if_pos (h1.trans z)]; exact ⟨h1, e⟩
    · rw [if_neg z, if_neg (fun y => z (h1.symm.trans y))]; exact ⟨h1, h2⟩
theorem put_ok {kvs : List (Key × V)} {kds : List (Key × D)} (h : DensP K G kvs kds) {k : Key} {v : V} {d : D} (e : Den K G v d) : DensP K G (putK kvs k v) (putD kds k d) := by
  unfold putK putD
  rw [any_key h]
  split
  · exact map_key h e
  · exact All2.append h (.cons ⟨rfl, e⟩ .nil)
end
end DL
set_option maxHeartbeats 1000000
namespace DL
open PySem PySem.Spec L2
variable [TabsC]
section
variable {K : PySem.W.Frag} {C : Ct} {σ : St} {H G : Hp} {W : Ow} {δ : List R}
theorem SI.clear (I : SI K C σ H G W δ) (i : Nat) : SI K C (σ.set i none) H G W (st δ i .no) := by
  refine ⟨I.gh, I.g0, I.hh, I.gz, I.b0, I.bag, I.tm, I.mu, by rw [st_len, List.length_set]; exact I.ln, fun j hj => ?_⟩
  by_cases e : i = j
  · subst e
    rcases gt_st_same δ i .no with z | z <;> exact absurd z hj
  · rw [gt_st_ne δ i j .no e] at hj ⊢
    obtain ⟨w, h1, h2⟩ := I.sl j hj
    refine ⟨w, by rw [List.getElem?_set_ne e]; exact h1, ?_⟩
    cases q : gt δ j with
    | no => exact trivial
    | val d => rw [q] at h2; exact h2
    | bag => rw [q] at h2; exact h2
    | own d => rw [q] at h2; exact h2
    | bor d => rw [q] at h2; exact h2
    | pk k => rw [q] at h2; exact absurd h2.1 (by simp)
end
abbrev Lx := Addr → List (Str × D) → List R → Prop
section
variable {X : Cx} {L : Lk} {x n f : Str} {Cl : Addr} {i : Nat} {body sf : List Stmt} {b1 : Stmt} {np pos pos' p : Pos} {hds : List ExceptHandler} {bd : Lx → DS} {su : Addr → Value → Option Addr → DS} {e : Expr} {de : DE} {da : DA}
def spInit (K : PySem.W.Frag) (f : Str) : Sp := fun vs H Q _ => ∃ (a Cl : Addr) (v : V), vs = [.ref a, v] ∧ OexC K Cl ∧ PySem.W.findIn K (.ref Cl) f = some none ∧ H a = some (exo a Cl none) ∧ ∀ dx, H dx = none → dx ≠ a → Q .non (upd (upd H dx (exd dx [(f, v)])) a (exo a Cl (some dx)))
structure ErrC (P : Program) (w : World) (K : PySem.W.Frag) (mg : Str → Option Value) (base : Heap) (x : Str) (Cl : Addr) (f : Str) : Prop where
  oex : OexC K Cl
  xf : XfC K Cl
  no : PySem.W.findIn K (.ref Cl) f = some none
  gl : mg x = some (.ref Cl)
  self : PySem.W.exmOne K (.ref Cl) (.ref Cl) = some true
  ini : ∃ (fI : Addr) (fd : FuncData) (ps : List Str), PySem.W.findIn K (.ref Cl) "__init__" = some (some (.ref fI)) ∧ PySem.W.typeIn K (.ref fI) = some (.type "function") ∧ FnOk P w K mg base CX0 1 fI fd ps (spInit K f) ∧ Binds K fd ps []
theorem fn_init {P : Program} {w : World} {K : PySem.W.Frag} {mg : Str → Option Value} {base : Heap} {qual : Str} {sm : Stmt} {fI : Addr} {fd : FuncData} {g : Str} {ps : List Str} (F : Fun K "__init__" qual sm fI fd) (Sc : FnScope ["self", g] ps (defScope sm)) (hl : ps.length = 2)
    (hb : ∀ (cdv : Value) (A : Around) (outer : List Env) (s : Shared) (H : Hp) (E : XK), PSs (cxOf CX0 P w K mg base ["self", g] qual (defScope sm) fI cdv A outer s H E).nox (defBody sm) (tOst K f (tVar 0) (tVar 1))) : FnOk P w K mg base CX0 1 fI fd ps (spInit K f) := by
  refine F.ok Sc (fun vs H Q E h => ?_) (fun cdv A outer s H vs Q E hr h => ⟨_, hb cdv A outer s H E, ?_⟩)
  · obtain ⟨a, Cl, v, rfl, _⟩ := h
    rw [hl]; rfl
  · obtain ⟨a, Cl, v, rfl, T, hno, ha, q⟩ := h
    exact ⟨v, rfl, .ref a, rfl, a, Cl, rfl, T, hno, .inl ⟨ha, q⟩⟩
variable {k : Nat} {ps : List Str} {S : DSp} {es : List Expr}
end
end DL
namespace DL
open PySem PySem.Spec L2
variable [TabsC]
section
variable {X : Cx} {K : PySem.W.Frag} {L : Lk} {a b e : Expr} {da db de : DE} {pos p q : Pos}
def cEqS : D → D → Bool → Prop := fun d1 d2 r => ∃ x y, d1 = .str x ∧ d2 = .str y ∧ r = decide (x = y)
theorem cs_eqS : CmpSem K rEq cEqS := fun H x y d1 d2 r Q h1 h2 hc k => by
  obtain ⟨x', y', rfl, rfl, rfl⟩ := hc
  have e1 := h1.of_str
  have e2 := h2.of_str
  subst e1; subst e2
  refine ⟨rfl, ?_⟩
  rw [show decide (V.str x' = V.str y') = decide (x' = y') by simp]
  exact k
end
section
variable {δ δ1 δ2 δ3 : List R} {P : R → List R → Prop} {da db de : DE} {DD : DEnds} {i : Nat} {d d1 d2 : D} {r r1 r2 r' : R} {Q : R → Prop}
end
end DL
namespace DL
open PySem PySem.Spec L2
variable [TabsC]
inductive T (α : Type) where
  | ret (a : α)
  | take (n : Int) (k : Int → T α)
  | any (k : Addr → Addr → T α)
  | fail
namespace T
variable {α β γ : Type}
def bind : T α → (α → T β) → T β
  | .ret a, f => f a
  | .take n k, f => .take n fun r => bind (k r) f
  | .any k, f => .any fun a d => bind (k a d) f
  | .fail, _ => .fail
def all : T α → (α → Prop) → Prop
  | .ret a, P => P a
  | .take n k, P => 0 < n ∧ n < 1461501637330902918203684832716283019655932542976 ∧ ∀ r : Int, 0 ≤ r → r < n → all (k r) P
  | .any k, P => ∀ a d, all (k a d) P
  | .fail, _ => False
theorem all_retE {a : α} {P : α → Prop} : all (.ret a) P = P a := (rfl)
theorem all_failE {P : α → Prop} : all (.fail : T α) P = False := (rfl)
theorem all_anyE {k : Addr → Addr → T α} {P : α → Prop} : all (.any k) P = ∀ a d, all (k a d) P := (rfl)
theorem all_iteE {c : Prop} [Decidable c] {t u : T α} {P : α → Prop} : all (if c then t else u) P = ((c → all t P) ∧ (¬ c → all u P)) := by
  by_cases h : c <;> simp [h]
theorem bind_ret {a : α} {f : α → T β} : bind (.ret a) f = f a := (rfl)
theorem bind_fail {f : α → T β} : bind (.fail : T α) f = .fail := (rfl)
theorem bind_any {k : Addr → Addr → T α} {f : α → T β} : bind (.any k) f = .any fun a d => bind (k a d) f := (rfl)
theorem bind_ite {c : Prop} [Decidable c] {t u : T α} {f : α → T β} : bind (if c then t else u) f = if c then bind t f else bind u f := by split <;> rfl
theorem all_mono {t : T α} {P Q : α → Prop} (h : all t P) (k : ∀ a, P a → Q a) : all t Q := by
  induction t with
  | ret a => exact k a h
  | fail => exact h
  | take n f ih => exact ⟨h.1, h.2.1, fun r h0 h1 => ih r (h.2.2 r h0 h1)⟩
  | any f ih => exact fun a d => ih a d (h a d)
theorem all_bind {t : T α} {f : α → T β} {P : β → Prop} : all (bind t f) P ↔ all t fun a => all (f a) P := by
  induction t with
  | ret a => exact Iff.rfl
  | fail => exact Iff.rfl
  | take n k ih => exact ⟨fun h => ⟨h.1, h.2.1, fun r h0 h1 => (ih r).mp (h.2.2 r h0 h1)⟩, fun h => ⟨h.1, h.2.1, fun r h0 h1 => (ih r).mpr (h.2.2 r h0 h1)⟩⟩
  | any k ih => exact ⟨fun h a d => (ih a d).mp (h a d), fun h a d => (ih a d).mpr (h a d)⟩
@[irreducible] def All (t : T α) (P : α → Prop) : Prop := all t P
theorem All_eq {t : T α} {P : α → Prop} : All t P = all t P := by unfold All; rfl
theorem All_retE {a : α} {P : α → Prop} : All (.ret a) P = P a := by rw [All_eq, all_retE]
theorem All_failE {P : α → Prop} : All (.fail : T α) P = False := by rw [All_eq, all_failE]
theorem All_anyE {k : Addr → Addr → T α} {P : α → Prop} : All (.any k) P = ∀ a d, All (k a d) P := by simp only [All_eq, all_anyE]
theorem All_iteE {c : Prop} [Decidable c] {t u : T α} {P : α → Prop} : All (if c then t else u) P = ((c → All t P) ∧ (¬ c → All u P)) := by simp only [All_eq, all_iteE]
theorem All_mono {t : T α} {P Q : α → Prop} (h : All t P) (k : ∀ a, P a → Q a) : All t Q := by rw [All_eq] at h ⊢; exact all_mono h k
theorem All_bind {t : T α} {f : α → T β} {P : β → Prop} : All (bind t f) P ↔ All t fun a => All (f a) P := by simp only [All_eq]; exact all_bind
theorem All_of {t : T α} {f : α → T β} {Q : α → Prop} {P : β → Prop} (h : All t Q) (k : ∀ a, Q a → All (f a) P) : All (bind t f) P := All_bind.mpr (All_mono h k)
end T
inductive EO (α : Type) where
  | ok (a : α) (δ : List R)
  | err (c : Addr) (fs : List (Str × D)) (δ : List R)
abbrev F (α : Type) := List R → T (EO α)
section
variable {α β : Type}
def F.ret (a : α) : F α := fun δ => .ret (.ok a δ)
def F.fail : F α := fun _ => .fail
def EO.on (o : EO α) (k : α → F β) : T (EO β) := match o with
  | .ok a δ => k a δ
  | .err c fs δ => .ret (.err c fs δ)
def F.bind (f : F α) (k : α → F β) : F β := fun δ => (f δ).bind fun o => o.on k
def F.of : Option α → F α
  | some a => F.ret a
  | none => F.fail
def EO.holds (x : Lx) (P : α → List R → Prop) : EO α → Prop
  | .ok a δ => P a δ
  | .err c fs δ => x c fs δ
def pP (x : Lx) (f : F α) : List R → (α → List R → Prop) → Prop := fun δ P => (f δ).all (EO.holds x P)
theorem pP_bind {x : Lx} {f : F α} {k : α → F β} {δ : List R} {P : β → List R → Prop} : pP x (f.bind k) δ P ↔ pP x f δ fun a δ' => pP x (k a) δ' P := by
  unfold pP F.bind
  rw [T.all_bind]
  constructor <;> intro h <;> refine T.all_mono h fun o ho => ?_ <;> cases o <;> exact ho
theorem pP_mono {x : Lx} {f : F α} {δ : List R} {P Q : α → List R → Prop} (h : pP x f δ P) (k : ∀ a δ', P a δ' → Q a δ') : pP x f δ Q := T.all_mono h fun o ho => by
  cases o with
  | ok a δ' => exact k a δ' ho
  | err c fs δ' => exact ho
theorem pP_then {x : Lx} {f : F α} {k : α → F β} {δ : List R} {P : β → List R → Prop} {Q : α → List R → Prop} (h : pP x (f.bind k) δ P) (w : ∀ a δ', pP x (k a) δ' P → Q a δ') : pP x f δ Q := pP_mono (pP_bind.mp h) w
theorem pP_of {x : Lx} {o : Option α} {δ : List R} {P : α → List R → Prop} (h : pP x (F.of o) δ P) : ∃ a, o = some a ∧ P a δ := by
  cases o with
  | none => exact h.elim
  | some a => exact ⟨a, rfl, h⟩
end
def valOf : R → Option D
  | .val d => some d
  | _ => none
def useF (r : R) : F D := fun δ => match use r δ with
  | some (.val d, δ') => .ret (.ok d δ')
  | _ => .fail
def peekF (r : R) : F D := fun δ => match peek r δ with
  | some d => .ret (.ok d δ)
  | none => .fail
def useAllF (rs : List R) : F (List R) := fun δ => match useAll rs δ with
  | some (rs', δ') => .ret (.ok rs' δ')
  | none => .fail
def peekAllF (rs : List R) : F (List D) := fun δ => match peekAll rs δ with
  | some ds => .ret (.ok ds δ)
  | none => .fail
section
variable {x : Lx} {δ : List R}
theorem pP_use {r : R} {P : D → List R → Prop} (h : pP x (useF r) δ P) : ∃ d δ', use r δ = some (.val d, δ') ∧ P d δ' := by
  unfold pP useF at h
  split at h
  · exact ⟨_, _, by assumption, h⟩
  · exact h.elim
theorem pP_peek {r : R} {P : D → List R → Prop} (h : pP x (peekF r) δ P) : ∃ d, peek r δ = some d ∧ P d δ := by
  unfold pP peekF at h
  split at h
  · exact ⟨_, by assumption, h⟩
  · exact h.elim
theorem pP_useAll {rs : List R} {P : List R → List R → Prop} (h : pP x (useAllF rs) δ P) : ∃ rs' δ', useAll rs δ = some (rs', δ') ∧ P rs' δ' := by
  unfold pP useAllF at h
  split at h
  · exact ⟨_, _, by assumption, h⟩
  · exact h.elim
theorem pP_peekAll {rs : List R} {P : List D → List R → Prop} (h : pP x (peekAllF rs) δ P) : ∃ ds, peekAll rs δ = some ds ∧ P ds δ := by
  unfold pP peekAllF at h
  split at h
  · exact ⟨_, by assumption, h⟩
  · exact h.elim
end
section
variable {K : PySem.W.Frag} {L : Lk}
theorem lift_imp {de de' : DE} (h : ∀ δ P, de' δ P → de δ P) : ∀ σ H Q, lift K L de' σ H Q → lift K L de σ H Q := fun σ H Q ⟨C, G, W, δ, P, I, lk, hd, k⟩ => ⟨C, G, W, δ, P, I, lk, h δ P hd, k⟩
theorem liftT_imp {de de' : DT} (h : ∀ δ P, de' δ P → de δ P) : ∀ σ H Q, liftT K L de' σ H Q → liftT K L de σ H Q := fun σ H Q ⟨C, G, W, δ, P, I, lk, hd, k⟩ => ⟨C, G, W, δ, P, I, lk, h δ P hd, k⟩
theorem liftA_imp {de de' : DA} (h : ∀ δ P, de' δ P → de δ P) : ∀ σ H Q, liftA K L de' σ H Q → liftA K L de σ H Q := fun σ H Q ⟨C, G, W, δ, P, I, lk, hd, k⟩ => ⟨C, G, W, δ, P, I, lk, h δ P hd, k⟩
theorem liftI_imp {de de' : DI} (h : ∀ δ P, de' δ P → de δ P) : ∀ σ H Q, liftI K L de' σ H Q → liftI K L de σ H Q := fun σ H Q ⟨C, G, W, δ, P, I, lk, hd, k⟩ => ⟨C, G, W, δ, P, I, lk, h δ P hd, k⟩
theorem liftO_imp {de de' : DO} (h : ∀ δ P, de' δ P → de δ P) : ∀ σ H Q, liftO K L de' σ H Q → liftO K L de σ H Q := fun σ H Q ⟨C, G, W, δ, P, I, lk, hd, k⟩ => ⟨C, G, W, δ, P, I, lk, h δ P hd, k⟩
theorem liftS_imp {de de' : DS} (h : ∀ DD δ, de' DD δ → de DD δ) : ∀ D σ H, liftS K L de' D σ H → liftS K L de D σ H := fun D σ H ⟨C, G, W, δ, DD, I, lk, hd, k⟩ => ⟨C, G, W, δ, DD, I, lk, h DD δ hd, k⟩
theorem liftG_imp {de de' : DG} (h : ∀ d δ P, de' d δ P → de d δ P) : ∀ v σ H Q, liftG K de' v σ H Q → liftG K de v σ H Q := fun v σ H Q ⟨C, G, W, δ, d, P, I, dn, hd, k⟩ => ⟨C, G, W, δ, d, P, I, dn, h d δ P hd, k⟩
theorem liftGs_imp {de de' : DGs} (h : ∀ d δ P, de' d δ P → de d δ P) : ∀ v σ H Q, liftGs K de' v σ H Q → liftGs K de v σ H Q := fun v σ H Q ⟨C, G, W, δ, d, P, I, dn, hd, k⟩ => ⟨C, G, W, δ, d, P, I, dn, h d δ P hd, k⟩
end
abbrev FE := F R
abbrev FT := F Bool
abbrev FA := F (List R)
abbrev FI := F (List D)
abbrev FO := F (Option Int)
def fVar (i : Nat) : FE := fun δ => match (gt δ i).on with
  | true => .ret (.ok (.pk i) δ)
  | false => .fail
def fC (d : D) : FE := F.ret (.val d)
def fBin (g : D → D → Option R) (fa fb : FE) : FE := fa.bind fun r1 => fb.bind fun r2 => (useF r1).bind fun d1 => (useF r2).bind fun d2 => F.of (g d1 d2)
def GS (gf : D → D → Option R) (g : D → D → (R → Prop) → Prop) : Prop := ∀ d1 d2 r P, gf d1 d2 = some r → P r → g d1 d2 P
def fCmp (c : D → D → Option Bool) (fa fb : FE) : FE := fa.bind fun r1 => fb.bind fun r2 => (peekF r1).bind fun d1 => (peekF r2).bind fun d2 => (F.of (c d1 d2)).bind fun b => F.ret (.val (.bl b))
def CS (cf : D → D → Option Bool) (c : D → D → Bool → Prop) : Prop := ∀ d1 d2 b, cf d1 d2 = some b → c d1 d2 b
def blOf : D → Option Bool
  | .bl b => some b
  | _ => none
def fTst (fe : FE) : FT := fe.bind fun r => (peekF r).bind fun d => F.of (blOf d)
def fAnd (t u : FT) : FT := t.bind fun c => if c = true then u else F.ret false
def fOr (t u : FT) : FT := t.bind fun c => if c = true then F.ret true else u
def fNot (t : FT) : FT := t.bind fun c => F.ret (!c)
def fAndV (fa fb : FE) : FE := fa.bind fun r => (peekF r).bind fun d => (F.of (blOf d)).bind fun c => if c = true then fb else F.ret (.val (.bl false))
def fOrV (fa fb : FE) : FE := fa.bind fun r => (peekF r).bind fun d => (F.of (blOf d)).bind fun c => if c = true then F.ret (.val (.bl true)) else fb
def fNotV (fa : FE) : FE := fa.bind fun r => (peekF r).bind fun d => (F.of (blOf d)).bind fun c => F.ret (.val (.bl (!c)))
def fIf (t : FT) (fa fb : FE) : FE := t.bind fun c => if c = true then fa else fb
def fNil : FA := F.ret []
def fCons (fa : FE) (fr : FA) : FA := fa.bind fun r => fr.bind fun rs => F.ret (r.pub :: rs)
def valsF (rs : List R) : F (List D) := (useAllF rs).bind fun rs' => (F.of (vals? rs')).bind fun ds => if ds.length ≤ sizeLine then F.ret ds else F.fail
def fTup (fa : FA) : FE := fa.bind fun rs => (valsF rs).bind fun ds => F.ret (.val (.tup ds))
def fLst (fa : FA) : FE := fa.bind fun rs => (valsF rs).bind fun ds => F.ret (.own (.lst ds))
def intOf : D → Option Int
  | .int i => some i
  | _ => none
def fNeg (fa : FE) : FE := fa.bind fun r => (peekF r).bind fun d => (F.of (intOf d)).bind fun i => F.ret (.val (.int (-i)))
def ixF : D → Int → Option D
  | .lst xs, i => atI xs i
  | .tup xs, i => atI xs i
  | .str z, i => if z.length ≤ sizeLine then (atI z.cps.toList i).map fun c => .str ⟨#[c]⟩ else none
  | _, _ => none
def fIx (fa fb : FE) : FE := fa.bind fun r1 => fb.bind fun r2 => (peekF r1).bind fun d => (peekF r2).bind fun e => (F.of (intOf e)).bind fun i => (F.of (ixF d i)).bind fun d' => F.ret (.val d')
def foNone : FO := F.ret none
def foSome (fe : FE) : FO := fe.bind fun r => (peekF r).bind fun d => (F.of (intOf d)).bind fun i => F.ret (some i)
def slF : D → Option Int → Option Int → Option R
  | .lst xs, lo, hi => some (.own (.lst (cut xs lo hi)))
  | .tup xs, lo, hi => some (.val (.tup (cut xs lo hi)))
  | .str z, lo, hi => if z.length ≤ sizeLine then some (.val (.str (cutS z lo hi))) else none
  | _, _, _ => none
def fSl (fa : FE) (fl fh : FO) : FE := fa.bind fun r1 => fl.bind fun lo => fh.bind fun hi => (peekF r1).bind fun d => F.of (slF d lo hi)
def fCB (b : List D → Option R) (fa : FA) : FE := fa.bind fun rs => (peekAllF rs).bind fun ds => F.of (b ds)
def BS (bf : List D → Option R) (b : List D → (R → Prop) → Prop) : Prop := ∀ ds r P, bf ds = some r → P r → b ds P
section
variable {X : Cx} {K : PySem.W.Frag} {L : Lk} {pos : Pos} {a b e : Expr} {es : List Expr} {fa fb fe : FE} {ta tb : FT} {x : Lx} {δ : List R} {P : R → List R → Prop}
abbrev HE (X : Cx) (L : Lk) (e : Expr) (f : FE) : Prop := PE X e (lift X.K L (pP L.x f))
abbrev HT' (X : Cx) (L : Lk) (e : Expr) (f : FT) : Prop := PT X e (liftT X.K L (pP L.x f))
abbrev HW (X : Cx) (L : Lk) (e : Expr) (f : FT) : Prop := PW X e (liftT X.K L (pP L.x f))
abbrev HA (X : Cx) (L : Lk) (es : List Expr) (f : FA) : Prop := PA X es (liftA X.K L (pP L.x f))
theorem fe_var (i : Nat) {x : Str} (hN : X.N[i]? = some x := by rfl) (hv : Vis X.env.scope x := by first | exact Or.inl rfl | exact Or.inr (Or.inl rfl) | exact Or.inr (Or.inr rfl)) (hd : (x == ("__debug__" : Str)) = false := by decide)
    (hcd : (x == ("__classdict__" : Str)) = false := by decide) : HE X L (.Name x pos) (fVar i) :=
  PE.weak (dv i hN hv hd hcd) <| lift_imp fun δ P h => by
    unfold pP fVar at h
    split at h
    · exact ⟨by assumption, h⟩
    · exact h.elim
theorem fe_int {i j} : HE X L (.Constant (.int i) j pos) (fC (.int i)) := dk_int
theorem fe_bl {b j} : HE X L (.Constant (.bool b) j pos) (fC (.bl b)) := dk_bl
theorem fe_non {j} : HE X L (.Constant .none j pos) (fC .non) := dk_non
theorem fe_str {s j} : HE X L (.Constant (.str s) j pos) (fC (.str s)) := dk_str
theorem bin_imp {gf : D → D → Option R} {g : D → D → (R → Prop) → Prop} (s : GS gf g) (δ : List R) (P : R → List R → Prop) (h : pP x (fBin gf fa fb) δ P) : dBin g (pP x fa) (pP x fb) δ P :=
  pP_then h fun r1 δ1 h => pP_then h fun r2 δ2 h => by
    obtain ⟨d1, δ3, e1, h⟩ := pP_use (pP_bind.mp h)
    obtain ⟨d2, δ4, e2, h⟩ := pP_use (pP_bind.mp h)
    obtain ⟨r, e3, h⟩ := pP_of h
    exact ⟨d1, δ3, d2, δ4, e1, e2, s d1 d2 r _ e3 h⟩
theorem fe_op {op : Operator} {r : R2} {gf : D → D → Option R} {g : D → D → (R → Prop) → Prop} (s : GS gf g) (ho : OpR X (binaryOp op) r) (hs : OpSem X.K r g) (ha : HE X L a fa) (hb : HE X L b fb) : HE X L (.BinOp a op b pos) (fBin gf fa fb) :=
  PE.weak (de_op ho hs ha hb) (lift_imp (bin_imp s))
theorem cmp_imp {cf : D → D → Option Bool} {c : D → D → Bool → Prop} (s : CS cf c) (δ : List R) (P : R → List R → Prop) (h : pP x (fCmp cf fa fb) δ P) : dCmp c (pP x fa) (pP x fb) δ P :=
  pP_then h fun r1 δ1 h => pP_then h fun r2 δ2 h => by
    obtain ⟨d1, e1, h⟩ := pP_peek (pP_bind.mp h)
    obtain ⟨d2, e2, h⟩ := pP_peek (pP_bind.mp h)
    obtain ⟨b, e3, h⟩ := pP_of (pP_bind.mp h)
    exact ⟨d1, d2, b, e1, e2, s d1 d2 b e3, h⟩
theorem tst_imp {de : DE} (w : ∀ δ P, pP x fe δ P → de δ P) (δ : List R) (P : Bool → List R → Prop) (h : pP x (fTst fe) δ P) : dTst de δ P :=
  w _ _ (pP_then h fun r δ1 h => by
    obtain ⟨d, e1, h⟩ := pP_peek (pP_bind.mp h)
    obtain ⟨b, e2, h⟩ := pP_of h
    cases d <;> cases e2
    exact ⟨_, e1, h⟩)
theorem fe_cmp {op : CmpOp} {r : R2} {cf : D → D → Option Bool} {c : D → D → Bool → Prop} (s : CS cf c) (ho : OpR X (compareOp op) r) (hs : CmpSem X.K r c) (ha : HE X L a fa) (hb : HE X L b fb) (hm : behindInMarks op b = false) : HE X L (.Compare a [op] [b] pos) (fCmp cf fa fb) :=
  PE.weak (de_cmp ho hs ha hb hm) (lift_imp (cmp_imp s))
theorem ft_cmp {op : CmpOp} {r : R2} {cf : D → D → Option Bool} {c : D → D → Bool → Prop} (s : CS cf c) (ho : OpR X (compareOp op) r) (hs : CmpSem X.K r c) (ha : HE X L a fa) (hb : HE X L b fb) (hm : behindInMarks op b = false) : HT' X L (.Compare a [op] [b] pos) (fTst (fCmp cf fa fb)) :=
  PT.weak (dt_cmp ho hs ha hb hm) (liftT_imp (tst_imp (cmp_imp s)))
theorem ft_val (h : HE X L e fe) (he : ∀ whole, isTrue e X.env whole = (do let v ← whole; standAt e.pos; holding [v] (truthy v)) := by intro _; rfl) : HT' X L e (fTst fe) := PT.weak (dt_val h he) (liftT_imp (tst_imp fun _ _ h => h))
theorem bl_imp {P : R → List R → Prop} {k : Bool → FE} {Q : Bool → List R → Prop} {r : R} {δ1 : List R} (h : pP x ((peekF r).bind fun d => (F.of (blOf d)).bind k) δ1 P) : ∃ c, peek r δ1 = some (.bl c) ∧ pP x (k c) δ1 P := by
  obtain ⟨d, e1, h⟩ := pP_peek (pP_bind.mp h)
  obtain ⟨b, e2, h⟩ := pP_of (pP_bind.mp h)
  cases d <;> cases e2
  exact ⟨_, e1, h⟩
theorem ite_two {α : Type} {c : Bool} {f g : F α} {P : α → List R → Prop} (h : pP x (if c = true then f else g) δ P) : (c = true → pP x f δ P) ∧ (c = false → pP x g δ P) := by
  cases c
  · exact ⟨fun z => (by cases z), fun _ => h⟩
  · exact ⟨fun _ => h, fun z => (by cases z)⟩
variable {rest : List Expr}
theorem ft_and1 (ha : HT' X L a ta) : HW X L (.BoolOp .And [a] pos) ta := dt_and1 ha
theorem ft_or1 (ha : HT' X L a ta) : HW X L (.BoolOp .Or [a] pos) ta := dt_or1 ha
theorem ft_and (ha : HT' X L a ta) (hb : HW X L (.BoolOp .And (b :: rest) pos) tb) : HW X L (.BoolOp .And (a :: b :: rest) pos) (fAnd ta tb) :=
  PW.weak (dt_and ha hb) (liftT_imp fun δ P h => pP_then h fun c δ1 h => ite_two h)
theorem ft_or (ha : HT' X L a ta) (hb : HW X L (.BoolOp .Or (b :: rest) pos) tb) : HW X L (.BoolOp .Or (a :: b :: rest) pos) (fOr ta tb) :=
  PW.weak (dt_or ha hb) (liftT_imp fun δ P h => pP_then h fun c δ1 h => ite_two h)
theorem ft_not (ha : HT' X L a ta) : HT' X L (.UnaryOp .Not a pos) (fNot ta) := PT.weak (dt_not ha) (liftT_imp fun δ P h => pP_then h fun c δ1 h => h)
theorem fe_one {op} (h : HE X L a fa) : HE X L (.BoolOp op [a] pos) fa := de_one h
theorem fe_and (ha : HE X L a fa) (hb : HE X L (.BoolOp .And (b :: rest) pos) fb) : HE X L (.BoolOp .And (a :: b :: rest) pos) (fAndV fa fb) :=
  PE.weak (de_and ha hb) (lift_imp fun δ P h => pP_then h fun r δ1 h => let ⟨c, e, h⟩ := bl_imp (Q := fun _ _ => True) h; ⟨c, e, ite_two h⟩)
theorem fe_or (ha : HE X L a fa) (hb : HE X L (.BoolOp .Or (b :: rest) pos) fb) : HE X L (.BoolOp .Or (a :: b :: rest) pos) (fOrV fa fb) :=
  PE.weak (de_or ha hb) (lift_imp fun δ P h => pP_then h fun r δ1 h => let ⟨c, e, h⟩ := bl_imp (Q := fun _ _ => True) h; ⟨c, e, ite_two h⟩)
theorem fe_not (ha : HE X L a fa) : HE X L (.UnaryOp .Not a pos) (fNotV fa) :=
  PE.weak (de_not ha) (lift_imp fun δ P h => pP_then h fun r δ1 h => let ⟨c, e, h⟩ := bl_imp (Q := fun _ _ => True) h; ⟨c, e, h⟩)
theorem fe_if {c : Expr} (hc : HT' X L c ta) (ha : HE X L a fa) (hb : HE X L b fb) : HE X L (.IfExp c a b pos) (fIf ta fa fb) :=
  PE.weak (de_if hc ha hb) (lift_imp fun δ P h => pP_then h fun c δ1 h => ite_two h)
theorem fa_nil : HA X L [] fNil := PA.weak da_nil (liftA_imp fun δ P h => h)
theorem fa_cons {fr : FA} (ha : HE X L e fe) (hr : HA X L es fr) (hs : starEach (e :: es) X.env = (false, eval e X.env) :: starEach es X.env := by rfl) : HA X L (e :: es) (fCons fe fr) :=
  PA.weak (da_cons ha hr hs) (liftA_imp fun δ P h => pP_then h fun r δ1 h => pP_then h fun rs δ2 h => h)
theorem vals_imp {rs : List R} {k : List D → FE} {P : R → List R → Prop} {δ1 : List R} (h : pP x ((valsF rs).bind k) δ1 P) : ∃ rs' δ2 ds, useAll rs δ1 = some (rs', δ2) ∧ vals? rs' = some ds ∧ ds.length ≤ sizeLine ∧ pP x (k ds) δ2 P := by
  obtain ⟨rs', δ2, e1, h⟩ := pP_useAll (pP_bind.mp (pP_bind.mp h))
  obtain ⟨ds, e2, h⟩ := pP_of (pP_bind.mp h)
  by_cases hl : ds.length ≤ sizeLine
  · rw [if_pos hl] at h
    exact ⟨rs', δ2, ds, e1, e2, hl, h⟩
  · rw [if_neg hl] at h; exact h.elim
theorem fe_tup {x1} {fa : FA} (h : HA X L es fa) : HE X L (.Tuple es x1 pos) (fTup fa) := PE.weak (de_tup h) (lift_imp fun δ P h => pP_then h fun rs δ1 h => vals_imp h)
theorem fe_lst {fa : FA} (h : HA X L es fa) : HE X L (.List es pos) (fLst fa) := PE.weak (de_lst h) (lift_imp fun δ P h => pP_then h fun rs δ1 h => vals_imp h)
theorem int_imp {α : Type} {P : α → List R → Prop} {k : Int → F α} {r : R} {δ1 : List R} (h : pP x ((peekF r).bind fun d => (F.of (intOf d)).bind k) δ1 P) : ∃ c, peek r δ1 = some (.int c) ∧ pP x (k c) δ1 P := by
  obtain ⟨d, e1, h⟩ := pP_peek (pP_bind.mp h)
  obtain ⟨b, e2, h⟩ := pP_of (pP_bind.mp h)
  cases d <;> cases e2
  exact ⟨_, e1, h⟩
theorem fe_neg (ha : HE X L a fa) : HE X L (.UnaryOp .USub a pos) (fNeg fa) := PE.weak (de_neg ha) (lift_imp fun δ P h => pP_then h fun r δ1 h => int_imp h)
theorem ixF_ok {d d' : D} {i : Int} (h : ixF d i = some d') : ixD d i d' := by
  unfold ixF at h
  split at h
  · exact h
  · exact h
  · split at h
    · rename_i hl
      obtain ⟨c, h1, h2⟩ := Option.map_eq_some_iff.mp h
      exact ⟨hl, c, h1, h2.symm⟩
    · cases h
  · cases h
theorem fe_ix (ha : HE X L a fa) (hb : HE X L b fb) (hs : PlainIx b := by exact fun _ _ => rfl) : HE X L (.Subscript a b pos) (fIx fa fb) :=
  PE.weak (de_ix ha hb hs) (lift_imp fun δ P h => pP_then h fun r1 δ1 h => pP_then h fun r2 δ2 h => by
    obtain ⟨d, e1, h⟩ := pP_peek (pP_bind.mp h)
    obtain ⟨i, e2, h⟩ := int_imp h
    obtain ⟨d', e3, h⟩ := pP_of (pP_bind.mp h)
    exact ⟨d, i, d', e1, e2, ixF_ok e3, h⟩)
abbrev HO' (X : Cx) (L : Lk) (o : Option Expr) (f : FO) : Prop := PO X o (liftO X.K L (pP L.x f))
theorem fo_none : HO' X L none foNone := PO.weak do_none (liftO_imp fun δ P h => h)
theorem fo_some (h : HE X L e fe) : HO' X L (some e) (foSome fe) := PO.weak (do_some h) (liftO_imp fun δ P h => pP_then h fun r δ1 h => int_imp h)
theorem fe_sl {lo hi : Option Expr} {p2 : Pos} {fl fh : FO} (ha : HE X L a fa) (hl : HO' X L lo fl) (hh : HO' X L hi fh) : HE X L (.Subscript a (.Slice lo hi none p2) pos) (fSl fa fl fh) :=
  PE.weak (de_sl ha hl hh) (lift_imp fun δ P h => pP_then h fun r1 δ1 h => pP_then h fun l δ2 h => pP_then h fun u δ3 h => by
    obtain ⟨d, e1, h⟩ := pP_peek (pP_bind.mp h)
    obtain ⟨r, e2, h⟩ := pP_of h
    refine ⟨d, r, e1, ?_, h⟩
    unfold slF at e2
    split at e2
    · cases e2; exact rfl
    · cases e2; exact rfl
    · split at e2
      · cases e2; exact ⟨by assumption, rfl⟩
      · cases e2
    · cases e2)
theorem cb_imp {bf : List D → Option R} {bp : List D → (R → Prop) → Prop} (s : BS bf bp) {fa : FA} (δ : List R) (P : R → List R → Prop) (h : pP x (fCB bf fa) δ P) : dCB bp (pP x fa) δ P := pP_then h fun rs δ1 h => by
    obtain ⟨ds, e1, h⟩ := pP_peekAll (pP_bind.mp h)
    obtain ⟨r, e2, h⟩ := pP_of h
    exact ⟨ds, e1, s ds r _ e2 h⟩
variable {y : Str} {p : Pos} {id Ty : String} {rr : List V → Hp → VK → Prop} {bp : List D → (R → Prop) → Prop} {bf : List D → Option R} {fA : FA}
theorem fe_cb (s : BS bf bp) (hc : CallR X (.builtin id) rr) (hs : CallLook X.K rr bp) (hg : Gl X y) (hm : X.mg y = none) (hv : bootBuiltins y = some (.builtin id)) (ha : HA X L (e :: es) fA) (hn : y ≠ "__name__" := by decide) (hdb : (y == ("__debug__" : Str)) = false := by decide)
    (he : starEach (e :: es) X.env = (false, eval e X.env) :: starEach es X.env := by rfl) (hpl : (backTo pos (starEach es X.env)).any (·.1) = false := by rfl) : HE X L (.Call (.Name y p) (e :: es) [] pos) (fCB bf fA) := PE.weak (de_cb hc hs hg hm hv ha hn hdb he hpl) (lift_imp (cb_imp s))
theorem fe_ct (s : BS bf bp) (hc : CallR X (.type Ty) rr) (hs : CallLook X.K rr bp) (hg : Gl X y) (hm : X.mg y = none) (hv : bootBuiltins y = some (.type Ty)) (ha : HA X L (e :: es) fA) (hn : y ≠ "__name__" := by decide) (hdb : (y == ("__debug__" : Str)) = false := by decide)
    (he : starEach (e :: es) X.env = (false, eval e X.env) :: starEach es X.env := by rfl) (hpl : (backTo pos (starEach es X.env)).any (·.1) = false := by rfl) : HE X L (.Call (.Name y p) (e :: es) [] pos) (fCB bf fA) := PE.weak (de_ct hc hs hg hm hv ha hn hdb he hpl) (lift_imp (cb_imp s))
end
end DL
namespace DL
open PySem PySem.Spec L2
variable [TabsC]
def gAddF : D → D → Option R
  | .int i, .int j => some (.val (.int (i + j)))
  | .str x, .str y => if x.length + y.length ≤ sizeLine then some (.val (.str (x ++ y))) else none
  | .lst x, .lst y => if x.length + y.length ≤ sizeLine then some (.own (.lst (x ++ y))) else none
  | .tup x, .tup y => if x.length + y.length ≤ sizeLine then some (.val (.tup (x ++ y))) else none
  | _, _ => none
def gIF (c : Int → Int → Bool) (f : Int → Int → Int) : D → D → Option R
  | .int i, .int j => if c i j = true then some (.val (.int (f i j))) else none
  | _, _ => none
def gSubF : D → D → Option R := gIF (fun _ _ => true) fun i j => i - j
def gModF : D → D → Option R := gIF (fun _ j => decide (j ≠ 0)) fun i j => i.fmod j
def gPowF : D → D → Option R := gIF (fun i j => decide (0 ≤ j) && decide (j ≤ 1000000) && decide (i.natAbs < 18446744073709551616)) fun i j => i ^ j.toNat
def gFdivF : D → D → Option R := gIF (fun _ j => decide (j ≠ 0) && decide (j.natAbs.log2 < 9000)) fun i j => i.fdiv j
def mulB (i j : Int) : Bool := decide (i.natAbs.log2 + j.natAbs.log2 < 1000000)
def gMulF : D → D → Option R
  | .int i, .int j => if mulB i j = true then some (.val (.int (i * j))) else none
  | .lst x, .int k => if -(2 ^ 63) ≤ k ∧ k < 2 ^ 63 ∧ x.length * k.toNat ≤ sizeLine then some (.own (.lst (List.replicate k.toNat x).flatten)) else none
  | _, _ => none
theorem gs_add : GS gAddF gAdd := fun d1 d2 r P h hp => by
  unfold gAddF at h
  split at h
  · cases h; exact hp
  · split at h
    · cases h; exact ⟨by assumption, hp⟩
    · cases h
  · split at h
    · cases h; exact ⟨by assumption, hp⟩
    · cases h
  · split at h
    · cases h; exact ⟨by assumption, hp⟩
    · cases h
  · cases h
theorem gs_I {c : Int → Int → Bool} {cp : Int → Int → Prop} {f : Int → Int → Int} (w : ∀ i j, c i j = true → cp i j) : GS (gIF c f) (gI cp fun i j => .int (f i j)) := fun d1 d2 r P h hp => by
  unfold gIF at h
  split at h
  · split at h
    · cases h; exact ⟨w _ _ (by assumption), hp⟩
    · cases h
  · cases h
theorem gs_sub : GS gSubF gMinus := gs_I fun _ _ _ => trivial
theorem gs_mod : GS gModF gMod := gs_I fun _ _ h => of_decide_eq_true h
theorem gs_pow : GS gPowF gPow := gs_I fun i j h => by
  simp only [Bool.and_eq_true, decide_eq_true_eq] at h
  exact ⟨h.1.1, h.1.2, h.2⟩
theorem gs_fdiv : GS gFdivF gFdivA := gs_I fun i j h => by
  simp only [Bool.and_eq_true, decide_eq_true_eq] at h
  exact ⟨h.1, h.2⟩
theorem gs_mul : GS gMulF gMul := fun d1 d2 r P h hp => by
  unfold gMulF at h
  split at h
  · split at h
    · rename_i z; cases h; exact ⟨.inr (by unfold CMulW; unfold mulB at z; exact of_decide_eq_true z), hp⟩
    · cases h
  · split at h
    · rename_i z
      cases h; exact ⟨⟨z.1, z.2.1⟩, z.2.2, hp⟩
    · cases h
  · cases h
def cIF (f : Int → Int → Bool) : D → D → Option Bool
  | .int i, .int j => some (f i j)
  | _, _ => none
def okk : Nat → D → Bool
  | _, .non => true
  | _, .bl _ => true
  | _, .int _ => true
  | _, .str x => PyData.strOk x
  | n + 1, .lst xs => xs.all (okk n)
  | n + 1, .tup xs => xs.all (okk n)
  | _, _ => false
theorem okk_ok : ∀ {n : Nat} {d : D}, okk n d = true → d.Ok n := by
  intro n
  induction n with
  | zero => intro d h; cases d <;> first | exact trivial | exact h | cases h
  | succ n ih =>
    intro d h
    cases d with
    | lst xs => exact fun d hd => ih (List.all_eq_true.mp h d hd)
    | tup xs => exact fun d hd => ih (List.all_eq_true.mp h d hd)
    | non => exact trivial
    | bl => exact trivial
    | int => exact trivial
    | str => exact h
    | _ => cases h
def cEqF (ne : Bool) (d e : D) : Option Bool := if okk 60 d = true ∧ okk 60 e = true then some (if ne = true then !eqD 60 d e else eqD 60 d e) else none
def cEqSF : D → D → Option Bool
  | .str x, .str y => some (decide (x = y))
  | _, _ => none
theorem cs_I' {f : Int → Int → Bool} : CS (cIF f) (cI f) := fun d1 d2 b h => by
  unfold cIF at h
  split at h
  · cases h; exact rfl
  · cases h
theorem cs_eq' {n : Bool} : CS (cEqF n) (cEq n) := fun d1 d2 b h => by
  unfold cEqF at h
  split at h
  · rename_i z
    cases h; exact ⟨okk_ok z.1, okk_ok z.2, rfl⟩
  · cases h
theorem cs_eqS' : CS cEqSF cEqS := fun d1 d2 b h => by
  unfold cEqSF at h
  split at h
  · cases h; exact ⟨_, _, rfl, rfl, rfl⟩
  · cases h
section
variable {X : Cx} {K : PySem.W.Frag} {L : Lk} {pos : Pos} {a b e : Expr} {es : List Expr} {fa fb fe : FE} {ta tb : FT}
theorem fe_add (ha : HE X L a fa) (hb : HE X L b fb) : HE X L (.BinOp a .Add b pos) (fBin gAddF fa fb) := fe_op gs_add op_addA os_add ha hb
theorem fe_sub (ha : HE X L a fa) (hb : HE X L b fb) : HE X L (.BinOp a .Sub b pos) (fBin gSubF fa fb) := fe_op gs_sub op_sub os_I0 ha hb
theorem fe_mul (ha : HE X L a fa) (hb : HE X L b fb) : HE X L (.BinOp a .Mult b pos) (fBin gMulF fa fb) := fe_op gs_mul op_mulA os_mul ha hb
theorem fe_fdiv (ha : HE X L a fa) (hb : HE X L b fb) : HE X L (.BinOp a .FloorDiv b pos) (fBin gFdivF fa fb) := fe_op gs_fdiv op_fdivA os_I ha hb
theorem fe_mod (ha : HE X L a fa) (hb : HE X L b fb) : HE X L (.BinOp a .Mod b pos) (fBin gModF fa fb) := fe_op gs_mod op_modN os_I ha hb
theorem fe_pow (ha : HE X L a fa) (hb : HE X L b fb) : HE X L (.BinOp a .Pow b pos) (fBin gPowF fa fb) := fe_op gs_pow op_pow os_I ha hb
abbrev cLt := cIF fun i j => decide (i < j)
abbrev cLe := cIF fun i j => decide (i ≤ j)
abbrev cGt := cIF fun i j => decide (j < i)
abbrev cGe := cIF fun i j => decide (j ≤ i)
theorem fe_lt (ha : HE X L a fa) (hb : HE X L b fb) : HE X L (.Compare a [.Lt] [b] pos) (fCmp cLt fa fb) := fe_cmp cs_I' op_lt cs_I ha hb (nomark _)
theorem fe_gt (ha : HE X L a fa) (hb : HE X L b fb) : HE X L (.Compare a [.Gt] [b] pos) (fCmp cGt fa fb) := fe_cmp cs_I' op_gt cs_I ha hb (nomark _)
theorem fe_ge (ha : HE X L a fa) (hb : HE X L b fb) : HE X L (.Compare a [.GtE] [b] pos) (fCmp cGe fa fb) := fe_cmp cs_I' op_ge cs_I ha hb (nomark _)
theorem ft_lt (ha : HE X L a fa) (hb : HE X L b fb) : HT' X L (.Compare a [.Lt] [b] pos) (fTst (fCmp cLt fa fb)) := ft_cmp cs_I' op_lt cs_I ha hb (nomark _)
theorem ft_gt (ha : HE X L a fa) (hb : HE X L b fb) : HT' X L (.Compare a [.Gt] [b] pos) (fTst (fCmp cGt fa fb)) := ft_cmp cs_I' op_gt cs_I ha hb (nomark _)
theorem ft_ge (ha : HE X L a fa) (hb : HE X L b fb) : HT' X L (.Compare a [.GtE] [b] pos) (fTst (fCmp cGe fa fb)) := ft_cmp cs_I' op_ge cs_I ha hb (nomark _)
theorem fe_eq (hu : X.A.units + 64 < cLine) (ha : HE X L a fa) (hb : HE X L b fb) : HE X L (.Compare a [.Eq] [b] pos) (fCmp (cEqF false) fa fb) := fe_cmp cs_eq' (op_eqD hu) cs_eq ha hb (nomark _)
theorem fe_ne (hu : X.A.units + 64 < cLine) (ha : HE X L a fa) (hb : HE X L b fb) : HE X L (.Compare a [.NotEq] [b] pos) (fCmp (cEqF true) fa fb) := fe_cmp cs_eq' (op_neD hu) cs_ne ha hb (nomark _)
theorem ft_eq (hu : X.A.units + 64 < cLine) (ha : HE X L a fa) (hb : HE X L b fb) : HT' X L (.Compare a [.Eq] [b] pos) (fTst (fCmp (cEqF false) fa fb)) := ft_cmp cs_eq' (op_eqD hu) cs_eq ha hb (nomark _)
theorem ft_ne (hu : X.A.units + 64 < cLine) (ha : HE X L a fa) (hb : HE X L b fb) : HT' X L (.Compare a [.NotEq] [b] pos) (fTst (fCmp (cEqF true) fa fb)) := ft_cmp cs_eq' (op_neD hu) cs_ne ha hb (nomark _)
theorem fe_eqS (ha : HE X L a fa) (hb : HE X L b fb) : HE X L (.Compare a [.Eq] [b] pos) (fCmp cEqSF fa fb) := fe_cmp cs_eqS' op_eq cs_eqS ha hb (nomark _)
end
def bLenF : List D → Option R
  | [.lst xs] => some (.val (.int xs.length))
  | [.tup xs] => some (.val (.int xs.length))
  | [.str z] => if z.length ≤ sizeLine then some (.val (.int z.length)) else none
  | _ => none
def bIntF : List D → Option R
  | [.int i] => some (.val (.int i))
  | [.bl k] => some (.val (.int (if k = true then 1 else 0)))
  | _ => none
def bAbsF : List D → Option R
  | [.int i] => some (.val (.int (if i < 0 then -i else i)))
  | _ => none
def bMax2F : List D → Option R
  | [.int i, .int j] => some (.val (.int (if j > i then j else i)))
  | _ => none
def bMin2F : List D → Option R
  | [.int i, .int j] => some (.val (.int (if j < i then j else i)))
  | _ => none
def bListF : List D → Option R
  | [.lst xs] => some (.own (.lst xs))
  | [.tup xs] => some (.own (.lst xs))
  | _ => none
def bTupleF : List D → Option R
  | [.lst xs] => some (.val (.tup xs))
  | [.tup xs] => some (.val (.tup xs))
  | _ => none
instance {n w : Nat} {d : D} : Decidable (d.Fits n w) := by unfold D.Fits; exact inferInstance
theorem bs_len : BS bLenF bLen := fun ds r P h hp => by
  unfold bLenF at h
  split at h
  · cases h; exact hp
  · cases h; exact hp
  · split at h
    · cases h; exact ⟨by assumption, hp⟩
    · cases h
  · cases h
theorem bs_int : BS bIntF bInt := fun ds r P h hp => by
  unfold bIntF at h
  split at h
  · cases h; exact hp
  · cases h; exact hp
  · cases h
theorem bs_abs : BS bAbsF bAbs := fun ds r P h hp => by
  unfold bAbsF at h
  split at h
  · cases h; exact hp
  · cases h
theorem bs_max2 : BS bMax2F bMax2 := fun ds r P h hp => by
  unfold bMax2F at h
  split at h
  · cases h; exact hp
  · cases h
theorem bs_min2 : BS bMin2F bMin2 := fun ds r P h hp => by
  unfold bMin2F at h
  split at h
  · cases h; exact hp
  · cases h
theorem bs_list : BS bListF bList := fun ds r P h hp => by
  unfold bListF at h
  split at h
  · cases h; exact hp
  · cases h; exact hp
  · cases h
theorem bs_tuple : BS bTupleF bTuple := fun ds r P h hp => by
  unfold bTupleF at h
  split at h
  · cases h; exact hp
  · cases h; exact hp
  · cases h
end DL
namespace DL
open PySem PySem.Spec L2
variable [TabsC]
inductive SO where
  | nx (δ : List R) | rt (r : R) (δ : List R) | bk (δ : List R) | ct (δ : List R) | err (c : Addr) (fs : List (Str × D)) (δ : List R)
abbrev FS := List R → T SO
def SO.holds (x : Lx) (DD : DEnds) : SO → Prop
  | .nx δ => DD.nx δ
  | .rt r δ => DD.rt r δ
  | .bk δ => DD.bk δ
  | .ct δ => DD.ct δ
  | .err c fs δ => x c fs δ
def pS (x : Lx) (f : FS) : DS := fun DD δ => (f δ).all (SO.holds x DD)
def EO.go {α : Type} (o : EO α) (k : α → FS) : T SO := match o with
  | .ok a δ => k a δ
  | .err c fs δ => .ret (.err c fs δ)
def eS {α : Type} (f : F α) (k : α → FS) : FS := fun δ => (f δ).bind fun o => o.go k
def fNext : FS := fun δ => .ret (.nx δ)
def SO.andThen (o : SO) (b : FS) : T SO := match o with
  | .nx δ => b δ
  | .rt r δ => .ret (.rt r δ)
  | .bk δ => .ret (.bk δ)
  | .ct δ => .ret (.ct δ)
  | .err c fs δ => .ret (.err c fs δ)
def fSq (a b : FS) : FS := fun δ => (a δ).bind fun o => o.andThen b
def fRet (fe : FE) : FS := eS fe fun r δ => match retR r δ with
  | some (r', _) => .ret (.rt r' [])
  | none => .fail
def fIfS (t : FT) (a b : FS) : FS := eS t fun c => if c = true then a else b
def fSet (i : Nat) (fe : FE) : FS := eS fe fun r δ => match asR r δ with
  | some (r', δ') => .ret (.nx (st δ' i r'))
  | none => .fail
abbrev FG := D → List R → Option (List R)
abbrev FGs := List D → List R → Option (List R)
def pG (g : FG) : DG := fun d δ P => ∃ δ', g d δ = some δ' ∧ P δ'
def pGs (g : FGs) : DGs := fun d δ P => ∃ δ', g d δ = some δ' ∧ P δ'
def fgN (i : Nat) : FG := fun d δ => some (st δ i (.val d))
def fgNil : FGs
  | [], δ => some δ
  | _ :: _, _ => none
def fgCons (g : FG) (u : FGs) : FGs
  | d :: r, δ => (g d δ).bind fun δ' => u r δ'
  | [], _ => none
def fgT (n : Nat) (u : FGs) : FG
  | .tup ds, δ => if ds.length = n then u ds δ else none
  | _, _ => none
def fAsg (fe : FE) (g : FG) : FS := eS fe fun r => eS (useF r) fun d δ => match g d δ with
  | some δ' => .ret (.nx δ')
  | none => .fail
def SO.turn (o : SO) (k : FS) : T SO := match o with
  | .nx δ => k δ
  | .ct δ => k δ
  | .bk δ => .ret (.nx δ)
  | .rt r δ => .ret (.rt r δ)
  | .err c fs δ => .ret (.err c fs δ)
def fLoop (g : FG) (b : FS) : List D → FS
  | [], δ => .ret (.nx δ)
  | d :: ds, δ => match g d δ with
    | some δ1 => (b δ1).bind fun o => o.turn (fLoop g b ds)
    | none => .fail
def fFor (fi : FI) (g : FG) (b : FS) : FS := eS fi fun ds => fLoop g b ds
def fiSeq (fe : FE) : FI := fe.bind fun r => (useF r).bind fun d => F.of d.items
def fiRng1 (fa : FA) : FI := fa.bind fun rs => (peekAllF rs).bind fun ds => match ds with
  | [.int j] => if -(2 ^ 62) ≤ j ∧ j < 2 ^ 62 then F.ret (rngD 0 j.toNat) else F.fail
  | _ => F.fail
def fiRng2 (fa : FA) : FI := fa.bind fun rs => (peekAllF rs).bind fun ds => match ds with
  | [.int i, .int j] => if -(2 ^ 62) ≤ i ∧ i < 2 ^ 62 ∧ -(2 ^ 62) ≤ j ∧ j < 2 ^ 62 then F.ret (rngD i (j - i).toNat) else F.fail
  | _ => F.fail
def fLc (g : FG) (t : FT) (e : FE) (vs : List Nat) : List D → List D → List R → T (List D × List R)
  | [], acc, δ => .ret (acc, δ)
  | d :: ds, acc, δ => match g d δ with
    | none => .fail
    | some δ1 => (t δ1).bind fun o => match o with
      | .err _ _ _ => .fail
      | .ok b δ2 => if b = true then (e.bind useF δ2).bind fun o => match o with
          | .err _ _ _ => .fail
          | .ok d' δ4 => if acc.length < sizeLine then fLc g t e vs ds (acc ++ [d']) (wipeD δ4 vs) else .fail
        else fLc g t e vs ds acc (wipeD δ2 vs)
def fComp (fi : FI) (g : FG) (t : FT) (e : FE) (vs : List Nat) : FE := fi.bind fun ds δ1 => (fLc g t e vs ds [] (wipeD δ1 vs)).bind fun p => .ret (.ok (.own (.lst p.1)) (backD p.2 δ1 vs))
def fYes : FT := F.ret true
section
variable {X : Cx} {K : PySem.W.Frag} {L : Lk} {pos : Pos} {e : Expr} {fe : FE} {sm : Stmt} {rest body orelse : List Stmt} {a b : FS} {ta : FT} {x : Lx} {DD : DEnds} {δ : List R}
abbrev HS (X : Cx) (L : Lk) (s : Stmt) (f : FS) : Prop := PS X s (liftS X.K L (pS L.x f))
abbrev HSs (X : Cx) (L : Lk) (s : List Stmt) (f : FS) : Prop := PSs X s (liftS X.K L (pS L.x f))
theorem eS_imp {α : Type} {f : F α} {k : α → FS} (h : pS x (eS f k) DD δ) {Q : α → List R → Prop} (w : ∀ a δ', pS x (k a) DD δ' → Q a δ') : pP x f δ Q := by
  unfold pS eS at h
  rw [T.all_bind] at h
  refine T.all_mono h fun o ho => ?_
  cases o with
  | ok a δ' => exact w a δ' ho
  | err c fs δ' => exact ho
theorem fss_nil : HSs X L [] fNext := PSs.weak dss_nil (liftS_imp fun DD δ h => h)
theorem sq_imp (DD : DEnds) (δ : List R) (h : pS x (fSq a b) DD δ) : dSq (pS x a) (pS x b) DD δ := by
  unfold pS fSq at h
  rw [T.all_bind] at h
  refine T.all_mono h fun o ho => ?_
  cases o <;> exact ho
theorem fss_cons (h1 : HS X L sm a) (h2 : HSs X L rest b) : HSs X L (sm :: rest) (fSq a b) := PSs.weak (dss_cons h1 h2) (liftS_imp sq_imp)
theorem fss_one (h1 : HS X L sm a) : HSs X L [sm] a := dss_one h1
theorem SI.nil {C : Ct} {σ : St} {H G : Hp} {W : Ow} (I : SI K C σ H G W δ) : SI K C σ H G W [] := ⟨I.gh, I.g0, I.hh, I.gz, I.b0, I.bag, I.tm, I.mu, Nat.zero_le _, fun i h => absurd rfl h⟩
theorem ret_links {C : Ct} {G : Hp} {D : Ends} (k : Links K C G D DD) : Links K C G D { DD with rt := fun r _ => DD.rt r [] } :=
  ⟨k.nx, fun v σ' H' G' W' δ' r x I o fi h => k.rt v σ' H' G' W' [] r x I.nil o fi h, k.bk, k.ct⟩
theorem fs_ret (he : HE X L e fe) : HS X L (.Return (some e) pos) (fRet fe) := PS.weak (ds_ret he) fun D σ H ⟨C, G, W, δ, DD, I, lk, hd, k⟩ =>
  ⟨C, G, W, δ, _, I, lk, eS_imp hd fun r δ' h => (by
    unfold pS at h; dsimp only at h
    split at h
    · exact ⟨_, _, by assumption, h⟩
    · exact h.elim), ret_links k⟩
theorem iteS {c : Bool} (h : pS x (if c = true then a else b) DD δ) : (c = true → pS x a DD δ) ∧ (c = false → pS x b DD δ) := by
  cases c
  · exact ⟨fun z => (by cases z), fun _ => h⟩
  · exact ⟨fun _ => h, fun z => (by cases z)⟩
theorem fs_if {c : Expr} (hc : HT' X L c ta) (ha : HSs X L body a) (hb : HSs X L orelse b) : HS X L (.If c body orelse pos) (fIfS ta a b) := PS.weak (ds_if hc ha hb) (liftS_imp fun DD δ h => eS_imp h fun c δ' h => iteS h)
theorem set_imp {de : DE} {i : Nat} (w : ∀ δ P, pP x fe δ P → de δ P) (DD : DEnds) (δ : List R) (h : pS x (fSet i fe) DD δ) : dSet i de DD δ := w _ _ (eS_imp h fun r δ' h => by
  unfold pS at h; dsimp only at h
  split at h
  · exact ⟨_, _, by assumption, h⟩
  · exact h.elim)
theorem fs_set {i : Nat} {y : Str} {pos' : Pos} (hN : X.N.Nodup) (he : HE X L e fe) (hi : X.N[i]? = some y := by rfl) (hx : Loc X.env.scope y := by first | exact Or.inl rfl | exact Or.inr rfl) (hs : swapsWith e (some (.Name y pos')) pos.line X.env = pure false := by rfl) (hf : X.fn y = true ∨ X.env.scope.names.lookup y = some .local := by first | exact .inl rfl | exact .inr rfl | assumption) :
    HS X L (.Assign [.Name y pos'] e pos) (fSet i fe) := PS.weak (ds_set hN he hi hx hs hf) (liftS_imp (set_imp fun _ _ h => h))
variable {tg : Expr} {es : List Expr} {g : FG} {gs : FGs}
abbrev HG (X : Cx) (t : Expr) (g : FG) : Prop := PG X t (liftG X.K (pG g))
abbrev HGs (X : Cx) (ts : List Expr) (g : FGs) : Prop := PGs X ts (liftGs X.K (pGs g))
theorem gN_imp {i : Nat} (d : D) (δ : List R) (P : List R → Prop) (h : pG (fgN i) d δ P) : gN i d δ P := by
  obtain ⟨δ', e, hp⟩ := h
  cases e; exact hp
theorem gNil_imp (d : List D) (δ : List R) (P : List R → Prop) (h : pGs fgNil d δ P) : gsNil d δ P := by
  obtain ⟨δ', e, hp⟩ := h
  cases d with
  | nil => cases e; exact ⟨rfl, hp⟩
  | cons => cases e
theorem gCons_imp {g' : DG} {gs' : DGs} (w1 : ∀ d δ P, pG g d δ P → g' d δ P) (w2 : ∀ d δ P, pGs gs d δ P → gs' d δ P) (d : List D) (δ : List R) (P : List R → Prop) (h : pGs (fgCons g gs) d δ P) : gsCons g' gs' d δ P := by
  obtain ⟨δ', e, hp⟩ := h
  cases d with
  | nil => cases e
  | cons d r =>
    obtain ⟨δ1, e1, e2⟩ := Option.bind_eq_some_iff.mp e
    exact ⟨d, r, rfl, w1 _ _ _ ⟨δ1, e1, w2 _ _ _ ⟨δ', e2, hp⟩⟩⟩
theorem gT_imp {n : Nat} {gs' : DGs} (w : ∀ d δ P, pGs gs d δ P → gs' d δ P) (d : D) (δ : List R) (P : List R → Prop) (h : pG (fgT n gs) d δ P) : gT n gs' d δ P := by
  obtain ⟨δ', e, hp⟩ := h
  unfold fgT at e
  split at e
  · split at e
    · exact ⟨_, rfl, by assumption, w _ _ _ ⟨δ', e, hp⟩⟩
    · cases e
  · cases e
theorem fg_name {i : Nat} {y : Str} (hN : X.N.Nodup) (hi : X.N[i]? = some y := by rfl) (hx : Loc X.env.scope y := by first | exact Or.inl rfl | exact Or.inr rfl) (hf : X.fn y = true ∨ X.env.scope.names.lookup y = some .local := by first | exact .inl rfl | exact .inr rfl | assumption) : HG X (.Name y pos) (fgN i) :=
  PG.weak (dg_name hN hi hx hf) (liftG_imp gN_imp)
theorem fgs_nil : HGs X [] fgNil := PGs.weak dgs_nil (liftGs_imp gNil_imp)
theorem fgs_cons (h1 : HG X tg g) (h2 : HGs X es gs) (hs : (assignEach (tg :: es) X.env).map (·.2) = assign tg X.env :: (assignEach es X.env).map (·.2) := by rfl) : HGs X (tg :: es) (fgCons g gs) :=
  PGs.weak (dgs_cons h1 h2 hs) (liftGs_imp (gCons_imp (fun _ _ _ h => h) fun _ _ _ h => h))
theorem fg_tup {kk n : Nat} (hc : X.calm = true) (h : HGs X es gs) (hn : (assignEach es X.env).length = n := by rfl) (hst : (assignEach es X.env).findIdx? (·.1) = none := by rfl) : HG X (.Tuple es kk pos) (fgT n gs) :=
  PG.weak (dg_tup hc h hn hst) (liftG_imp (gT_imp fun _ _ _ h => h))
theorem fs_asg (he : HE X L e fe) (hg : HG X tg g) (hs : swapsWithSole [tg] e pos.line X.env = pure false := by rfl) (hw : swappedStores [tg] e X.env = pure none := by rfl) (h1 : (assignEach [tg] X.env).map (·.2) = [assign tg X.env] := by rfl) : HS X L (.Assign [tg] e pos) (fAsg fe g) :=
  PS.weak (ds_asg he hg hs hw h1) (liftS_imp fun DD δ h => eS_imp h fun r δ' h => by
    obtain ⟨d, δ2, e1, h⟩ := pP_use (eS_imp h (Q := fun d δ2 => pG g d δ2 DD.nx) fun d δ2 h => by
      unfold pS at h; dsimp only at h
      split at h
      · exact ⟨_, by assumption, h⟩
      · exact h.elim)
    exact ⟨d, δ2, e1, h⟩)
abbrev HI (X : Cx) (L : Lk) (t i : Expr) (f : FI) : Prop := PI X t i (liftI X.K L (pP L.x f))
theorem loop_imp {g' : DG} (w : ∀ d δ P, pG g d δ P → g' d δ P) : ∀ (ds : List D) (δ : List R), pS x (fLoop g b ds) DD δ → dLoop g' (pS x b) DD ds δ
  | [], δ, h => h
  | d :: ds, δ, h => by
    unfold pS fLoop at h
    cases q : g d δ with
    | none => rw [q] at h; exact h.elim
    | some δ1 =>
      rw [q] at h
      refine w _ _ _ ⟨δ1, q, ?_⟩
      have h := T.all_bind.mp h
      refine T.all_mono h fun o ho => ?_
      cases o with
      | nx δ => exact loop_imp w ds _ ho
      | ct δ => exact loop_imp w ds _ ho
      | rt r δ => exact ho
      | bk δ => exact ho
      | err c fs δ => exact ho
theorem fs_for {iter : Expr} {fi : FI} (hp : PassesOwn (model X.prog X.w) X.A X.env X.xe) (hc : X.calm = true) (hi : HI X L tg iter fi) (hg : HG X tg g) (hb : HSs X L body b)
    (hs : ∀ x, foldedSetIterable iter X.env x = pure x := by intro _; rfl) : HS X L (.For tg iter body [] pos) (fFor fi g b) :=
  PS.weak (ds_for hp hc hi hg hb hs) (liftS_imp fun DD δ h => eS_imp h fun ds δ' h => loop_imp (fun _ _ _ h => h) ds δ' h)
theorem fi_seq {l : Expr} (hl : HE X L l fe) : HI X L tg l (fiSeq fe) := PI.weak (di_seq hl) (liftI_imp fun δ P h => pP_then h fun r δ1 h => by
  obtain ⟨d, δ2, e1, h⟩ := pP_use (pP_bind.mp h)
  obtain ⟨ds, e2, h⟩ := pP_of h
  exact ⟨d, δ2, ds, e1, e2, h⟩)
theorem fi_rng1 {a : Expr} {fa : FA} {p pos : Pos} (hg : Gl X "range") (hm : X.mg "range" = none) (ha : HA X L [a] fa) (hs : starEach [a] X.env = [(false, eval a X.env)] := by rfl) : HI X L tg (.Call (.Name "range" p) [a] [] pos) (fiRng1 fa) :=
  PI.weak (di_rng1 hg hm ha hs) (liftI_imp fun δ P h => pP_then h fun rs δ1 h => by
    obtain ⟨ds, e1, h⟩ := pP_peekAll (pP_bind.mp h)
    split at h
    · split at h
      · exact ⟨_, e1, by assumption, h⟩
      · exact h.elim
    · exact h.elim)
theorem fi_rng2 {a b : Expr} {fa : FA} {p pos : Pos} (hg : Gl X "range") (hm : X.mg "range" = none) (ha : HA X L [a, b] fa) (hs : starEach [a, b] X.env = [(false, eval a X.env), (false, eval b X.env)] := by rfl) (hs2 : starEach [b] X.env = [(false, eval b X.env)] := by rfl) :
    HI X L tg (.Call (.Name "range" p) [a, b] [] pos) (fiRng2 fa) :=
  PI.weak (di_rng2 hg hm ha hs hs2) (liftI_imp fun δ P h => pP_then h fun rs δ1 h => by
    obtain ⟨ds, e1, h⟩ := pP_peekAll (pP_bind.mp h)
    split at h
    · split at h
      · exact ⟨_, _, e1, by assumption, h⟩
      · exact h.elim
    · exact h.elim)
theorem lc_imp {g' : DG} {t : FT} {vs : List Nat} {P : List D → List R → Prop} (w : ∀ d δ P, pG g d δ P → g' d δ P) : ∀ (ds acc : List D) (δ : List R), (fLc g t fe vs ds acc δ).all (fun p => P p.1 p.2) → dLc g' (pP L0.x t) (pP L0.x fe) vs ds acc δ P
  | [], acc, δ, h => h
  | d :: ds, acc, δ, h => by
    unfold fLc at h
    cases q : g d δ with
    | none => rw [q] at h; exact h.elim
    | some δ1 =>
      rw [q] at h
      refine w _ _ _ ⟨δ1, q, ?_⟩
      have h := T.all_bind.mp h
      refine T.all_mono h fun o ho => ?_
      cases o with
      | err c fs δ => exact ho.elim
      | ok b δ2 =>
        cases b with
        | false => exact ⟨fun z => (by cases z), fun _ => lc_imp w ds acc _ ho⟩
        | true =>
          refine ⟨fun _ => ?_, fun z => (by cases z)⟩
          have ho := T.all_bind.mp ho
          have h2 : pP L0.x (fe.bind useF) δ2 fun d' δ4 => acc.length < sizeLine ∧ dLc g' (pP L0.x t) (pP L0.x fe) vs ds (acc ++ [d']) (wipeD δ4 vs) P := T.all_mono ho fun o ho => by
            cases o with
            | err c fs δ => exact ho.elim
            | ok d' δ4 =>
              by_cases hl : acc.length < sizeLine
              · have ho : (if acc.length < sizeLine then fLc g t fe vs ds (acc ++ [d']) (wipeD δ4 vs) else T.fail).all _ := ho
                rw [if_pos hl] at ho
                exact ⟨hl, lc_imp w ds _ _ ho⟩
              · have ho : (if acc.length < sizeLine then fLc g t fe vs ds (acc ++ [d']) (wipeD δ4 vs) else T.fail).all _ := ho
                rw [if_neg hl] at ho
                exact ho.elim
          refine pP_mono (pP_bind.mp h2) fun r δ3 h3 => ?_
          obtain ⟨d', δ4, e, h4⟩ := pP_use h3
          exact ⟨d', δ4, e, h4.1, h4.2⟩
theorem comp_imp {g' : DG} {fi : FI} {t : FT} {vs : List Nat} (w : ∀ d δ P, pG g d δ P → g' d δ P) (δ : List R) (P : R → List R → Prop) (h : pP x (fComp fi g t fe vs) δ P) : dComp (pP x fi) g' (pP L0.x t) (pP L0.x fe) vs δ P :=
  pP_then h fun ds δ1 h => lc_imp w ds [] _ (T.all_mono (T.all_bind.mp h) fun p hp => hp)
theorem fe_lc {elt tg iter : Expr} {ifs : List Expr} {scope : Scope} {own : List (Str × Nat)} {fi : FI} {g : FG} {g' : DG} {tgt : TG} {t : FT} {fe : FE} {vs : List Nat} (w : ∀ d δ P, pG g d δ P → g' d δ P) (hc : X.calm = true) (hN : X.N.Nodup) (hi : HI X L tg iter fi) (ok : BlkOk X.N X.env.scope scope own)
    (gok : GOk g' tgt X.K vs) (hv : own.map (·.2) = vs)
    (hg : ∀ (s : Shared) (H : Hp) (C : Addr) (cl : List (Str × Addr)) (fp : List Addr), PG (X.blk s H scope (compEnvC scope cl C X.env) fp) tg tgt) (ht : ∀ (s : Shared) (H : Hp) (C : Addr) (cl : List (Str × Addr)) (fp : List Addr), PTs (X.blk s H scope (compEnvC scope cl C X.env) fp) ifs (liftT X.K L0 (pP L0.x t)))
    (he : ∀ (s : Shared) (H : Hp) (C : Addr) (cl : List (Str × Addr)) (fp : List Addr), PE (X.blk s H scope (compEnvC scope cl C X.env) fp) elt (lift X.K L0 (pP L0.x fe))) (hs : ∀ x, foldedSetIterable iter X.env x = pure x := by intro _; rfl) :
    HE X L (.ListComp elt [⟨tg, iter, ifs, 0⟩] scope pos) (fComp fi g t fe vs) := PE.weak (de_lc hc hN hi ok gok hv hg ht he hs) (lift_imp (comp_imp w))
theorem fs_setLc {i : Nat} {y : Str} {py spos : Pos} {elt tg iter : Expr} {ifs : List Expr} {scope : Scope} {own : List (Str × Nat)} {fi : FI} {g : FG} {g' : DG} {tgt : TG} {t : FT} {fe : FE} {vs : List Nat} (w : ∀ d δ P, pG g d δ P → g' d δ P) (hc : X.calm = true) (hN : X.N.Nodup)
    (hsw : swapsWith (.ListComp elt [⟨tg, iter, ifs, 0⟩] scope pos) (some (.Name y py)) spos.line X.env = pure true) (hi : HI X L tg iter fi) (ok : BlkOk X.N X.env.scope scope own)
    (gok : GOk g' tgt X.K vs) (hv : own.map (·.2) = vs)
    (hg : ∀ (s : Shared) (H : Hp) (C : Addr) (cl : List (Str × Addr)) (fp : List Addr), PG (X.blk s H scope (compEnvC scope cl C X.env) fp) tg tgt) (ht : ∀ (s : Shared) (H : Hp) (C : Addr) (cl : List (Str × Addr)) (fp : List Addr), PTs (X.blk s H scope (compEnvC scope cl C X.env) fp) ifs (liftT X.K L0 (pP L0.x t)))
    (he : ∀ (s : Shared) (H : Hp) (C : Addr) (cl : List (Str × Addr)) (fp : List Addr), PE (X.blk s H scope (compEnvC scope cl C X.env) fp) elt (lift X.K L0 (pP L0.x fe))) (hy : X.N[i]? = some y := by rfl) (hyl : X.env.scope.names.lookup y = some .local := by rfl) (hs : ∀ x, foldedSetIterable iter X.env x = pure x := by intro _; rfl) :
    HS X L (.Assign [.Name y py] (.ListComp elt [⟨tg, iter, ifs, 0⟩] scope pos) spos) (fSet i (fComp fi g t fe vs)) := PS.weak (ds_setLc hc hN hsw hi ok gok hv hg ht he hy hyl hs) (liftS_imp (set_imp (comp_imp w)))
theorem fts_nil : PTs X [] (liftT X.K L (pP L.x fYes)) := ⟨fun pins s σ H Q I h => dts_nil.run pins s σ H Q I (liftT_imp (fun δ P h => h) σ H Q h)⟩
theorem fts_one {c : Expr} {t : FT} (h : HT' X L c t) : PTs X [c] (liftT X.K L (pP L.x t)) := dts_one h
end
end DL
namespace DL
open PySem PySem.Spec L2
variable [TabsC]
inductive FR where
  | val (r : R) | exc (c : Addr) (fs : List (Str × D)) | valM (r : R) (d : D)
abbrev FM := List R → T FR
def SO.out (o : SO) : T FR := match o with
  | .nx _ => .ret (.val (.val .non))
  | .rt r _ => .ret (.val r)
  | .err c fs _ => .ret (.exc c fs)
  | .bk _ => .fail
  | .ct _ => .fail
def startK : Nat → List R → List R
  | 0, _ => []
  | n + 1, [] => .no :: startK n []
  | n + 1, r :: rs => r :: startK n rs
theorem startK_nil : ∀ n : Nat, startK n [] = List.replicate n .no
  | 0 => rfl
  | n + 1 => by simp only [startK, List.replicate_succ]; rw [startK_nil n]
theorem startK_eq : ∀ (n : Nat) (rs : List R), rs.length ≤ n → startK n rs = rs ++ List.replicate (n - rs.length) .no
  | 0, [], _ => rfl
  | 0, _ :: _, h => by simp at h
  | n + 1, [], _ => by rw [startK_nil]; simp
  | n + 1, r :: rs, h => by
    simp only [startK, List.cons_append, List.length_cons]
    rw [startK_eq n rs (by simpa using h), Nat.add_sub_add_right]
def mk (n : Nat) (fs : FS) : FM := fun rs => (fs (startK n rs)).bind SO.out
def FR.holds (P : R → Option D → Prop) (Xc : Addr → List (Str × D) → Prop) : FR → Prop
  | .val r => P r none
  | .valM r d => P r (some d)
  | .exc c fs => Xc c fs
def spM0 (n : Nat) (m : FM) : DSp := fun rs P _ => rs.length = n ∧ (m rs).all (FR.holds P fun _ _ => False)
def fCall (m : FM) (fa : FA) : FE := fa.bind fun rs => (useAllF rs).bind fun rs' => fun δ => (m rs').bind fun o => match o with
  | .val r => .ret (.ok r δ)
  | _ => .fail
def SO.wipe (vs : List Nat) (o : SO) : SO := match o with
  | .nx δ => .nx (wipeD δ vs)
  | .rt r δ => .rt r δ
  | .bk δ => .bk (wipeD δ vs)
  | .ct δ => .ct (wipeD δ vs)
  | .err c fs δ => .err c fs δ
def fWipe (vs : List Nat) (f : FS) : FS := fun δ => (f δ).bind fun o => .ret (o.wipe vs)
def fiWipe (vs : List Nat) (fi : FI) : FI := fi.bind fun ds => fun δ => .ret (.ok ds (wipeD δ vs))
def fRaise (C : Addr) (f : Str) (fa : FA) : FS := eS fa fun rs => eS (useAllF rs) fun rs' => match rs' with
  | [.val d] => fun δ => .ret (.err C [(f, d)] δ)
  | _ => fun _ => .fail
section
variable {P : Program} {w : World} {K : PySem.W.Frag} {mg : Str → Option Value} {base : Heap} {f : Addr} {fd : FuncData} {k : Nat} {x qual : Str} {sm : Stmt} {N ps : List Str} {fs : FS}
theorem mk_imp {rs : List R} {P : R → Option D → Prop} {Xc : Addr → List (Str × D) → Prop} {xx : Lx} (hl : rs.length ≤ N.length) (hx : ∀ c fs δ, Xc c fs → xx c fs δ) (h : (mk N.length fs rs).all (FR.holds P Xc)) : pS xx fs (endD P) (startD N rs) := by
  unfold mk at h
  rw [startK_eq _ _ hl] at h
  refine T.all_mono (T.all_bind.mp h) fun o ho => ?_
  cases o with
  | nx => exact .inl ho
  | rt => exact .inl ho
  | bk => exact ho
  | ct => exact ho
  | err c fs δ => exact hx _ _ _ ho
theorem fn_f (F : Fun K x qual sm f fd) (Sc : FnScope N ps (defScope sm)) (hN : ps.length ≤ N.length)
    (hb : ∀ (cdv : Value) (A : Around) (outer : List Env) (s : Shared) (H : Hp) (E : XK), Room k (A.deeper (PyProof.Rows.envOfC qual (defScope sm) s.heap.objs.size f cdv)) → HSs (cxOf CX0 P w K mg base N qual (defScope sm) f cdv A outer s H E).nox L0 (defBody sm) fs) :
    FnOk P w K mg base CX0 (k + 1) f fd ps (spOf K (spM0 ps.length (mk N.length fs))) :=
  fn_d F Sc (fun rs P Xc h => h.1) hN fun cdv A outer s H E hr => ⟨_, hb cdv A outer s H E hr, fun rs P Xc h => mk_imp (by rw [h.1]; exact hN) (fun _ _ _ z => z.elim) h.2⟩
theorem fn_fg (F : Fun K x qual sm f fd) (Sc : FnScope N ps (defScope sm)) (hN : ps.length ≤ N.length)
    (hb : ∀ (cdv : Value) (A : Around) (outer : List Env) (s : Shared) (H : Hp) (E : XK), Quiet A → Room k (A.deeper (PyProof.Rows.envOfC qual (defScope sm) s.heap.objs.size f cdv)) → HSs (cxOf CX0 P w K mg base N qual (defScope sm) f cdv A outer s H E).nox L0 (defBody sm) fs) :
    FnG P w K mg base CX0 (k + 1) f fd ps (spOf K (spM0 ps.length (mk N.length fs))) :=
  fn_dg F Sc (fun rs P Xc h => h.1) hN fun cdv A outer s H E hq hr => ⟨_, hb cdv A outer s H E hq hr, fun rs P Xc h => mk_imp (by rw [h.1]; exact hN) (fun _ _ _ z => z.elim) h.2⟩
theorem fn_flaw {sm st0 : Stmt} {rest : List Stmt} (F : Fun K "law" "law" sm f fd) (Sc : FnScope N ["_law_script"] (defScope sm)) (hN : 2 ≤ N.length) (hb : defBody sm = st0 :: rest)
    (h : ∀ (cdv : Value) (A : Around) (outer : List Env) (s : Shared) (H : Hp) (E : XK), Quiet A → Room k (A.deeper (PyProof.Rows.envOfC "law" (defScope sm) s.heap.objs.size f cdv)) →
      PS (cxOf CX0 P w K mg base N "law" (defScope sm) f cdv A outer s H E).nox st0 (tAsg (tCall (spBag K) [] E0 (tCons (tVar 0) tNil)) (gName 1)) ∧ HSs (cxOf CX0 P w K mg base N "law" (defScope sm) f cdv A outer s H E).nox L0 rest fs)
    (hd : (mk N.length fs [.no, .bag]).all fun o => o = .val (.val (.bl true))) : FnG P w K mg base CX0 (k + 1) f fd ["_law_script"] (spLaw K) :=
  fn_law F Sc hN hb h (by
    unfold mk at hd
    have e : startK N.length [.no, .bag] = bagStart N := by
      rw [startK_eq _ _ (by simpa using hN)]; rfl
    rw [e] at hd
    refine T.all_mono (T.all_bind.mp hd) fun o ho => ?_
    cases o with
    | nx => cases ho
    | rt r δ => cases ho; exact rfl
    | bk => exact ho
    | ct => exact ho
    | err => cases ho)
def m_none : FM := fun _ => .fail
theorem fn_none {CX : CXT} (S : DSp) (h : ∀ rs P Xc, ¬ S rs P Xc) : FnOk P w K mg base CX k f fd ps (spOf K S) :=
  ⟨fun vs H Q E z => by obtain ⟨_, _, _, rs, P, Xc, _, _, _, _, hs, _⟩ := z; exact (h rs P Xc hs).elim, fun A o s H args us vs Q E _ _ _ _ z => by obtain ⟨_, _, _, rs, P, Xc, _, _, _, _, hs, _⟩ := z; exact (h rs P Xc hs).elim⟩
theorem none_no {n : Nat} (rs : List R) (P : R → Option D → Prop) (Xc : Addr → List (Str × D) → Prop) : ¬ spM0 n m_none rs P Xc := fun h => h.2
def m_take : FM := fun rs => match rs with
  | [.bag, .val (.int n)] => .take n fun r => .ret (.val (.val (.int r)))
  | _ => .fail
theorem take_imp (rs : List R) (P : R → Option D → Prop) (Xc : Addr → List (Str × D) → Prop) (h : spM0 2 m_take rs P Xc) : takeS rs P Xc := by
  obtain ⟨_, h⟩ := h
  unfold m_take at h
  split at h
  · exact ⟨_, rfl, h.1, h.2.1, h.2.2⟩
  · exact h.elim
theorem spOf_imp {S S' : DSp} (h : ∀ rs P Xc, S' rs P Xc → S rs P Xc) (vs : List V) (H : Hp) (Q : VK) (E : XK) (q : spOf K S' vs H Q E) : spOf K S vs H Q E := by
  obtain ⟨bo, mo, G, rs, P, Xc, h1, h2, h2', h3, h4, h5⟩ := q
  exact ⟨bo, mo, G, rs, P, Xc, h1, h2, h2', h3, h _ _ _ h4, h5⟩
end
section
variable {X : Cx} {L : Lk} {k : Nat} {ps : List Str} {m : FM} {y : Str} {p pos : Pos} {e : Expr} {es : List Expr} {fa : FA} {x : Lx} {n : Nat}
theorem call_imp (δ : List R) (P : R → List R → Prop) (h : pP x (fCall m fa) δ P) (hn : ∀ rs δ1 rs' δ2, useAll rs δ1 = some (rs', δ2) → rs'.length = rs.length) (hl : ∀ Q, pP x fa δ Q → pP x fa δ fun rs δ' => rs.length = n ∧ Q rs δ') : dCall (spM0 n m) (pP x fa) δ P :=
  pP_mono (hl _ (pP_bind.mp h)) fun rs δ1 ⟨e0, h⟩ => by
    obtain ⟨rs', δ2, e1, h⟩ := pP_useAll (pP_bind.mp h)
    refine ⟨rs', δ2, e1, (hn _ _ _ _ e1).trans e0, T.all_mono (T.all_bind.mp h) fun o ho => ?_⟩
    cases o with
    | val r => exact ho
    | exc c fs => exact ho
    | valM r d => exact ho.elim
theorem useAll_len : ∀ (rs δ1 rs' δ2 : List R), useAll rs δ1 = some (rs', δ2) → rs'.length = rs.length
  | [], _, _, _, e => by cases e; rfl
  | r :: rs, δ1, rs', δ2, e => by
    unfold useAll at e
    split at e
    · split at e
      · cases e
        simp only [List.length_cons]
        rw [useAll_len _ _ _ _ (by assumption)]
      · cases e
    · cases e
def ArgN (fa : FA) (n : Nat) : Prop := ∀ (x : Lx) (δ : List R) Q, pP x fa δ Q → pP x fa δ fun rs δ' => rs.length = n ∧ Q rs δ'
theorem argN_nil : ArgN fNil 0 := fun x δ Q h => ⟨rfl, h⟩
theorem argN_cons {fe : FE} (h : ArgN fa n) : ArgN (fCons fe fa) (n + 1) := fun x δ Q hq => by
  refine pP_bind.mpr (pP_then hq fun r δ1 h1 => pP_bind.mpr (pP_mono (h x δ1 _ (pP_bind.mp h1)) fun rs δ2 h2 => ?_))
  exact ⟨by simp [h2.1], h2.2⟩
theorem fe_fc (F : Fc X.prog X.w X.K X.mg X.base k y ps (spM0 n m)) (hr : Room k X.A) (hg : Gl X y) (ha : HA X L (e :: es) fa) (hl : ArgN fa n) (hdb : (y == ("__debug__" : Str)) = false := by decide)
    (he : starEach (e :: es) X.env = (false, eval e X.env) :: starEach es X.env := by rfl) (hpl : (backTo pos (starEach es X.env)).any (·.1) = false := by rfl) : HE X L (.Call (.Name y p) (e :: es) [] pos) (fCall m fa) :=
  PE.weak (de_fc F hr hg ha hdb he hpl) (lift_imp fun δ P h => call_imp δ P h useAll_len (hl _ δ))
theorem fe_fc0 (F : Fc X.prog X.w X.K X.mg X.base k y ps (spM0 0 m)) (hr : Room k X.A) (hg : Gl X y) (hdb : (y == ("__debug__" : Str)) = false := by decide) : HE X L (.Call (.Name y p) [] [] pos) (fCall m fNil) :=
  PE.weak (de_fc0 F hr hg hdb) (lift_imp fun δ P h => call_imp δ P h useAll_len (argN_nil _ δ))
theorem fe_fcG (F : FcG X.prog X.w X.K X.mg X.base k y ps (spM0 n m)) (hq : Quiet X.A) (hr : Room k X.A) (hg : Gl X y) (ha : HA X L (e :: es) fa) (hl : ArgN fa n) (hdb : (y == ("__debug__" : Str)) = false := by decide)
    (he : starEach (e :: es) X.env = (false, eval e X.env) :: starEach es X.env := by rfl) (hpl : (backTo pos (starEach es X.env)).any (·.1) = false := by rfl) : HE X L (.Call (.Name y p) (e :: es) [] pos) (fCall m fa) :=
  PE.weak (de_fcG F hq hr hg ha hdb he hpl) (lift_imp fun δ P h => call_imp δ P h useAll_len (hl _ δ))
theorem SI.wiped {K : PySem.W.Frag} {C : Ct} {σ : St} {H G : Hp} {W : Ow} {δ : List R} (I : SI K C σ H G W δ) : ∀ vs : List Nat, SI K C σ H G W (wipeD δ vs)
  | [] => I
  | v :: vs => (I.wiped vs).drop v
theorem wipe_links {K : PySem.W.Frag} {C : Ct} {G : Hp} {D : Ends} {DD : DEnds} (vs : List Nat) (k : Links K C G D DD) : Links K C G D ⟨fun δ => DD.nx (wipeD δ vs), DD.rt, fun δ => DD.bk (wipeD δ vs), fun δ => DD.ct (wipeD δ vs)⟩ :=
  ⟨fun σ' H' G' W' δ' x I h => k.nx σ' H' G' W' _ x (I.wiped vs) h, k.rt, fun σ' H' G' W' δ' x I h => k.bk σ' H' G' W' _ x (I.wiped vs) h, fun σ' H' G' W' δ' x I h => k.ct σ' H' G' W' _ x (I.wiped vs) h⟩
variable {sm : Stmt} {sms : List Stmt} {f : FS}
theorem lift_wipe {K : PySem.W.Frag} (vs : List Nat) : ∀ D σ H, liftS K L (pS L.x (fWipe vs f)) D σ H → liftS K L (pS L.x f) D σ H := fun D σ H ⟨C, G, W, δ, DD, I, lk, hd, k⟩ =>
  ⟨C, G, W, δ, _, I, lk, T.all_mono (T.all_bind.mp hd) fun o ho => by cases o <;> exact ho, wipe_links vs k⟩
theorem fs_wipe (vs : List Nat) (h : HS X L sm f) : HS X L sm (fWipe vs f) := PS.weak h (lift_wipe vs)
theorem fss_wipe (vs : List Nat) (h : HSs X L sms f) : HSs X L sms (fWipe vs f) := PSs.weak h (lift_wipe vs)
theorem fi_wipe {t i : Expr} {fi : FI} (vs : List Nat) (h : HI X L t i fi) : HI X L t i (fiWipe vs fi) := PI.weak h fun σ H Q ⟨C, G, W, δ, P, I, lk, hd, k⟩ =>
  ⟨C, G, W, δ, fun ds δ' => P ds (wipeD δ' vs), I, lk, pP_then hd fun ds δ' h => h, fun ds δ' J H' G' W' hp x I' jo => k ds _ J H' G' W' hp x (I'.wiped vs) jo⟩
variable {Cl : Addr} {g : Str}
end
end DL
namespace DL
open PySem PySem.Spec L2
theorem ofS_inj {a b : String} : (Str.ofString a = Str.ofString b) = (a = b) := by
  apply propext
  constructor
  · intro h
    rw [Str.ofString_eq_toList, Str.ofString_eq_toList] at h
    have h := congrArg (fun s : Str => s.cps.toList) h
    simp only at h
    have inj : ∀ (xs ys : List Char), xs.map Char.toNat = ys.map Char.toNat → xs = ys := by
      intro xs
      induction xs with
      | nil => intro ys h; cases ys with
        | nil => rfl
        | cons => cases h
      | cons x xs ih => intro ys h; cases ys with
        | nil => cases h
        | cons y ys =>
          simp only [List.map_cons, List.cons.injEq] at h
          have : x = y := by
            have h1 := h.1
            have : x.val = y.val := by
              apply UInt32.toNat_inj.mp
              exact h1
            exact Char.ext this
          rw [this, ih ys h.2]
    have := inj _ _ h
    exact String.toList_inj.mp this
  · intro h; rw [h]
theorem ofS_beq {a b : String} : (Str.ofString a == Str.ofString b) = decide (a = b) := by
  by_cases h : a = b
  · subst h; simp
  · have : Str.ofString a ≠ Str.ofString b := fun e => h (ofS_inj ▸ e)
    simp [this, h]
theorem strOk_ofS (s : String) : PyData.strOk (Str.ofString s) = true := by
  unfold PyData.strOk
  rw [Str.ofString_eq_toList]
  simp only [List.all_toArray, List.all_map, List.all_eq_true]
  intro c hc
  have := c.valid
  simp only [Function.comp, decide_eq_true_eq]
  have h : c.toNat < 0x110000 := by
    rcases this with h | ⟨_, h⟩
    · have : c.val.toNat < 0xd800 := h
      show c.val.toNat < _
      omega
    · exact h
  exact h
section
variable {α β : Type} {a : α} {c : Addr} {fs : List (Str × D)} {δ : List R} {f : F α} {k : α → F β} {kS : α → FS} {d : D} {i : Nat} {fa fb fe : FE} {t u : FT} {fA : FA} {A B : FS} {r : R} {rs : List R}
theorem v_ret : F.ret a δ = .ret (.ok a δ) := (rfl)
theorem v_fail : (F.fail : F α) δ = .fail := (rfl)
theorem v_bind : F.bind f k δ = (f δ).bind fun o => o.on k := (rfl)
theorem v_on : (EO.ok a δ).on k = k a δ := (rfl)
theorem v_go : (EO.ok a δ).go kS = kS a δ := (rfl)
theorem v_of : F.of (some a) δ = .ret (.ok a δ) := (rfl)
theorem v_ofN : F.of (none : Option α) δ = .fail := (rfl)
theorem v_ofI {p : Prop} [Decidable p] {x y : Option α} : F.of (if p then x else y) δ = if p then F.of x δ else F.of y δ := by split <;> rfl
def useK (r : R) (i : Nat) (δ : List R) : T (EO D) := match r with
  | .val d => .ret (.ok d δ)
  | .own d => .ret (.ok d (st δ i (.val d)))
  | _ => .fail
def lookK (r : R) (δ : List R) : T (EO D) := match r with
  | .val d => .ret (.ok d δ)
  | .own d => .ret (.ok d δ)
  | .bor d => .ret (.ok d δ)
  | _ => .fail
def handK (r : R) (i : Nat) (δ : List R) : T (EO R) := match r with
  | .val d => .ret (.ok (.val d) δ)
  | .own d => .ret (.ok (.val d) (st δ i (.val d)))
  | .bag => .ret (.ok .bag δ)
  | _ => .fail
def handF (r : R) : F R := fun δ => match r with
  | .val d => .ret (.ok (.val d) δ)
  | .own d => .ret (.ok (.val d) δ)
  | .bag => .ret (.ok .bag δ)
  | .pk i => handK (gt δ i) i δ
  | _ => .fail
theorem v_useV : useF (.val d) δ = .ret (.ok d δ) := (rfl)
theorem v_useO : useF (.own d) δ = .ret (.ok d δ) := (rfl)
theorem v_useP : useF (.pk i) δ = useK (gt δ i) i δ := by
  show (match usePk (gt δ i) i δ with
    | some (.val d, δ') => T.ret (EO.ok d δ')
    | _ => .fail) = _
  cases gt δ i <;> rfl
theorem v_useKV : useK (.val d) i δ = .ret (.ok d δ) := (rfl)
theorem v_useKO : useK (.own d) i δ = .ret (.ok d (st δ i (.val d))) := (rfl)
theorem v_peekV : peekF (.val d) δ = .ret (.ok d δ) := (rfl)
theorem v_peekO : peekF (.own d) δ = .ret (.ok d δ) := (rfl)
theorem v_peekP : peekF (.pk i) δ = lookK (gt δ i) δ := by
  show (match (gt δ i).dat with
    | some d => T.ret (EO.ok d δ)
    | none => .fail) = _
  cases gt δ i <;> rfl
theorem v_lookV : lookK (.val d) δ = .ret (.ok d δ) := (rfl)
theorem v_lookO : lookK (.own d) δ = .ret (.ok d δ) := (rfl)
theorem v_handV : handF (.val d) δ = .ret (.ok (.val d) δ) := (rfl)
theorem v_handP : handF (.pk i) δ = handK (gt δ i) i δ := (rfl)
theorem v_handKV : handK (.val d) i δ = .ret (.ok (.val d) δ) := (rfl)
theorem v_handKO : handK (.own d) i δ = .ret (.ok (.val d) (st δ i (.val d))) := (rfl)
theorem v_handKB : handK .bag i δ = .ret (.ok .bag δ) := (rfl)
theorem v_allN : useAllF [] δ = .ret (.ok [] δ) := (rfl)
theorem v_allC : useAllF (r :: rs) δ = (handF r δ).bind fun o => o.on fun r' => (useAllF rs).bind fun rs' => F.ret (r' :: rs') := by
  have key : ∀ (r' : R) (δ' : List R), use r δ = some (r', δ') → useAllF (r :: rs) δ = ((useAllF rs).bind fun rs' => F.ret (r' :: rs')) δ' := fun r' δ' e => by
    unfold useAllF F.bind
    simp only [useAll, e]
    cases useAll rs δ' with
    | none => rfl
    | some p => rfl
  have keyN : use r δ = none → useAllF (r :: rs) δ = .fail := fun e => by
    unfold useAllF
    simp only [useAll, e]
  cases r with
  | no => exact keyN rfl
  | bor d => exact keyN rfl
  | val d => exact key _ _ rfl
  | own d => exact key _ _ rfl
  | bag => exact key _ _ rfl
  | pk i =>
    show _ = (handK (gt δ i) i δ).bind _
    cases q : gt δ i with
    | no => exact keyN (by show usePk (gt δ i) i δ = _; rw [q]; rfl)
    | pk j => exact keyN (by show usePk (gt δ i) i δ = _; rw [q]; rfl)
    | bor j => exact keyN (by show usePk (gt δ i) i δ = _; rw [q]; rfl)
    | val d => exact key _ _ (by show usePk (gt δ i) i δ = _; rw [q]; rfl)
    | own d => exact key _ _ (by show usePk (gt δ i) i δ = _; rw [q]; rfl)
    | bag => exact key _ _ (by show usePk (gt δ i) i δ = _; rw [q]; rfl)
theorem v_lkN : peekAllF [] δ = .ret (.ok [] δ) := (rfl)
theorem v_lkC : peekAllF (r :: rs) δ = (peekF r δ).bind fun o => o.on fun d => (peekAllF rs).bind fun ds => F.ret (d :: ds) := by
  unfold peekAllF peekF F.bind
  simp only [peekAll]
  cases peek r δ with
  | none => rfl
  | some d =>
    simp only [T.bind, EO.on]
    cases peekAll rs δ <;> rfl
def varK (r : R) (i : Nat) (δ : List R) : T (EO R) := match r with
  | .no => .fail
  | _ => .ret (.ok (.pk i) δ)
theorem v_var : fVar i δ = varK (gt δ i) i δ := by
  unfold fVar varK
  cases gt δ i <;> rfl
theorem v_varV : varK (.val d) i δ = .ret (.ok (.pk i) δ) := (rfl)
theorem v_varO : varK (.own d) i δ = .ret (.ok (.pk i) δ) := (rfl)
theorem v_varB : varK .bag i δ = .ret (.ok (.pk i) δ) := (rfl)
theorem v_c : fC d δ = .ret (.ok (.val d) δ) := (rfl)
theorem v_bin {g : D → D → Option R} : fBin g fa fb δ = (fa δ).bind fun o => o.on fun r1 => fb.bind fun r2 => (useF r1).bind fun d1 => (useF r2).bind fun d2 => F.of (g d1 d2) := (rfl)
theorem v_cmp {g : D → D → Option Bool} : fCmp g fa fb δ = (fa δ).bind fun o => o.on fun r1 => fb.bind fun r2 => (peekF r1).bind fun d1 => (peekF r2).bind fun d2 => (F.of (g d1 d2)).bind fun b => F.ret (.val (.bl b)) := (rfl)
theorem v_tst : fTst fe δ = (fe δ).bind fun o => o.on fun r => (peekF r).bind fun d => F.of (blOf d) := (rfl)
theorem v_bl {b : Bool} : blOf (.bl b) = some b := (rfl)
theorem v_int {n : Int} : intOf (.int n) = some n := (rfl)
theorem v_and : fAnd t u δ = (t δ).bind fun o => o.on fun c => if c = true then u else F.ret false := (rfl)
theorem v_or : fOr t u δ = (t δ).bind fun o => o.on fun c => if c = true then F.ret true else u := (rfl)
theorem v_not : fNot t δ = (t δ).bind fun o => o.on fun c => F.ret (!c) := (rfl)
theorem v_andV : fAndV fa fb δ = (fa δ).bind fun o => o.on fun r => (peekF r).bind fun d => (F.of (blOf d)).bind fun c => if c = true then fb else F.ret (.val (.bl false)) := (rfl)
theorem v_orV : fOrV fa fb δ = (fa δ).bind fun o => o.on fun r => (peekF r).bind fun d => (F.of (blOf d)).bind fun c => if c = true then F.ret (.val (.bl true)) else fb := (rfl)
theorem v_notV : fNotV fa δ = (fa δ).bind fun o => o.on fun r => (peekF r).bind fun d => (F.of (blOf d)).bind fun c => F.ret (.val (.bl (!c))) := (rfl)
theorem v_if : fIf t fa fb δ = (t δ).bind fun o => o.on fun c => if c = true then fa else fb := (rfl)
theorem v_nil : fNil δ = .ret (.ok [] δ) := (rfl)
theorem v_cons {fr : FA} : fCons fa fr δ = (fa δ).bind fun o => o.on fun r => fr.bind fun rs => F.ret (r.pub :: rs) := (rfl)
theorem v_vals : valsF rs δ = (useAllF rs δ).bind fun o => o.on fun rs' => (F.of (vals? rs')).bind fun ds => if ds.length ≤ sizeLine then F.ret ds else F.fail := (rfl)
theorem v_tup : fTup fA δ = (fA δ).bind fun o => o.on fun rs => (valsF rs).bind fun ds => F.ret (.val (.tup ds)) := (rfl)
theorem v_lst : fLst fA δ = (fA δ).bind fun o => o.on fun rs => (valsF rs).bind fun ds => F.ret (.own (.lst ds)) := (rfl)
theorem v_neg : fNeg fa δ = (fa δ).bind fun o => o.on fun r => (peekF r).bind fun d => (F.of (intOf d)).bind fun i => F.ret (.val (.int (-i))) := (rfl)
theorem v_ix : fIx fa fb δ = (fa δ).bind fun o => o.on fun r1 => fb.bind fun r2 => (peekF r1).bind fun d => (peekF r2).bind fun e => (F.of (intOf e)).bind fun i => (F.of (ixF d i)).bind fun d' => F.ret (.val d') := (rfl)
theorem v_oN : foNone δ = .ret (.ok none δ) := (rfl)
theorem v_oS : foSome fe δ = (fe δ).bind fun o => o.on fun r => (peekF r).bind fun d => (F.of (intOf d)).bind fun i => F.ret (some i) := (rfl)
theorem v_sl {fl fh : FO} : fSl fa fl fh δ = (fa δ).bind fun o => o.on fun r1 => fl.bind fun lo => fh.bind fun hi => (peekF r1).bind fun d => F.of (slF d lo hi) := (rfl)
theorem v_cb {b : List D → Option R} : fCB b fA δ = (fA δ).bind fun o => o.on fun rs => (peekAllF rs).bind fun ds => F.of (b ds) := (rfl)
theorem v_eS {f : F α} : eS f kS δ = (f δ).bind fun o => o.go kS := (rfl)
theorem v_next : fNext δ = .ret (.nx δ) := (rfl)
theorem v_sq : fSq A B δ = (A δ).bind fun o => o.andThen B := (rfl)
theorem v_thN : (SO.nx δ).andThen B = B δ := (rfl)
theorem v_thR : (SO.rt r δ).andThen B = .ret (.rt r δ) := (rfl)
def retK (r : R) : T SO := match r with
  | .val d => .ret (.rt (.val d) [])
  | .own d => .ret (.rt (.own d) [])
  | .bag => .ret (.rt .bag [])
  | _ => .fail
def retF (r : R) : FS := fun δ => match r with
  | .val d => .ret (.rt (.val d) [])
  | .own d => .ret (.rt (.own d) [])
  | .bag => .ret (.rt .bag [])
  | .pk i => retK (gt δ i)
  | .no => .fail
  | .bor _ => .fail
theorem v_retS : fRet fe δ = (fe δ).bind fun o => o.go retF := by
  unfold fRet eS
  congr 1
  funext o
  cases o with
  | err => rfl
  | ok r δ =>
    cases r with
    | pk i =>
      simp only [EO.go, retR, retF]
      cases gt δ i <;> rfl
    | _ => rfl
theorem v_rV : retF (.val d) δ = .ret (.rt (.val d) []) := (rfl)
theorem v_rO : retF (.own d) δ = .ret (.rt (.own d) []) := (rfl)
theorem v_rP : retF (.pk i) δ = retK (gt δ i) := (rfl)
theorem v_rKV : retK (.val d) = .ret (.rt (.val d) []) := (rfl)
theorem v_rKO : retK (.own d) = .ret (.rt (.own d) []) := (rfl)
theorem v_ifS : fIfS t A B δ = (t δ).bind fun o => o.go fun c => if c = true then A else B := (rfl)
def setK (r : R) (i j : Nat) (δ : List R) : T SO := match r with
  | .val d => .ret (.nx (st δ i (.val d)))
  | .own d => .ret (.nx (st (st δ j (.val d)) i (.val d)))
  | .bag => .ret (.nx (st δ i .bag))
  | _ => .fail
def setF (i : Nat) (r : R) : FS := fun δ => match r with
  | .val d => .ret (.nx (st δ i (.val d)))
  | .own d => .ret (.nx (st δ i (.own d)))
  | .bag => .ret (.nx (st δ i .bag))
  | .pk j => setK (gt δ j) i j δ
  | _ => .fail
theorem v_set : fSet i fe δ = (fe δ).bind fun o => o.go (setF i) := by
  unfold fSet eS
  congr 1
  funext o
  cases o with
  | err => rfl
  | ok r δ =>
    cases r with
    | pk j =>
      simp only [EO.go, asR, use, setF]
      cases gt δ j <;> rfl
    | _ => rfl
theorem v_sV : setF i (.val d) δ = .ret (.nx (st δ i (.val d))) := (rfl)
theorem v_sO : setF i (.own d) δ = .ret (.nx (st δ i (.own d))) := (rfl)
theorem v_sP {j : Nat} : setF i (.pk j) δ = setK (gt δ j) i j δ := (rfl)
theorem v_sKV {j : Nat} : setK (.val d) i j δ = .ret (.nx (st δ i (.val d))) := (rfl)
def optS (o : Option (List R)) : T SO := match o with
  | some δ => .ret (.nx δ)
  | none => .fail
theorem v_asg {g : FG} : fAsg fe g δ = (fe δ).bind fun o => o.go fun r => eS (useF r) fun d δ => optS (g d δ) := (rfl)
theorem v_optS : optS (some δ) = .ret (.nx δ) := (rfl)
theorem v_gN : fgN i d δ = some (st δ i (.val d)) := (rfl)
theorem v_gT {n : Nat} {u : FGs} {ds : List D} : fgT n u (.tup ds) δ = if ds.length = n then u ds δ else none := (rfl)
theorem v_gC {g : FG} {u : FGs} {ds : List D} : fgCons g u (d :: ds) δ = (g d δ).bind fun δ' => u ds δ' := (rfl)
theorem v_gNil : fgNil [] δ = some δ := (rfl)
def turnK (o : Option (List R)) (b : FS) (k : FS) : T SO := match o with
  | some δ => (b δ).bind fun o => o.turn k
  | none => .fail
theorem v_loopN {g : FG} {b : FS} : fLoop g b [] δ = .ret (.nx δ) := (rfl)
theorem v_loopC {g : FG} {b : FS} {ds : List D} : fLoop g b (d :: ds) δ = turnK (g d δ) b (fLoop g b ds) := (rfl)
theorem v_turnK {b k : FS} : turnK (some δ) b k = (b δ).bind fun o => o.turn k := (rfl)
theorem v_tuN {k : FS} : (SO.nx δ).turn k = k δ := (rfl)
theorem v_tuB {k : FS} : (SO.bk δ).turn k = .ret (.nx δ) := (rfl)
theorem v_tuR {k : FS} : (SO.rt r δ).turn k = .ret (.rt r δ) := (rfl)
theorem v_tuE {k : FS} : (SO.err c fs δ).turn k = .ret (.err c fs δ) := (rfl)
theorem v_for {fi : FI} {g : FG} {b : FS} : fFor fi g b δ = (fi δ).bind fun o => o.go fun ds => fLoop g b ds := (rfl)
theorem v_iW {vs : List Nat} {fi : FI} : fiWipe vs fi δ = (fi δ).bind fun o => o.on fun ds δ => .ret (.ok ds (wipeD δ vs)) := (rfl)
theorem v_wipe {vs : List Nat} {f : FS} : fWipe vs f δ = (f δ).bind fun o => .ret (o.wipe vs) := (rfl)
theorem v_wN {vs : List Nat} : (SO.nx δ).wipe vs = .nx (wipeD δ vs) := (rfl)
theorem v_wR {vs : List Nat} : (SO.rt r δ).wipe vs = .rt r δ := (rfl)
theorem v_iS : fiSeq fe δ = (fe δ).bind fun o => o.on fun r => (useF r).bind fun d => F.of d.items := (rfl)
def rng1K (ds : List D) : FI := match ds with
  | [.int j] => if -(2 ^ 62) ≤ j ∧ j < 2 ^ 62 then F.ret (rngD 0 j.toNat) else F.fail
  | _ => F.fail
def rng2K (ds : List D) : FI := match ds with
  | [.int i, .int j] => if -(2 ^ 62) ≤ i ∧ i < 2 ^ 62 ∧ -(2 ^ 62) ≤ j ∧ j < 2 ^ 62 then F.ret (rngD i (j - i).toNat) else F.fail
  | _ => F.fail
theorem v_r1 : fiRng1 fA δ = (fA δ).bind fun o => o.on fun rs => (peekAllF rs).bind rng1K := (rfl)
theorem v_r2 : fiRng2 fA δ = (fA δ).bind fun o => o.on fun rs => (peekAllF rs).bind rng2K := (rfl)
theorem v_r1K {j : Int} : rng1K [.int j] δ = (if -(2 ^ 62) ≤ j ∧ j < 2 ^ 62 then F.ret (rngD 0 j.toNat) else F.fail) δ := (rfl)
theorem v_r2K {i j : Int} : rng2K [.int i, .int j] δ = (if -(2 ^ 62) ≤ i ∧ i < 2 ^ 62 ∧ -(2 ^ 62) ≤ j ∧ j < 2 ^ 62 then F.ret (rngD i (j - i).toNat) else F.fail) δ := (rfl)
def lcE (acc : List D) (vs : List Nat) (k : List D → List R → T (List D × List R)) (o : EO D) : T (List D × List R) := match o with
  | .err _ _ _ => .fail
  | .ok d' δ4 => if acc.length < sizeLine then k (acc ++ [d']) (wipeD δ4 vs) else .fail
def lcT (e : FE) (acc : List D) (vs : List Nat) (k : List D → List R → T (List D × List R)) (o : EO Bool) : T (List D × List R) := match o with
  | .err _ _ _ => .fail
  | .ok b δ2 => if b = true then (e.bind useF δ2).bind (lcE acc vs k) else k acc (wipeD δ2 vs)
def lcG (t : FT) (e : FE) (acc : List D) (vs : List Nat) (k : List D → List R → T (List D × List R)) (o : Option (List R)) : T (List D × List R) := match o with
  | none => .fail
  | some δ1 => (t δ1).bind (lcT e acc vs k)
theorem v_lcN {g : FG} {e : FE} {vs : List Nat} {acc : List D} : fLc g t e vs [] acc δ = .ret (acc, δ) := (rfl)
theorem v_lcC {g : FG} {e : FE} {vs : List Nat} {ds acc : List D} : fLc g t e vs (d :: ds) acc δ = lcG t e acc vs (fLc g t e vs ds) (g d δ) := by
  rw [fLc.eq_2]
  unfold lcG lcT lcE
  cases g d δ <;> rfl
theorem v_lcG {e : FE} {vs : List Nat} {acc : List D} {k : List D → List R → T (List D × List R)} : lcG t e acc vs k (some δ) = (t δ).bind (lcT e acc vs k) := (rfl)
theorem v_lcT {e : FE} {vs : List Nat} {acc : List D} {k : List D → List R → T (List D × List R)} {b : Bool} : lcT e acc vs k (.ok b δ) = if b = true then (e.bind useF δ).bind (lcE acc vs k) else k acc (wipeD δ vs) := (rfl)
theorem v_lcE {vs : List Nat} {acc : List D} {k : List D → List R → T (List D × List R)} : lcE acc vs k (.ok d δ) = if acc.length < sizeLine then k (acc ++ [d]) (wipeD δ vs) else .fail := (rfl)
theorem v_yes : fYes δ = .ret (.ok true δ) := (rfl)
theorem v_comp {fi : FI} {g : FG} {e : FE} {vs : List Nat} : fComp fi g t e vs δ = (fi δ).bind fun o => o.on fun ds δ1 => (fLc g t e vs ds [] (wipeD δ1 vs)).bind fun p => .ret (.ok (.own (.lst p.1)) (backD p.2 δ1 vs)) := (rfl)
def callK (δ : List R) (o : FR) : T (EO R) := match o with
  | .val r => .ret (.ok r δ)
  | _ => .fail
def callF (m : FM) (rs : List R) : FE := fun δ => (m rs).bind (callK δ)
theorem v_call {m : FM} : fCall m fA δ = (fA δ).bind fun o => o.on fun rs => (useAllF rs).bind (callF m) := (rfl)
theorem v_callF {m : FM} : callF m rs δ = (m rs).bind (callK δ) := (rfl)
theorem v_callK : callK δ (.val r) = .ret (.ok r δ) := (rfl)
theorem v_mk {n : Nat} {f : FS} : mk n f rs = (f (startK n rs)).bind SO.out := (rfl)
theorem v_outR : SO.out (.rt r δ) = .ret (.val r) := (rfl)
theorem v_take {n : Int} : m_take [.bag, .val (.int n)] = .take n fun r => .ret (.val (.val (.int r))) := (rfl)
variable {C : Addr} {fu : Addr → Value → Option Addr → FS}
theorem ite_ap {p : Prop} [Decidable p] {x y : α → β} {z : α} : (if p then x else y) z = if p then x z else y z := by split <;> rfl
variable {n m : Int} {xs ys : List D} {x y : Str} {lo hi : Option Int} {kvs : List (Key × D)} {k' : Bool}
theorem v_pubO : (R.own d).pub = .val d := (rfl)
theorem v_pubV : (R.val d).pub = .val d := (rfl)
theorem v_pubP : (R.pk i).pub = .pk i := (rfl)
theorem v_ixL : ixF (.lst xs) n = atI xs n := (rfl)
theorem v_ixT : ixF (.tup xs) n = atI xs n := (rfl)
theorem v_ixS : ixF (.str x) n = if x.length ≤ sizeLine then (atI x.cps.toList n).map fun c => .str ⟨#[c]⟩ else none := (rfl)
theorem v_slL : slF (.lst xs) lo hi = some (.own (.lst (cut xs lo hi))) := (rfl)
theorem v_slS : slF (.str x) lo hi = if x.length ≤ sizeLine then some (.val (.str (cutS x lo hi))) else none := (rfl)
theorem v_addI : gAddF (.int n) (.int m) = some (.val (.int (n + m))) := (rfl)
theorem v_addS : gAddF (.str x) (.str y) = if x.length + y.length ≤ sizeLine then some (.val (.str (x ++ y))) else none := (rfl)
theorem v_addL : gAddF (.lst xs) (.lst ys) = if xs.length + ys.length ≤ sizeLine then some (.own (.lst (xs ++ ys))) else none := (rfl)
theorem v_sub : gSubF (.int n) (.int m) = some (.val (.int (n - m))) := (rfl)
theorem v_mod : gModF (.int n) (.int m) = if decide (m ≠ 0) = true then some (.val (.int (n.fmod m))) else none := (rfl)
theorem v_pow : gPowF (.int n) (.int m) = if (decide (0 ≤ m) && decide (m ≤ 1000000) && decide (n.natAbs < 18446744073709551616)) = true then some (.val (.int (n ^ m.toNat))) else none := (rfl)
theorem v_fdiv : gFdivF (.int n) (.int m) = if (decide (m ≠ 0) && decide (m.natAbs.log2 < 9000)) = true then some (.val (.int (n.fdiv m))) else none := (rfl)
theorem v_mulI : gMulF (.int n) (.int m) = if mulB n m = true then some (.val (.int (n * m))) else none := (rfl)
theorem v_mulL : gMulF (.lst xs) (.int m) = if -(2 ^ 63) ≤ m ∧ m < 2 ^ 63 ∧ xs.length * m.toNat ≤ sizeLine then some (.own (.lst (List.replicate m.toNat xs).flatten)) else none := (rfl)
theorem v_cI {f : Int → Int → Bool} : cIF f (.int n) (.int m) = some (f n m) := (rfl)
theorem v_lenL : bLenF [.lst xs] = some (.val (.int xs.length)) := (rfl)
theorem v_lenT : bLenF [.tup xs] = some (.val (.int xs.length)) := (rfl)
theorem v_lenS : bLenF [.str x] = if x.length ≤ sizeLine then some (.val (.int x.length)) else none := (rfl)
theorem v_intI : bIntF [.int n] = some (.val (.int n)) := (rfl)
theorem v_intB : bIntF [.bl k'] = some (.val (.int (if k' = true then 1 else 0))) := (rfl)
theorem v_abs : bAbsF [.int n] = some (.val (.int (if n < 0 then -n else n))) := (rfl)
theorem v_max2 : bMax2F [.int n, .int m] = some (.val (.int (if m > n then m else n))) := (rfl)
theorem v_min2 : bMin2F [.int n, .int m] = some (.val (.int (if m < n then m else n))) := (rfl)
theorem v_listL : bListF [.lst xs] = some (.own (.lst xs)) := (rfl)
theorem v_listT : bListF [.tup xs] = some (.own (.lst xs)) := (rfl)
theorem v_tupleL : bTupleF [.lst xs] = some (.val (.tup xs)) := (rfl)
theorem v_itemsL : D.items (.lst xs) = some xs := (rfl)
theorem v_itemsT : D.items (.tup xs) = some xs := (rfl)
end
end DL
namespace DL
open PySem PySem.Spec L2
def SO.next (o : SO) (Iv : List R → Prop) (P : SO → Prop) : Prop := match o with
  | .nx δ => Iv δ
  | .ct δ => Iv δ
  | .bk δ => P (.nx δ)
  | .rt r δ => P (.rt r δ)
  | .err c fs δ => P (.err c fs δ)
theorem loop_inv {g : FG} {b : FS} {P : SO → Prop} (Iv : List D → List R → Prop) (step : ∀ d ds δ, Iv (d :: ds) δ → ∃ δ1, g d δ = some δ1 ∧ (b δ1).All fun o => o.next (Iv ds) P) (fin : ∀ δ, Iv [] δ → P (.nx δ)) : ∀ ds δ, Iv ds δ → (fLoop g b ds δ).All P
  | [], δ, h => by rw [v_loopN, T.All_retE]; exact fin δ h
  | d :: ds, δ, h => by
    obtain ⟨δ1, e, hb⟩ := step d ds δ h
    rw [v_loopC, e, v_turnK]
    refine T.All_of hb fun o ho => ?_
    cases o with
    | nx δ' => exact loop_inv Iv step fin ds δ' ho
    | ct δ' => exact loop_inv Iv step fin ds δ' ho
    | bk δ' => rw [v_tuB, T.All_retE]; exact ho
    | rt r δ' => rw [v_tuR, T.All_retE]; exact ho
    | err c fs δ' => rw [v_tuE, T.All_retE]; exact ho
theorem loop_same {g : FG} {b : FS} {δ0 : List R} {ds : List D} (step : ∀ d ∈ ds, ∃ δ1, g d δ0 = some δ1 ∧ (b δ1).All fun o => o = .nx δ0) : (fLoop g b ds δ0).All fun o => o = .nx δ0 :=
  loop_inv (P := fun o => o = .nx δ0) (fun r δ => δ = δ0 ∧ ∀ d ∈ r, d ∈ ds) (fun d r δ ⟨e, h⟩ => by
    subst e
    obtain ⟨δ1, e1, hb⟩ := step d (h d (List.mem_cons_self ..))
    exact ⟨δ1, e1, T.All_mono hb fun o ho => by subst ho; exact ⟨rfl, fun x hx => h x (List.mem_cons_of_mem _ hx)⟩⟩) (fun δ ⟨e, _⟩ => by rw [e]) ds δ0 ⟨rfl, fun _ h => h⟩
theorem lc_all {g : FG} {t : FT} {e : FE} {vs : List Nat} {δ0 : List R} {P : List D × List R → Prop} (Iv : List D → List D → Prop)
    (step : ∀ d ds acc, Iv (d :: ds) acc → ∃ δ1, g d δ0 = some δ1 ∧ (t δ1).All fun o => ∃ b δ2, o = .ok b δ2 ∧ (b = true → acc.length < sizeLine ∧ (e.bind useF δ2).All fun o => ∃ d' δ4, o = .ok d' δ4 ∧ wipeD δ4 vs = δ0 ∧ Iv ds (acc ++ [d'])) ∧ (b = false → wipeD δ2 vs = δ0 ∧ Iv ds acc))
    (fin : ∀ acc, Iv [] acc → P (acc, δ0)) : ∀ ds acc, Iv ds acc → (fLc g t e vs ds acc δ0).All P
  | [], acc, h => by rw [v_lcN, T.All_retE]; exact fin acc h
  | d :: ds, acc, h => by
    obtain ⟨δ1, e1, ht⟩ := step d ds acc h
    rw [v_lcC, e1, v_lcG]
    refine T.All_of ht fun o ho => ?_
    obtain ⟨b, δ2, rfl, h1, h2⟩ := ho
    rw [v_lcT]
    cases b with
    | false =>
      obtain ⟨ew, hi⟩ := h2 rfl
      rw [if_neg (by decide), ew]
      exact lc_all Iv step fin ds acc hi
    | true =>
      obtain ⟨hl, he⟩ := h1 rfl
      rw [if_pos rfl]
      refine T.All_of he fun o ho => ?_
      obtain ⟨d', δ4, rfl, ew, hi⟩ := ho
      rw [v_lcE, if_pos hl, ew]
      exact lc_all Iv step fin ds _ hi
theorem all_take {α : Type} {n : Int} {k : Int → T α} {P : α → Prop} (h : ∀ r : Int, 0 ≤ r → r < n → (k r).All P) (n0 : 0 < n := by decide) (n1 : n < 1461501637330902918203684832716283019655932542976 := by decide) : (T.take n k).All P := by
  simp only [T.All_eq] at h ⊢
  exact ⟨n0, n1, h⟩
theorem eq_ret {α : Type} {t : T α} {a : α} (h : t = .ret a) : t.All fun x => x = a := by rw [h, T.All_retE]
theorem atI_ok {α : Type} {xs : List α} {r : Int} (h0 : 0 ≤ r) (h1 : r < xs.length) : atI xs r = some (xs[r.toNat]'(by omega)) := by
  have hr : r.toNat < xs.length := by omega
  have := atI_nat (List.getElem?_eq_getElem hr)
  rwa [Int.toNat_of_nonneg h0] at this
section
variable {α : Type} {l : List α} {a0 a1 a2 a3 a4 a5 a6 a7 : α}
theorem v_at0 : atI (a0 :: l) 0 = some a0 := by
  have := atI_ok (xs := a0 :: l) (r := 0) (by decide) (by simp only [List.length_cons]; omega)
  simpa using this
theorem v_at1 : atI (a0 :: a1 :: l) 1 = some a1 := by
  have := atI_ok (xs := a0 :: a1 :: l) (r := 1) (by decide) (by simp only [List.length_cons]; omega)
  simpa using this
theorem v_at2 : atI (a0 :: a1 :: a2 :: l) 2 = some a2 := by
  have := atI_ok (xs := a0 :: a1 :: a2 :: l) (r := 2) (by decide) (by simp only [List.length_cons]; omega)
  simpa using this
theorem v_at3 : atI (a0 :: a1 :: a2 :: a3 :: l) 3 = some a3 := by
  have := atI_ok (xs := a0 :: a1 :: a2 :: a3 :: l) (r := 3) (by decide) (by simp only [List.length_cons]; omega)
  simpa using this
theorem v_at4 : atI (a0 :: a1 :: a2 :: a3 :: a4 :: l) 4 = some a4 := by
  have := atI_ok (xs := a0 :: a1 :: a2 :: a3 :: a4 :: l) (r := 4) (by decide) (by simp only [List.length_cons]; omega)
  simpa using this
theorem v_at5 : atI (a0 :: a1 :: a2 :: a3 :: a4 :: a5 :: l) 5 = some a5 := by
  have := atI_ok (xs := a0 :: a1 :: a2 :: a3 :: a4 :: a5 :: l) (r := 5) (by decide) (by simp only [List.length_cons]; omega)
  simpa using this
theorem v_atL : atI (l ++ [a0]) (-1) = some a0 := by
  unfold atI ixN
  rw [if_neg (by decide), if_pos (by simp; omega)]
  have e : (-1 + (((l ++ [a0]).length : Nat) : Int)).toNat = l.length := by simp; omega
  simp only [Option.bind_some, e]
  simp
end
theorem yes {p A B : Prop} (h : p) (k : A) : (p → A) ∧ (¬ p → B) := ⟨fun _ => k, fun z => absurd h z⟩
theorem rngD_len (a : Int) (n : Nat) : (rngD a n).length = n := by simp [rngD]
end DL
set_option maxHeartbeats 1000000
namespace DL
open PySem PySem.Spec L2
variable [TabsC]
section
variable {X : Cx} {K : PySem.W.Frag} {L : Lk} {pos : Pos} {a b e : Expr} {es : List Expr} {fa fb fe : FE} {ta tb : FT} {x : Lx} {δ : List R} {H : Hp}
def flatD : D → Bool
  | .non => true
  | .bl _ => true
  | .int _ => true
  | .str _ => true
  | _ => false
def inD (d : D) (ds : List D) : Bool := ds.any fun z => eqD 60 z d
def ng (neg b : Bool) : Bool := if neg = true then !b else b
def cInF (neg : Bool) : D → D → Option Bool
  | d, .lst ds => if okk 60 d = true ∧ ds.all (okk 60) = true then some (ng neg (inD d ds)) else none
  | d, .tup ds => if flatD d = true ∧ ds.all flatD = true then some (ng neg (inD d ds)) else none
  | _, _ => none
theorem flat_den {v : V} {d : D} (h : Den K H v d) (f : flatD d = true) : flatV v = true := by
  cases h <;> first | rfl | (cases f; done)
theorem eqV_eqD {v w : V} {d e : D} (h1 : Den K H v d) (h2 : Den K H w e) (f1 : flatD d = true) (f2 : flatD e = true) : eqV v w = eqD 60 d e := by
  cases d with
  | non => cases h1; cases e <;> first | (cases h2; simp [eqV, eqD]; done) | (cases f2; done)
  | bl b => cases h1; cases e <;> first | (cases h2; simp [eqV, eqD]; done) | (cases f2; done)
  | int b => cases h1; cases e <;> first | (cases h2; simp [eqV, eqD]; done) | (cases f2; done)
  | str b => cases h1; cases e <;> first | (cases h2; simp [eqV, eqD]; done) | (cases f2; done)
  | _ => cases f1
theorem any_eqD {w : V} {e : D} (h2 : Den K H w e) (f2 : flatD e = true) : ∀ {vs : List V} {ds : List D}, Dens K H vs ds → ds.all flatD = true → inV w vs = inD e ds
  | vs, [], h, _ => by rw [h.nil_right]; rfl
  | vs, d :: ds, h, f => by
    obtain ⟨v, vr, rfl, h1, h3⟩ := All2.cons_right h
    rw [List.all_cons, Bool.and_eq_true] at f
    have ih := any_eqD h2 f2 h3 f.2
    unfold inV inD at ih ⊢
    rw [List.any_cons, List.any_cons, ih, eqV_eqD h1 h2 f.1 f2]
theorem all_flat : ∀ {vs : List V} {ds : List D}, Dens K H vs ds → ds.all flatD = true → vs.all flatV = true
  | vs, [], h, _ => by rw [h.nil_right]; rfl
  | vs, d :: ds, h, f => by
    obtain ⟨v, vr, rfl, h1, h3⟩ := All2.cons_right h
    rw [List.all_cons, Bool.and_eq_true] at f ⊢
    exact ⟨flat_den h1 f.1, all_flat h3 f.2⟩
theorem any_eqv {e : D} (oe : e.Ok 60) : ∀ {ds : List D}, (∀ d ∈ ds, d.Ok 60) → ((D.pys ds).any fun z => PyData.eqv z e.py) = inD e ds
  | [], _ => rfl
  | d :: ds, h => by
    have ih := any_eqv oe (ds := ds) fun z hz => h z (List.mem_cons_of_mem _ hz)
    unfold inD at ih ⊢
    show (D.py d :: D.pys ds).any _ = _
    rw [List.any_cons, List.any_cons, ih, eqv_eq (h d (List.mem_cons_self ..)) oe]
def rInA (K : PySem.W.Frag) (neg : Bool) : R2 := fun x y H Q => (if neg = true then rNotInD K x y H Q else rInD K x y H Q) ∨ rIn K neg x y H Q
theorem cs_in (neg : Bool) : CmpSem K (rInA K neg) (fun d1 d2 b => cInF neg d1 d2 = some b) := fun H x y d1 d2 r Q h1 h2 hc q => by
  have hc : cInF neg d1 d2 = some r := hc
  cases d2 with
  | lst ds =>
    have hc : (if okk 60 d1 = true ∧ ds.all (okk 60) = true then some (ng neg (inD d1 ds)) else none) = some r := hc
    split at hc
    · rename_i z
      cases hc
      have o1 := okk_ok z.1
      have o2 : ∀ d ∈ ds, D.Ok 60 d := fun d hd => okk_ok (List.all_eq_true.mp z.2 d hd)
      have ol : (D.lst ds).Ok 61 := o2
      have e := any_eqv o1 o2
      cases neg with
      | false => exact .inl ⟨d1.py, D.pys ds, h1.dp o1, h2.dp ol, Ok_shaped o1 (by decide), Ok_shaped ol (by decide), by rw [e]; exact q⟩
      | true => exact .inl ⟨d1.py, D.pys ds, h1.dp o1, h2.dp ol, Ok_shaped o1 (by decide), Ok_shaped ol (by decide), by rw [e]; exact q⟩
    · cases hc
  | tup ds =>
    have hc : (if flatD d1 = true ∧ ds.all flatD = true then some (ng neg (inD d1 ds)) else none) = some r := hc
    split at hc
    · rename_i z
      cases hc
      obtain ⟨p, vs, rfl, hs, hd⟩ := h2.of_tup
      refine .inr ⟨p, vs, rfl, .inr hs, flat_den h1 z.1, all_flat hd z.2, ?_⟩
      rw [any_eqD h1 z.1 hd z.2]
      cases neg <;> exact q
    · cases hc
  | _ => cases hc
theorem op_inA (hu : X.A.units + 65 < cLine) : OpR X (compareOp .In) (rInA X.K false) := OpR.or (op_inD hu) op_in_seq
theorem op_notInA (hu : X.A.units + 65 < cLine) : OpR X (compareOp .NotIn) (rInA X.K true) := OpR.or (op_notInD hu) op_notIn_seq
theorem units65 {A : Around} {k : Nat} (hr : Room k A) : A.units + 65 < cLine := by
  have := hr.un
  omega
theorem fe_in (hu : X.A.units + 65 < cLine) (ha : HE X L a fa) (hb : HE X L b fb) (hm : behindInMarks .In b = false := by rfl) : HE X L (.Compare a [.In] [b] pos) (fCmp (cInF false) fa fb) := fe_cmp (fun _ _ _ h => h) (op_inA hu) (cs_in false) ha hb hm
theorem ft_in (hu : X.A.units + 65 < cLine) (ha : HE X L a fa) (hb : HE X L b fb) (hm : behindInMarks .In b = false := by rfl) : HT' X L (.Compare a [.In] [b] pos) (fTst (fCmp (cInF false) fa fb)) := ft_cmp (fun _ _ _ h => h) (op_inA hu) (cs_in false) ha hb hm
theorem ft_notin (hu : X.A.units + 65 < cLine) (ha : HE X L a fa) (hb : HE X L b fb) (hm : behindInMarks .NotIn b = false := by rfl) : HT' X L (.Compare a [.NotIn] [b] pos) (fTst (fCmp (cInF true) fa fb)) := ft_cmp (fun _ _ _ h => h) (op_notInA hu) (cs_in true) ha hb hm
def putAll2 : List Nat → List R → List R → Option (List R)
  | [], [], δ => some δ
  | i :: is, r :: rs, δ => putAll2 is rs (st δ i r)
  | _, _, _ => none
def fPar (is : List Nat) (fA : FA) : FS := eS fA fun rs => eS (useAllF rs) fun rs' δ => optS (putAll2 is rs' δ)
theorem SI.stores {C : Ct} : ∀ {is : List Nat} {rs δ δ' : List R} {vs : List V} {σ : St} {G : Hp} {W : Ow}, SI K C σ H G W δ → All2 (fun v r => ROk K C σ H G W none v r ∧ r.pub = r) vs rs → (∀ r ∈ rs, r.on = true ∧ ∀ j, r ≠ .pk j) → putAll2 is rs δ = some δ' →
    ∃ W', SI K C ((is.zip vs).foldl (fun σ p => σ.set p.1 (some p.2)) σ) H G W' δ'
  | [], [], δ, δ', vs, σ, G, W, I, h, n, e => by cases e; exact ⟨W, by simpa using I⟩
  | [], _ :: _, δ, δ', vs, σ, G, W, I, h, n, e => by cases e
  | _ :: _, [], δ, δ', vs, σ, G, W, I, h, n, e => by cases e
  | i :: is, r :: rs, δ, δ', vs, σ, G, W, I, h, n, e => by
    obtain ⟨v, vr, rfl, h1, h2⟩ := All2.cons_right h
    obtain ⟨W1, I1⟩ := I.store (i := i) h1.1 (n r (List.mem_cons_self ..)).2
    have h3 : All2 (fun v r => ROk K C (σ.set i (some v)) H G W1 none v r ∧ r.pub = r) vr rs := by
      refine ⟨h2.1, fun j u q hu hq => ?_⟩
      obtain ⟨z1, z2⟩ := h2.2 j u q hu hq
      refine ⟨?_, z2⟩
      cases q with
      | no => exact trivial
      | val d => exact z1
      | bag => exact z1
      | own d => cases z2
      | bor d => exact absurd rfl z1.1
      | pk k => exact absurd rfl ((n _ (List.mem_cons_of_mem _ (List.mem_of_getElem? hq))).2 k)
    have h3 : All2 (fun w r => ROk K C (σ.set i (some v)) H G W1 none w r ∧ r.pub = r) vr rs := by
      refine ⟨h2.1, fun j u q hu hq => ?_⟩
      obtain ⟨z1, z2⟩ := h2.2 j u q hu hq
      refine ⟨?_, z2⟩
      cases q with
      | no => exact trivial
      | val d => exact z1
      | bag => exact z1
      | own d => cases z2
      | bor d => exact absurd rfl z1.1
      | pk k => exact absurd rfl ((n _ (List.mem_cons_of_mem _ (List.mem_of_getElem? hq))).2 k)
    obtain ⟨W2, I2⟩ := SI.stores I1 h3 (fun q hq => n q (List.mem_cons_of_mem _ hq)) (show putAll2 is rs (st δ i r) = some δ' from e)
    exact ⟨W2, I2⟩
theorem par_imp {is : List Nat} {fA : FA} {DD : DEnds} (h : pS x (fPar is fA) DD δ) : pP x fA δ fun rs δ1 => ∃ rs' δ2 δ3, useAll rs δ1 = some (rs', δ2) ∧ putAll2 is rs' δ2 = some δ3 ∧ DD.nx δ3 := eS_imp h fun rs δ1 h => by
  obtain ⟨rs', δ2, e1, h⟩ := pP_useAll (eS_imp h (Q := fun rs' δ2 => ∃ δ3, putAll2 is rs' δ2 = some δ3 ∧ DD.nx δ3) fun rs' δ2 h => by
    unfold pS at h; dsimp only at h
    cases q : putAll2 is rs' δ2 with
    | none => rw [q] at h; exact h.elim
    | some δ3 => rw [q] at h; exact ⟨δ3, rfl, h⟩)
  obtain ⟨δ3, e2, h⟩ := h
  exact ⟨rs', δ2, δ3, e1, e2, h⟩
theorem fs_par2 {i j : Nat} {y z : Str} {px py pt : Pos} {kt k2 pt2} {fA : FA} (hc : X.calm = true) (hN : X.N.Nodup) (hi : X.N[i]? = some y) (hj : X.N[j]? = some z) (hij : i ≠ j)
    (hx : X.env.scope.names.lookup y = some .local) (hy : X.env.scope.names.lookup z = some .local) (ha : HA X L [a, b] fA)
    (hw : swappedStores [.Tuple [.Name y px, .Name z py] kt pt] (.Tuple [a, b] k2 pt2) X.env = pure (some [y, z]) := by rfl)
    (hs : swapsWithSole [.Tuple [.Name y px, .Name z py] kt pt] (.Tuple [a, b] k2 pt2) pos.line X.env = pure false := by rfl) :
    HS X L (.Assign [.Tuple [.Name y px, .Name z py] kt pt] (.Tuple [a, b] k2 pt2) pos) (fPar [i, j] fA) :=
  PS.weak (ps_par hc hN hi hj hij hx hy ha hw hs) <| liftS_of fun C D σ H G W δ DD I lk h k => ⟨C, G, W, δ, _, I, lk, par_imp h, fun rs δ1 vs H1 G1 W1 h1 x1 I1 o1 => by
    obtain ⟨rs', δ2, δ3, e1, e2, hn⟩ := h1
    obtain ⟨G2, x2, I2, o2⟩ := I1.useAllOk o1 e1
    obtain ⟨W3, I3⟩ := SI.stores I2 o2 (useAll_on e1) e2
    match rs', e2, o2 with
    | [r1, r2], e2, o2 =>
      obtain ⟨v1, vr, rfl, _, o3⟩ := All2.cons_right o2
      obtain ⟨v2, vr, rfl, _, o4⟩ := All2.cons_right o3
      rw [o4.nil_right] at I3 ⊢
      exact ⟨v1, v2, rfl, k.nx _ H1 G2 W3 δ3 (x1.trans x2) I3 hn⟩
    | [], e2, _ => cases e2
    | [_], e2, _ => cases e2
    | _ :: _ :: _ :: _, e2, _ => cases e2⟩
end
end DL
set_option maxHeartbeats 1000000
namespace DL
open PySem PySem.Spec L2
variable [TabsC]
section
variable {X : Cx} {K : PySem.W.Frag} {L : Lk} {pos : Pos} {a b e : Expr} {es : List Expr} {fa fb fe : FE} {ta tb : FT} {x : Lx} {δ : List R} {H G : Hp}
def tyName : D → Option String
  | .non => some "NoneType"
  | .bl _ => some "bool"
  | .int _ => some "int"
  | .str _ => some "str"
  | .lst _ => some "list"
  | .tup _ => some "tuple"
  | .dic _ => some "dict"
  | _ => none
def isTy (t : String) (d : D) : Option Bool := (tyName d).bind fun n => kitB n t
theorem tyX_of {v : V} {d : D} {n : String} (h : Den K H v d) (e : tyName d = some n) : TyX K H v (.type n) := by
  cases h with
  | non => cases e; exact .base .non
  | bl b => cases e; exact .base (.bl b)
  | int b => cases e; exact .base (.int b)
  | str b => cases e; exact .base (.str b)
  | ty => cases e
  | lst h l k => cases e; exact .base (.lst h)
  | tup h l k =>
    cases e
    rcases h with ⟨o, h, _⟩ | ⟨o, its, n, h1, h2, _⟩
    · exact .fTuple h
    · exact .kTuple h1 h2
  | dic h l k e' =>
    cases e
    rcases h with h | ⟨o, h⟩
    · exact .base (.dK h)
    · exact .fDict h
  | ins => cases e
  | exc => cases e
  | dct => cases e
  | dcm => cases e
  | obx => cases e
theorem isi_imp {k : Bool → FE} {g : D → Option Bool} {r : R} {P : R → List R → Prop} {δ1 : List R} (h : pP x ((peekF r).bind fun d => (F.of (g d)).bind k) δ1 P) : ∃ d b, peek r δ1 = some d ∧ g d = some b ∧ pP x (k b) δ1 P := by
  obtain ⟨d, e1, h⟩ := pP_peek (pP_bind.mp h)
  obtain ⟨b, e2, h⟩ := pP_of (pP_bind.mp h)
  exact ⟨d, b, e1, e2, h⟩
theorem paired_ty : ∀ ts : List String, Paired ClsV (ts.map V.ty) (ts.map Value.type)
  | [] => .nil
  | t :: ts => .cons (.ty t) (paired_ty ts)
def blsOf : List D → Option (List Bool)
  | [] => some []
  | .bl b :: ds => (blsOf ds).map (b :: ·)
  | _ => none
theorem bls_den : ∀ {ds : List D} {bs : List Bool} {vs : List V}, blsOf ds = some bs → Dens K G vs ds → vs = bs.map V.bl
  | [], bs, vs, e, h => by cases e; exact h.nil_right
  | d :: ds, bs, vs, e, h => by
    obtain ⟨v, vr, rfl, h1, h3⟩ := All2.cons_right h
    cases d with
    | bl b =>
      obtain ⟨cs, e1, rfl⟩ := Option.map_eq_some_iff.mp (show (blsOf ds).map (b :: ·) = some bs from e)
      rw [bls_den e1 h3, h1.of_bl]; rfl
    | _ => cases e
def bAnyF : List D → Option R
  | [.lst ds] => (blsOf ds).map fun bs => .val (.bl (bs.any id))
  | _ => none
def bAllF : List D → Option R
  | [.lst ds] => (blsOf ds).map fun bs => .val (.bl (bs.all id))
  | _ => none
def bOf (bf : List D → Option R) : List D → (R → Prop) → Prop := fun ds P => ∃ r, bf ds = some r ∧ P r
theorem bs_of {bf : List D → Option R} : BS bf (bOf bf) := fun ds r P h hp => ⟨r, h, hp⟩
theorem one_lst {C : Ct} {σ : St} {W : Ow} {vs : List V} {ds : List D} (I : SI K C σ H G W δ) (h : All2 (Seen K G H) vs [.lst ds]) : ∃ p us, vs = [.ref p] ∧ H p = some (.lst us) ∧ Dens K G us ds := by
  obtain ⟨v, rfl, s⟩ := one_of h
  obtain ⟨p, us, rfl, hl, dn⟩ := s.lst I.gh
  exact ⟨p, us, rfl, hl, dn⟩
theorem cl_all : CallLook K (rAll K) (bOf bAllF) := fun C σ H G W δ vs ds P Q I a hg k => by
  obtain ⟨r, e, hp⟩ := hg
  match ds, e, a with
  | [.lst xs], e, a =>
    obtain ⟨bs, e1, rfl⟩ := Option.map_eq_some_iff.mp (show (blsOf xs).map _ = some r from e)
    obtain ⟨p, us, rfl, hl, dn⟩ := one_lst I a
    have := bls_den e1 dn
    subst this
    exact ⟨p, bs, rfl, .of hl, k _ _ H G W hp (Ex.refl G) I (.bl _)⟩
end
end DL
set_option maxHeartbeats 1000000
namespace DL
open PySem PySem.Spec L2
variable [TabsC]
section
variable {X : Cx} {K : PySem.W.Frag} {L : Lk} {pos : Pos} {a b c e ix : Expr} {es : List Expr} {fa fb fc fe fx : FE} {ta tb : FT} {fA : FA} {x : Lx} {δ : List R} {H G : Hp} {i : Nat} {y : Str} {px apos cpos : Pos}
def ownL (i : Nat) (f : F α) : F α := fun δ => match gt δ i with
  | .own (.lst _) => f δ
  | _ => .fail
def lstOf : D → Option (List D)
  | .lst ds => some ds
  | _ => none
def putOwn (i : Nat) (g : List D → Option (List D)) : FE := fun δ => match gt δ i with
  | .own (.lst ds) => (match g ds with
    | some ds' => .ret (.ok (.val .non) (st δ i (.own (.lst ds'))))
    | none => .fail)
  | _ => .fail
def extG (es ds : List D) : Option (List D) := if ds.length + es.length ≤ sizeLine then some (ds ++ es) else none
def insG (k : Int) (d : D) (ds : List D) : Option (List D) := if ds.length < sizeLine ∧ 0 ≤ k ∧ k < 2 ^ 63 then some (ds.take k.toNat ++ [d] ++ ds.drop k.toNat) else none
def insK (i : Nat) (rs : List R) : FE := match rs with
  | [.val (.int k), .val d] => putOwn i (insG k d)
  | _ => F.fail
def setIxK (i : Nat) (d k : D) : FS := fun δ => match k, gt δ i with
  | .int k, .own (.lst ds) => (match ixN ds.length k with
    | some j => .ret (.nx (st δ i (.own (.lst (ds.set j d)))))
    | none => .fail)
  | _, _ => .fail
def ownS (i : Nat) (f : FS) : FS := fun δ => match gt δ i with
  | .own (.lst _) => f δ
  | _ => .fail
theorem ownS_imp {f : FS} {DD : DEnds} (h : pS x (ownS i f) DD δ) : (∃ ds, gt δ i = .own (.lst ds)) ∧ pS x f DD δ := by
  unfold pS ownS at h; (try dsimp only at h)
  split at h
  · exact ⟨⟨_, by assumption⟩, h⟩
  · exact h.elim
def fSetIx (i : Nat) (fx fe : FE) : FS := eS fe fun r => ownS i (eS fx fun r2 => eS (useF r) fun d => eS (peekF r2) fun k => setIxK i d k)
theorem fs_setIx {tpos : Pos} (he : HE X L e fe) (pg : PG X (.Subscript (.Name y px) ix tpos) (L2.gSub (tVar i) (lift X.K L (pP L.x fx)) rSetL))
    (hs : swapsWithSole [.Subscript (.Name y px) ix tpos] e pos.line X.env = pure false := by rfl) (hw : swappedStores [.Subscript (.Name y px) ix tpos] e X.env = pure none := by rfl) (h1 : (assignEach [.Subscript (.Name y px) ix tpos] X.env).map (·.2) = [assign (.Subscript (.Name y px) ix tpos) X.env] := by rfl) :
    HS X L (.Assign [.Subscript (.Name y px) ix tpos] e pos) (fSetIx i fx fe) :=
  PS.weak (ds_setIx he pg hs hw h1) (liftS_imp fun DD δ h => eS_imp h fun r δ1 h => by
    obtain ⟨h0, h⟩ := ownS_imp h
    refine ⟨h0, eS_imp h fun r2 δ2 h => ?_⟩
    obtain ⟨d, δ3, e1, h⟩ := pP_use (eS_imp h (Q := fun d δ3 => pS L.x (eS (peekF r2) fun k => setIxK i d k) DD δ3) fun _ _ z => z)
    obtain ⟨k, e2, h⟩ := pP_peek (eS_imp h (Q := fun k δ3 => pS L.x (setIxK i d k) DD δ3) fun _ _ z => z)
    unfold pS setIxK at h; (try dsimp only at h)
    split at h
    · split at h
      · exact ⟨d, δ3, _, _, _, e1, e2, by assumption, by assumption, h⟩
      · exact h.elim
    · exact h.elim)
theorem fe_gl {v : V} {u : Value} {d : D} (hg : Gl X y) (hm : X.mg y = some u) (r : RelV v u) (hd : ∀ G, Den X.K G v d) (hdb : (y == ("__debug__" : Str)) = false := by decide) : HE X L (.Name y pos) (fC d) :=
  PE.weak (pe_glob hg hm r hdb) (lift_c hd)
def fChain (c1 c2 : D → D → Option Bool) (fa fb fc : FE) : FE := fa.bind fun r1 => fb.bind fun r2 => (peekF r1).bind fun d1 => (peekF r2).bind fun d2 => (F.of (c1 d1 d2)).bind fun k =>
  if k = true then fc.bind fun r3 => (peekF r3).bind fun d3 => (F.of (c2 d2 d3)).bind fun k2 => F.ret (.val (.bl k2)) else F.ret (.val (.bl false))
theorem lift_chain {r r' : R2} {c1 c2 : D → D → Option Bool} (hi : ∀ d1 d2 b, c1 d1 d2 = some b → ∃ j, d2 = .int j) (hs : CmpSem K r fun d1 d2 b => c1 d1 d2 = some b) (hs' : CmpSem K r' fun d1 d2 b => c2 d1 d2 = some b) : ∀ σ H Q, lift K L (pP L.x (fChain c1 c2 fa fb fc)) σ H Q → tChain r r' (lift K L (pP L.x fa)) (lift K L (pP L.x fb)) (lift K L (pP L.x fc)) σ H Q :=
  lift_of fun C σ H G W δ P Q I lk h k => lift_two I lk (pP_then h fun r1 δ1 h => pP_bind.mp h) fun r1 r2 δ2 x y H2 G2 W2 h2 x2 I2 o1 o2 => by
    obtain ⟨d1, e1, h2⟩ := pP_peek (pP_bind.mp h2)
    obtain ⟨d2, e2, h2⟩ := pP_peek (pP_bind.mp h2)
    obtain ⟨kk, e3, h2⟩ := pP_of (pP_bind.mp h2)
    rw [← peek_pub] at e1 e2
    have s1 := I2.peekOk o1 e1
    have s2 := I2.peekOk o2 e2
    refine hs H2 x y d1 d2 kk _ (s1.den I2.gh) (s2.den I2.gh) e3 ⟨kk, rfl, ?_⟩
    cases kk with
    | false =>
      rw [if_neg (by decide)] at h2 ⊢
      exact k _ δ2 _ H2 G2 W2 h2 x2 I2 (.bl false)
    | true =>
      rw [if_pos rfl] at h2 ⊢
      refine ⟨C, G2, W2, δ2, _, I2, lk.mono x2, pP_bind.mp h2, fun r3 δ3 z H3 G3 W3 h3 x3 I3 o3 => ?_⟩
      obtain ⟨d3, e4, h4⟩ := pP_peek (pP_bind.mp h3)
      obtain ⟨k2, e5, h5⟩ := pP_of (pP_bind.mp h4)
      obtain ⟨j, ej⟩ := hi _ _ _ e3
      have dn2 : Den K H3 y d2 := by
        have s3 := s2.den I2.gh
        rw [ej] at s3 ⊢
        rw [s3.of_int]; exact .int j
      exact hs' H3 y z d2 d3 k2 Q dn2 ((I3.peekOk o3 e4).den I3.gh) e5 (k _ δ3 _ H3 G3 W3 h5 (x2.trans x3) I3 (Den.bl k2))
theorem cI_int {f : Int → Int → Bool} (d1 d2 : D) (b : Bool) (h : cIF f d1 d2 = some b) : ∃ j, d2 = .int j := by
  unfold cIF at h
  split at h
  · exact ⟨_, rfl⟩
  · cases h
theorem cs_of {r : R2} {cf : D → D → Option Bool} {c : D → D → Bool → Prop} (s : CS cf c) (hs : CmpSem K r c) : CmpSem K r fun d1 d2 b => cf d1 d2 = some b := fun H x y d1 d2 b Q h1 h2 hc q => hs H x y d1 d2 b Q h1 h2 (s _ _ _ hc) q
theorem fe_leLe (ha : HE X L a fa) (hb : HE X L b fb) (hc : HE X L c fc) (hm : lastMarks [.LtE, .LtE] [b, c] = false := by with_unfolding_all rfl) : HE X L (.Compare a [.LtE, .LtE] [b, c] pos) (fChain cLe cLe fa fb fc) :=
  PE.weak (pe_chain op_le op_le ha hb hc hm) (lift_chain cI_int (cs_of cs_I' cs_I) (cs_of cs_I' cs_I))
def fRev (fe : FE) : FE := fe.bind fun r => (peekF r).bind fun d => (F.of (lstOf d)).bind fun ds => F.ret (.own (.lst ds.reverse))
theorem all2_rev {F : V → D → Prop} : ∀ {vs : List V} {ds : List D}, All2 F vs ds → All2 F vs.reverse ds.reverse
  | vs, [], h => by rw [h.nil_right]; exact .nil
  | vs, d :: ds, h => by
    obtain ⟨v, vr, rfl, h1, h2⟩ := All2.cons_right h
    rw [List.reverse_cons, List.reverse_cons]
    exact (all2_rev h2).append (.cons h1 .nil)
theorem fe_rev {k : Nat} {p1 p2 p3 : Pos} (he : HE X L e fe) : HE X L (.Subscript e (.Slice none none (some (.UnaryOp .USub (.Constant (.int 1) k p1) p2)) p3) pos) (fRev fe) :=
  PE.weak (pe_revL he) <| lift_of fun C σ H G W δ P Q I lk h k => ⟨C, G, W, δ, _, I, lk, pP_bind.mp h, fun r δ1 v H1 G1 W1 h1 x1 I1 o1 => by
    obtain ⟨d, e1, h1⟩ := pP_peek (pP_bind.mp h1)
    obtain ⟨ds, e2, h1⟩ := pP_of (pP_bind.mp h1)
    cases d with
    | lst es =>
      cases e2
      obtain ⟨q, us, rfl, hq, dn⟩ := (I1.peekOk o1 e1).lst I1.gh
      refine ⟨q, us, rfl, .of hq, fun t ht => ?_⟩
      obtain ⟨I', o⟩ := I1.newLst ht (all2_rev dn)
      exact k _ _ _ _ _ _ h1 x1 I' o
    | _ => cases e2⟩
end
end DL
namespace DL
open PySem PySem.Spec L2 StX
variable [TabsC]
section
variable {X : Cx} {L : Lk} {pos p : Pos} {e : Expr} {es : List Expr} {fe : FE} {fa : FA} {x : Lx} {δ : List R}
theorem Seen.items {K : PySem.W.Frag} {G H : Hp} {v : V} {d : D} {ds : List D} (h : Seen K G H v d) (x : Ex G H) (e : d.items = some ds) : ∃ a vs, v = .ref a ∧ (SqT K H a vs ∨ SqL K H a vs) ∧ Dens K G vs ds := by
  cases d with
  | lst xs => cases e; obtain ⟨a, vs, e1, h1, h2⟩ := h.lst x; exact ⟨a, vs, e1, .inr (.of h1), h2⟩
  | tup xs => cases e; obtain ⟨a, vs, e1, h1, h2⟩ := h.tup x; exact ⟨a, vs, e1, .inl h1, h2⟩
  | non => cases e
  | bl => cases e
  | int => cases e
  | str => cases e
  | dic => cases e
  | ins => cases e
  | ty => cases e
  | exc => cases e
  | dct => cases e
  | dcm => cases e
  | obx => cases e
end
end DL
namespace DL
open PySem PySem.Spec L2
variable [TabsC]
section
variable {X : Cx} {L : Lk} {pos p : Pos} {tg e : Expr} {es : List Expr} {fe : FE} {fa : FA} {x : Lx} {δ : List R} {K : PySem.W.Frag}
def rngC (lo c : Int) (n : Nat) : List D := (List.range n).map fun (i : Nat) => D.int (lo + (i : Int) * c)
def rng3K (ds : List D) : FI := match ds with
  | [.int i, .int j, .int c] => if c ≠ 0 ∧ c.natAbs < 1073741824 ∧ Builtin.Range.small i j c = true ∧ 0 ≤ Builtin.Range.rangeSize i j c then F.ret (rngC i c (Builtin.Range.rangeSize i j c).toNat) else F.fail
  | _ => F.fail
end
section
variable {X : Cx} {L : Lk} {pos : Pos} {e ix : Expr} {de dx : DE} {fe fx : FE}
def dAugIx2 (i : Nat) (dx de : DE) : DS := fun DD δ => (∃ ds0, gt δ i = .own (.lst ds0)) ∧ dx δ fun r1 δ1 => (∃ (k : Nat) (ds : List D) (a : Int), peek r1 δ1 = some (.int k) ∧ k < 2 ^ 62 ∧ gt δ1 i = .own (.lst ds) ∧ ds[k]? = some (.int a) ∧
  de δ1 fun r2 δ2 => ∃ b ds2, peek r2 δ2 = some (.int b) ∧ gt δ2 i = .own (.lst ds2) ∧ k < ds2.length ∧ DD.nx (st δ2 i (.own (.lst (ds2.set k (.int (a + b)))))))
theorem ds_augIx2 {i : Nat} {x : Str} {px tpos : Pos} (ho : PE X (.Name x px) (tVar i)) (hx : PE X ix (lift X.K L dx)) (he : PE X e (lift X.K L de))
    (ha : ∀ ov iv new, augStore ix ov iv new = (do holding [new, ov, iv] (setItem ov iv new); release [new, ov, iv] []; pure .next) := by intros; rfl) : PS X (.AugAssign (.Subscript (.Name x px) ix tpos) .Add e pos) (liftS X.K L (dAugIx2 i dx de)) :=
  PS.weak (ps_augS ho hx get_listG he ip_add set_list ha) <| liftS_of fun C D σ H G W δ DD I lk h k => by
    obtain ⟨⟨ds0, h0⟩, h⟩ := h
    obtain ⟨p, hp, _⟩ := I.ownAt h0
    refine ⟨.ref p, hp, C, G, W, δ, _, I, lk, h, fun r1 δ1 y H1 G1 W1 h1 x1 I1 o1 => ?_⟩
    obtain ⟨k', ds, a, e1, hk, e2, e3, h1⟩ := h1
    have ey := ((I1.peekOk o1 e1).den I1.gh).of_int
    subst ey
    obtain ⟨q, hq, vs, hv, dn⟩ := I1.ownAt e2
    rw [hp] at hq
    have eq : p = q := by simpa using hq
    subst eq
    obtain ⟨va, hva, da⟩ := dn.get e3
    have eva := da.of_int
    subst eva
    refine ⟨p, vs, k', .int a, rfl, rfl, .of hv, hva, hk, C, G1, W1, δ1, _, I1, lk.mono x1, h1, fun r2 δ2 z H2 G2 W2 h2 x2 I2 o2 => ?_⟩
    obtain ⟨b, ds2, e4, e5, hkl, hn⟩ := h2
    have ez := ((I2.peekOk o2 e4).den I2.gh).of_int
    subst ez
    obtain ⟨q, hq, vs2, hv2, dn2⟩ := I2.ownAt e5
    rw [hp] at hq
    have eq : p = q := by simpa using hq
    subst eq
    refine ⟨a, b, rfl, rfl, p, vs2, (k' : Int), k', rfl, rfl, hv2, ?_, ?_⟩
    · unfold ixN
      rw [if_pos (by omega), if_pos (by rw [dn2.1]; omega)]; simp
    · exact k.nx σ _ G2 W2 _ (x1.trans x2) (I2.write (d' := .lst (ds2.set k' (.int (a + b)))) e5 hp ⟨_, upd_same, All2.set dn2 k' (Den.int _)⟩) hn
def augBK (i k : Nat) (a : Int) (b : D) (r : R) (δ : List R) : T SO := match b, r with
  | .int b, .own (.lst ds2) => if k < ds2.length then .ret (.nx (st δ i (.own (.lst (ds2.set k (.int (a + b))))))) else .fail
  | _, _ => .fail
def augB (i k : Nat) (a : Int) (b : D) : FS := fun δ => augBK i k a b (gt δ i) δ
def augAK (i k : Nat) (fe : FE) (o : Option D) (δ : List R) : T SO := match o with
  | some (.int a) => eS fe (fun r2 => eS (peekF r2) fun b => augB i k a b) δ
  | _ => .fail
def augRK (i : Nat) (fe : FE) (k : D) (r : R) (δ : List R) : T SO := match k, r with
  | .int k, .own (.lst ds) => if 0 ≤ k ∧ k < 2 ^ 62 then augAK i k.toNat fe ds[k.toNat]? δ else .fail
  | _, _ => .fail
def augR (i : Nat) (fe : FE) (k : D) : FS := fun δ => augRK i fe k (gt δ i) δ
def fAug (i : Nat) (fx fe : FE) : FS := ownS i (eS fx fun r1 => eS (peekF r1) fun k => augR i fe k)
theorem fs_aug {i : Nat} {x : Str} {px tpos : Pos} (ho : PE X (.Name x px) (tVar i)) (hx : HE X L ix fx) (he : HE X L e fe)
    (ha : ∀ ov iv new, augStore ix ov iv new = (do holding [new, ov, iv] (setItem ov iv new); release [new, ov, iv] []; pure .next) := by intros; rfl) : HS X L (.AugAssign (.Subscript (.Name x px) ix tpos) .Add e pos) (fAug i fx fe) :=
  PS.weak (ds_augIx2 ho hx he ha) (liftS_imp fun DD δ h => by
    obtain ⟨h0, h⟩ := ownS_imp h
    refine ⟨h0, eS_imp h fun r1 δ1 h => ?_⟩
    obtain ⟨k, e1, h⟩ := pP_peek (eS_imp h (Q := fun k δ1 => pS L.x (augR i fe k) DD δ1) fun k δ1 h => h)
    unfold pS augR augRK at h
    split at h
    · rename_i k ds hg
      split at h
      · rename_i hk
        unfold augAK at h
        split at h
        · rename_i a ha
          refine ⟨k.toNat, ds, a, by rw [Int.toNat_of_nonneg hk.1]; exact e1, by omega, hg, ha, eS_imp h fun r2 δ2 h => ?_⟩
          obtain ⟨b, e4, h⟩ := pP_peek (eS_imp h (Q := fun b δ2 => pS L.x (augB i k.toNat a b) DD δ2) fun b δ2 h => h)
          unfold pS augB augBK at h
          split at h
          · rename_i b ds2 hg2
            split at h
            · exact ⟨b, ds2, e4, hg2, by assumption, h⟩
            · exact h.elim
          · exact h.elim
        · exact h.elim
      · exact h.elim
    · exact h.elim)
end
section
variable {δ : List R}
end
end DL
namespace DL
open PySem PySem.Spec L2
variable [TabsC]
section
variable {X : Cx} {L : Lk} {pos p apos cpos : Pos} {o e f : Expr} {fo fe ff : FE} {x : Lx} {δ : List R} {K : PySem.W.Frag} {C : Ct} {σ : St} {H G : Hp} {W : Ow}
def fPairs : List (FE × FE) → F (List (D × D))
  | [] => F.ret []
  | (k, v) :: r => k.bind fun rk => v.bind fun rv => (useF rk).bind fun dk => (useF rv).bind fun dv => (fPairs r).bind fun l => F.ret ((dk, dv) :: l)
theorem pairs_walk : ∀ {ps : List (FE × FE)} {C : Ct} {σ : St} {H G : Hp} {W : Ow} {δ : List R} {P : List (D × D) → List R → Prop} {Q : List (V × V) → Hp → Prop}, SI K C σ H G W δ → Lnk K L C G → pP L.x (fPairs ps) δ P →
    (∀ l δ' vs H' G' W', P l δ' → Ex G G' → SI K C σ H' G' W' δ' → All2 (fun (u : V × V) (q : D × D) => Den K G' u.1 q.1 ∧ Den K G' u.2 q.2) vs l → Q vs H') →
    tPairs (ps.map fun q => (lift K L (pP L.x q.1), lift K L (pP L.x q.2))) σ H Q
  | [], C, σ, H, G, W, δ, P, Q, I, lk, h, k => k [] δ [] H G W h (Ex.refl G) I .nil
  | (fk, fv) :: r, C, σ, H, G, W, δ, P, Q, I, lk, h, k => by
    refine ⟨C, G, W, δ, _, I, lk, pP_bind.mp h, fun r1 δ1 x H1 G1 W1 h1 x1 I1 o1 => ?_⟩
    obtain ⟨G1', x1', I1', o1'⟩ := I1.pub o1
    refine ⟨C, G1', W1, δ1, _, I1', lk.mono (x1.trans x1'), pP_bind.mp h1, fun r2 δ2 y H2 G2 W2 h2 x2 I2 o2 => ?_⟩
    obtain ⟨G2', x2', I2', o2'⟩ := I2.pub o2
    obtain ⟨d1, δ3, e3, h2⟩ := pP_use (pP_bind.mp h2)
    obtain ⟨d2, δ4, e4, h2⟩ := pP_use (pP_bind.mp h2)
    rw [← use_pub] at e3 e4
    obtain ⟨G3, x3, I3, p1, _⟩ := I2'.useOk (ROk.keep o1' (x2.trans x2')) e3
    obtain ⟨G4, x4, I4, p2, _⟩ := I3.useOk (ROk.keep o2' x3) e4
    have xx : Ex G G4 := (((((x1.trans x1').trans x2).trans x2').trans x3).trans x4)
    refine pairs_walk I4 (lk.mono xx) (pP_bind.mp h2) fun l δ5 vs H5 G5 W5 h5 x5 I5 o5 => ?_
    exact k _ δ5 _ H5 G5 W5 h5 (xx.trans x5) I5 (.cons ⟨Den.mono (show Den K G3 x d1 from p1) (x4.trans x5), Den.mono (show Den K G4 y d2 from p2) x5⟩ o5)
theorem fpp_nil : PPs X pos [] [] (([] : List (FE × FE)).map fun q => (lift X.K L (pP L.x q.1), lift X.K L (pP L.x q.2))) := pps_nil
theorem fpp_cons {k v : Expr} {fk fv : FE} {ps : List (FE × FE)} {ks : List (Option Expr)} {vs : List Expr} (hk : HE X L k fk) (hv : HE X L v fv) (h : PPs X pos ks vs (ps.map fun q => (lift X.K L (pP L.x q.1), lift X.K L (pP L.x q.2)))) :
    PPs X pos (some k :: ks) (v :: vs) (((fk, fv) :: ps).map fun q => (lift X.K L (pP L.x q.1), lift X.K L (pP L.x q.2))) := pps_cons hk hv h
end
end DL
set_option maxHeartbeats 1000000
namespace DL
open PySem PySem.Spec L2
variable [TabsC]
section
variable {K : PySem.W.Frag} {h : Heap} {mg : Str → Option Value} {C : Addr}
def excB (K : PySem.W.Frag) (C : Addr) : Bool := match K.lookup C with
  | some ⟨.type "type", _, .cls cd, sl⟩ => (match cd.mro, sl.toList with
    | .ref C' :: bm, [_, _, _, _, some (.builtin n), _] => C' == C && n == "ValueError.__new__" && !cd.hasDel && cd.hasDict && PySem.HandSPX.refsVE bm
    | _, _ => false)
  | _ => false
theorem excB_ok (q : excB K C = true) : ∃ nm qn N bs bm sn sub ab col dd k0 k1 k2 k3 k5, K.lookup C = some (excClassObj nm qn C N bs bm true sn sub ab col dd k0 k1 k2 k3 k5 "ValueError.__new__") ∧ PySem.HandSPX.refsVE bm = true := by
  unfold excB at q
  split at q
  · rename_i dd cd sl ho
    split at q
    · rename_i C' bm k0 k1 k2 k3 n k5 hm hs
      simp only [Bool.and_eq_true, beq_iff_eq, Bool.not_eq_true'] at q
      obtain ⟨⟨⟨⟨rfl, rfl⟩, hdel⟩, hdc⟩, ht⟩ := q
      obtain ⟨nm, bs, mro, ns, qn, hd, sn, sub, ab, col, del⟩ := cd
      dsimp only at hm hdel hdc
      subst hm hdel hdc
      have hsl : sl = #[k0, k1, k2, k3, some (.builtin "ValueError.__new__"), k5] := by
        obtain ⟨l⟩ := sl
        simp only at hs
        rw [hs]
      subst hsl
      exact ⟨nm, qn, ns, bs, bm, sn, sub, ab, col, dd, k0, k1, k2, k3, k5, ho, ht⟩
    · cases q
  · cases q
def errB (K : PySem.W.Frag) (x f : Str) : Bool := He.eqO (PySem.W.nsIn K mainGlobals x) (some (some (.ref (He.ga K x)))) && (excB K (He.ga K x) && (He.eqO (PySem.W.findIn K (.ref (He.ga K x)) "__setattr__") (some (some (.builtin "object.__setattr__"))) &&
  (decide (PySem.W.subIn K (.ref (He.ga K x)) (.type "BaseException") = some true) && (decide (PySem.W.typeIn K (.ref (He.ga K x)) = some (.type "type")) && (PySem.W.keepIn K (.ref (He.ga K x)) && (xfB K (He.ga K x) &&
  (He.eqO (PySem.W.findIn K (.ref (He.ga K x)) f) (some none) && (decide (PySem.W.exmOne K (.ref (He.ga K x)) (.ref (He.ga K x)) = some true) && (He.eqO (PySem.W.findIn K (.ref (He.ga K x)) "__init__") (some (some (.ref (He.ma K (He.ga K x) "__init__")))) &&
  decide (PySem.W.typeIn K (.ref (He.ma K (He.ga K x) "__init__")) = some (.type "function")))))))))))
theorem errC_of {P : Program} {w : World} {base : Heap} {x f g qual : Str} {sm : Stmt} {fd : FuncData} {ps : List Str} (X : K.In h) (G : h.Ns mainGlobals mg) (q : errB K x f = true) (F : Fun K "__init__" qual sm (He.ma K (He.ga K x) "__init__") fd) (Sc : FnScope ["self", g] ps (defScope sm)) (hl : ps.length = 2) (hbd : Binds K fd ps [])
    (hb : ∀ (cdv : Value) (A : Around) (outer : List Env) (s : Shared) (H : Hp) (E : XK), PSs (cxOf CX0 P w K mg base ["self", g] qual (defScope sm) (He.ma K (He.ga K x) "__init__") cdv A outer s H E).nox (defBody sm) (tOst K f (tVar 0) (tVar 1))) : ErrC P w K mg base x (He.ga K x) f := by
  unfold errB at q
  simp only [Bool.and_eq_true, decide_eq_true_eq] at q
  obtain ⟨q1, q2, q3, q4, q5, q6, q7, q8, q9, q10, q11⟩ := q
  exact ⟨⟨excB_ok q2, He.eqO_ok q3, q4, q5, q6⟩, xfB_ok q7, He.eqO_ok q8, PySem.W.mg_of X G (He.eqO_ok q1), q9, _, fd, ps, He.eqO_ok q10, q11, fn_init F Sc hl hb, hbd⟩
theorem fun_of {x qual : Str} {sm : Stmt} {f : Addr} {fd : FuncData} (F : FunD K x qual (defArgs sm) (defBody sm) (defScope sm) [] [] f fd) : Fun K x qual sm f fd := by
  obtain ⟨⟨oc, od, dV, kV, doc, pm, an, cdv, ct, osl, rfl, lk, hcd, hd, _⟩, kp⟩ := F
  rcases hd with ⟨_, rfl⟩ | ⟨e, _⟩
  · exact ⟨⟨oc, od, kV, doc, pm, an, cdv, ct, osl, rfl, lk, hcd⟩, kp⟩
  · exact absurd rfl e
def gloB (K : PySem.W.Frag) (x : Str) : Bool := He.eqO (PySem.W.nsIn K mainGlobals x) (some (some (.ref (He.ga K x))))
def freeB (K : PySem.W.Frag) (x : Str) : Bool := He.eqO (PySem.W.nsIn K mainGlobals x) (some none)
theorem glo_of (X : K.In h) (G : h.Ns mainGlobals mg) {x : Str} (q : gloB K x = true) : mg x = some (.ref (He.ga K x)) := PySem.W.mg_of X G (He.eqO_ok q)
theorem free_of (X : K.In h) (G : h.Ns mainGlobals mg) {x : Str} (q : freeB K x = true) : mg x = none := PySem.W.mg_none_of X G (He.eqO_ok q)
end
structure SaysE (fn : List He.DefD) (ex : List (PySem.W.Frag → Bool)) (K : PySem.W.Frag) : Prop where
  d : He.SaysD [] fn K
  x : ∀ e ∈ ex, e K = true
def asS (g : Addr → Option Obj) (n : Nat) : List Addr := sysModules :: He.asD g n
def obsE (n : Nat) (fn : List He.DefD) (ex : List (PySem.W.Frag → Bool)) (g : Addr → Option Obj) : He.AlD × Bool := (He.obsD [] fn (He.frG g (asS g n)), ex.all fun e => e (He.frG g (asS g n)))
section
variable {fn : List He.DefD} {ex : List (PySem.W.Frag → Bool)} {K : PySem.W.Frag}
theorem SaysE.at (c : SaysE fn ex K) (i : Nat) {e : PySem.W.Frag → Bool} (h : ex[i]? = some e := by rfl) : e K = true := c.x e (List.mem_of_getElem? h)
end
section
variable {P : Program} {w : World} {K : PySem.W.Frag} {mg : Str → Option Value} {base : Heap}
theorem take_fc {x : Str} {f : Addr} {fd : FuncData} (F : FnOk P w K mg base CX0 1 f fd ["_law_bag_here", "_law_many"] (spOf K takeS)) (hm : mg x = some (.ref f)) (hk : PySem.W.keepIn K (.ref f) = true) (hb : Binds K fd ["_law_bag_here", "_law_many"] []) : Fc P w K mg base 1 x ["_law_bag_here", "_law_many"] (spM0 2 m_take) :=
  ⟨f, fd, F.imp (spOf_imp take_imp), hm, hk, hb⟩
end
end DL
namespace DL
open PySem PySem.Spec L2
structure SaysF (fn : List He.DefD) (ex : List (PySem.W.Frag → Bool)) (ts : List He.Tab) (w : World) (K : PySem.W.Frag) : Prop where
  e : SaysE fn ex K
  t : ts.map (fun t => He.dicW K (t.1 K)) = ts.map fun t => some (He.keysIn w.params t.2)
abbrev AlF : Type := (He.AlD × Bool) × List (Option (List (Option (Str × Int))))
def obsF (n : Nat) (fn : List He.DefD) (ex : List (PySem.W.Frag → Bool)) (ts : List He.Tab) (g : Addr → Option Obj) : AlF := (obsE n fn ex g, ts.map fun t => He.dicW (He.frG g (asS g n)) (t.1 (He.frG g (asS g n))))
def hookF (n : Nat) (fn : List He.DefD) (ex : List (PySem.W.Frag → Bool)) (ts : List He.Tab) : PySem.W.Hook where
  α := AlF
  obs := fun s => obsF n fn ex ts s.heap.get?
  val := fun w => ((He.valD fn, true), ts.map fun (t : He.Tab) => some (He.keysIn w.params t.2))
  says := fun w h => ∃ K : PySem.W.Frag, K.In h ∧ SaysF fn ex ts w K
  of := fun _ _ e => ⟨_, He.frG_in, ⟨congrArg (fun z : AlF => z.1.1) e, fun x hx => List.all_eq_true.mp (congrArg (fun z : AlF => z.1.2) e) x hx⟩, congrArg (fun z : AlF => z.2) e⟩
  keeps := fun _ _ _ ⟨K, hK, c⟩ k => ⟨K, PySem.W.Frag.In.keeps hK k, c⟩
theorem obsF_eq {n : Nat} {fn : List He.DefD} {ex : List (PySem.W.Frag → Bool)} {ts : List He.Tab} {g : Addr → Option Obj} {s : Shared} (h : ∀ a, g a = s.heap.get? a) : obsF n fn ex ts g = (hookF n fn ex ts).obs s := by
  have e : g = s.heap.get? := funext h
  rw [e] <;> rfl
end DL
namespace DL
open PySem PySem.Spec L2
variable [TabsC]
section
variable {X : Cx} {K : PySem.W.Frag} {L : Lk} {a b e : Expr} {da db de : DE} {pos p q : Pos} {fa fb fe : FE}
def cNeS : D → D → Bool → Prop := fun d1 d2 r => ∃ x y, d1 = .str x ∧ d2 = .str y ∧ r = !decide (x = y)
theorem cs_neS : CmpSem K rNe cNeS := fun H x y d1 d2 r Q h1 h2 hc k => by
  obtain ⟨x', y', rfl, rfl, rfl⟩ := hc
  have e1 := h1.of_str
  have e2 := h2.of_str
  subst e1; subst e2
  refine ⟨rfl, ?_⟩
  rw [show decide (V.str x' = V.str y') = decide (x' = y') by simp]
  exact k
def cNeSF : D → D → Option Bool
  | .str x, .str y => some (!decide (x = y))
  | _, _ => none
theorem cs_neS' : CS cNeSF cNeS := fun d1 d2 b h => by
  unfold cNeSF at h
  split at h
  · cases h; exact ⟨_, _, rfl, rfl, rfl⟩
  · cases h
theorem ft_neS (ha : HE X L a fa) (hb : HE X L b fb) : HT' X L (.Compare a [.NotEq] [b] pos) (fTst (fCmp cNeSF fa fb)) := ft_cmp cs_neS' op_ne cs_neS ha hb (nomark _)
theorem v_cNS {x y : Str} : cNeSF (.str x) (.str y) = some (!decide (x = y)) := (rfl)
end
end DL
namespace DL
open PySem PySem.Spec L2
variable [TabsC]
section
variable {X : Cx} {K : PySem.W.Frag} {L : Lk} {c f : Addr} {fd : FuncData} {ps : List Str} {S : DSp} {k : Nat} {H G : Hp}
structure IsC (K : PySem.W.Frag) (c : Addr) : Prop where
  cls : Cls K c
  ha : PySem.W.findIn K (.ref c) "__class__" = some (some (.builtin "object.__class__"))
  hn : PySem.W.specialIn K (.builtin "object.__class__") "__get__" = some (some (.builtin "getset_descriptor.__get__"))
  htk : PySem.W.takesIn K (.builtin "object.__class__") = some true
  hm : PySem.W.mroIn K c (.type "object") = some true
  no : ∀ n ∈ (["NoneType", "bool", "int", "str", "list", "tuple", "dict"] : List String), PySem.W.kitOne K (.type n) (.ref c) = some false ∧ PySem.W.subIn K (.type n) (.ref c) = some false
theorem pa_ty2 {y1 y2 : Str} {t1 t2 : String} {p1 p2 : Pos} (g1 : Gl X y1) (m1 : X.mg y1 = none) (b1 : bootBuiltins y1 = some (.type t1)) (g2 : Gl X y2) (m2 : X.mg y2 = none) (b2 : bootBuiltins y2 = some (.type t2)) (n1 : y1 ≠ "__name__" := by decide) (n2 : y2 ≠ "__name__" := by decide)
    (d1 : (y1 == ("__debug__" : Str)) = false := by decide) (d2 : (y2 == ("__debug__" : Str)) = false := by decide)
    (h1 : starEach [.Name y1 p1, .Name y2 p2] X.env = (false, eval (.Name y1 p1) X.env) :: starEach [.Name y2 p2] X.env := by rfl) (h2 : starEach [.Name y2 p2] X.env = (false, eval (.Name y2 p2) X.env) :: starEach [] X.env := by rfl) : PA X [.Name y1 p1, .Name y2 p2] (fun σ H Q => Q ([t1, t2].map V.ty) H) :=
  PA.weak (pa_cons (pe_bltn (v := .ty t1) g1 m1 b1 rfl n1 d1) (pa_cons (pe_bltn (v := .ty t2) g2 m2 b2 rfl n2 d2) pa_nil h2) h1) fun σ H Q h => h
end
end DL
namespace DL
open PySem PySem.Spec L2
open PyProof.Rows (seqObj ksk_tree ksk_rest ksk_tail ksk_end ksk_fold listItems_at listUpdate_at seqEpoch_at get?_update_seq size_push' SortSt)
variable [TabsC]
section
variable {X : Cx} {pins : List (Addr × Obj)} {σ : St} {H : Hp} {s : Shared} {f : Addr} {fd : FuncData} {ps : List Str} {S : DSp} {k : Nat} {m : FM}
theorem vals_get : ∀ {us : List V} {vs : List Value} {i : Nat} {v : Value}, Vals us vs → vs[i]? = some v → ∃ u, us[i]? = some u ∧ RelV u v
  | _, _, _, _, .nil, h => by simp at h
  | _, _, 0, v, .cons r _, h => by simp at h; subst h; exact ⟨_, rfl, r⟩
  | _, _, i + 1, v, .cons _ t, h => by
    obtain ⟨u, h1, h2⟩ := vals_get (i := i) t (by simpa using h)
    exact ⟨u, by simpa using h1, h2⟩
end
end DL
namespace DL
open PySem PySem.Spec L2
open PyProof.Rows
variable [TabsC]
def Itl (K : PySem.W.Frag) (a : Addr) : It :=
  ⟨fun i H => ∃ (xs : List V) (x : V), SqL K H a xs ∧ xs[i]? = some x, fun i H v H' => ∃ T x its, v = .ref T ∧ H T = none ∧ H' = upd H T (.frz (tupObj its) (.tup [.int (i : Nat), x])) ∧ ∀ xs, SqL K H a xs → xs[i]? = some x, fun i H => ∃ xs : List V, SqL K H a xs ∧ xs.length ≤ i⟩
section
variable {X : Cx} {K : PySem.W.Frag} {L : Lk} {a b e : Expr} {da : DA} {pos p tpos : Pos}
end
end DL
set_option maxHeartbeats 1000000
namespace DL
open PySem PySem.Spec L2
variable [TabsC]
section
variable {X : Cx} {pins : List (Addr × Obj)} {σ : St} {H : Hp} {s s' : Shared}
def absK (z : Int) : Int := if z < 0 then -z else z
def pdK (z : Int) : PyData := .tuple [.int (absK z), .bool (decide (z < 0))]
def lessK (xs : List Int) (i j : Nat) : Bool := PySem.W.dataLt (pdK (xs.getD i 0)) (pdK (xs.getD j 0))
end
end DL
set_option maxHeartbeats 1000000
namespace DL
open PySem PySem.Spec L2 PyProof.Rows
theorem tabsX_none {H : Hp} (on : Only H) : @TabsX noTabs H := by
  refine ⟨fun p hp => (List.not_mem_nil (show p ∈ ([] : List (Addr × Str)) from hp)).elim, fun b ps e => ?_⟩
  rcases on b with z | ⟨o, xs, z⟩
  · rw [z] at e; cases e
  · rw [z] at e; cases e
end DL
namespace DL
open PySem PySem.Spec L2
variable [TabsC]
def lfree : D → Bool
  | .lst _ => false
  | .dic _ => false
  | .ins _ _ => false
  | .exc _ _ _ => false
  | .dct _ _ => false
  | .dcm _ _ => false
  | .obx _ _ => false
  | .tup xs => lfreeL xs
  | _ => true
where lfreeL : List D → Bool
  | [] => true
  | x :: xs => lfree x && lfreeL xs
theorem lfreeL_mem : ∀ {xs : List D} {x : D}, lfree.lfreeL xs = true → x ∈ xs → lfree x = true
  | y :: ys, x, h, hx => by
    have h : (lfree y && lfree.lfreeL ys) = true := h
    rw [Bool.and_eq_true] at h
    rcases List.mem_cons.mp hx with rfl | hx
    · exact h.1
    · exact lfreeL_mem h.2 hx
theorem Den.drop {K : PySem.W.Frag} {G G' : Hp} {v : V} {d : D} (h : Den K G v d) (x : ∀ a o, G a = some o → (∀ vs, o ≠ .lst vs) → G' a = some o) : lfree d = true → Den K G' v d := by
  induction h with
  | non => exact fun _ => .non
  | bl b => exact fun _ => .bl b
  | int i => exact fun _ => .int i
  | str x => exact fun _ => .str x
  | ty n => exact fun _ => .ty n
  | lst h l e ih => intro f; cases f
  | tup h l e ih =>
    intro f
    have f : lfree.lfreeL _ = true := f
    refine .tup (h.imp (fun ⟨o, e, n⟩ => ⟨o, x _ _ e (fun vs z => by cases z), n⟩) id) l fun i v d hv hd => ih i v d hv hd (lfreeL_mem f (List.mem_of_getElem? hd))
  | dic h l k e ih => intro f; cases f
  | ins h l k e ih => intro f; cases f
  | exc h l k e ih => intro f; cases f
  | dct h l k n e ik ih => intro f; cases f
  | dcm h l k n e ik ih => intro f; cases f
  | obx h e => intro f; cases f
theorem Dens.drop {K : PySem.W.Frag} {G G' : Hp} {vs : List V} {ds : List D} (h : Dens K G vs ds) (x : ∀ a o, G a = some o → (∀ vs, o ≠ .lst vs) → G' a = some o) (f : lfree.lfreeL ds = true) : Dens K G' vs ds :=
  ⟨h.1, fun i v d hv hd => (h.2 i v d hv hd).drop x (lfreeL_mem f (List.mem_of_getElem? hd))⟩
section
variable {K : PySem.W.Frag} {C : Ct} {σ : St} {H H' G G' : Hp} {W W' : Ow} {δ : List R} {v : V} {r : R}
theorem SI.show {i : Nat} {ds : List D} (I : SI K C σ H G W δ) (hi : gt δ i = .own (.lst ds)) : ∃ p vs, σ[i]? = some (some (.ref p)) ∧ G p = none ∧ C.H0 p = none ∧ C.bo ≠ some p ∧ C.T p = none ∧ H p = some (.lst vs) ∧ Dens K G vs ds ∧ SI K C σ H (upd G p (.lst vs)) W (st δ i (.val (.lst ds))) := by
  obtain ⟨v, h1, h2⟩ := I.sl i (by rw [hi]; simp)
  rw [hi] at h2
  obtain ⟨p, rfl, m, h5, vs, h6, h7⟩ := h2
  have I1 := (I.drop i).publish h6 m (fun j d' hj => by
    obtain ⟨ne, _⟩ := gt_put_own (d := .lst ds) hj
    rw [h5]; intro z; exact ne (Option.some.inj z)) rfl
  have I2 : SI K C σ H (upd G p (.lst vs)) W (st (st δ i .no) i (.val (.lst ds))) := I1.put h1 (.lst' upd_same (h7.mono (Ex.new m.1)))
  rw [st_st] at I2
  exact ⟨p, vs, h1, m.1, m.2.1, m.2.2.1, m.2.2.2, h6, h7, I2⟩
end
open Classical in
section
variable {X : Cx} {L : Lk} {e : Expr} {fe : FE}
end
section
variable {fe : FE} {δ : List R} {i : Nat} {ds : List D} {r : R}
end
end DL
namespace DL
open PySem PySem.Spec L2
variable [TabsC]
def scB : Value → D → Bool
  | .none, .non => true
  | .bool b, .bl c => b == c
  | .int i _, .int j => decide (i = j)
  | .str s _, .str z => decide (s = z)
  | _, _ => false
def scsB : List Value → List D → Bool
  | [], [] => true
  | u :: us, d :: ds => scB u d && scsB us ds
  | _, _ => false
def tupcB (K : PySem.W.Frag) (a : Addr) (ds : List D) : Bool := match K.lookup a with
  | some ⟨.type "tuple", none, .seq its _, _⟩ => decide (its.size ≤ sizeLine) && scsB its.toList ds
  | _ => false
def gkB (K : PySem.W.Frag) (x : Str) (d : D) : Bool := match PySem.W.nsIn K mainGlobals x with
  | some (some (.ref a)) => (match d with
    | .tup ds => tupcB K a ds
    | _ => false)
  | some (some u) => scB u d
  | _ => false
def GK (K : PySem.W.Frag) (mg : Str → Option Value) (y : Str) (d : D) : Prop := ∃ u v, mg y = some u ∧ RelV v u ∧ ∀ G, Den K G v d
theorem sc_ok {K : PySem.W.Frag} {u : Value} {d : D} (h : scB u d = true) : ∃ v, RelV v u ∧ ∀ G, Den K G v d := by
  unfold scB at h
  split at h
  · exact ⟨.non, rfl, fun G => .non⟩
  · rw [beq_iff_eq] at h; subst h; exact ⟨.bl _, rfl, fun G => .bl _⟩
  · obtain rfl := of_decide_eq_true h; exact ⟨.int _, ⟨_, rfl⟩, fun G => .int _⟩
  · obtain rfl := of_decide_eq_true h; exact ⟨.str _, ⟨_, rfl⟩, fun G => .str _⟩
  · cases h
theorem scs_ok {K : PySem.W.Frag} : ∀ {us : List Value} {ds : List D}, scsB us ds = true → ∃ vs, Vals vs us ∧ ∀ G, Dens K G vs ds
  | [], [], _ => ⟨[], .nil, fun G => .nil⟩
  | u :: us, d :: ds, h => by
    have h : (scB u d && scsB us ds) = true := h
    rw [Bool.and_eq_true] at h
    obtain ⟨v, r, dv⟩ := sc_ok (K := K) h.1
    obtain ⟨vs, rs, dvs⟩ := scs_ok (K := K) h.2
    exact ⟨v :: vs, .cons r rs, fun G => .cons (dv G) (dvs G)⟩
  | [], _ :: _, h => by cases h
  | _ :: _, [], h => by cases h
theorem tupc_ok {K : PySem.W.Frag} {a : Addr} {ds : List D} (h : tupcB K a ds = true) : ∀ G, Den K G (.ref a) (.tup ds) := by
  unfold tupcB at h
  split at h
  · rename_i its n sl e
    rw [Bool.and_eq_true] at h
    obtain ⟨vs, rs, dvs⟩ := scs_ok (K := K) h.2
    exact fun G => .tup' (.inr ⟨_, its, n, e, rfl, rfl, of_decide_eq_true h.1, rs, rfl⟩) (dvs G)
  · cases h
theorem gk_of {K : PySem.W.Frag} {h : Heap} {mg : Str → Option Value} (X : K.In h) (G : h.Ns mainGlobals mg) {x : Str} {d : D} (q : gkB K x d = true) : GK K mg x d := by
  unfold gkB at q
  split at q
  · rename_i a e
    split at q
    · exact ⟨.ref a, .ref a, PySem.W.mg_of X G e, rfl, tupc_ok q⟩
    · cases q
  · rename_i u _ e
    obtain ⟨v, r, dv⟩ := sc_ok (K := K) q
    exact ⟨u, v, PySem.W.mg_of X G e, r, dv⟩
  · cases q
section
variable {X : Cx} {L : Lk} {K : PySem.W.Frag} {y : Str} {pos : Pos} {d : D}
theorem fe_gk (hg : Gl X y) (k : GK X.K X.mg y d) (hdb : (y == ("__debug__" : Str)) = false := by decide) : HE X L (.Name y pos) (fC d) := by
  obtain ⟨u, v, e, r, dv⟩ := k
  exact fe_gl hg e r dv hdb
end
section
variable {X : Cx} {K : PySem.W.Frag} {L : Lk} {c : Addr}
end
section
variable {fo : FE} {δ : List R} {c : Addr} {m : FM}
end
end DL
namespace DL
open PySem PySem.Spec L2
def pgA (K : PySem.W.Frag) (C : Addr) (f : Str) : Addr := match PySem.W.findIn K (.ref C) f with
  | some (some (.ref p)) => (match PySem.W.recIn K p "property" with
    | some (.ref g :: _) => g
    | _ => 0)
  | _ => 0
def fnAt (K : PySem.W.Frag) (a : Addr) : He.FnW := match K.lookup a with
  | some ⟨_, _, .func z, _⟩ => some (z.name, z.qualname, z.params, z.body, z.scope, z.globals, z.closure, z.builtins)
  | _ => none
structure Pg where
  c : Str
  f : Str
  d : He.DefD
def Pg.a (K : PySem.W.Frag) (p : Pg) : Addr := pgA K (He.ga K p.c) p.f
structure SaysP (fn : List He.DefD) (ex : List (PySem.W.Frag → Bool)) (ts : List He.Tab) (ps : List Pg) (w : World) (K : PySem.W.Frag) : Prop where
  f : SaysF fn ex ts w K
  p : ps.map (fun p => fnAt K (p.a K)) = ps.map fun p => p.d.val
theorem SaysP.at {fn : List He.DefD} {ex : List (PySem.W.Frag → Bool)} {ts : List He.Tab} {ps : List Pg} {w : World} {K : PySem.W.Frag} (c : SaysP fn ex ts ps w K) (i : Nat) {p : Pg} (h : ps[i]? = some p) : fnAt K (p.a K) = p.d.val := by
  have e2 : (ps.map (fun p => fnAt K (p.a K)))[i]? = (ps.map fun p => p.d.val)[i]? := by rw [c.p]
  rw [List.getElem?_map, List.getElem?_map, h] at e2
  exact Option.some.inj e2
end DL
namespace DL
open PySem PySem.Spec L2
variable [TabsC]
section
variable {X : Cx} {L : Lk} {x n f : Str} {Cl Ch : Addr} {i : Nat} {body sf : List Stmt} {b1 : Stmt} {np pos pos' p : Pos} {hds : List ExceptHandler} {bd : Lx → DS} {su : Addr → Value → Option Addr → DS} {e : Expr} {de : DE} {da : DA}
end
section
variable {X : Cx} {L : Lk} {k : Nat} {ps : List Str} {m : FM} {y : Str} {p pos : Pos} {e : Expr} {es : List Expr} {fa : FA} {x : Lx} {n : Nat} {Cl Ch : Addr}
variable {a dd : Addr} {D' c : Addr} {b : Bool} {fe : FE} {cls : Value} {d : Option Addr} {δ : List R} {fs : List (Str × D)}
def excIB (K : PySem.W.Frag) (C : Addr) : Bool := He.eqO (PySem.W.findIn K (.ref C) "__getattribute__") (some (some (.builtin "BaseException.__getattribute__"))) && (decide (PySem.W.findIn K (.ref C) "__getattr__" = some none) && (decide (PySem.W.subIn K (.ref C) (.type "BaseException") = some true) && (PySem.W.hasDictIn K C &&
  (He.eqO (PySem.W.findIn K (.ref C) "__class__") (some (some (.builtin "object.__class__"))) && (He.eqO (PySem.W.specialIn K (.builtin "object.__class__") "__get__") (some (some (.builtin "getset_descriptor.__get__"))) &&
  (decide (PySem.W.takesIn K (.builtin "object.__class__") = some true) && decide (PySem.W.mroIn K C (.type "object") = some true)))))))
end
end DL
namespace DL
open PySem PySem.Spec L2
variable [TabsC]
section
variable {X : Cx} {K : PySem.W.Frag} {L : Lk} {cpos : Pos} {e : Expr} {fe fo : FE} {x : Lx} {δ : List R} {H G : Hp} {i : Nat} {y : Str} {px apos : Pos}
def GKT (K : PySem.W.Frag) (mg : Str → Option Value) (y : Str) (ds : List D) : Prop := ∃ a o, mg y = some (.ref a) ∧ K.lookup a = some o ∧ o.cls = .type "tuple" ∧ o.dict = none ∧ ∀ G, Den K G (.ref a) (.tup ds)
theorem gkt_of {K : PySem.W.Frag} {h : Heap} {mg : Str → Option Value} (X : K.In h) (G : h.Ns mainGlobals mg) {x : Str} {ds : List D} (q : gkB K x (.tup ds) = true) : GKT K mg x ds := by
  unfold gkB at q
  split at q
  · rename_i a e
    have q : tupcB K a ds = true := q
    have q' := q
    unfold tupcB at q
    split at q
    · rename_i its n sl e2
      exact ⟨a, _, PySem.W.mg_of X G e, e2, rfl, rfl, tupc_ok q'⟩
    · cases q
  · rename_i u _ e
    cases u <;> (have q : false = true := q; cases q)
  · cases q
variable {d : D} {ds : List D} {s : Str}
end
end DL
set_option maxHeartbeats 1000000
namespace DL
open PySem PySem.Spec L2
variable [TabsC]
section
variable {X : Cx} {K : PySem.W.Frag} {L : Lk} {pos : Pos} {e : Expr} {fe : FE} {c : Addr} {δ : List R}
end
section
variable {i : Nat} {fe : FE} {δ : List R} {ds : List D} {d : D}
end
section
variable {P : Program} {w : World} {K : PySem.W.Frag} {mg : Str → Option Value} {base : Heap} {f : Addr} {fd : FuncData} {k : Nat} {x qual : Str} {sm : Stmt} {N ps : List Str} {fs : FS}
theorem fn_flawA {sm st0 : Stmt} {rest : List Stmt} (F : Fun K "law" "law" sm f fd) (Sc : FnScope N ["_law_script"] (defScope sm)) (hN : 2 ≤ N.length) (hb : defBody sm = st0 :: rest)
    (h : ∀ (cdv : Value) (A : Around) (outer : List Env) (s : Shared) (H : Hp) (E : XK), Quiet A → Room k (A.deeper (PyProof.Rows.envOfC "law" (defScope sm) s.heap.objs.size f cdv)) →
      PS (cxOf CX0 P w K mg base N "law" (defScope sm) f cdv A outer s H E).nox st0 (tAsg (tCall (spBag K) [] E0 (tCons (tVar 0) tNil)) (gName 1)) ∧ HSs (cxOf CX0 P w K mg base N "law" (defScope sm) f cdv A outer s H E).nox L0 rest fs)
    (hd : (mk N.length fs [.no, .bag]).All fun o => o = .val (.val (.bl true))) : FnG P w K mg base CX0 (k + 1) f fd ["_law_script"] (spLaw K) := fn_flaw F Sc hN hb h (T.All_eq ▸ hd)
end
end DL
namespace DL
open PySem PySem.Spec L2
def KS (h : Heap) (k : NestedKey) (a : Addr) : Prop := NestedIs h k (.ref a) ∧ k.depth ≤ 8
section
variable {P : Program} {w : World} {A : Around} {E : Value → Shared → Prop} {s : Shared}
theorem KS.keep {h h' : Heap} {k : NestedKey} {a : Addr} (x : KS h k a) (hk : ∀ c o, h.get? c = some o → h'.get? c = some o) : KS h' k a := ⟨NestedIs.at (fun b o vs n hb _ => hk b o hb) k _ x.1, x.2⟩
theorem KS.one {h : Heap} {k k' : NestedKey} {a : Addr} (x : KS h k a) (y : KS h k' a) : k = k' := NestedIs.inj _ _ _ x.1 y.1
def kRows (w : World) (L : List (Addr × NestedKey)) : List (Int × Value) := L.map fun p => (p.2.hash w, Value.ref p.1)
theorem kRows_len {L : List (Addr × NestedKey)} {es : Array (Int × Value)} (h : es.toList = kRows w L) : es.size = L.length := by
  have e := congrArg List.length h
  rw [Array.length_toList] at e
  rw [e]; simp [kRows]
structure SetN (w : World) (h : Heap) (a : Addr) (L : List (Addr × NestedKey)) (es : Array (Int × Value)) (ep : Nat) (t : SetTable) : Prop where
  ob : ∃ o, h.get? a = some o ∧ o.ExactSet ∧ o.data = .set es ep t
  rows : es.toList = kRows w L
  tab : TabOk t (L.map fun p => p.2.hash w)
  nd : (L.map (·.2)).Nodup
  key : ∀ p ∈ L, KS h p.2 p.1
  led : w.params.followText "set-order" = true ∨ t.led = true
  room : L.length * 5 < t.mask * 3
  few : L.length < 64
variable {a : Addr} {L : List (Addr × NestedKey)} {es : Array (Int × Value)} {ep : Nat} {t : SetTable}
theorem fits_of (sz : t.place.size = es.size) (dm : t.dummies = #[]) (le : es.size ≤ t.mask) : t.fits es.size = true := by
  simp only [SetTable.fits, SetTable.fill, dm, Bool.and_eq_true, beq_iff_eq, decide_eq_true_eq]
  exact ⟨sz, by simp; omega⟩
end
end DL
namespace DL
open PySem PySem.Spec L2
section
variable {P : Program} {w : World} {A : Around} {E : Value → Shared → Prop} {s : Shared}
variable {a : Addr} {L : List (Addr × NestedKey)} {es : Array (Int × Value)} {ep : Nat} {t : SetTable}
theorem TabOk.off {t : SetTable} {hs : List Int} (T : TabOk t hs) (b : Bool) : TabOk (if b = true then t else { t with plain := false }) hs := by
  cases b
  · exact ⟨T.ris, T.dm, T.sz, T.mok, T.bd, T.reach⟩
  · exact T
end
end DL
namespace DL
open PySem PySem.Spec L2 PyProof.Rows
section
variable {P : Program} {w : World} {A : Around} {E : Value → Shared → Prop} {s : Shared} {κ : Type} [DecidableEq κ] {knd : KeyKind P w κ}
structure SetS (w : World) (knd : KeyKind P w κ) (h : Heap) (a : Addr) (L : List (Value × κ)) (es : Array (Int × Value)) (ep : Nat) (t : SetTable) : Prop where
  ob : ∃ o, h.get? a = some o ∧ o.ExactSet ∧ o.data = .set es ep t
  rows : es.toList = L.map fun p => (knd.hash p.2, p.1)
  key : ∀ p ∈ L, knd.is p.2 p.1 = true ∧ p.1.scannable = true
  nd : (L.map (·.2)).Nodup
  few : es.size < scanBound
  fit : t.fits es.size = true
  ris : Ris t.place.toList
  led : w.params.followText "set-order" = true ∨ t.led = true
variable {a : Addr} {L : List (Value × κ)} {es : Array (Int × Value)} {ep : Nat} {t : SetTable}
theorem SetS.size (R : SetS w knd s.heap a L es ep t) : es.size = L.length := by
  have e := congrArg List.length R.rows
  rw [Array.length_toList, List.length_map] at e
  exact e
theorem SetS.keep {h h' : Heap} (R : SetS w knd h a L es ep t) (k : ∀ o, h.get? a = some o → h'.get? a = some o) : SetS w knd h' a L es ep t := by
  obtain ⟨o, ho, r⟩ := R.ob
  exact ⟨⟨o, k o ho, r⟩, R.rows, R.key, R.nd, R.few, R.fit, R.ris, R.led⟩
structure Has {α κ : Type} (ks : List (α × κ)) (i : Nat) (L : List (α × κ)) : Prop where
  sub : ∀ p ∈ L, p ∈ ks.take i
  all : ∀ p ∈ ks.take i, p.2 ∈ L.map (·.2)
  len : L.length ≤ i
theorem Has.zero {α κ : Type} (ks : List (α × κ)) : Has ks 0 [] := ⟨fun p h => (by cases h), fun p h => (by simp at h), Nat.le_refl _⟩
theorem Has.next {α κ : Type} {ks L L' : List (α × κ)} {i : Nat} {x : α × κ} (g : Has ks i L) (h : ks[i]? = some x) (c1 : x.2 ∈ L.map (·.2) → L' = L) (c2 : x.2 ∉ L.map (·.2) → L'.Perm (x :: L)) : Has ks (i + 1) L' := by
  have tn : ks.take (i + 1) = ks.take i ++ [x] := by rw [List.take_add_one, h]; rfl
  rcases Classical.em (x.2 ∈ L.map (·.2)) with c | c
  · rw [c1 c]
    refine ⟨fun p hp => ?_, fun p hp => ?_, Nat.le_succ_of_le g.len⟩
    · rw [tn]; exact List.mem_append_left _ (g.sub p hp)
    · rw [tn] at hp
      rcases List.mem_append.mp hp with z | z
      · exact g.all p z
      · rw [List.mem_singleton.mp z]; exact c
  · have pm := c2 c
    refine ⟨fun p hp => ?_, fun p hp => ?_, ?_⟩
    · rw [tn]
      rcases List.mem_cons.mp (pm.mem_iff.mp hp) with z | z
      · rw [z]; exact List.mem_append_right _ (List.mem_singleton.mpr rfl)
      · exact List.mem_append_left _ (g.sub p z)
    · rw [(pm.map (·.2)).mem_iff, List.map_cons]
      rw [tn] at hp
      rcases List.mem_append.mp hp with z | z
      · exact List.mem_cons_of_mem _ (g.all p z)
      · rw [List.mem_singleton.mp z]; exact List.mem_cons_self
    · rw [pm.length_eq, List.length_cons]; exact Nat.succ_le_succ g.len
end
end DL
set_option maxHeartbeats 1000000
namespace DL
open PySem PySem.Spec L2
structure SetN0 (w : World) (h : Heap) (a : Addr) (L : List (Addr × NestedKey)) (es : Array (Int × Value)) (ep : Nat) (t : SetTable) : Prop where
  ob : ∃ o, h.get? a = some o ∧ o.ExactSet ∧ o.data = .set es ep t
  rows : es.toList = kRows w L
  tab : TabOk t (L.map fun p => p.2.hash w)
  nd : (L.map (·.2)).Nodup
  led : w.params.followText "set-order" = true ∨ t.led = true
  room : L.length * 5 < t.mask * 3
  few : L.length < 64
section
variable {P : Program} {w : World} {A : Around} {E : Value → Shared → Prop} {s : Shared} {h h' : Heap} {a : Addr}
theorem SetN.bare {L : List (Addr × NestedKey)} {es : Array (Int × Value)} {ep : Nat} {t : SetTable} (R : SetN w h a L es ep t) : SetN0 w h a L es ep t := ⟨R.ob, R.rows, R.tab, R.nd, R.led, R.room, R.few⟩
def SOb (P : Program) (w : World) : Bool → Heap → Addr → List (V × NestedKey) → Prop
  | true, h, a, L => ∃ (L0 : List (Value × Str)) (es : Array (Int × Value)) (ep : Nat) (t : SetTable), L = L0.map (fun p => (V.str p.2, NestedKey.text p.2)) ∧ SetS w (strKind P w) h a L0 es ep t
  | false, h, a, L => ∃ (L0 : List (Addr × NestedKey)) (es : Array (Int × Value)) (ep : Nat) (t : SetTable), L = L0.map (fun p => (V.ref p.1, p.2)) ∧ SetN0 w h a L0 es ep t
def KeyV : Bool → Heap → NestedKey → V → Prop
  | true, _, k, v => ∃ x, k = .text x ∧ v = .str x
  | false, h, k, v => ∃ a, v = .ref a ∧ KS h k a
theorem SOb.keep {b : Bool} {L : List (V × NestedKey)} (R : SOb P w b h a L) (k : ∀ o, h.get? a = some o → h'.get? a = some o) : SOb P w b h' a L := by
  cases b with
  | true =>
    obtain ⟨L0, es, ep, t, e, R⟩ := R
    exact ⟨L0, es, ep, t, e, R.keep k⟩
  | false =>
    obtain ⟨L0, es, ep, t, e, R⟩ := R
    obtain ⟨o, ho, r⟩ := R.ob
    exact ⟨L0, es, ep, t, e, ⟨o, k o ho, r⟩, R.rows, R.tab, R.nd, R.led, R.room, R.few⟩
theorem SOb.nodup {b : Bool} {L : List (V × NestedKey)} (R : SOb P w b h a L) : (L.map (·.2)).Nodup := by
  cases b with
  | true =>
    obtain ⟨L0, es, ep, t, rfl, R⟩ := R
    rw [List.map_map]
    have := R.nd
    rw [show ((fun x : V × NestedKey => x.2) ∘ fun p : Value × Str => (V.str p.2, NestedKey.text p.2)) = (NestedKey.text ∘ fun p : Value × Str => p.2) from rfl, ← List.map_map]
    exact List.pairwise_map.mpr (this.imp fun hne e => hne (by injection e))
  | false =>
    obtain ⟨L0, es, ep, t, rfl, R⟩ := R
    rw [List.map_map]
    exact R.nd
end
end DL
set_option maxHeartbeats 1000000
namespace DL
open PySem PySem.Spec L2
section
variable {P : Program} {w : World} {A : Around} {E : Value → Shared → Prop} {s : Shared} {h h' : Heap} {a : Addr}
theorem SOb.look {b : Bool} {L : List (V × NestedKey)} (R : SOb P w b h a L) : ∃ (o : Obj) (es : Array (Int × Value)) (ep : Nat) (t : SetTable) (Z : List (Value × V × NestedKey)), h.get? a = some o ∧ o.ExactSet ∧ o.data = .set es ep t ∧ t.fits es.size = true ∧ es.size < scanBound ∧ Ris t.place.toList ∧
    (w.params.followText "set-order" = true ∨ t.led = true) ∧ es.toList.map (·.2) = Z.map (·.1) ∧ L = Z.map (·.2) ∧ (∀ z ∈ Z, RelV z.2.1 z.1) ∧ L.length < scanBound := by
  cases b with
  | true =>
    obtain ⟨L0, es, ep, t, rfl, R⟩ := R
    obtain ⟨o, ho, hex, hd⟩ := R.ob
    refine ⟨o, es, ep, t, L0.map fun p => (p.1, V.str p.2, NestedKey.text p.2), ho, hex, hd, R.fit, R.few, R.ris, R.led, by rw [R.rows, List.map_map, List.map_map]; rfl, by rw [List.map_map]; rfl, fun z hz => ?_, ?_⟩
    · obtain ⟨p, hp, rfl⟩ := List.mem_map.mp hz
      obtain ⟨u, e⟩ := Value.isStrOf_shape (R.key p hp).1
      show RelV (V.str p.2) p.1
      rw [e]
      exact ⟨u, rfl⟩
    · have q := congrArg List.length R.rows
      rw [Array.length_toList, List.length_map] at q
      rw [List.length_map, ← q]
      exact R.few
  | false =>
    obtain ⟨L0, es, ep, t, rfl, R⟩ := R
    obtain ⟨o, ho, hex, hd⟩ := R.ob
    have sz := kRows_len R.rows
    have few := R.few
    have b2 : es.size < scanBound := by rw [sz]; unfold scanBound; omega
    refine ⟨o, es, ep, t, L0.map fun p => (Value.ref p.1, V.ref p.1, p.2), ho, hex, hd, ?_, b2, R.tab.ris, R.led, by rw [R.rows, List.map_map]; unfold kRows; rw [List.map_map]; rfl, by rw [List.map_map]; rfl, fun z hz => ?_, by rw [List.length_map, ← sz]; exact b2⟩
    · have hr := R.room
      exact fits_of (by rw [R.tab.sz, List.length_map, sz]) R.tab.dm (by omega)
    · obtain ⟨p, hp, rfl⟩ := List.mem_map.mp hz
      exact rfl
end
end DL
set_option maxHeartbeats 1000000
namespace DL
open PySem PySem.Spec L2
mutual
def nkD : NestedKey → D
  | .none => .non
  | .num i => .int i
  | .text x => .str x
  | .tup ks => .tup (nkDs ks)
def nkDs : List NestedKey → List D
  | [] => []
  | k :: ks => nkD k :: nkDs ks
end
section
variable {X : Cx} {pins : List (Addr × Obj)} {σ : L2.St} {H : Hp} {s : Shared}
mutual
theorem nested_of (I : Inv X pins σ H s) : ∀ (k : NestedKey) (v : V) (u : Value), Den X.K H v (nkD k) → RelV v u → NestedIs s.heap k u
  | .none, v, u, h, r => by
    rw [Den.of_non (show Den X.K H v .non from h)] at r
    cases (show u = Value.none from r)
    exact .none
  | .num i, v, u, h, r => by
    rw [Den.of_int (show Den X.K H v (.int i) from h)] at r
    obtain ⟨t, rfl⟩ : ∃ t, u = Value.int i t := r
    exact .int i t
  | .text x, v, u, h, r => by
    rw [Den.of_str (show Den X.K H v (.str x) from h)] at r
    obtain ⟨t, rfl⟩ : ∃ t, u = Value.str x t := r
    exact .text x t
  | .tup ks, v, u, h, r => by
    obtain ⟨a, vs, rfl, hs, dn⟩ := Den.of_tup (show Den X.K H v (.tup (nkDs ks)) from h)
    cases r
    obtain ⟨its, rv, ⟨o, ho, hc, n, hd⟩, _⟩ := I.tuple hs
    exact .tup ho hc hd (by simpa using nesteds_of I ks vs its dn rv)
theorem nesteds_of (I : Inv X pins σ H s) : ∀ (ks : List NestedKey) (vs : List V) (us : List Value), Dens X.K H vs (nkDs ks) → Vals vs us → NestedAll s.heap ks us
  | [], vs, us, h, r => by
    rw [show vs = [] from List.length_eq_zero_iff.mp h.1] at r
    cases r
    exact .nil
  | k :: ks, vs, us, h, r => by
    obtain ⟨v, vr, rfl, d1, d2⟩ := All2.cons_right (show Dens X.K H vs (nkD k :: nkDs ks) from h)
    cases r with
    | cons r1 r2 => exact .cons (nested_of I k v _ d1 r1) (nesteds_of I ks vr _ d2 r2)
end
def KeyH (b : Bool) (K : PySem.W.Frag) (H : Hp) (k : NestedKey) (v : V) : Prop := Den K H v (nkD k) ∧ k.depth ≤ 8 ∧ match b with
  | true => ∃ x, k = .text x
  | false => ∃ ks, k = .tup ks
theorem KeyH.v {b : Bool} {k : NestedKey} {v : V} (I : Inv X pins σ H s) (h : KeyH b X.K H k v) : KeyV b s.heap k v := by
  obtain ⟨h1, h2, h3⟩ := h
  cases b with
  | true =>
    obtain ⟨x, rfl⟩ := h3
    exact ⟨x, rfl, Den.of_str (show Den X.K H v (.str x) from h1)⟩
  | false =>
    obtain ⟨ks, rfl⟩ := h3
    obtain ⟨a, vs, rfl, _⟩ := Den.of_tup (show Den X.K H v (.tup (nkDs ks)) from h1)
    exact ⟨a, rfl, nested_of I _ _ _ h1 rfl, h2⟩
end
end DL
set_option maxHeartbeats 1000000
namespace DL
open PySem PySem.Spec L2
open PySem.W (keyToks keyToksAll dataLt dataLe)
theorem CompAll.sub {xs ys : List PyData} (h : CompAll ys) (m : ∀ d ∈ xs, d ∈ ys) : CompAll xs := ⟨fun d hd d' hd' => h.two d (m d hd) d' (m d' hd'), h.kind.imp (fun f d hd => f d (m d hd)) (fun f d hd => f d (m d hd)), fun d hd => h.lay d (m d hd)⟩
end DL
namespace DL
open PySem PySem.Spec L2
variable [TabsC]
def sysB (K : PySem.W.Frag) : Bool := match K.lookup sysModules with
  | some o => o.cls == .type "dict"
  | none => false
def keyPy : Key → PyData
  | .inl i => .int i
  | .inr x => .str x
def D.pyd : Nat → D → PyData
  | _, .non => .none
  | _, .bl b => .bool b
  | _, .int i => .int i
  | _, .str x => .str x
  | n + 1, .lst xs => .list (xs.map (D.pyd n))
  | n + 1, .tup xs => .tuple (xs.map (D.pyd n))
  | n + 1, .dic kvs => .dict (kvs.map fun p => (keyPy p.1, D.pyd n p.2))
  | n + 1, .dcm _ kds => .dict (kds.map fun p => (D.pyd n p.1, D.pyd n p.2))
  | _, _ => .none
def keyFit : Key → Bool
  | .inl i => decide (i.natAbs.log2 < 1900)
  | .inr x => PyData.strOk x
def keyWid : Key → Nat
  | .inl i => i.natAbs.log2 + 2
  | .inr x => 10 * x.length + 2
def D.fitd : Nat → D → Bool
  | _, .non => true
  | _, .bl _ => true
  | _, .int i => decide (i.natAbs.log2 < 1900)
  | _, .str x => PyData.strOk x
  | n + 1, .lst xs => xs.all (D.fitd n)
  | n + 1, .tup xs => xs.all (D.fitd n)
  | n + 1, .dic kvs => kvs.all fun p => keyFit p.1 && D.fitd n p.2
  | n + 1, .dcm _ kds => kds.all fun p => D.fitd n p.1 && D.fitd n p.2
  | _, _ => false
def D.widd : Nat → D → Nat
  | _, .non => 4
  | _, .bl _ => 5
  | _, .int i => i.natAbs.log2 + 2
  | _, .str x => 10 * x.length + 2
  | n + 1, .lst xs => 4 + (xs.map fun d => D.widd n d + 2).sum
  | n + 1, .tup xs => 4 + (xs.map fun d => D.widd n d + 2).sum
  | n + 1, .dic kvs => 4 + (kvs.map fun p => keyWid p.1 + 2 + D.widd n p.2 + 2).sum
  | n + 1, .dcm _ kds => 4 + (kds.map fun p => D.widd n p.1 + 2 + D.widd n p.2 + 2).sum
  | _, _ => 0
def D.FitsD (w : Nat) (d : D) : Prop := d.fitd 60 = true ∧ d.widd 60 ≤ w
instance {w : Nat} {d : D} : Decidable (d.FitsD w) := by unfold D.FitsD; exact inferInstance
theorem sum_le_map {α : Type} {f g : α → Nat} : ∀ (l : List α), (∀ x ∈ l, f x ≤ g x) → (l.map f).sum ≤ (l.map g).sum
  | [], _ => by simp
  | x :: l, h => by
    have h1 := h x (List.mem_cons_self ..)
    have h2 := sum_le_map l fun y hy => h y (List.mem_cons_of_mem _ hy)
    simp only [List.map_cons, List.sum_cons]
    omega
theorem sum_add2 {α : Type} (f : α → Nat) : ∀ (l : List α), (l.map fun d => f d + 2).sum = (l.map f).sum + 2 * l.length
  | [] => by simp
  | x :: l => by
    simp only [List.map_cons, List.sum_cons, List.length_cons, sum_add2 f l]
    omega
theorem texts_sum {n : Nat} {xs : List D} (h : ∀ d ∈ xs, (D.pyd n d).shown.length ≤ D.widd n d) : ((PyData.shownAll (xs.map (D.pyd n))).map (·.length)).sum + 2 * (PyData.shownAll (xs.map (D.pyd n))).length + 3 ≤ 4 + (xs.map fun d => D.widd n d + 2).sum := by
  rw [shownAll_map, sum_add2]
  have a := sum_le_map (f := fun d => (D.pyd n d).shown.length) (g := D.widd n) xs h
  have e : (((xs.map (D.pyd n)).map PyData.shown).map (·.length)) = xs.map fun d => (D.pyd n d).shown.length := by simp [List.map_map, Function.comp_def]
  rw [e]
  simp only [List.length_map]
  omega
theorem int_shown {i : Int} (h1 : i.natAbs.log2 < 1900) : (PyData.int i).showable = true ∧ (PyData.int i).shown.length ≤ i.natAbs.log2 + 2 := by
  simp only [PyData.showable, PyData.shown]
  refine ⟨decide_eq_true (by omega), ?_⟩
  have h2 : i.natAbs < 10 ^ (i.natAbs.log2 + 1) := Nat.lt_of_lt_of_le Nat.lt_log2_self (Nat.pow_le_pow_left (by decide) _)
  have := int_text_length_le10 (a := i) (k := i.natAbs.log2 + 1) (by omega) h2
  exact (show (Str.ofString (toString i)).length ≤ i.natAbs.log2 + 2 by rw [ofString_length]; omega)
theorem str_shown {x : Str} (h1 : PyData.strOk x = true) : (PyData.str x).showable = true ∧ (PyData.str x).shown.length ≤ 10 * x.length + 2 := by
  simp only [PyData.showable, PyData.shown]
  refine ⟨trivial, PySem.StrLaws.reprText_len x fun c hc => ?_⟩
  unfold PyData.strOk at h1
  rw [Array.all_eq_true'] at h1
  have := h1 c (by simpa using hc)
  have : c < 0x110000 := of_decide_eq_true this
  omega
theorem key_shown {k : Key} (h : keyFit k = true) : (keyPy k).showable = true ∧ (keyPy k).shown.length ≤ keyWid k := by
  cases k with
  | inl i => exact int_shown (of_decide_eq_true h)
  | inr x => exact str_shown h
theorem showableKv_of : ∀ l : List (PyData × PyData), (∀ p ∈ l, p.1.showable = true ∧ p.2.showable = true) → PyData.showableKv l = true
  | [], _ => by simp only [PyData.showableKv]
  | (a, b) :: l, h => by
    have h1 := h (a, b) (List.mem_cons_self ..)
    simp only [PyData.showableKv, Bool.and_eq_true]
    exact ⟨h1, showableKv_of l fun e he => h e (List.mem_cons_of_mem _ he)⟩
theorem shownKv_map : ∀ l : List (PyData × PyData), PyData.shownKv l = l.map fun p => (p.1.shown ++ ": " ++ p.2.shown : Str)
  | [] => by simp only [PyData.shownKv, List.map_nil]
  | (a, b) :: l => by simp only [PyData.shownKv, List.map_cons, shownKv_map l]
theorem fitd_shown : ∀ {n : Nat} {d : D}, d.fitd n = true → (D.pyd n d).showable = true ∧ (D.pyd n d).shown.length ≤ d.widd n
  | n, .non, h => by
    cases n <;> simp only [D.pyd, PyData.showable, PyData.shown, D.widd] <;> exact ⟨trivial, by decide +kernel⟩
  | n, .bl b, h => by
    cases n <;> simp only [D.pyd, PyData.showable, PyData.shown, D.widd] <;> refine ⟨trivial, ?_⟩ <;> cases b
    all_goals first | exact (by decide +kernel : (Str.ofString "False").length ≤ 5) | exact (by decide +kernel : (Str.ofString "True").length ≤ 5)
  | n, .int i, h => by
    have h1 : i.natAbs.log2 < 1900 := by cases n <;> exact of_decide_eq_true h
    have z := int_shown h1
    cases n <;> simpa only [D.pyd, D.widd] using z
  | n, .str x, h => by
    have h1 : PyData.strOk x = true := by cases n <;> exact h
    have z := str_shown h1
    cases n <;> simpa only [D.pyd, D.widd] using z
  | 0, .lst xs, h => by cases h
  | 0, .tup xs, h => by cases h
  | n + 1, .lst xs, h => by
    have h2 : ∀ d ∈ xs, d.fitd n = true := List.all_eq_true.mp h
    have a : ∀ e ∈ xs.map (D.pyd n), e.showable = true := fun e he => by
      obtain ⟨d, hd, rfl⟩ := List.mem_map.mp he
      exact (fitd_shown (h2 d hd)).1
    simp only [D.pyd, PyData.showable, PyData.shown, D.widd]
    exact ⟨showableAll_of _ a, Nat.le_trans (listText_len_le _) (texts_sum fun d hd => (fitd_shown (h2 d hd)).2)⟩
  | n + 1, .tup xs, h => by
    have h2 : ∀ d ∈ xs, d.fitd n = true := List.all_eq_true.mp h
    have a : ∀ e ∈ xs.map (D.pyd n), e.showable = true := fun e he => by
      obtain ⟨d, hd, rfl⟩ := List.mem_map.mp he
      exact (fitd_shown (h2 d hd)).1
    simp only [D.pyd, PyData.showable, PyData.shown, D.widd]
    exact ⟨showableAll_of _ a, Nat.le_trans (tupleText_len_le _) (texts_sum fun d hd => (fitd_shown (h2 d hd)).2)⟩
  | 0, .dic _, h => by cases h
  | n + 1, .dic kvs, h => by
    have h2 : ∀ p ∈ kvs, keyFit p.1 = true ∧ D.fitd n p.2 = true := fun p hp => by
      have := List.all_eq_true.mp h p hp
      rwa [Bool.and_eq_true] at this
    simp only [D.pyd, PyData.showable, PyData.shown, D.widd]
    refine ⟨showableKv_of _ fun e he => ?_, ?_⟩
    · obtain ⟨p, hp, rfl⟩ := List.mem_map.mp he
      exact ⟨(key_shown (h2 p hp).1).1, (fitd_shown (h2 p hp).2).1⟩
    · refine Nat.le_trans (dictText_len_le _) ?_
      rw [shownKv_map, List.map_map, List.map_map, List.length_map, sum_add2]
      have c2 : (Str.ofString ": ").length = 2 := rfl
      have a := sum_le_map (f := ((fun x : Str => x.length) ∘ fun p : PyData × PyData => (p.1.shown ++ ": " ++ p.2.shown : Str)) ∘ fun p : Key × D => (keyPy p.1, D.pyd n p.2)) (g := fun p => keyWid p.1 + 2 + D.widd n p.2) kvs fun p hp => by
        have h3 := (key_shown (h2 p hp).1).2
        have h4 := (fitd_shown (h2 p hp).2).2
        simp only [Function.comp, strLen_append, c2]
        omega
      rw [List.length_map]
      omega
  | 0, .ins _ _, h => by cases h
  | 0, .ty _, h => by cases h
  | 0, .exc _ _ _, h => by cases h
  | 0, .dct _ _, h => by cases h
  | 0, .dcm _ _, h => by cases h
  | 0, .obx _ _, h => by cases h
  | n + 1, .ins _ _, h => by cases h
  | n + 1, .ty _, h => by cases h
  | n + 1, .exc _ _ _, h => by cases h
  | n + 1, .dct _ _, h => by cases h
  | n + 1, .dcm _ kvs, h => by
    have h2 : ∀ p ∈ kvs, D.fitd n p.1 = true ∧ D.fitd n p.2 = true := fun p hp => by
      have := List.all_eq_true.mp h p hp
      rwa [Bool.and_eq_true] at this
    simp only [D.pyd, PyData.showable, PyData.shown, D.widd]
    refine ⟨showableKv_of _ fun e he => ?_, ?_⟩
    · obtain ⟨p, hp, rfl⟩ := List.mem_map.mp he
      exact ⟨(fitd_shown (h2 p hp).1).1, (fitd_shown (h2 p hp).2).1⟩
    · refine Nat.le_trans (dictText_len_le _) ?_
      rw [shownKv_map, List.map_map, List.map_map, List.length_map, sum_add2]
      have c2 : (Str.ofString ": ").length = 2 := rfl
      have a := sum_le_map (f := ((fun x : Str => x.length) ∘ fun p : PyData × PyData => (p.1.shown ++ ": " ++ p.2.shown : Str)) ∘ fun p : D × D => (D.pyd n p.1, D.pyd n p.2)) (g := fun p => D.widd n p.1 + 2 + D.widd n p.2) kvs fun p hp => by
        have h3 := (fitd_shown (h2 p hp).1).2
        have h4 := (fitd_shown (h2 p hp).2).2
        simp only [Function.comp, strLen_append, c2]
        omega
      rw [List.length_map]
      omega
  | n + 1, .obx _ _, h => by cases h
theorem FitsD.shown {w : Nat} {d : D} (h : d.FitsD w) : (D.pyd 60 d).showable = true ∧ (D.pyd 60 d).shown.length ≤ w := ⟨(fitd_shown h.1).1, Nat.le_trans (fitd_shown h.1).2 h.2⟩
theorem pyd_depth : ∀ (n : Nat) (d : D), (D.pyd n d).depth ≤ n
  | 0, d => by cases d <;> simp [D.pyd, PyData.depth]
  | n + 1, d => by
    cases d with
    | lst xs =>
      simp only [D.pyd, PyData.depth]
      have := depthAll_of (n := n) (xs.map (D.pyd n)) fun e he => by
        obtain ⟨x, _, rfl⟩ := List.mem_map.mp he
        exact pyd_depth n x
      omega
    | tup xs =>
      simp only [D.pyd, PyData.depth]
      have := depthAll_of (n := n) (xs.map (D.pyd n)) fun e he => by
        obtain ⟨x, _, rfl⟩ := List.mem_map.mp he
        exact pyd_depth n x
      omega
    | dic kvs =>
      simp only [D.pyd, PyData.depth]
      have : ∀ l : List (Key × D), PyData.depthKv (l.map fun p => (keyPy p.1, D.pyd n p.2)) ≤ n := by
        intro l
        induction l with
        | nil => simp [PyData.depthKv]
        | cons p l ih =>
          have h1 := pyd_depth n p.2
          have h2 : (keyPy p.1).depth = 0 := by obtain ⟨k, d⟩ := p; cases k <;> simp [keyPy, PyData.depth]
          simp only [List.map_cons, PyData.depthKv]
          omega
      have := this kvs
      omega
    | dcm w kds =>
      simp only [D.pyd, PyData.depth]
      have : ∀ l : List (D × D), PyData.depthKv (l.map fun p => (D.pyd n p.1, D.pyd n p.2)) ≤ n := by
        intro l
        induction l with
        | nil => simp [PyData.depthKv]
        | cons p l ih =>
          have h1 := pyd_depth n p.2
          have h2 := pyd_depth n p.1
          simp only [List.map_cons, PyData.depthKv]
          omega
      have := this kds
      omega
    | _ => simp [D.pyd, PyData.depth]
section
variable {X : Cx} {pins : List (Addr × Obj)} {σ : St} {H : Hp} {s : Shared}
theorem not_sys (I : Inv X pins σ H s) (sy : sysB X.K = true) {a : Addr} {o : Obj} (h : s.heap.get? a = some o) (hc : o.cls ≠ .type "dict") : sysModules ≠ a := by
  rintro rfl
  unfold sysB at sy
  split at sy
  · rename_i o' e
    have := I.kIn _ _ e
    rw [h] at this; cases this
    exact hc (eq_of_beq sy)
  · cases sy
theorem readsAll_of {h : Heap} {n : Nat} : ∀ {us : List Value} {ds : List D}, us.length = ds.length → (∀ (i : Nat) u d, us[i]? = some u → ds[i]? = some d → ∃ as, PySem.Reads h u (D.pyd n d) as ∧ sysModules ∉ as) → ∃ as, PySem.ReadsAll h us (ds.map (D.pyd n)) as ∧ sysModules ∉ as
  | [], [], _, _ => ⟨[], .nil, by simp⟩
  | [], _ :: _, h, _ => by simp at h
  | _ :: _, [], h, _ => by simp at h
  | u :: us, d :: ds, h, f => by
    obtain ⟨as, r1, n1⟩ := f 0 u d rfl rfl
    obtain ⟨bs, r2, n2⟩ := readsAll_of (us := us) (ds := ds) (by simpa using h) fun i a b ha hb => f (i + 1) a b (by simpa using ha) (by simpa using hb)
    exact ⟨_, .cons r1 r2, by simp [n1, n2]⟩
theorem paired_at {α β : Type} {R : α → β → Prop} : ∀ {xs : List α} {ys : List β}, Paired R xs ys → xs.length = ys.length ∧ ∀ (i : Nat) x y, xs[i]? = some x → ys[i]? = some y → R x y
  | _, _, .nil => ⟨rfl, fun i x y h => by simp at h⟩
  | _, _, .cons h t => by
    obtain ⟨a, b⟩ := paired_at t
    refine ⟨by simp [a], fun i x y hx hy => ?_⟩
    cases i with
    | zero => simp at hx hy; subst hx; subst hy; exact h
    | succ i => exact b i x y (by simpa using hx) (by simpa using hy)
theorem pairs_at {K : Type} [DecidableEq K] {prog : Program} {w : World} {knd : KeyKind prog w K} : ∀ {es : List DictEntry} {kvs : List (K × Value)}, Pairs knd es kvs → (es.map (·.key)).length = kvs.length ∧ es.map (·.val) = kvs.map (·.2) ∧ ∀ (i : Nat) v p, (es.map (·.key))[i]? = some v → kvs[i]? = some p → knd.is p.1 v = true
  | _, _, .nil => ⟨rfl, rfl, fun i v p h => by simp at h⟩
  | _, _, .cons h1 h2 t => by
    obtain ⟨a, b, c⟩ := pairs_at t
    refine ⟨by simpa using a, by simp [h2, b], fun i v p hv hp => ?_⟩
    cases i with
    | zero => simp at hv hp; subst hv; subst hp; exact h1
    | succ i => exact c i v p (by simpa using hv) (by simpa using hp)
theorem readsKeys {h : Heap} : ∀ {us : List Value} {ks : List Key}, us.length = ks.length → (∀ (i : Nat) u k, us[i]? = some u → ks[i]? = some k → keyIs k u = true) → ∃ as, PySem.ReadsAll h us (ks.map keyPy) as ∧ sysModules ∉ as
  | [], [], _, _ => ⟨[], .nil, by simp⟩
  | [], _ :: _, h, _ => by simp at h
  | _ :: _, [], h, _ => by simp at h
  | u :: us, k :: ks, h, f => by
    obtain ⟨bs, r2, n2⟩ := readsKeys (h := ‹Heap›) (us := us) (ks := ks) (by simpa using h) fun i a b ha hb => f (i + 1) a b (by simpa using ha) (by simpa using hb)
    have e := f 0 u k rfl rfl
    rcases keyIs_shape e with ⟨i, t, rfl, rfl⟩ | ⟨x, t, rfl, rfl⟩
    · exact ⟨_, .cons (.int i t) r2, by simpa using n2⟩
    · exact ⟨_, .cons (.str x t) r2, by simpa using n2⟩
theorem readsD (I : Inv X pins σ H s) (sy : sysB X.K = true) : ∀ (n : Nat) (d : D) (v : V) (u : Value), Den X.K H v d → RelV v u → d.fitd n = true → ∃ as, PySem.Reads s.heap u (D.pyd n d) as ∧ sysModules ∉ as
  | n, .non, v, u, dn, r, _ => by rw [dn.of_non] at r; cases r; exact ⟨[], by cases n <;> exact .none, by simp⟩
  | n, .bl b, v, u, dn, r, _ => by rw [dn.of_bl] at r; cases r; exact ⟨[], by cases n <;> exact .bool b, by simp⟩
  | n, .int i, v, u, dn, r, _ => by rw [dn.of_int] at r; obtain ⟨t, rfl⟩ := r; exact ⟨[], by cases n <;> exact .int i t, by simp⟩
  | n, .str x, v, u, dn, r, _ => by rw [dn.of_str] at r; obtain ⟨t, rfl⟩ := r; exact ⟨[], by cases n <;> exact .str x t, by simp⟩
  | 0, .lst xs, _, _, _, _, h => by cases h
  | 0, .tup xs, _, _, _, _, h => by cases h
  | 0, .dic xs, _, _, _, _, h => by cases h
  | n + 1, .lst xs, v, u, dn, r, h => by
    obtain ⟨a, vs, rfl, hl, ds⟩ := dn.of_lst
    cases r
    obtain ⟨its, rv, ⟨o, m, ho, hc, _, hd⟩, _⟩ := I.list (.of hl)
    have len : its.length = xs.length := rv.length.symm.trans ds.1
    obtain ⟨as, ra, na⟩ := readsAll_of (n := n) len fun i u d hu hd' => by
      obtain ⟨v, hv, rr⟩ := vals_get rv hu
      exact readsD I sy n d v u (ds.2 i v d hv hd') rr (List.all_eq_true.mp h d (List.mem_of_getElem? hd'))
    refine ⟨a :: as, .list ho hc hd (by simpa using ra), ?_⟩
    rw [List.mem_cons]
    rintro (e | e)
    · exact not_sys I sy ho (by rw [hc]; decide) e
    · exact na e
  | n + 1, .tup xs, v, u, dn, r, h => by
    obtain ⟨a, vs, rfl, hl, ds⟩ := dn.of_tup
    cases r
    obtain ⟨its, rv, ⟨o, ho, hc, m, hd⟩, _⟩ := I.tuple hl
    have len : its.length = xs.length := rv.length.symm.trans ds.1
    obtain ⟨as, ra, na⟩ := readsAll_of (n := n) len fun i u d hu hd' => by
      obtain ⟨v, hv, rr⟩ := vals_get rv hu
      exact readsD I sy n d v u (ds.2 i v d hv hd') rr (List.all_eq_true.mp h d (List.mem_of_getElem? hd'))
    exact ⟨as, .tuple ho hc hd (by simpa using ra), na⟩
  | n + 1, .dic kds, v, u, dn, r, h => by
    obtain ⟨a, kvs, rfl, hl, ds⟩ := dn.of_dic
    cases r
    obtain ⟨_, hsys, vs, rel, o, es, ep, ho, hx, hd, _, hp, _⟩ : ObjOk X.prog X.w H s.heap a (.dK kvs) := hl.elim (fun e => I.hok a _ e) (fun ⟨o, e⟩ => (I.hok a _ e).2)
    obtain ⟨p1, p2, p3⟩ := pairs_at hp
    obtain ⟨l1, rel2⟩ := paired_at rel
    have l2 : kvs.length = kds.length := ds.1
    have kk : ∀ (i : Nat) (q : Key × D), kds[i]? = some q → ∃ p : Key × V, kvs[i]? = some p ∧ p.1 = q.1 ∧ Den X.K H p.2 q.2 := fun i q hq => by
      obtain ⟨p, hp, e1, e2⟩ := ds.get hq
      exact ⟨p, hp, e1, e2⟩
    obtain ⟨as, ra, na⟩ := readsKeys (h := s.heap) (us := es.toList.map (·.key)) (ks := kds.map (·.1)) (by rw [p1, List.length_map, ← l1, l2]) fun i u k hu hk => by
      rw [List.getElem?_map] at hk
      obtain ⟨q, hq, rfl⟩ := Option.map_eq_some_iff.mp hk
      obtain ⟨p, hp', e1, _⟩ := kk i q hq
      have hi : i < vs.length := by rw [← l1]; exact (List.getElem?_eq_some_iff.mp hp').1
      have hw := List.getElem?_eq_getElem hi
      have e2 := (rel2 i p _ hp' hw).1
      have := p3 i u _ hu hw
      rw [← e2, e1] at this
      exact this
    obtain ⟨bs, rb, nb⟩ := readsAll_of (h := s.heap) (n := n) (us := es.toList.map (·.val)) (ds := kds.map (·.2)) (by rw [p2, List.length_map, List.length_map, ← l1, l2]) fun i u d hu hd' => by
      rw [p2, List.getElem?_map] at hu
      obtain ⟨w, hw, rfl⟩ := Option.map_eq_some_iff.mp hu
      rw [List.getElem?_map] at hd'
      obtain ⟨q, hq, rfl⟩ := Option.map_eq_some_iff.mp hd'
      obtain ⟨p, hp', e1, e2⟩ := kk i q hq
      have := List.all_eq_true.mp h q (List.mem_of_getElem? hq)
      rw [Bool.and_eq_true] at this
      exact readsD I sy n q.2 p.2 w.2 e2 (rel2 i p w hp' hw).2 this.2
    refine ⟨_, .dict (kvs := kds.map fun p : Key × D => (keyPy p.1, D.pyd n p.2)) (as := as) (bs := bs) ho hx.1 hd (by simpa [List.map_map, Function.comp_def] using ra) (by simpa [List.map_map, Function.comp_def] using rb), ?_⟩
    rw [List.mem_append, List.mem_cons]
    rintro ((e | e) | e)
    · rw [← e] at hsys; simp at hsys
    · exact na e
    · exact nb e
  | 0, .ins _ _, _, _, _, _, h => by cases h
  | 0, .ty _, _, _, _, _, h => by cases h
  | 0, .exc _ _ _, _, _, _, _, h => by cases h
  | 0, .dct _ _, _, _, _, _, h => by cases h
  | 0, .dcm _ _, _, _, _, _, h => by cases h
  | 0, .obx _ _, _, _, _, _, h => by cases h
  | n + 1, .ins _ _, _, _, _, _, h => by cases h
  | n + 1, .ty _, _, _, _, _, h => by cases h
  | n + 1, .exc _ _ _, _, _, _, _, h => by cases h
  | n + 1, .dct _ _, _, _, _, _, h => by cases h
  | n + 1, .dcm w kds, v, u, dn, r, h => by
    obtain ⟨a, ob, kvs, rfl, hl, ds⟩ := dn.of_dcm
    cases r
    obtain ⟨⟨ho, ⟨ea, ep, hx, hd, hp, _⟩, hsys⟩, _⟩ : ObjOk X.prog X.w H s.heap a (MixO w a ob kvs) := I.hok a _ hl
    obtain ⟨l1, rel⟩ := paired_at hp
    have l2 : kvs.length = kds.length := ds.1
    have l3 : ea.toList.length = kds.length := l1.symm.trans l2
    have kk : ∀ (i : Nat) (q : D × D) (e : DictEntry), kds[i]? = some q → ea.toList[i]? = some e → ∃ p : NestedKey × V × V, Den X.K H p.2.1 q.1 ∧ Den X.K H p.2.2 q.2 ∧ RelV p.2.1 e.key ∧ RelV p.2.2 e.val := fun i q e hq he => by
      obtain ⟨p, hp', _, e1, e2⟩ := ds.get hq
      have m := rel i p e hp' he
      exact ⟨p, e1, e2, m.2.1, m.2.2⟩
    obtain ⟨as, ra, na⟩ := readsAll_of (h := s.heap) (n := n) (us := ea.toList.map (·.key)) (ds := kds.map (·.1)) (by rw [List.length_map, List.length_map, l3]) fun i u d hu hd' => by
      rw [List.getElem?_map] at hu hd'
      obtain ⟨e, he, rfl⟩ := Option.map_eq_some_iff.mp hu
      obtain ⟨q, hq, rfl⟩ := Option.map_eq_some_iff.mp hd'
      obtain ⟨p, e1, e2, r1, r2⟩ := kk i q e hq he
      have := List.all_eq_true.mp h q (List.mem_of_getElem? hq)
      rw [Bool.and_eq_true] at this
      exact readsD I sy n q.1 p.2.1 e.key e1 r1 this.1
    obtain ⟨bs, rb, nb⟩ := readsAll_of (h := s.heap) (n := n) (us := ea.toList.map (·.val)) (ds := kds.map (·.2)) (by rw [List.length_map, List.length_map, l3]) fun i u d hu hd' => by
      rw [List.getElem?_map] at hu hd'
      obtain ⟨e, he, rfl⟩ := Option.map_eq_some_iff.mp hu
      obtain ⟨q, hq, rfl⟩ := Option.map_eq_some_iff.mp hd'
      obtain ⟨p, e1, e2, r1, r2⟩ := kk i q e hq he
      have := List.all_eq_true.mp h q (List.mem_of_getElem? hq)
      rw [Bool.and_eq_true] at this
      exact readsD I sy n q.2 p.2.2 e.val e2 r2 this.2
    refine ⟨_, .dict (kvs := kds.map fun p : D × D => (D.pyd n p.1, D.pyd n p.2)) (as := as) (bs := bs) ho hx.1 hd (by simpa [List.map_map, Function.comp_def] using ra) (by simpa [List.map_map, Function.comp_def] using rb), ?_⟩
    rw [List.mem_append, List.mem_cons]
    rintro ((e | e) | e)
    · rw [← e] at hsys; simp at hsys
    · exact na e
    · exact nb e
  | n + 1, .obx _ _, _, _, _, _, h => by cases h
end
end DL
namespace DL
open PySem PySem.Spec L2
variable [TabsC]
section
variable {X : Cx}
def rReprX (K : PySem.W.Frag) : List V → Hp → VK → Prop := fun xs H Q => ∃ (x : V) (d : D), xs = [x] ∧ Den K H x d ∧ d.FitsD 16000000 ∧ Q (.str (D.pyd 60 d).shown) H
theorem call_reprX (hq : Quiet X.A) (hu : X.A.units + 64 < cLine) (sy : sysB X.K = true) : CallR X (.builtin "repr") (rReprX X.K) := by
  intro pins s σ H xs us Q I r h
  obtain ⟨x, d, rfl, dn, hf, q⟩ := h
  obtain ⟨u, rfl, rx⟩ := vals1 r
  obtain ⟨hs, hl⟩ := FitsD.shown hf
  have hw : (D.pyd 60 d).shown.length ≤ sizeLine := Nat.le_trans hl (by rw [sizeLine_eq]; omega)
  obtain ⟨as, rd, ns⟩ := readsD I sy 60 d x u dn rx hf.1
  have dep := pyd_depth 60 d
  have fin : ∀ (y : Str) (t : Tok) (tk : Nat), y = (D.pyd 60 d).shown → EP X pins σ Q (.str y t) { s with toks := tk } := fun y t tk e => ⟨.str y, H, I.tok tk, ⟨t, rfl⟩, by rw [e]; exact q⟩
  cases dn with
  | non => obtain rfl : u = Value.none := rx; exact P.repr_of_none (fin _ _ _ (by simp only [D.pyd, PyData.shown]))
  | bl b => obtain rfl : u = Value.bool b := rx; exact P.repr_of_bool (fin _ _ _ (by cases b <;> simp [D.pyd, PyData.shown]))
  | int i =>
    obtain ⟨t, rfl⟩ := rx
    refine P.repr_of_int ?_ (fin _ _ _ (by simp only [D.pyd, PyData.shown]))
    simp only [D.pyd, PyData.showable] at hs
    exact of_decide_eq_true hs
  | str z =>
    obtain ⟨t, rfl⟩ := rx
    refine P.repr_of_str (fin _ _ _ (by simp only [D.pyd, PyData.shown])) ?_
    simp only [D.pyd, PyData.shown] at hw
    exact hw
  | ty m => cases hf.1
  | exc a d fs => cases hf.1
  | dct w kds => cases hf.1
  | dcm h l k n e =>
    cases rx
    exact repr_of_reads' rd hs (fun _ => ns) hq (by omega) (fun _ _ z => z) (fun h' t tk k => ⟨.str _, H, I.kept k, ⟨t, rfl⟩, q⟩) hw
  | obx C a => cases hf.1
  | ins _ _ _ _ => cases hf.1
  | dic h l k e =>
    cases rx
    exact repr_of_reads' rd hs (fun _ => ns) hq (by omega) (fun _ _ z => z) (fun h' t tk k => ⟨.str _, H, I.kept k, ⟨t, rfl⟩, q⟩) hw
  | lst h l e =>
    cases rx
    exact repr_of_reads' rd hs (fun _ => ns) hq (by omega) (fun _ _ z => z) (fun h' t tk k => ⟨.str _, H, I.kept k, ⟨t, rfl⟩, q⟩) hw
  | tup h l e =>
    cases rx
    exact repr_of_reads' rd hs (fun _ => ns) hq (by omega) (fun _ _ z => z) (fun h' t tk k => ⟨.str _, H, I.kept k, ⟨t, rfl⟩, q⟩) hw
def bReprXF : List D → Option R
  | [d] => if d.FitsD 16000000 then some (.val (.str (D.pyd 60 d).shown)) else none
  | _ => none
def bReprX : List D → (R → Prop) → Prop
  | [d], P => d.FitsD 16000000 ∧ P (.val (.str (D.pyd 60 d).shown))
  | _, _ => False
theorem cl_reprX {K : PySem.W.Frag} : CallLook K (rReprX K) bReprX := fun C σ H G W δ vs ds P Q I a hg k => by
  match ds, hg with
  | [d], ⟨h1, h2⟩ =>
    obtain ⟨v, rfl, s⟩ := one_of a
    exact ⟨v, d, rfl, s.den I.gh, h1, k _ _ H G W h2 (Ex.refl G) I (Den.str _)⟩
theorem bs_reprX : BS bReprXF bReprX := fun ds r P h hp => by
  unfold bReprXF at h
  split at h
  · split at h
    · cases h; exact ⟨by assumption, hp⟩
    · cases h
  · cases h
end
end DL
namespace DL
open PySem PySem.Spec L2
variable [TabsC]
theorem BagT.back {bo : Option Addr} {G G' H H' : Hp} (B : BagT bo H G H) (B' : BagT bo H G' H') (x : Ex G G') : BagT bo H G H' := by
  refine ⟨fun b hb => ?_, B'.bs, B'.sc, B'.tb, B.ng, B'.nl⟩
  obtain ⟨gb, x0, y0, z0, c0, ns, h1, h2, h3⟩ := B.of b hb
  obtain ⟨_, x1, y1, z1, c, ns', h1', h2', h3'⟩ := B'.of b hb
  obtain rfl := B'.sc b x0 y0 z0 c0 x1 y1 z1 c hb h1 h1'
  have e := x _ _ h2
  rw [h2'] at e
  exact ⟨gb, x1, y1, z1, c, ns', h1', by rw [h2, ← e], h3'⟩
theorem Fin.back {bo : Option Addr} {G G2 G' H H' : Hp} (f : Fin bo none G2 H G' H') (x : Ex G G2) (B : BagT bo H G H) : Fin bo none G H G H' :=
  ⟨Ex.refl G, (x.trans f.ex).trans f.gh, f.hh, fun _ _ => rfl, B.back f.bag (x.trans f.ex), fun p z => by cases z⟩
section
variable {X : Cx} {L : Lk} {k : Nat} {f : Addr} {fd : FuncData} {ps : List Str} {S : DSp} {x : Str} {p pos : Pos} {e : Expr} {es : List Expr} {da : DA}
end
section
variable {X : Cx} {L : Lk} {k : Nat} {ps : List Str} {m : FM} {y : Str} {p pos : Pos} {e : Expr} {es : List Expr} {fa : FA} {x : Lx} {n : Nat}
end
section
variable {m : FM} {fA : FA} {δ δ' : List R} {rs : List R} {b : Bool} {n : Int} {z : Str}
end
end DL
namespace DL
open PySem PySem.Spec L2
variable [TabsC]
open Classical in
noncomputable def Ct.len (C : Ct) (p : Addr) (H : Hp) : Ct := { C with mo := some p, lk := false, H0 := fun a => if a = p ∨ C.mo = some a then H a else C.H0 a }
section
variable {K : PySem.W.Frag} {C : Ct} {σ σ' : St} {H H' G G' : Hp} {W W' : Ow} {δ δ' : List R} {p : Addr} {d : D} {j : Nat}
end
end DL
namespace DL
open PySem PySem.Spec L2
variable [TabsC]
section
variable {X : Cx} {K : PySem.W.Frag}
theorem op_isBl : OpR X (compareOp .Is) (fun x y H Q => ∃ a b, x = .bl a ∧ y = .bl b ∧ Q (.bl (decide (a = b))) H) := by
  intro pins s σ H x y v u Q I rx ry h
  obtain ⟨a, b, rfl, rfl, q⟩ := h
  cases (show v = Value.bool a from rx)
  cases (show u = Value.bool b from ry)
  exact wpAny_is_plain rfl (fin_bl I q (by cases a <;> cases b <;> rfl))
def cIsB : D → D → Bool → Prop := fun d e b => ∃ x y, d = .bl x ∧ e = .bl y ∧ b = decide (x = y)
theorem cs_isB : CmpSem K (fun x y H Q => ∃ a b, x = .bl a ∧ y = .bl b ∧ Q (.bl (decide (a = b))) H) cIsB := fun H x y d1 d2 b Q h1 h2 hc q => by
  obtain ⟨a, b, rfl, rfl, rfl⟩ := hc
  exact ⟨a, b, h1.of_bl, h2.of_bl, q⟩
def cIsBF : D → D → Option Bool
  | .bl x, .bl y => some (decide (x = y))
  | _, _ => none
theorem cs_isB' : CS cIsBF cIsB := fun d1 d2 b h => by
  unfold cIsBF at h
  split at h
  · cases h; exact ⟨_, _, rfl, rfl, rfl⟩
  · cases h
variable {L : Lk} {a b : Expr} {fa fb : FE} {pos : Pos}
theorem fe_isB (ha : HE X L a fa) (hb : HE X L b fb) : HE X L (.Compare a [.Is] [b] pos) (fCmp cIsBF fa fb) := fe_cmp cs_isB' op_isBl cs_isB ha hb (nomark _)
end
section
variable {X : Cx} {L : Lk} {e : Expr} {fe : FE}
end
section
variable {j k : Nat} {ms : List Bool} {fe : FE} {δ : List R} {d : D}
end
end DL
namespace DL
open PySem PySem.Spec L2
open PySem.SeqAt (RcNeAt)
variable [TabsC]
section
variable {X : Cx} {K : PySem.W.Frag}
def rNeNil (K : PySem.W.Frag) : R2 := fun x y H Q => ∃ a b xs, x = .ref a ∧ y = .ref b ∧ SqL K H a xs ∧ SqL K H b [] ∧ Q (.bl (!xs.isEmpty)) H
theorem op_neNil (hu : X.A.units < cLine) : OpR X (compareOp .NotEq) (rNeNil X.K) := by
  intro pins s σ H x y v u Q I rx ry h
  obtain ⟨a, b, xs, rfl, rfl, ha, hb, q⟩ := h
  cases (show v = Value.ref a from rx)
  cases (show u = Value.ref b from ry)
  obtain ⟨us, r1, p1, _⟩ := I.list ha
  obtain ⟨ws, r2, p2, _⟩ := I.list hb
  cases r2
  have key : RcNeAt X.A s (.ref a) (.ref b) (!xs.isEmpty) := by
    cases xs with
    | nil =>
      cases r1
      exact RcNeAt.lists (e := fun _ => true) p1.isList p2.isList rfl hu (fun j h1 _ => absurd h1 (Nat.not_lt_zero j))
    | cons x xs =>
      cases r1
      exact RcNeAt.lists_lengths p1.isList p2.isList (by simp) hu
  exact key X.prog X.w _ _ ⟨.bl _, H, I, rfl, q⟩
def cNeNil : D → D → Bool → Prop := fun d e b => ∃ ds, d = .lst ds ∧ e = .lst [] ∧ b = !ds.isEmpty
theorem cs_neNil : CmpSem K (rNeNil K) cNeNil := fun H x y d1 d2 b Q h1 h2 hc q => by
  obtain ⟨ds, rfl, rfl, rfl⟩ := hc
  cases h1 with
  | @lst a1 vs1 _ k1 l1 _ =>
    cases h2 with
    | @lst a2 vs2 _ k2 l2 _ =>
      have : vs2 = [] := List.length_eq_zero_iff.mp l2
      subst this
      refine ⟨a1, a2, vs1, rfl, rfl, .of k1, .of k2, ?_⟩
      have : vs1.isEmpty = ds.isEmpty := by cases vs1 <;> cases ds <;> first | rfl | simp at l1
      rw [this]
      exact q
def cNeNilF : D → D → Option Bool
  | .lst ds, .lst [] => some (!ds.isEmpty)
  | _, _ => none
theorem cs_neNil' : CS cNeNilF cNeNil := fun d1 d2 b h => by
  unfold cNeNilF at h
  split at h
  · cases h; exact ⟨_, rfl, rfl, rfl⟩
  · cases h
variable {L : Lk} {a b : Expr} {fa fb : FE} {pos : Pos}
theorem fe_neNil (hu : X.A.units + 64 < cLine) (ha : HE X L a fa) (hb : HE X L b fb) : HE X L (.Compare a [.NotEq] [b] pos) (fCmp cNeNilF fa fb) := fe_cmp cs_neNil' (op_neNil (by omega)) cs_neNil ha hb (nomark _)
theorem ft_neNil (hu : X.A.units + 64 < cLine) (ha : HE X L a fa) (hb : HE X L b fb) : HT' X L (.Compare a [.NotEq] [b] pos) (fTst (fCmp cNeNilF fa fb)) := ft_cmp cs_neNil' (op_neNil (by omega)) cs_neNil ha hb (nomark _)
theorem z_neN {ds : List D} : cNeNilF (.lst ds) (.lst []) = some (!ds.isEmpty) := (rfl)
end
end DL
set_option maxHeartbeats 1000000
namespace DL
open PySem PySem.Spec L2
mutual
theorem of_nk : ∀ (k : NestedKey) (d : D), nkOf d = some k → d = nkD k
  | .none, d, h => by
    cases d with
    | tup ds => simp only [nkOf, Option.map_eq_some_iff] at h; obtain ⟨_, _, e⟩ := h; cases e
    | _ => simp_all [nkOf, nkD]
  | .num i, d, h => by
    cases d with
    | tup ds => simp only [nkOf, Option.map_eq_some_iff] at h; obtain ⟨_, _, e⟩ := h; cases e
    | _ => simp_all [nkOf, nkD]
  | .text x, d, h => by
    cases d with
    | tup ds => simp only [nkOf, Option.map_eq_some_iff] at h; obtain ⟨_, _, e⟩ := h; cases e
    | _ => simp_all [nkOf, nkD]
  | .tup ks, d, h => by
    cases d with
    | tup ds =>
      simp only [nkOf, Option.map_eq_some_iff] at h
      obtain ⟨ls, e1, e2⟩ := h
      injection e2 with e2
      subst e2
      rw [nkD, of_nks ls ds e1]
    | _ => simp_all [nkOf, nkD]
theorem of_nks : ∀ (ks : List NestedKey) (ds : List D), nkOfs ds = some ks → ds = nkDs ks
  | [], ds, h => by
    cases ds with
    | nil => rfl
    | cons d ds =>
      simp only [nkOfs, Option.bind_eq_some_iff, Option.map_eq_some_iff] at h
      obtain ⟨_, _, _, _, e⟩ := h
      cases e
  | k :: ks, ds, h => by
    cases ds with
    | nil => simp [nkOfs] at h
    | cons d ds =>
      simp only [nkOfs, Option.bind_eq_some_iff, Option.map_eq_some_iff] at h
      obtain ⟨k', e1, ks', e2, e3⟩ := h
      injection e3 with e3 e4
      subst e3; subst e4
      rw [nkDs, of_nk k' d e1, of_nks ks' ds e2]
end
theorem KeyH.mono {b : Bool} {K : PySem.W.Frag} {G G' : Hp} {k : NestedKey} {v : V} (h : KeyH b K G k v) (x : Ex G G') : KeyH b K G' k v := ⟨h.1.mono x, h.2⟩
section
variable {X : Cx}
end
end DL
set_option maxHeartbeats 1000000
namespace DL
open PySem PySem.Spec L2
abbrev XM := NestedKey × Value × Value
def entM (w : World) (x : XM) : DictEntry := ⟨x.1.hash w, x.2.1, x.2.2⟩
def KeysM (h : Heap) (xs : List XM) : Prop := ∀ x ∈ xs, NestedIs h x.1 x.2.1 ∧ x.1.depth ≤ 8
def ObjM (w : World) (o : Obj) (xs : List XM) : Prop := ∃ (ea : Array DictEntry) (ep : Nat), o.ExactDict ∧ o.data = .dict ea ep ∧ ea.toList = xs.map (entM w) ∧ (xs.map (·.1)).Nodup
def setX (k : NestedKey) (v : Value) (x : XM) : XM := if x.1 = k then (x.1, x.2.1, v) else x
def putX (xs : List XM) (k : NestedKey) (key v : Value) : List XM := if k ∈ xs.map (·.1) then xs.map (setX k v) else xs ++ [(k, key, v)]
def putsX (xs : List XM) (ps : List XM) : List XM := ps.foldl (fun a p => putX a p.1 p.2.1 p.2.2) xs
theorem putX_len (xs : List XM) (k : NestedKey) (key v : Value) : (putX xs k key v).length ≤ xs.length + 1 := by
  unfold putX; split <;> simp
theorem putsX_len : ∀ (ps xs : List XM), (putsX xs ps).length ≤ xs.length + ps.length
  | [], xs => Nat.le_refl _
  | p :: ps, xs => by
    have a := putsX_len ps (putX xs p.1 p.2.1 p.2.2)
    have b := putX_len xs p.1 p.2.1 p.2.2
    show (putsX (putX xs p.1 p.2.1 p.2.2) ps).length ≤ _
    rw [List.length_cons]
    omega
theorem putsX_take {xs ps : List XM} {i : Nat} {p : XM} (h : ps[i]? = some p) : putsX xs (ps.take (i + 1)) = putX (putsX xs (ps.take i)) p.1 p.2.1 p.2.2 := by
  unfold putsX
  rw [List.take_add_one, h, List.foldl_append]
  rfl
theorem keys_setX (xs : List XM) (k : NestedKey) (v : Value) : (xs.map (setX k v)).map (·.1) = xs.map (·.1) := by
  rw [List.map_map]
  exact List.map_congr_left fun x _ => by show (setX k v x).1 = x.1; unfold setX; split <;> rfl
theorem KeysM.put {h : Heap} {xs : List XM} {k : NestedKey} {key v : Value} (a : KeysM h xs) (b : NestedIs h k key) (d : k.depth ≤ 8) : KeysM h (putX xs k key v) := fun x hx => by
  unfold putX at hx
  split at hx
  · obtain ⟨y, hy, rfl⟩ := List.mem_map.mp hx
    have := a y hy
    unfold setX
    split <;> exact this
  · rcases List.mem_append.mp hx with hx | hx
    · exact a x hx
    · cases List.mem_singleton.mp hx; exact ⟨b, d⟩
theorem KeysM.puts {h : Heap} : ∀ {ps xs : List XM}, KeysM h xs → KeysM h ps → KeysM h (putsX xs ps)
  | [], _, a, _ => a
  | p :: ps, _, a, b => KeysM.puts (ps := ps) (a.put (b p (List.mem_cons_self ..)).1 (b p (List.mem_cons_self ..)).2) fun x hx => b x (List.mem_cons_of_mem _ hx)
theorem nested_keep {h h' : Heap} {d : Addr} {od : Obj} {ea : Array DictEntry} {ep : Nat} (hd : h.get? d = some od) (hdat : od.data = .dict ea ep) (k : ∀ b o, b ≠ d → h.get? b = some o → h'.get? b = some o) {x : NestedKey} {v : Value} (n : NestedIs h x v) : NestedIs h' x v :=
  NestedIs.at (fun a o vs m ha hs => k a o (fun e => by subst e; rw [hd] at ha; cases ha; rw [hdat] at hs; cases hs) ha) x v n
theorem KeysM.keep {h h' : Heap} {xs : List XM} (a : KeysM h xs) (k : ∀ b o vs n, h.get? b = some o → o.data = .seq vs n → h'.get? b = some o) : KeysM h' xs := fun x hx => ⟨NestedIs.at k _ _ (a x hx).1, (a x hx).2⟩
theorem keyE_of {w : World} {h : Heap} {xs : List XM} (a : KeysM h xs) : Paired (KeyE w h) (xs.map (·.1)) (xs.map (entM w)) := by
  induction xs with
  | nil => exact .nil
  | cons x xs ih => exact .cons ⟨rfl, (a x (List.mem_cons_self ..)).1, (a x (List.mem_cons_self ..)).2⟩ (ih fun y hy => a y (List.mem_cons_of_mem _ hy))
theorem nodup_put {xs : List XM} {k : NestedKey} {key v : Value} (h : (xs.map (·.1)).Nodup) : ((putX xs k key v).map (·.1)).Nodup := by
  unfold putX
  split
  · rw [keys_setX]; exact h
  · rename_i hk
    rw [List.map_append, List.nodup_append]
    exact ⟨h, by simp, fun a ha b hb e => by
      simp only [List.map_cons, List.map_nil, List.mem_singleton] at hb
      exact hk (by rw [← hb, ← e]; exact ha)⟩
theorem set_at {w : World} {k : NestedKey} {v : Value} : ∀ {xs : List XM} {j : Nat}, (xs.map (·.1)).Nodup → (xs.map (·.1))[j]? = some k → (xs.map (entM w)).modify j (fun e => { e with val := v }) = (xs.map (setX k v)).map (entM w)
  | [], j, _, h => by simp at h
  | x :: xs, 0, n, h => by
    simp only [List.map_cons, List.getElem?_cons_zero, Option.some.injEq] at h
    rw [List.map_cons, List.nodup_cons] at n
    have e : xs.map (setX k v) = xs := by
      refine (List.map_congr_left fun y hy => ?_).trans (List.map_id _)
      show setX k v y = y
      unfold setX
      rw [if_neg]
      rintro rfl
      exact n.1 (by rw [h]; exact List.mem_map_of_mem hy)
    rw [List.map_cons, List.map_cons, List.map_cons, e]
    show _ :: _ = _ :: _
    congr 1
    unfold setX
    rw [if_pos h]
    rfl
  | x :: xs, j + 1, n, h => by
    simp only [List.map_cons, List.getElem?_cons_succ] at h
    rw [List.map_cons, List.nodup_cons] at n
    have ne : ¬ x.1 = k := fun e => n.1 (by rw [e]; exact List.mem_of_getElem? h)
    rw [List.map_cons, List.map_cons, List.map_cons]
    show entM w x :: (xs.map (entM w)).modify j _ = _ :: _
    rw [set_at n.2 h]
    congr 1
    unfold setX
    rw [if_neg ne]
section
variable {prog : Program} {w : World} {A : Around} {E : Value → Shared → Prop} {s : Shared} {d : Addr} {o : Obj} {xs : List XM} {k : NestedKey} {key : Value}
theorem get_mix {v : Value} {Q : Option Value → Shared → Prop} (hu : A.units + 8 < cLine) (hk : NestedIs s.heap k key) (dk : k.depth ≤ 8) (ho : s.heap.get? d = some o) (hm : ObjM w o xs) (hx : KeysM s.heap xs) (he : (k, key, v) ∈ xs ∨ ∃ key', (k, key', v) ∈ xs)
    (h : Q (some v) { s with toks := s.toks + k.draws }) : wpAny (model prog w) A (dictGet d key) Q E s := by
  obtain ⟨ea, ep, hc, hd, hl, hn⟩ := hm
  obtain ⟨key', he⟩ : ∃ key', (k, key', v) ∈ xs := he.elim (fun z => ⟨_, z⟩) id
  unfold dictGet
  try with_reducible refine wpAny_holding ?_
  refine wpAny_bind (pyHash_key k key A s _ hk (by omega) (wpAny_bind (find_mix (s := { s with toks := s.toks + k.draws }) hu hk dk ho hd (by rw [hl]; exact keyE_of hx) hn ?_ ?_)))
  · intro hno
    exact absurd (List.mem_map_of_mem he) hno
  · intro j hj
    refine wpAny_bind (wpAny_dictEntries (s := { s with toks := s.toks + k.draws }) ho hd ?_)
    obtain ⟨x, h1, h2⟩ : ∃ x, xs[j]? = some x ∧ x.1 = k := by
      rw [List.getElem?_map] at hj
      exact Option.map_eq_some_iff.mp hj
    have e : x = (k, key', v) := by
      obtain ⟨i, hi⟩ := List.mem_iff_getElem?.mp he
      have a1 : (xs.map (·.1))[i]? = some k := by rw [List.getElem?_map, hi]; rfl
      have := nodup_at hn a1 hj
      subst this
      rw [hi] at h1
      exact (Option.some.inj h1).symm
    have : ea[j]? = some (entM w x) := by rw [← Array.getElem?_toList, hl, List.getElem?_map, h1]; rfl
    rw [this, e]
    exact wpAny_pure h
theorem getItem_mix {v : Value} {Q : Value → Shared → Prop} (hu : A.units + 9 < cLine) (hk : NestedIs s.heap k key) (dk : k.depth ≤ 8) (ho : s.heap.get? d = some o) (hm : ObjM w o xs) (hx : KeysM s.heap xs) (he : ∃ key', (k, key', v) ∈ xs)
    (h : Q v { s with toks := s.toks + k.draws }) : wpAny (model prog w) A (getItem (.ref d) key) Q E s := by
  have hT : s.TypeIs (.ref d) "dict" := let ⟨_, _, hc, _⟩ := hm; ⟨o, ho, hc.1⟩
  unfold getItem
  try with_reducible refine wpAny_holding ?_
  refine wpAny_bind (wpAny_sequenceKey hT (by decide) ?_)
  refine wpAny_bind (wpAny_callSpecial?_slot (name := Str.ofString "__getitem__") hT F.slot_dict_getitem (wpAny_call_entry F.slot_dict_getitem hT F.entry_dict_getitem ?_ (F.args_dict_getitem_2 _ _)))
  show wpAny _ _ (dictGet d key >>= _) _ _ s
  exact wpAny_bind (get_mix (by rw [Around.in1_units]; omega) hk dk ho hm hx (.inr he) (wpAny_pure ⟨v, rfl, wpAny_pure h⟩))
theorem set_mix {v : Value} {Q : Unit → Shared → Prop} (hu : A.units + 8 < cLine) (hk : NestedIs s.heap k key) (dk : k.depth ≤ 8) (ho : s.heap.get? d = some o) (hm : ObjM w o xs) (hx : KeysM s.heap xs) (hz : xs.length ≤ sizeLine)
    (hQ : ∀ h' o', h'.get? d = some o' → ObjM w o' (putX xs k key v) → Heap.SameBut d s.heap h' → Q () { s with heap := h', toks := s.toks + k.draws }) : wpAny (model prog w) A (dictSet d key v) Q E s := by
  obtain ⟨ea, ep, hc, hd, hl, hn⟩ := hm
  have hsz : ea.size = xs.length := by rw [← Array.length_toList, hl, List.length_map]
  unfold dictSet
  try with_reducible refine wpAny_holding ?_
  refine wpAny_bind (pyHash_key k key A s _ hk (by omega) ?_)
  unfold dictSetHashed
  try with_reducible refine wpAny_holding ?_
  refine wpAny_bind (find_mix (s := { s with toks := s.toks + k.draws }) hu hk dk ho hd (by rw [hl]; exact keyE_of hx) hn ?_ ?_)
  · intro hno
    refine wpAny_bind (wpAny_rule (wpAny_updateDictKeys (hz := by omega) (s := { s with toks := s.toks + k.draws }) ho hd (hQ _ _ (Heap.get?_update_self _ ho (Obj.isFreed_of_dict (Obj.data_mapDictKeys hd _))) ⟨_, ep + 1, hc.mapDictKeys _, Obj.data_mapDictKeys hd _, ?_, nodup_put hn⟩ (Heap.SameBut.update ..))))
    unfold putX
    rw [if_neg hno]
    simp [hl, entM]
  · intro j hj
    refine wpAny_bind (wpAny_rule (wpAny_bind (wpAny_updateDict (s := { s with toks := s.toks + k.draws }) ho hd (wpAny_point (hQ _ _ (Heap.get?_update_self _ ho (Obj.isFreed_of_dict (Obj.data_mapDict hd _))) ⟨_, ep, hc.mapDict _, Obj.data_mapDict hd _, ?_, nodup_put hn⟩ (Heap.SameBut.update ..))))))
    unfold putX
    rw [if_pos (List.mem_of_getElem? hj), ← set_at hn hj, ← hl]
    simp
theorem setItem_mix {v : Value} {Q : Unit → Shared → Prop} (hu : A.units + 9 < cLine) (hk : NestedIs s.heap k key) (dk : k.depth ≤ 8) (ho : s.heap.get? d = some o) (hm : ObjM w o xs) (hx : KeysM s.heap xs) (hz : xs.length ≤ sizeLine)
    (hQ : ∀ h' o', h'.get? d = some o' → ObjM w o' (putX xs k key v) → Heap.SameBut d s.heap h' → Q () { s with heap := h', toks := s.toks + k.draws }) : wpAny (model prog w) A (setItem (.ref d) key v) Q E s := by
  have hT : s.TypeIs (.ref d) "dict" := let ⟨_, _, hc, _⟩ := hm; ⟨o, ho, hc.1⟩
  unfold setItem
  try with_reducible refine wpAny_holding ?_
  refine wpAny_bind (wpAny_sequenceKey hT (by decide) ?_)
  refine wpAny_bind (wpAny_callSpecial?_slot (name := Str.ofString "__setitem__") hT F.slot_dict_setitem (wpAny_call_entry F.slot_dict_setitem hT F.entry_dict_setitem ?_ (F.args_dict_setitem_3 _ _ _)))
  show wpAny _ _ (Builtin.Dict.notOrdered "__setitem__" ⟨[.ref d, key, v], []⟩ >>= _) _ _ s
  refine wpAny_bind (wpAny_notOrdered_dict hT ?_)
  show wpAny _ _ (dictSet d key v >>= _) _ _ s
  exact wpAny_bind (set_mix (by rw [Around.in1_units]; omega) hk dk ho hm hx hz fun h' o' a b c => wpAny_pure ⟨.none, rfl, wpAny_pure (hQ h' o' a b c)⟩)
theorem new_mix (h : Heap) : ObjM w { cls := .type "dict", data := .dict #[] } [] := ⟨#[], 0, ⟨rfl, rfl, rfl⟩, rfl, rfl, List.nodup_nil⟩
theorem dict_mix {T : String} {a : Addr} {fp wr : List Addr} {n : Nat} {Rel : Nat → Value → Value → Prop} {OK : Heap → Prop} {ps : List XM} {Q : Value → Shared → Prop} (P : PairArg prog w T a fp wr n Rel OK) (hw : wr = []) (hh : A.handled = none) (hu : A.units + 12 < cLine) (ok : OK s.heap)
    (hc : ps.length = n ∧ ∀ i key v, Rel i key v → ∃ k, ps[i]? = some (k, key, v)) (hx : KeysM s.heap ps) (hz : n ≤ sizeLine)
    (h : ∀ h' tk o', h'.get? s.heap.objs.size = some o' → ObjM w o' (putsX [] ps) → (∀ b o, s.heap.get? b = some o → h'.get? b = some o) → Q (.ref s.heap.objs.size) { s with heap := h', toks := tk }) :
    wpAny (model prog w) A (call (.type "dict") [.ref a]) Q E s := by
  subst hw
  refine call_dict_arg P ok fun s₁ hs₁ hdf ok₁ => ?_
  subst hs₁
  have h1 : ∀ b o, s.heap.get? b = some o → (s.heap.push { cls := .type "dict", data := .dict #[] }).get? b = some o := fun b o e => Heap.get?_push_of_some _ e
  refine updateFrom_arg (A := A.in1) (d := s.heap.objs.size) (Tab := fun i h => (∃ o', h.get? s.heap.objs.size = some o' ∧ ObjM w o' (putsX [] (ps.take i))) ∧ ∀ b o, s.heap.get? b = some o → h.get? b = some o) P .none hh ok₁ hdf ?_ ?_ ?_ ?_ ?_
  · exact ⟨⟨_, Heap.get?_push_size _ rfl, new_mix s.heap⟩, h1⟩
  · exact fun i h ⟨⟨o', e, _⟩, _⟩ => Heap.lt_size e
  · intro i h h' wr' hd hw ⟨⟨o', e, m⟩, kp⟩ hk
    refine ⟨⟨o', hk _ _ hd e, m⟩, fun b o hb => hk b o (fun hm => ?_) (kp b o hb)⟩
    rcases hw b hm with q | q
    · cases q
    · rw [h1 b o hb] at q; cases q
  · intro i key' v' s' Q' E' hi hrel ⟨⟨o', e, m⟩, kp⟩ _ hQ'
    obtain ⟨k', hk'⟩ := hc.2 i key' v' hrel
    have hin := List.mem_of_getElem? hk'
    have nk := (hx _ hin)
    have kx : KeysM s'.heap ps := hx.keep fun b o _ _ e _ => kp b o e
    refine set_mix (by simp only [Around.in1_units]; omega) (NestedIs.at (fun b o _ _ e _ => kp b o e) _ _ nk.1) nk.2 e m ((show KeysM s'.heap [] from fun _ hx => nomatch hx).puts fun x hx => kx x (List.mem_of_mem_take hx)) ?_ ?_
    · have := putsX_len (ps.take i) []
      rw [List.length_take] at this
      simp only [List.length_nil] at this
      omega
    · intro h' o'' e' m' sb
      refine hQ' h' _ ⟨⟨o'', e', by rw [putsX_take hk']; exact m'⟩, fun b o hb => sb.extBut b o (Nat.ne_of_lt (Heap.lt_size hb)) (kp b o hb)⟩ sb
  · intro h' tk ⟨⟨o', e, m⟩, kp⟩ _
    rw [List.take_of_length_le (Nat.le_of_eq hc.1)] at m
    exact ⟨rfl, h h' tk o' e m kp⟩
end
end DL
set_option maxHeartbeats 1000000
namespace DL
open PySem PySem.Spec L2
def DPr (p : NestedKey × Addr × V) (q : NestedKey × Addr × Value) : Prop := p.1 = q.1 ∧ p.2.1 = q.2.1 ∧ RelV p.2.2 q.2.2
def atT (kvs : List (NestedKey × Addr × V)) (k : NestedKey) : Option V := (kvs.find? fun x => decide (x.1 = k)).map (·.2.2)
theorem atT_cons {x : NestedKey × Addr × V} {l : List (NestedKey × Addr × V)} {k : NestedKey} : atT (x :: l) k = if x.1 = k then some x.2.2 else atT l k := by
  unfold atT
  by_cases e : x.1 = k
  · rw [List.find?_cons_of_pos (by simp [e]), if_pos e]; rfl
  · rw [List.find?_cons_of_neg (by simp [e]), if_neg e]
theorem atKey_cons' {x : NestedKey × Addr × Value} {l : List (NestedKey × Addr × Value)} {k : NestedKey} : atKey (x :: l) k = if x.1 = k then some x.2 else atKey l k := by
  unfold atKey
  by_cases e : x.1 = k
  · rw [List.find?_cons_of_pos (by simp [e]), if_pos e]; rfl
  · rw [List.find?_cons_of_neg (by simp [e]), if_neg e]
theorem dpr_find {kvs : List (NestedKey × Addr × V)} {xs : List (NestedKey × Addr × Value)} (h : Paired DPr kvs xs) (k : NestedKey) : (∃ v p, atT kvs k = some v ∧ atKey xs k = some p ∧ RelV v p.2) ∨ (atT kvs k = none ∧ atKey xs k = none) := by
  induction h with
  | nil => exact .inr ⟨rfl, rfl⟩
  | @cons a b l1 l2 r t ih =>
    obtain ⟨r1, r2, r3⟩ := r
    rw [atT_cons, atKey_cons']
    by_cases e : a.1 = k
    · rw [if_pos e, if_pos (r1 ▸ e)]
      exact .inl ⟨_, _, rfl, rfl, r3⟩
    · rw [if_neg e, if_neg (r1 ▸ e)]
      exact ih
theorem dpr_keys {kvs : List (NestedKey × Addr × V)} {xs : List (NestedKey × Addr × Value)} (h : Paired DPr kvs xs) : kvs.map (·.1) = xs.map (·.1) := by
  induction h with
  | nil => rfl
  | cons r t ih => rw [List.map_cons, List.map_cons, r.1, ih]
theorem paired_mem {α β : Type} {F : α → β → Prop} {l1 : List α} {l2 : List β} (h : Paired F l1 l2) : ∀ b ∈ l2, ∃ a ∈ l1, F a b := by
  induction h with
  | nil => exact fun _ h => nomatch h
  | cons r t ih =>
    intro b hb
    rcases List.mem_cons.mp hb with rfl | hb
    · exact ⟨_, List.mem_cons_self, r⟩
    · obtain ⟨a, ha, q⟩ := ih b hb
      exact ⟨a, List.mem_cons_of_mem _ ha, q⟩
def TKey (K : PySem.W.Frag) (H : Hp) (k : NestedKey) (a : Addr) : Prop := Den K H (.ref a) (nkD k) ∧ k.depth ≤ 8
section
variable {X : Cx} {pins : List (Addr × Obj)} {σ : L2.St} {H : Hp} {s : Shared} {D a : Addr} {k : NestedKey} {kvs : List (NestedKey × Addr × V)} {pos apos cpos : Pos}
theorem TKey.is (h : TKey X.K H k a) (I : Inv X pins σ H s) : (nestedKind X.prog X.w).is s.heap k a := ⟨nested_of I k _ _ h.1 rfl, h.2⟩
theorem dct_full (I : Inv X pins σ H s) (hD : H D = some (DctO X.w D kvs)) (hk : ∀ p ∈ kvs, TKey X.K H p.1 p.2.1) : ∃ xs, s.heap.DictOfH (nestedKind X.prog X.w) D xs ∧ Paired DPr kvs xs ∧ (D == sysModules) = false := by
  obtain ⟨⟨o, es, ep, xs, ho, hx, hdat, he, r, hn, n⟩, _⟩ := I.hok D _ hD
  refine ⟨xs, ⟨o, es, ep, ho, hx, hdat, he, fun x hm => ?_, by rw [← dpr_keys r]; exact hn⟩, r, n⟩
  obtain ⟨p, hp, r1, r2, _⟩ := paired_mem r x hm
  have z := (hk p hp).is I
  rw [r1, r2] at z
  exact z
theorem room8 {A : Around} (hu : A.units + 12 < cLine) : (nestedKind X.prog X.w).room A.in1 := by
  show A.in1.units + 8 < cLine
  simp only [Around.in1_units]
  omega
def rInD (w : World) (K : PySem.W.Frag) (neg : Bool) : R2 := fun x y H Q => ∃ D a k kvs, x = .ref a ∧ y = .ref D ∧ H D = some (DctO w D kvs) ∧ (∀ p ∈ kvs, TKey K H p.1 p.2.1) ∧ TKey K H k a ∧ Q (.bl (if neg then !(atT kvs k).isSome else (atT kvs k).isSome)) H
theorem dpr_some {xs : List (NestedKey × Addr × Value)} (h : Paired DPr kvs xs) (k : NestedKey) : (atKey xs k).isSome = (atT kvs k).isSome := by
  rcases dpr_find h k with ⟨v, p, e1, e2, _⟩ | ⟨e1, e2⟩ <;> rw [e1, e2] <;> rfl
theorem op_inD (hu : X.A.units + 12 < cLine) : OpR X (compareOp .In) (rInD X.w X.K false) := by
  intro pins s σ H x y v u Q I rx ry h
  obtain ⟨D, a, k, kvs, rfl, rfl, hD, hk, ka, q⟩ := h
  cases rx
  cases ry
  obtain ⟨xs, hd, r, n⟩ := dct_full I hD hk
  refine wpAny_in_heap (room8 hu) (ka.is I) n hd ⟨.bl _, H, I.tok _, rfl, ?_⟩
  rw [dpr_some r]
  exact q
end
end DL
set_option maxHeartbeats 1000000
namespace DL
open PySem PySem.Spec L2
variable [TabsC]
theorem kOf_nk {d : D} {k : NestedKey} (h : kOf d = some k) : nkOf d = some k ∧ k.depth ≤ 8 := by
  unfold kOf at h
  split at h
  · rename_i ks e
    split at h
    · cases h; exact ⟨e, by assumption⟩
    · cases h
  · cases h
theorem kOf_tup {d : D} {k : NestedKey} (h : kOf d = some k) : ∃ ds, d = .tup ds := by
  have e := of_nk _ _ (kOf_nk h).1
  unfold kOf at h
  split at h
  · rename_i ks e2
    split at h
    · cases h; exact ⟨_, e⟩
    · cases h
  · cases h
section
variable {K : PySem.W.Frag} {G H : Hp}
theorem key_dct {v : V} {d : D} {k : NestedKey} (h : Den K G v d) (e : kOf d = some k) : ∃ a, v = .ref a ∧ TKey K G k a := by
  obtain ⟨ds, rfl⟩ := kOf_tup e
  obtain ⟨a, vs, rfl, _⟩ := h.of_tup
  exact ⟨a, rfl, by rw [← of_nk _ _ (kOf_nk e).1]; exact h, (kOf_nk e).2⟩
theorem DensT.tk {kvs : List (NestedKey × Addr × V)} {kds : List (D × D)} (h : DensT K G kvs kds) (x : Ex G H) : ∀ p ∈ kvs, TKey K H p.1 p.2.1 := fun p hp => by
  obtain ⟨i, hi⟩ := List.mem_iff_getElem?.mp hp
  obtain ⟨q, hq, h1, h2, _⟩ := h.getL hi
  obtain ⟨a, e, t⟩ := key_dct h2 h1
  cases e
  exact ⟨t.1.mono x, t.2⟩
theorem Seen.dct {v : V} {w : World} {kds : List (D × D)} (h : Seen K G H v (.dct w kds)) (x : Ex G H) : ∃ a kvs, v = .ref a ∧ H a = some (DctO w a kvs) ∧ DensT K G kvs kds := by
  rcases h with h | ⟨p, rfl, h | ⟨_, h⟩⟩
  · obtain ⟨a, vs, e, h1, h2⟩ := h.of_dct
    exact ⟨a, vs, e, x _ _ h1, h2⟩
  · obtain ⟨vs, h1, h2⟩ := h
    exact ⟨p, vs, rfl, h1, h2⟩
  · exact h.elim
end
open Classical in
section
variable {X : Cx} {K : PySem.W.Frag} {L : Lk} {pos apos cpos : Pos} {a b e o f : Expr} {fa fb fo fe ff fx : FE} {w : World}
end
section
variable {X : Cx} {L : Lk} {e ix : Expr} {fe fx : FE} {pos px tpos : Pos} {y : Str} {i : Nat} {x : Lx} {δ : List R} {w : World}
end
end DL
set_option maxHeartbeats 1000000
namespace DL
open PySem PySem.Spec L2
variable [TabsC]
theorem Seen.key {K : PySem.W.Frag} {G H : Hp} {v : V} {d : D} {k : NestedKey} (h : Seen K G H v d) (e : kOf d = some k) : ∃ a, v = .ref a ∧ Den K G (.ref a) d ∧ ∀ {H' : Hp}, Ex G H' → TKey K H' k a := by
  rcases h with h | ⟨p', rfl, h | ⟨_, h⟩⟩
  · obtain ⟨a, rfl, tk⟩ := key_dct h e
    exact ⟨a, rfl, h, fun x => ⟨tk.1.mono x, tk.2⟩⟩
  · obtain ⟨ts, rfl⟩ := kOf_tup e
    exact h.elim
  · obtain ⟨ts, rfl⟩ := kOf_tup e
    exact h.elim
section
variable {ww : World} {X : Cx} {K : PySem.W.Frag} {L : Lk} {pos : Pos} {kx vx tg iter : Expr} {ta : DT} {di : DI} {g : DG} {fk fv : FE} {vs : List Nat} {δ : List R} {P : R → List R → Prop} {x : Lx} {t : FT} {fi : FI} {fg : FG}
end
end DL
set_option maxHeartbeats 1000000
namespace DL
open PySem PySem.Spec L2
abbrev VM := NestedKey × V × V
def MKey (K : PySem.W.Frag) (H : Hp) (k : NestedKey) (y : V) : Prop := ∃ d, Den K H y d ∧ kOfM d = some k
def RM (p : VM) (x : XM) : Prop := p.1 = x.1 ∧ RelV p.2.1 x.2.1 ∧ RelV p.2.2 x.2.2
def atM (kvs : List VM) (k : NestedKey) : Option V := (kvs.find? fun x => decide (x.1 = k)).map (·.2.2)
def setM (k : NestedKey) (v : V) (x : VM) : VM := if x.1 = k then (x.1, x.2.1, v) else x
def putM (kvs : List VM) (k : NestedKey) (y v : V) : List VM := if k ∈ kvs.map (·.1) then kvs.map (setM k v) else kvs ++ [(k, y, v)]
def putsM (kvs ps : List VM) : List VM := ps.foldl (fun a p => putM a p.1 p.2.1 p.2.2) kvs
theorem rm_keys {kvs : List VM} {xs : List XM} (h : Paired RM kvs xs) : kvs.map (·.1) = xs.map (·.1) := by
  induction h with
  | nil => rfl
  | cons r t ih => rw [List.map_cons, List.map_cons, ih, r.1]
theorem rm_put {kvs : List VM} {xs : List XM} {k : NestedKey} {y v : V} {u w : Value} (h : Paired RM kvs xs) (ry : RelV y u) (rv : RelV v w) : Paired RM (putM kvs k y v) (putX xs k u w) := by
  unfold putM putX
  rw [rm_keys h]
  by_cases hk : k ∈ xs.map (·.1)
  · rw [if_pos hk, if_pos hk]
    clear hk
    induction h with
    | nil => exact .nil
    | @cons a b l1 l2 r t ih =>
      refine .cons ?_ ih
      unfold setM setX
      by_cases e : a.1 = k
      · rw [if_pos e, if_pos (r.1 ▸ e)]; exact ⟨r.1, r.2.1, rv⟩
      · rw [if_neg e, if_neg (r.1 ▸ e)]; exact r
  · rw [if_neg hk, if_neg hk]
    exact Paired.snoc h ⟨rfl, ry, rv⟩
theorem rm_puts : ∀ {ps : List VM} {qs : List XM} {kvs : List VM} {xs : List XM}, Paired RM kvs xs → Paired RM ps qs → Paired RM (putsM kvs ps) (putsX xs qs)
  | [], _, _, _, h, q => by cases q; exact h
  | p :: ps, _, _, _, h, q => by
    cases q with
    | @cons _ b _ bs r t =>
      have z := rm_puts (rm_put (k := p.1) h r.2.1 r.2.2) t
      show Paired RM (putsM (putM _ p.1 p.2.1 p.2.2) ps) (putsX (putX _ b.1 b.2.1 b.2.2) bs)
      rw [← r.1]
      exact z
theorem mixE_of {w : World} {kvs : List VM} {xs : List XM} (h : Paired RM kvs xs) : Paired (MixE w) kvs (xs.map (entM w)) := by
  induction h with
  | nil => exact .nil
  | cons r t ih => exact .cons ⟨by rw [r.1]; rfl, r.2.1, r.2.2⟩ ih
theorem mixE_to {w : World} {kvs : List VM} {es : List DictEntry} (h : Paired (MixE w) kvs es) : ∃ xs, es = xs.map (entM w) ∧ Paired RM kvs xs := by
  induction h with
  | nil => exact ⟨[], rfl, .nil⟩
  | @cons p e l1 l2 r t ih =>
    obtain ⟨xs, rfl, q⟩ := ih
    obtain ⟨h, key, v⟩ := e
    obtain ⟨r1, r2, r3⟩ := r
    have r1 : h = p.1.hash w := r1
    subst r1
    exact ⟨(p.1, key, v) :: xs, rfl, .cons ⟨rfl, r2, r3⟩ q⟩
theorem mixB_of {w : World} {o : Obj} {kvs : List VM} {xs : List XM} (m : ObjM w o xs) (r : Paired RM kvs xs) : MixB w o kvs := by
  obtain ⟨ea, ep, h1, h2, h3, h4⟩ := m
  exact ⟨ea, ep, h1, h2, by rw [h3]; exact mixE_of r, by rw [rm_keys r]; exact h4⟩
theorem mixO_new {P : Program} {w : World} {H : Hp} {h : Heap} {D : Addr} {o : Obj} {kvs : List VM} {xs : List XM} (ho : h.get? D = some o) (m : ObjM w o xs) (r : Paired RM kvs xs) (n : (D == sysModules) = false) : ObjOk P w H h D (MixO w D o kvs) :=
  ⟨⟨ho, mixB_of m r, n⟩, ⟨o, ho⟩, fun h1 h2 ⟨a, b, c⟩ k => ⟨k o a, b, c⟩⟩
section
variable {X : Cx} {pins : List (Addr × Obj)} {σ : L2.St} {H : Hp} {s : Shared} {D : Addr} {o : Obj} {k : NestedKey} {kvs : List VM} {pos apos cpos : Pos}
theorem MKey.is (I : Inv X pins σ H s) {y : V} {u : Value} (h : MKey X.K H k y) (r : RelV y u) : NestedIs s.heap k u ∧ k.depth ≤ 8 := by
  obtain ⟨d, dn, e⟩ := h
  unfold kOfM at e
  obtain ⟨k', e1, e2⟩ := Option.bind_eq_some_iff.mp e
  split at e2
  · rename_i hd
    cases e2
    refine ⟨?_, hd⟩
    cases d with
    | bl b =>
      cases e1
      rw [dn.of_bl] at r
      cases (show u = Value.bool b from r)
      exact .bool rfl
    | _ => exact nested_of I _ _ _ (by rw [← of_nk _ _ e1]; exact dn) r
  · cases e2
theorem mix_at (I : Inv X pins σ H s) (hD : H D = some (MixO X.w D o kvs)) (hk : ∀ p ∈ kvs, MKey X.K H p.1 p.2.1) : ∃ xs, s.heap.get? D = some o ∧ ObjM X.w o xs ∧ KeysM s.heap xs ∧ Paired RM kvs xs ∧ (D == sysModules) = false := by
  obtain ⟨⟨ho, ⟨ea, ep, h1, h2, h3, h4⟩, n⟩, _⟩ := I.hok D _ hD
  obtain ⟨xs, e, r⟩ := mixE_to h3
  refine ⟨xs, ho, ⟨ea, ep, h1, h2, e, by rw [← rm_keys r]; exact h4⟩, fun x hx => ?_, r, n⟩
  obtain ⟨p, hp, r1, r2, _⟩ := paired_mem r x hx
  have := (hk p hp).is I r2
  rw [r1] at this
  exact this
theorem at_mix {xs : List XM} (r : Paired RM kvs xs) {v : V} (e : atM kvs k = some v) : ∃ key u, (k, key, u) ∈ xs ∧ RelV v u := by
  induction r with
  | nil => cases e
  | @cons p x l1 l2 q t ih =>
    unfold atM at e
    by_cases c : p.1 = k
    · rw [List.find?_cons_of_pos (by simp [c])] at e
      cases e
      obtain ⟨x1, x2, x3⟩ := x
      have q1 : p.1 = x1 := q.1
      rw [c] at q1
      subst q1
      exact ⟨x2, x3, List.mem_cons_self .., q.2.2⟩
    · rw [List.find?_cons_of_neg (by simp [c])] at e
      obtain ⟨key, u, a, b⟩ := ih e
      exact ⟨key, u, List.mem_cons_of_mem _ a, b⟩
def rIxM (w : World) (K : PySem.W.Frag) : R2 := fun x y H Q => ∃ D o k kvs v, x = .ref D ∧ H D = some (MixO w D o kvs) ∧ (∀ p ∈ kvs, MKey K H p.1 p.2.1) ∧ MKey K H k y ∧ atM kvs k = some v ∧ Q v H
theorem ix_mix (hu : X.A.units + 12 < cLine) : IxR X (rIxM X.w X.K) := by
  intro value slice pins s σ H x y v u Q I rx ry h hs
  obtain ⟨D, o, k, kvs, z, rfl, hD, hk, ka, e, q⟩ := h
  cases rx
  obtain ⟨xs, ho, m, kx, r, n⟩ := mix_at I hD hk
  obtain ⟨key, w', hm, rv⟩ := at_mix r e
  have hT : s.TypeIs (.ref D) "dict" := let ⟨_, _, hc, _⟩ := m; ⟨o, ho, hc.1⟩
  obtain ⟨k1, k2⟩ := ka.is I ry
  exact PyProof.Rows.subscriptTail_builtinR (x := w') hT PySem.F.slot_dict_getitem.lookup
    (getItem_mix (Q := fun r s' => r = w' ∧ EP X pins σ Q r s') (by omega) k1 k2 ho m kx ⟨key, hm⟩ ⟨rfl, z, H, I.tok _, rv, q⟩) hs
def rSetM (w : World) (K : PySem.W.Frag) : TSet := fun o i v H Q => ∃ D ob k kvs, o = .ref D ∧ H D = some (MixO w D ob kvs) ∧ (∀ p ∈ kvs, MKey K H p.1 p.2.1) ∧ MKey K H k i ∧ kvs.length ≤ sizeLine ∧ ∀ ob', Q (upd H D (MixO w D ob' (putM kvs k i v)))
theorem set_mixL (hu : X.A.units + 12 < cLine) : PSet X (rSetM X.w X.K) := by
  intro pins s σ H o i v ov iv u Q I ro ri rv h
  obtain ⟨D, ob, k, kvs, rfl, hD, hk, ka, hl, q⟩ := h
  cases ro
  obtain ⟨xs, ho, m, kx, r, n⟩ := mix_at I hD hk
  obtain ⟨k1, k2⟩ := ka.is I ri
  refine setItem_mix (by omega) k1 k2 ho m kx (by rw [← r.length]; exact hl) fun h' o' ho' m' sb => ?_
  exact ⟨_, I.write (x := D) (e := D) (by rw [hD]; exact True.intro) (.inl rfl) (fun b u hb hu => (sb.2 b hb).trans hu) ⟨o', ho'⟩ (mixO_new ho' m' (rm_put r ri rv) n), q o'⟩
theorem storeAll_mix {prog : Program} {w : World} {A : Around} {E : Value → Shared → Prop} {d : Addr} (hu : A.units + 8 < cLine) : ∀ (vs : List (Value × Value)) (ps acc : List XM) (s : Shared) (o : Obj) (Q : PUnit → Shared → Prop), vs = ps.map (·.2) → KeysM s.heap ps → s.heap.get? d = some o → ObjM w o acc → KeysM s.heap acc → acc.length + ps.length ≤ sizeLine →
    (∀ h' tk o', h'.get? d = some o' → ObjM w o' (putsX acc ps) → Heap.SameBut d s.heap h' → Q PUnit.unit { s with heap := h', toks := tk }) →
    wpAny (model prog w) A (forIn vs PUnit.unit fun (x : Value × Value) (_ : PUnit) => (do dictSet d x.1 x.2; pure (ForInStep.yield PUnit.unit) : Sem (ForInStep PUnit))) Q E s
  | _, [], acc, s, o, Q, e, _, ho, hm, _, _, hQ => by
    subst e
    rw [List.map_nil, List.forIn_nil]
    exact wpAny_pure (hQ s.heap s.toks o ho hm (Heap.SameBut.refl _ _))
  | _, p :: ps, acc, s, o, Q, e, hp, ho, hm, ha, hz, hQ => by
    subst e
    rw [List.length_cons] at hz
    rw [List.map_cons, List.forIn_cons]
    obtain ⟨n1, n2⟩ := hp p (List.mem_cons_self ..)
    refine wpAny_bind (wpAny_bind (set_mix hu n1 n2 ho hm ha (by omega) fun h1 o1 ho1 hm1 sb => wpAny_pure ?_))
    obtain ⟨ea, ep, hc, hdat, _, _⟩ := id hm
    have kp : ∀ b ob, b ≠ d → s.heap.get? b = some ob → h1.get? b = some ob := fun b ob hb e => (sb.2 b hb).trans e
    have kk : ∀ {l : List XM}, KeysM s.heap l → KeysM h1 l := fun h x hx => ⟨nested_keep ho hdat kp (h x hx).1, (h x hx).2⟩
    refine storeAll_mix hu _ ps (putX acc p.1 p.2.1 p.2.2) _ o1 Q rfl (kk fun x hx => hp x (List.mem_cons_of_mem _ hx)) ho1 hm1 ((kk ha).put (nested_keep ho hdat kp n1) n2) (by have := putX_len acc p.1 p.2.1 p.2.2; omega) fun h' tk o' e1 e2 e3 => hQ h' tk o' e1 e2 (sb.trans e3)
theorem subDict_mix {prog : Program} {w : World} {A : Around} {E : Value → Shared → Prop} {s : Shared} {pairs : List (Sem Value × Sem Value)} {Q : Addr → Shared → Prop} (hu : A.units + 8 < cLine) (hlen : pairs.length ≤ 15)
    (h : wpAny (model prog w) A (evalPairs pairs) (fun vs s₁ => ∃ (ps : List XM) (o : Obj), vs = ps.map (·.2) ∧ KeysM s₁.heap ps ∧ s₁.heap.get? s.heap.objs.size = some o ∧ ObjM w o [] ∧
      ∀ h' tk o', h'.get? s.heap.objs.size = some o' → ObjM w o' (putsX [] ps) → Heap.SameBut s.heap.objs.size s₁.heap h' → Q s.heap.objs.size { s₁ with heap := h', toks := tk }) E
      { s with heap := s.heap.push { cls := .type "dict", data := .dict #[] } }) :
    wpAny (model prog w) A (subDict pairs) Q E s := by
  unfold subDict
  refine wpAny_bind (wpAny_alloc (wpAny_bind (wpAny_holding ?_)))
  rw [if_pos hlen]
  refine wpAny_bind (wpAny_mono (wpAny_evalPairs_len h) (fun vs s1 hh => ?_) fun _ _ e => e)
  obtain ⟨hl, ps, o, rfl, kp, ho, hm, hQ⟩ := hh
  rw [List.length_map] at hl
  refine wpAny_holding (wpAny_bind (storeAll_mix hu _ ps [] s1 o _ rfl kp ho hm (fun _ hx => nomatch hx) (by rw [sizeLine_eq, List.length_nil]; omega) fun h' tk o' a b c => wpAny_pure (wpAny_pure (hQ h' tk o' a b c))))
def emptyO : Obj := { cls := .type "dict", data := .dict #[] }
def tDispM (w : World) (K : PySem.W.Frag) (trs : List (TE × TE)) : TE := fun σ H Q => ∀ p, H p = none → tPairs trs σ (upd H p (MixO w p emptyO [])) fun ps H2 => H2 p = some (MixO w p emptyO []) ∧ ∃ kvs : List VM, ps = kvs.map (·.2) ∧ (∀ x ∈ kvs, MKey K H2 x.1 x.2.1) ∧ ∀ o', Q (.ref p) (upd H2 p (MixO w p o' (putsM [] kvs)))
theorem vv_rm (I : Inv X pins σ H s) : ∀ {kvs : List VM} {ws : List (Value × Value)}, (∀ x ∈ kvs, MKey X.K H x.1 x.2.1) → VV (kvs.map (·.2)) ws → ∃ xs : List XM, ws = xs.map (·.2) ∧ Paired RM kvs xs ∧ KeysM s.heap xs
  | [], _, _, r => by rw [List.map_nil] at r; cases r; exact ⟨[], rfl, .nil, fun _ h => nomatch h⟩
  | p :: kvs, _, hk, r => by
    rw [List.map_cons] at r
    cases r with
    | @cons a b as bs h t =>
      obtain ⟨xs, rfl, q, kx⟩ := vv_rm I (fun x hx => hk x (List.mem_cons_of_mem _ hx)) t
      refine ⟨(p.1, b.1, b.2) :: xs, rfl, .cons ⟨rfl, h.1, h.2⟩ q, fun x hx => ?_⟩
      rcases List.mem_cons.mp hx with rfl | hx
      · exact (hk p (List.mem_cons_self ..)).is I h.1
      · exact kx x hx
theorem mix_empty {P : Program} {w : World} {H : Hp} (h : Heap) (hb : sysModules < h.objs.size) : ObjOk P w H (h.push emptyO) h.objs.size (MixO w h.objs.size emptyO []) :=
  mixO_new (Heap.get?_push_size _ rfl) (new_mix h) .nil (beq_eq_false_iff_ne.mpr (Ne.symm (Nat.ne_of_lt hb)))
theorem pe_dispM {keys : List (Option Expr)} {values : List Expr} {trs : List (TE × TE)} (hu : X.A.units + 12 < cLine) (h : PPs X pos keys values trs) (hall : keys.all (·.isSome) = true) (hl : keys.length = values.length) (h0 : keys ≠ [])
    (h15 : keys.length ≤ 15) : PE X (.Dict keys values pos) (tDispM X.w X.K trs) := by
  refine ⟨fun pins s σ H Q I q => ?_⟩
  have hn := I.hok.fresh (Nat.le_refl s.heap.objs.size)
  have I1 := I.laid (a := s.heap.objs.size) (o := MixO X.w s.heap.objs.size emptyO []) (h' := s.heap.push emptyO) (t' := s.toks) (fun _ _ q => Heap.get?_push_of_some _ q) (Nat.le_refl _) (mix_empty s.heap I.big)
  have hn2 := pairTrees_length keys values X.env pos hall hl
  rw [arm_eval_Dict, zip_pairTrees keys values X.env pos hall hl, dictDisplay_pairs (pairTrees keys values X.env pos) (fun he => by rw [he] at hn2; exact h0 (List.length_eq_zero_iff.mp hn2.symm)) (by omega)]
  refine wpAny_bind (wpAny_standAt (wpAny_bind (subDict_mix (Q := fun d s' => wpAny (model X.prog X.w) X.A (pure (Value.ref d)) (EP X pins σ Q) X.xe s') (by omega) (by omega) (thn (h.run pins _ σ _ _ I1 (q _ hn)) fun ws s2 ⟨ps, H2, I2, rel, e, kvs, ep, hk, q2⟩ => ?_))))
  subst ep
  obtain ⟨xs, rfl, r, kx⟩ := vv_rm I2 hk rel
  obtain ⟨ys, ho, m, _, rr, n⟩ := mix_at I2 e (fun _ hx => nomatch hx)
  cases rr
  refine ⟨xs, _, rfl, kx, ho, m, fun h' tk o' ho' m' sb => wpAny_pure ⟨.ref s.heap.objs.size, _, ?_, rfl, q2 o'⟩⟩
  exact (I2.write (t' := tk) (x := s.heap.objs.size) (e := s.heap.objs.size) (by rw [e]; exact True.intro) (.inl rfl) (fun b u hb hu => (sb.2 b hb).trans hu) ⟨o', ho'⟩ (mixO_new ho' m' (rm_puts .nil r) n))
theorem pe_dnewM : PE X (.Dict [] [] pos) (fun _ H Q => ∀ p, H p = none → Q (.ref p) (upd H p (MixO X.w p emptyO []))) := ⟨fun pins s σ H Q I h =>
  wpAny_Dict_empty ⟨.ref s.heap.objs.size, _, I.laid (a := s.heap.objs.size) (o := MixO X.w s.heap.objs.size emptyO []) (t' := s.toks) (fun _ _ q => Heap.get?_push_of_some _ q) (Nat.le_refl _) (mix_empty s.heap I.big), rfl, h _ (I.hok.fresh (Nat.le_refl _))⟩⟩
end
end DL
set_option maxHeartbeats 1000000
namespace DL
open PySem PySem.Spec L2
variable [TabsC]
section
variable {X : Cx} {K : PySem.W.Frag} {L : Lk} {pos : Pos} {e elt tg iter : Expr} {de : DE} {ta : DT} {di : DI} {g : DG} {P0 : Program} {w0 : World} {bb : Bool}
structure Mem (b : Bool) (K : PySem.W.Frag) (G : Hp) (acc : List D) (L : List (V × NestedKey)) : Prop where
  key : ∀ p ∈ L, KeyH b K G p.2 p.1
  ks : ∃ ks, nkOfs acc = some ks ∧ ∀ k, k ∈ L.map (·.2) ↔ k ∈ ks
  nd : (L.map (·.2)).Nodup
  len : L.length ≤ acc.length
theorem Mem.mono {b : Bool} {K : PySem.W.Frag} {G G' : Hp} {acc : List D} {L : List (V × NestedKey)} (M : Mem b K G acc L) (x : Ex G G') : Mem b K G' acc L := ⟨fun p hp => (M.key p hp).mono x, M.ks, M.nd, M.len⟩
end
end DL
namespace DL
open PySem PySem.Spec L2
variable [TabsC]
def bIntTF : List D → Option R
  | [.str a] => if a.length ≤ 640 then (PySem.intText? a).map fun n => .val (.int n) else none
  | _ => none
def bStrF : List D → Option R
  | [.str a] => some (.val (.str a))
  | [.int i] => if i.natAbs.log2 < 1920 then some (.val (.str (toString i))) else none
  | _ => none
section
variable {X : Cx} {K : PySem.W.Frag} {L : Lk} {a b : Expr} {fa fb : FE} {pos : Pos}
theorem call_strX : CallR X (.type "str") (fun xs H Q => (∃ a, xs = [.str a] ∧ Q (.str a) H) ∨ ∃ i, xs = [.int i] ∧ i.natAbs.log2 < 1920 ∧ Q (.str (toString i)) H) := by
  intro pins s σ H xs us Q I r h
  rcases h with h | h
  · exact SkE.call_str_str pins s σ H xs us Q I r h
  · exact call_str_int pins s σ H xs us Q I r h
theorem cl_str : CallLook K (fun xs H Q => (∃ a, xs = [.str a] ∧ Q (.str a) H) ∨ ∃ i, xs = [.int i] ∧ i.natAbs.log2 < 1920 ∧ Q (.str (toString i)) H) (bOf bStrF) := fun C σ H G W δ vs ds P Q I a hg k => by
  obtain ⟨r, e, hp⟩ := hg
  match ds, e, a with
  | [.str z], e, a =>
    cases e
    obtain ⟨v, rfl, s⟩ := one_of a
    have := (s.den I.gh).of_str
    subst this
    exact .inl ⟨z, rfl, k _ _ H G W hp (Ex.refl G) I (.str _)⟩
  | [.int i], e, a =>
    have e : (if i.natAbs.log2 < 1920 then some (R.val (.str (toString i))) else none) = some r := e
    split at e
    · cases e
      obtain ⟨v, rfl, s⟩ := one_of a
      have := (s.den I.gh).of_int
      subst this
      exact .inr ⟨i, rfl, by assumption, k _ _ H G W hp (Ex.refl G) I (.str _)⟩
    · cases e
variable {y : Str} {p pos : Pos} {e : Expr} {fA : FA}
theorem fe_strX (ha : HA X L [e] fA) (hg : Gl X "str") (hm : X.mg "str" = none) (hv : bootBuiltins "str" = some (.type "str"))
    (he : starEach [e] X.env = (false, eval e X.env) :: starEach [] X.env := by rfl) (hpl : (backTo pos (starEach [] X.env)).any (·.1) = false := by rfl) : HE X L (.Call (.Name "str" p) [e] [] pos) (fCB bStrF fA) :=
  fe_ct (bs_of (bf := bStrF)) call_strX cl_str hg hm hv ha (by decide) (by decide) he hpl
end
end DL
namespace DL
open PySem PySem.Spec L2
variable [TabsC]
def inTx (i j : Str) : Bool := !(Builtin.Str.occurrences j i 0 j.length 1).isEmpty
def cInSF : D → D → Option Bool
  | .str i, .str j => some (inTx i j)
  | _, _ => none
def signs (x : Str) : List D := x.cps.toList.map fun c => .str ⟨#[c]⟩
def fiStr (fe : FE) : FI := fe.bind fun r => (useF r).bind fun d => match d with
  | .str x => F.ret (signs x)
  | _ => F.fail
section
variable {X : Cx} {K : PySem.W.Frag} {L : Lk} {a b e tg : Expr} {fa fb fe : FE} {pos : Pos}
theorem cs_inS : CmpSem K (fun x y H Q => ∃ i j, x = .str i ∧ y = .str j ∧ Q (.bl (!(Builtin.Str.occurrences j i 0 j.length 1).isEmpty)) H) (fun d1 d2 b => cInSF d1 d2 = some b) := fun H x y d1 d2 b Q h1 h2 hc q => by
  cases d1 with
  | str i => cases d2 with
    | str j => cases hc; exact ⟨i, j, h1.of_str, h2.of_str, q⟩
    | _ => cases hc
  | _ => cases hc
theorem fe_inS (ha : HE X L a fa) (hb : HE X L b fb) (hm : behindInMarks .In b = false := by rfl) : HE X L (.Compare a [.In] [b] pos) (fCmp cInSF fa fb) := fe_cmp (fun _ _ _ h => h) op_in_str cs_inS ha hb hm
theorem jok_str {C : Ct} {G : Hp} (x : Str) : JOk K C G (Its x) (signs x) where
  go := fun i σ H G' W δ hi _ I => by
    unfold signs at hi
    rw [List.length_map, Array.length_toList] at hi
    exact hi
  stop := fun σ H G' W δ _ I => by
    show x.cps.size ≤ (signs x).length
    unfold signs
    rw [List.length_map, Array.length_toList]
    exact Nat.le_refl _
  yld := fun i d σ H G' W δ w H' hd _ I ⟨e0, c, e1, e2⟩ => by
    subst e0 e2
    unfold signs at hd
    rw [List.getElem?_map, Array.getElem?_toList, e1] at hd
    cases hd
    exact ⟨G', W, Ex.refl _, I, Den.str _⟩
theorem fi_str (he : HE X L e fe) : HI X L tg e (fiStr fe) :=
  PI.weak (pi_str he) <| liftI_of fun C σ H G W δ P Q I lk h k => ⟨C, G, W, δ, _, I, lk, pP_bind.mp h, fun r δ1 v H1 G1 W1 h1 x1 I1 o1 => by
    obtain ⟨d, δ2, e1, h1⟩ := pP_use (pP_bind.mp h1)
    obtain ⟨G2, x2, I2, o2, _⟩ := I1.useOk o1 e1
    cases d with
    | str x =>
      have o2 : Den X.K G2 v (.str x) := o2
      exact ⟨x, o2.of_str, k _ δ2 _ H1 G2 W1 h1 (x1.trans x2) I2 fun C' _ => jok_str x⟩
    | _ => exact h1.elim⟩
def strI (d : D) : FI := match d with
  | .str x => F.ret (signs x)
  | _ => F.fail
variable {δ : List R} {x i j : Str}
theorem t_fiStr : fiStr fe δ = (fe δ).bind fun o => o.on fun r => (useF r).bind strI := (rfl)
theorem t_strI : strI (.str x) δ = F.ret (signs x) δ := (rfl)
theorem t_inS : cInSF (.str i) (.str j) = some (inTx i j) := (rfl)
end
end DL
namespace DL
open PySem PySem.Spec L2
variable [TabsC]
section
variable {X : Cx} {K : PySem.W.Frag} {L : Lk} {a b c e : Expr} {fa fb fc fe : FE} {pos p : Pos} {fA : FA}
theorem ft_of_test {t : TE} (w : ∀ σ H Q, lift X.K L (pP L.x fe) σ H Q → t σ H Q) (pt : PT X e (tTest t)) : HT' X L e (fTst fe) :=
  PT.weak pt fun σ H Q ⟨C, G, W, δ, P, I, lk, h, k⟩ => w σ H _ ⟨C, G, W, δ, _, I, lk, tst_imp (fun _ _ z => z) δ P h, fun r δ' v H' G' W' ⟨q, e1, hp⟩ x I' o => ⟨q, ((I'.peekOk o e1).den I'.gh).of_bl, k q δ' H' G' W' hp x I'⟩⟩
theorem ft_leLe (ha : HE X L a fa) (hb : HE X L b fb) (hc : HE X L c fc) (hm : lastMarks [.LtE, .LtE] [b, c] = false := by with_unfolding_all rfl) : HT' X L (.Compare a [.LtE, .LtE] [b, c] pos) (fTst (fChain cLe cLe fa fb fc)) :=
  ft_of_test (lift_chain cI_int (cs_of cs_I' cs_I) (cs_of cs_I' cs_I)) (pt_chain op_le op_le ha hb hc hm)
theorem ft_ltLt (ha : HE X L a fa) (hb : HE X L b fb) (hc : HE X L c fc) (hm : lastMarks [.Lt, .Lt] [b, c] = false := by with_unfolding_all rfl) : HT' X L (.Compare a [.Lt, .Lt] [b, c] pos) (fTst (fChain cLt cLt fa fb fc)) :=
  ft_of_test (lift_chain cI_int (cs_of cs_I' cs_I) (cs_of cs_I' cs_I)) (pt_chain op_lt op_lt ha hb hc hm)
def cNInSF : D → D → Option Bool
  | .str i, .str j => some (!inTx i j)
  | _, _ => none
theorem op_nin_str : OpR X (compareOp .NotIn) (fun x y H Q => ∃ i j, x = .str i ∧ y = .str j ∧ Q (.bl (!inTx i j)) H) := by
  intro pins s σ H x y v u Q I rx ry h
  obtain ⟨i, j, rfl, rfl, q⟩ := h
  obtain ⟨t1, rfl⟩ := rx
  obtain ⟨t2, rfl⟩ := ry
  exact PySem.P.notIn_str ⟨.bl (!inTx i j), H, I, rfl, q⟩
theorem cs_ninS : CmpSem K (fun x y H Q => ∃ i j, x = .str i ∧ y = .str j ∧ Q (.bl (!inTx i j)) H) (fun d1 d2 b => cNInSF d1 d2 = some b) := fun H x y d1 d2 b Q h1 h2 hc q => by
  cases d1 with
  | str i => cases d2 with
    | str j => cases hc; exact ⟨i, j, h1.of_str, h2.of_str, q⟩
    | _ => cases hc
  | _ => cases hc
theorem ft_ninS (ha : HE X L a fa) (hb : HE X L b fb) (hm : behindInMarks .NotIn b = false := by rfl) : HT' X L (.Compare a [.NotIn] [b] pos) (fTst (fCmp cNInSF fa fb)) := ft_cmp (fun _ _ _ h => h) op_nin_str cs_ninS ha hb hm
theorem vals_of : ∀ {vs : List V} {us : List Value}, vs.length = us.length → (∀ (i : Nat) (v : V) (u : Value), vs[i]? = some v → us[i]? = some u → RelV v u) → Vals vs us
  | [], [], _, _ => .nil
  | [], _ :: _, h, _ => by cases h
  | _ :: _, [], h, _ => by cases h
  | v :: vs, u :: us, h, w => .cons (w 0 v u rfl rfl) (vals_of (Nat.succ.inj h) fun i x y h1 h2 => w (i + 1) x y h1 h2)
def bListSF : List D → Option R
  | [.str x] => if x.cps.size ≤ sizeLine then some (.own (.lst (signs x))) else none
  | _ => none
def signsV (x : Str) : List V := x.cps.toList.map fun c => .str ⟨#[c]⟩
def rListS : List V → Hp → VK → Prop := fun xs H Q => ∃ x : Str, xs = [.str x] ∧ x.cps.size ≤ sizeLine ∧ ∀ q, H q = none → Q (.ref q) (upd H q (.lst (signsV x)))
theorem call_listS (hc : X.calm = true) : CallR X (.type "list") rListS := by
  intro pins s σ H xs us Q I r h
  obtain ⟨x, rfl, hz, q⟩ := h
  obtain ⟨u, rfl, t, rfl⟩ := vals1 r
  refine call_list_str (I.ok.hd hc) x t (hn := hz) fun h' tk acc n hk hS hacc => ?_
  have nf := I.hok.fresh (Nat.le_refl s.heap.objs.size)
  have vs : Vals (signsV x) acc.toList := by
    refine vals_of (by unfold signsV; rw [List.length_map, Array.length_toList, Array.length_toList, hacc.1]) fun i v u h1 h2 => ?_
    obtain ⟨c, t2, e1, rfl⟩ := hacc.2 i u (by rw [← Array.getElem?_toList]; exact h2)
    unfold signsV at h1
    rw [List.getElem?_map, Array.getElem?_toList, e1] at h1
    cases h1
    exact ⟨t2, rfl⟩
  exact ⟨.ref s.heap.objs.size, upd H s.heap.objs.size (.lst (signsV x)), I.laid (t' := tk) hk (Nat.le_refl _) ⟨by unfold signsV; rw [List.length_map, Array.length_toList]; exact hz, acc.toList, n, vs, by simpa using hS⟩, rfl, q _ nf⟩
theorem dens_signs {G : Hp} (x : Str) : Dens K G (signsV x) (signs x) := by
  unfold signsV signs
  generalize x.cps.toList = l
  induction l with
  | nil => exact All2.nil
  | cons c l ih => exact All2.cons (Den.str _) ih
theorem cl_listS : CallLook K rListS (bOf bListSF) := fun C σ H G W δ vs ds P Q I a hg k => by
  obtain ⟨r, e, hp⟩ := hg
  match ds, e, a with
  | [.str x], e, a =>
    have e : (if x.cps.size ≤ sizeLine then some (R.own (.lst (signs x))) else none) = some r := e
    split at e
    · cases e
      obtain ⟨v, rfl, s⟩ := one_of a
      have := (s.den I.gh).of_str
      subst this
      refine ⟨x, rfl, by assumption, fun q hq => ?_⟩
      obtain ⟨I', o⟩ := I.newLst hq (dens_signs x)
      exact k _ _ _ _ _ hp (Ex.refl G) I' o
    · cases e
theorem fe_listS (hc : X.calm = true) (ha : HA X L [e] fA) (hg : Gl X "list") (hm : X.mg "list" = none) (hv : bootBuiltins "list" = some (.type "list"))
    (he : starEach [e] X.env = (false, eval e X.env) :: starEach [] X.env := by rfl) (hpl : (backTo pos (starEach [] X.env)).any (·.1) = false := by rfl) : HE X L (.Call (.Name "list" p) [e] [] pos) (fCB bListSF fA) :=
  fe_ct (bs_of (bf := bListSF)) (call_listS hc) cl_listS hg hm hv ha (by decide) (by decide) he hpl
end
end DL
namespace DL
open PySem PySem.Spec L2
section
variable {x y : Str} {n : Int} {kds : List (Key × D)} {d e : D} {ds es : List D} {z : Str} {r : List Str}
theorem t_ninS : cNInSF (.str x) (.str y) = some (!inTx x y) := (rfl)
theorem t_strN : bStrF [.int n] = if n.natAbs.log2 < 1920 then some (.val (.str (toString n))) else none := (rfl)
theorem t_listS : bListSF [.str x] = if x.cps.size ≤ sizeLine then some (.own (.lst (signs x))) else none := (rfl)
end
end DL
namespace DL
open PySem PySem.Spec L2
variable [TabsC]
def mulSOk (x : Str) (n : Int) : Prop := 2 ≤ n ∧ n < 100000 ∧ 0 < x.length ∧ x.length ≤ 16
instance {x : Str} {n : Int} : Decidable (mulSOk x n) := by unfold mulSOk; exact inferInstance
section
variable {X : Cx} {K : PySem.W.Frag} {L : Lk} {a b : Expr} {fa fb : FE} {pos : Pos}
end
end DL
set_option maxHeartbeats 1000000
namespace DL
open PySem PySem.Spec L2
theorem rm_at {kvs : List VM} {xs : List XM} (h : Paired RM kvs xs) {i : Nat} {p : VM} (e : kvs[i]? = some p) : ∃ x, xs[i]? = some x ∧ RM p x := p2_at' h e
def ItM (w : World) (d : Addr) (o : Obj) (kvs : List VM) : It :=
  ⟨fun i H => H d = some (MixO w d o kvs) ∧ i < kvs.length, fun i H x H' => H' = H ∧ ∃ p, kvs[i]? = some p ∧ x = p.2.1, fun i H => H d = some (MixO w d o kvs) ∧ kvs.length ≤ i⟩
section
variable {P : Program} {w : World} {K : PySem.W.Frag} {tg : Expr} {d it : Addr} {o : Obj} {kvs : List VM} {ea : Array DictEntry} {ep : Nat}
theorem mix_raw {X : Cx} {pins : List (Addr × Obj)} {σ : L2.St} {H : Hp} {s : Shared} (I : Inv X pins σ H s) (hD : H d = some (MixO X.w d o kvs)) : ∃ (ea : Array DictEntry) (ep : Nat) (xs : List XM), s.heap.DictRaw d ea ep ∧ o.data = .dict ea ep ∧ ea.toList = xs.map (entM X.w) ∧ Paired RM kvs xs ∧ ea.size = kvs.length ∧ (d == sysModules) = false := by
  obtain ⟨⟨ho, ⟨ea, ep, h1, h2, h3, h4⟩, n⟩, _⟩ := I.hok d _ hD
  obtain ⟨xs, e, r⟩ := mixE_to h3
  exact ⟨ea, ep, xs, ⟨o, ho, h1, h2⟩, h2, e, r, by rw [← Array.length_toList, e, List.length_map, ← r.length], n⟩
theorem turn_mix (hod : o.data = .dict ea ep) : Turn P w K tg (ItM w d o kvs) [it] it (fun i h => h.IsKeyIter it d i kvs.length ep) where
  mem := List.mem_cons_self ..
  obj := fun i h st b hb => by
    obtain rfl : b = it := by simpa using hb
    obtain ⟨oi, e, c, dd⟩ := st
    exact ⟨oi, e, fun v z => by rw [dd] at z; cases z⟩
  keep := fun i h h' st k => st.at fun oi e => k it (by simp) oi e
  item := by
    intro X hP hw hK hc i pins s σ H E I hf st hg
    subst hP hw hK
    obtain ⟨hd, hi⟩ := hg
    obtain ⟨f0, f1, f2, f3, f4, f5⟩ := hf it (by simp)
    obtain ⟨ea', ep', xs, raw, hdt, he, r, hz, n⟩ := mix_raw I hd
    rw [hod] at hdt
    cases hdt
    have hp : kvs[i]? = some kvs[i] := List.getElem?_eq_getElem hi
    obtain ⟨x, hx, rx⟩ := rm_at r hp
    rw [← hz] at st
    have hie : i < ea.size := by omega
    have ek : ea[i] = entM X.w x := by
      have : ea.toList[i]? = some (entM X.w x) := by rw [he, List.getElem?_map, hx]; rfl
      rw [Array.getElem?_toList, Array.getElem?_eq_getElem hie] at this
      exact Option.some.inj this
    refine PySem.wpAny_pyNext_keys_item_raw st raw hie fun h' st' sb => ?_
    have I1 : Inv X pins σ H { s with heap := h' } := I.turned (t' := s.toks) (fun b ob hb e => (sb.2 b hb).trans e) f0 f1 f3 f4 f5
    obtain ⟨oi, e, c, dd⟩ := id st'
    refine ⟨_, rfl, go_of (s := { s with heap := h' }) e c dd (by decide) ⟨kvs[i].2.1, H, I1, by rw [ek]; exact rx.2.1, ⟨rfl, _, hp, rfl⟩, ?_, fun b hb => (hf b hb).1⟩⟩
    show h'.IsKeyIter it d (i + 1) kvs.length _
    rw [← hz]
    exact st'
  done := by
    intro X hP hw hK hc i pins s σ H E I hf st hg
    subst hP hw hK
    obtain ⟨hd, hi⟩ := hg
    obtain ⟨f0, f1, f2, f3, f4, f5⟩ := hf it (by simp)
    obtain ⟨ea', ep', xs, raw, hdt, he, r, hz, n⟩ := mix_raw I hd
    rw [hod] at hdt
    cases hdt
    rw [← hz] at st
    exact PySem.wpAny_pyNext_keys_end_raw (I.ok.hd hc) st raw (by omega) fun h' eb => ⟨rfl, I.turned (t' := s.toks) (fun b ob hb e => eb b ob hb e) f0 f1 f3 f4 f5⟩
  self := fun A i s Q E st h => wpAny_pyIter_keyiter st h
def iMix (w : World) (td : TE) : TI := fun σ H R => td σ H fun x H1 => ∃ d o kvs, x = .ref d ∧ H1 d = some (MixO w d o kvs) ∧ R (ItM w d o kvs) H1
end
section
variable {X : Cx} {tg e : Expr} {td te : TE} {p apos cpos pos : Pos}
theorem pi_mix (he : PE X e td) : PI X tg e (iMix X.w td) := by
  refine ⟨fun pins s σ H R I h => thn (he.run pins s σ H _ I h) fun u s1 ⟨x, H1, I1, rx, d, o, kvs, ex, hd, q⟩ => ?_⟩
  subst ex
  obtain rfl : u = Value.ref d := rx
  obtain ⟨ea, ep, xs, raw, hdt, he, r, hz, n⟩ := mix_raw I1 hd
  refine PySem.wpAny_pyIter_dict_raw n raw (pi_one (tk := s1.toks) I1 _ (turn_mix hdt) ⟨_, Heap.get?_push_size _ rfl, rfl, ?_⟩ q)
  rw [← hz]; rfl
def rListM (w : World) : List V → Hp → VK → Prop := fun xs H Q => ∃ D o kvs, xs = [.ref D] ∧ H D = some (MixO w D o kvs) ∧ kvs.length ≤ sizeLine ∧ ∀ q, H q = none → Q (.ref q) (upd H q (.lst (kvs.map (·.2.1))))
theorem keys_seen {w : World} {kvs : List VM} {xs : List XM} {ea : Array DictEntry} {acc : Array Value} (he : ea.toList = xs.map (entM w)) (r : Paired RM kvs xs) (h : ItemsOf (fun i v => ∃ hi : i < ea.size, v = ea[i].key) acc ea.size) : Vals (kvs.map (·.2.1)) acc.toList := by
  have hl : ea.size = xs.length := by rw [← Array.length_toList, he, List.length_map]
  have hx : Vals (kvs.map (·.2.1)) (xs.map (·.2.1)) := by
    clear he h hl
    induction r with
    | nil => exact .nil
    | cons q t ih => exact .cons q.2.1 ih
  have ea' : acc.toList = xs.map (·.2.1) := by
    refine List.ext_getElem? fun j => ?_
    by_cases hj : j < xs.length
    · have hja : j < acc.size := by rw [h.1, hl]; exact hj
      obtain ⟨hi, ev⟩ := h.2 j acc[j] (Array.getElem?_eq_getElem hja)
      rw [Array.getElem?_toList, Array.getElem?_eq_getElem hja, ev, List.getElem?_map, List.getElem?_eq_getElem hj]
      have e2 : ea.toList[j]? = some (entM w xs[j]) := by rw [he, List.getElem?_map, List.getElem?_eq_getElem hj]; rfl
      rw [Array.getElem?_toList, Array.getElem?_eq_getElem hi] at e2
      rw [Option.some.inj e2]
      rfl
    · rw [List.getElem?_eq_none (by rw [Array.length_toList, h.1, hl]; omega), List.getElem?_eq_none (by rw [List.length_map]; omega)]
  rw [ea']
  exact hx
theorem call_listM (hc : X.calm = true) : CallR X (.type "list") (rListM X.w) := by
  intro pins s σ H xs us Q I r h
  obtain ⟨D, o, kvs, rfl, hD, hz, q⟩ := h
  obtain rfl := Vals.ref1 r
  obtain ⟨ea, ep, xs, raw, hdt, he, rr, hl, n⟩ := mix_raw I hD
  refine PySem.W.kdl_call (PySem.KdlSrc.rawDict (es := ea) (ep := ep) n) (I.ok.hd hc) raw (by omega) fun h' tk acc' c' hkeep hS hacc => ?_
  exact ⟨.ref s.heap.objs.size, upd H s.heap.objs.size (.lst (kvs.map (·.2.1))), I.laid hkeep (Nat.le_refl _) (show ObjOk X.prog X.w _ _ _ (.lst (kvs.map (·.2.1))) from ⟨by rw [List.length_map]; exact hz, acc'.toList, c', keys_seen he rr hacc, by rw [Array.toArray_toList]; exact hS⟩), rfl, q _ (I.hok.fresh (Nat.le_refl _))⟩
def putWs (ob : Addr → List Value) : Hp → List Addr → List (List V) → Hp
  | H, a :: as, w :: ws => putWs ob (upd H a (.frz (tupObj (ob a)) (.tup w))) as ws
  | H, _, _ => H
theorem putWs_off {ob : Addr → List Value} {b : Addr} : ∀ (as : List Addr) (ws : List (List V)) (H : Hp), b ∉ as → putWs ob H as ws b = H b
  | [], _, _, _ => rfl
  | _ :: _, [], _, _ => rfl
  | a :: as, w :: ws, H, h => by
    show putWs ob (upd H a _) as ws b = H b
    rw [putWs_off as ws _ (fun z => h (List.mem_cons_of_mem _ z)), upd_ne (fun z => h (by rw [z]; exact List.mem_cons_self ..))]
theorem putWs_at {ob : Addr → List Value} : ∀ (as : List Addr) (ws : List (List V)) (H : Hp), as.length = ws.length → as.Nodup → Paired (fun (t : Addr) (w : List V) => putWs ob H as ws t = some (.frz (tupObj (ob t)) (.tup w))) as ws
  | [], [], _, _, _ => .nil
  | [], _ :: _, _, h, _ => by cases h
  | _ :: _, [], _, h, _ => by cases h
  | a :: as, w :: ws, H, h, hn => by
    have hn' := List.nodup_cons.mp hn
    refine .cons ?_ (putWs_at (ob := ob) as ws (upd H a (.frz (tupObj (ob a)) (.tup w))) (Nat.succ.inj h) hn'.2)
    show putWs ob (upd H a (.frz (tupObj (ob a)) (.tup w))) as ws a = _
    rw [putWs_off as ws _ hn'.1, upd_same]
def pairV (p : VM) : List V := [p.2.1, p.2.2]
def rItemsM (w : World) : V → Hp → VK → Prop := fun x H Q => ∃ D o kvs, x = .ref D ∧ H D = some (MixO w D o kvs) ∧ kvs.length ≤ sizeLine ∧
  ∀ (ob : Addr → List Value) (p : Addr) (ts : List Addr), ts.length = kvs.length → ts.Nodup → H p = none → (∀ t ∈ ts, H t = none) → p ∉ ts → Q (.ref p) (upd (putWs ob H ts (kvs.map pairV)) p (.lst (ts.map V.ref)))
theorem items_laidM {pins : List (Addr × Obj)} {σ : L2.St} {H : Hp} {s : Shared} {h' : Heap} {tk : Nat} {kvs : List VM} {xs : List XM} {ea : Array DictEntry} {acc : Array Value} {c : Nat} {as : List Addr} (I : Inv X pins σ H s) (hz : kvs.length ≤ sizeLine) (he : ea.toList = xs.map (entM X.w)) (r : Paired RM kvs xs)
    (hk : ∀ b o, s.heap.get? b = some o → h'.get? b = some o) (hS : h'.get? s.heap.objs.size = some { cls := .type "list", dict := none, data := .seq acc c, slots := #[] }) (hl : as.length = ea.size) (hG : PySem.W.DilG ea s.heap.objs.size h' as) (hacc : acc.toList = as.map Value.ref) :
    ∃ ob : Addr → List Value, as.length = kvs.length ∧ as.Nodup ∧ H s.heap.objs.size = none ∧ (∀ t ∈ as, H t = none) ∧ s.heap.objs.size ∉ as ∧ Inv X pins σ (upd (putWs ob H as (kvs.map pairV)) s.heap.objs.size (.lst (as.map V.ref))) { s with heap := h', toks := tk } := by
  have lx : ea.size = xs.length := by rw [← Array.length_toList, he, List.length_map]
  have lk : kvs.length = xs.length := r.length
  have hSn : s.heap.objs.size ∉ as := fun z => Nat.lt_irrefl _ (hG.above _ z)
  have nd : as.Nodup := List.Pairwise.imp (fun {a b} (h : a < b) => Nat.ne_of_lt h) hG.rise
  have new : ∀ t ∈ as, H t = none := fun t ht => I.hok.fresh (Nat.le_of_lt (hG.above t ht))
  have newS : H s.heap.objs.size = none := I.hok.fresh (Nat.le_refl _)
  refine ⟨fun a => match h'.get? a with | some o => (match o.data with | .seq xs _ => xs.toList | _ => []) | none => [], by omega, nd, newS, new, hSn, ?_⟩
  generalize hob : (fun a => match h'.get? a with | some o => (match o.data with | .seq xs _ => xs.toList | _ => []) | none => [] : Addr → List Value) = ob
  have atP := putWs_at (ob := ob) as (kvs.map pairV) H (by rw [List.length_map]; omega) nd
  have off : ∀ b, b ∉ as → b ≠ s.heap.objs.size → upd (putWs ob H as (kvs.map pairV)) s.heap.objs.size (.lst (as.map V.ref)) b = H b := fun b h1 h2 => by rw [upd_ne h2, putWs_off as _ _ h1]
  have low : ∀ b o, s.heap.get? b = some o → b ∉ as ∧ b ≠ s.heap.objs.size := fun b o e => ⟨fun z => absurd (Heap.lt_size e) (Nat.not_lt.mpr (Nat.le_of_lt (hG.above b z))), Nat.ne_of_lt (Heap.lt_size e)⟩
  have kp : ∀ b u, H b = some u → (upd (putWs ob H as (kvs.map pairV)) s.heap.objs.size (.lst (as.map V.ref))) b = some u := fun b u e => by
    rw [off b (fun z => by rw [new b z] at e; cases e) (fun z => by rw [z, newS] at e; cases e)]
    exact e
  have eS : upd (putWs ob H as (kvs.map pairV)) s.heap.objs.size (.lst (as.map V.ref)) s.heap.objs.size = some (.lst (as.map V.ref)) := upd_same
  refine I.call' (ch := []) rfl ⟨fun b o q _ _ _ => hk b o q, fun b o q _ _ _ => ⟨o.slots, hk b o q⟩, fun b o q n _ => ?_, fun b o q _ => ⟨o, hk b o q⟩, fun b xs q => kp b _ q, fun b o u q => kp b _ q, fun b ps q => ⟨#[], by rw [kp b _ q]; simp⟩⟩ (fun b u q => ?_) I.bare fun b z => by simp at z
  · obtain ⟨z1, z2⟩ := low b o q
    rw [off b z1 z2]
    exact n
  · by_cases hb : b ∈ as
    · have hb2 : b ≠ s.heap.objs.size := fun z => hSn (z ▸ hb)
      obtain ⟨j, pk, e1, e2, e3⟩ := LiI.paired_ix atP hb
      rw [upd_ne hb2, e3] at q
      cases q
      obtain ⟨hj, f3⟩ := hG.pairs j b e1
      rw [List.getElem?_map] at e2
      obtain ⟨p, hp, rfl⟩ := Option.map_eq_some_iff.mp e2
      obtain ⟨x, hx, rx⟩ := rm_at r hp
      have ek : ea[j] = entM X.w x := by
        have : ea.toList[j]? = some (entM X.w x) := by rw [he, List.getElem?_map, hx]; rfl
        rw [Array.getElem?_toList, Array.getElem?_eq_getElem hj] at this
        exact Option.some.inj this
      rw [ek] at f3
      have f3 : h'.get? b = some { cls := .type "tuple", data := .seq #[x.2.1, x.2.2] } := f3
      have eo : ob b = [x.2.1, x.2.2] := by rw [← hob]; simp only [f3]
      refine ⟨by rw [eo]; exact f3, by show 2 ≤ sizeLine; decide, [x.2.1, x.2.2], .cons rx.2.1 (.cons rx.2.2 .nil), ⟨_, f3, rfl, _, rfl⟩⟩
    · by_cases hb2 : b = s.heap.objs.size
      · rw [hb2] at q ⊢
        rw [eS] at q
        cases q
        refine ⟨by rw [List.length_map]; omega, acc.toList, c, by rw [hacc]; exact LiI.vals_refs as, ?_⟩
        rw [Array.toArray_toList]
        exact hS
      · rw [off b hb hb2] at q
        exact (I.hok b u q).stay (fun d v _ y => hk d v y) (fun d y => kp d _ y) fun d xs y => kp d _ y
def tListItemsM (w : World) (te : TE) : TE := fun σ H Q => te σ H fun x H1 => rItemsM w x H1 Q
theorem pe_listItemsM (hc : X.calm = true) (he : PE X e te) (hg : Gl X "list") (hm : X.mg "list" = none) (hbase : attributeBase e "items" X.env (eval e X.env) = eval e X.env := by rfl) (hline : (apos.endLine == cpos.line) = true := by rfl)
    (hs : starEach [.Call (.Attribute e "items" apos) [] [] cpos] X.env = (false, eval (.Call (.Attribute e "items" apos) [] [] cpos) X.env) :: starEach [] X.env := by rfl) :
    PE X (.Call (.Name "list" p) [.Call (.Attribute e "items" apos) [] [] cpos] [] pos) (tListItemsM X.w te) := by
  refine ⟨fun pins s σ H Q I hq => ?_⟩
  refine wpAny_Call_Name_kw (ld_blt I hg hm (by decide +kernel : bootBuiltins "list" = some (.type "list")) ?_)
  refine PyProof.Rows.callWith_type1 ?_ hs rfl
  rw [hs]
  show wpAny _ _ (spliced ((false, eval (.Call (.Attribute e "items" apos) [] [] cpos) X.env) :: backTo pos (starEach [] X.env))) _ _ s
  refine Calls.spliced_cons ?_
  refine wpAny_Call_method (T := "dict") (id := "dict.items") hbase rfl hline PySem.F.plainAttrs_dict PySem.F.slot_dict_items PySem.F.type_dict_items (thn (he.run pins s σ H _ I hq) fun u s1 ⟨x, H1, I1, rx, d, o, kvs, ex, hd, hz, q⟩ => ?_)
  subst ex
  obtain rfl : u = Value.ref d := rx
  obtain ⟨ea, ep, xs, raw, hdt, hent, r, hsz, n⟩ := mix_raw I1 hd
  obtain ⟨od, hod, hxd, hdd⟩ := id raw
  refine ⟨raw.typeIs, fun b q => by cases q; exact ⟨od, hod, hxd.2.1⟩, ?_⟩
  show wpAny _ _ (callWith cpos (.builtin "dict.items") [.ref d] [] []) _ X.xe s1
  refine method_meetsIn PySem.F.slot_dict_items PySem.F.entry_dict_items rfl (PySem.evalArgs_none ⟨rfl, raw.typeIs, PySem.F.args_dict_items_1 _, _, PySem.meets_dict_items_raw d n, ⟨⟨ea, ep, raw⟩, ?_⟩⟩)
  have I2 : Inv X pins σ H1 { s1 with heap := s1.heap.push { cls := .type "dict_items", data := .fields #[.ref d] } } := I1.kept (t' := s1.toks) fun b ob q => Heap.get?_push_of_some _ q
  refine Calls.spliced_nil ?_
  refine PySem.W.dil_call (es := ea) (ep := ep) (I1.ok.hd hc) ⟨_, Heap.get?_push_size _ rfl, rfl, rfl⟩ (raw.at fun o e => Heap.get?_push_of_some _ e) (by omega) fun h' tk acc c as hk hS hl hG hacc => ?_
  obtain ⟨ob, k1, k2, k3, k4, k5, J⟩ := items_laidM (tk := tk) I2 hz hent r hk hS hl hG hacc
  exact ⟨.ref _, _, J, rfl, q ob _ as k1 k2 k3 k4 k5⟩
def rDictM (w : World) (K : PySem.W.Frag) : List V → Hp → VK → Prop := fun xs H Q => ∃ (a : Addr) (ts : List Addr) (kvs : List VM), xs = [.ref a] ∧ SqL K H a (ts.map V.ref) ∧ Paired (fun t p => SqT K H t [p.2.1, p.2.2]) ts kvs ∧ (∀ p ∈ kvs, MKey K H p.1 p.2.1) ∧ ∀ p o', H p = none → Q (.ref p) (upd H p (MixO w p o' (putsM [] kvs)))
theorem pairs_seen {pins : List (Addr × Obj)} {σ : L2.St} {H : Hp} {s : Shared} (I : Inv X pins σ H s) : ∀ {ts : List Addr} {kvs : List VM}, Paired (fun t p => SqT X.K H t [p.2.1, p.2.2]) ts kvs → (∀ p ∈ kvs, MKey X.K H p.1 p.2.1) → ∃ xs : List XM, Paired RM kvs xs ∧ KeysM s.heap xs ∧ Paired (fun (t : Addr) (x : XM) => PySem.PairAt s.heap t x.2.1 x.2.2) ts xs
  | [], _, .nil, _ => ⟨[], .nil, (fun x hx => (List.not_mem_nil hx).elim), .nil⟩
  | t :: ts, p :: kvs, .cons h hr, hk => by
    obtain ⟨xs, a, b, c⟩ := pairs_seen I hr fun q hq => hk q (List.mem_cons_of_mem _ hq)
    obtain ⟨its, rv, il, _⟩ := I.tuple h
    cases rv with
    | cons r1 rv =>
      cases rv with
      | cons r2 rv =>
        cases rv
        rename_i u1 u2
        refine ⟨(p.1, u1, u2) :: xs, .cons ⟨rfl, r1, r2⟩ a, fun x hx => ?_, .cons (.inl il) c⟩
        rcases List.mem_cons.mp hx with rfl | hx
        · exact (hk p (List.mem_cons_self ..)).is I r1
        · exact b x hx
theorem call_dictM (hcalm : X.calm = true) (hu : X.A.units + 12 < cLine) : CallR X (.type "dict") (rDictM X.w X.K) := by
  intro pins s σ H xs us Q I r h
  obtain ⟨a, ts, kvs, rfl, hq, hp, hk, q⟩ := h
  obtain rfl := Vals.ref1 r
  obtain ⟨its, rv, pl, hz⟩ := I.list hq
  have ei := refs_at rv
  subst ei
  obtain ⟨o, n, ho, hc, hd, hdat⟩ := pl
  obtain ⟨xs, r1, r2, r3⟩ := pairs_seen I hp hk
  have l1 : ts.length = xs.length := r3.length
  rw [List.length_map] at hz
  refine dict_mix (ps := xs) (PySem.PairArg.list a (ts.map Value.ref).toArray (fun j => (ts[j]?).getD 0) (xs.map (·.2))) rfl (I.ok.hd hcalm) hu ⟨⟨o, n, ho, hc, hd, hdat⟩, by simp [l1], fun j k v hj => ?_⟩ ⟨by rw [List.length_map], fun i key v hr => ?_⟩ r2 (by rw [List.length_map]; omega) fun h' tk o' e1 e2 e3 => ?_
  · rw [List.getElem?_map] at hj
    obtain ⟨x, hx, ex⟩ := Option.map_eq_some_iff.mp hj
    obtain ⟨t, ht, pa⟩ := p2_at r3 hx
    have ex : x.2 = (k, v) := ex
    rw [ex] at pa
    exact ⟨by simp [ht], by show PySem.PairAt s.heap ((ts[j]?).getD 0) k v; rw [ht]; exact pa⟩
  · have hr : (xs.map (·.2))[i]? = some (key, v) := hr
    rw [List.getElem?_map] at hr
    obtain ⟨x, hx, ex⟩ := Option.map_eq_some_iff.mp hr
    obtain ⟨x1, x2⟩ := x
    have ex : x2 = (key, v) := ex
    subst ex
    exact ⟨x1, hx⟩
  · have hm : (s.heap.objs.size == sysModules) = false := beq_eq_false_iff_ne.mpr (Nat.ne_of_gt I.big)
    exact ⟨.ref s.heap.objs.size, upd H s.heap.objs.size (MixO X.w s.heap.objs.size o' (putsM [] kvs)), I.laid (t' := tk) e3 (Nat.le_refl _) (mixO_new e1 e2 (rm_puts .nil r1) hm), rfl, q _ o' (I.hok.fresh (Nat.le_refl _))⟩
theorem ne_raw {prog : Program} {w : World} {A : Around} {E : Value → Shared → Prop} {s : Shared} {a b : Addr} {ea eb : Array DictEntry} {pa pb : Nat} {Q : Value → Shared → Prop} (ha : (a == sysModules) = false) (hb : (b == sysModules) = false) (da : s.heap.DictRaw a ea pa) (db : s.heap.DictRaw b eb pb) (hu : A.units < cLine) (h0 : eb.size = 0)
    (h : Q (.bool (!(ea.size == 0))) s) : wpAny (model prog w) A (compareOp .NotEq (.ref a) (.ref b)) Q E s := by
  obtain ⟨oa, hoa, _, hda⟩ := id da
  obtain ⟨ob, hob, _, hdb⟩ := id db
  refine wpAny_richCompare_same_room (op := .NotEq) da.typeIs db.typeIs PySem.F.slot_dict_ne (wpAny_call_entry PySem.F.slot_dict_ne da.typeIs PySem.F.entry_dict_ne ?_ (PySem.F.args_dict_ne_2 _ _)) hu
  show wpAny _ _ (Builtin.Dict.dictSlotArgs "__ne__" ⟨[.ref a, .ref b], []⟩ >>= _) _ _ s
  refine wpAny_bind ?_
  unfold Builtin.Dict.dictSlotArgs
  refine wpAny_bind (wpAny_notOrdered_dict da.typeIs ?_)
  show wpAny _ _ (pure (Value.ref a, Value.ref b)) _ _ s
  refine wpAny_pure (wpAny_bind (wpAny_isInstance (T := "dict") db.typeIs PySem.F.sub_dict_dict ?_))
  simp only [Bool.not_true, Bool.false_eq_true, if_false]
  refine wpAny_bind (wpAny_pure (wpAny_bind (wpAny_pure (wpAny_bind ?_))))
  have same : ∀ R : Bool → Shared → Prop, R (ea.size == 0) s → wpAny (model prog w) A.in1 (Builtin.Dict.samePairs "dict.__ne__" a b) R E s := fun R hR => by
    unfold Builtin.Dict.samePairs Builtin.Dict.showsAll
    rw [if_neg (show ¬ (a == sysModules) = true by rw [ha]; exact Bool.false_ne_true), if_neg (show ¬ (b == sysModules) = true by rw [hb]; exact Bool.false_ne_true)]
    refine wpAny_bind (wpAny_pure (wpAny_bind (wpAny_pure (wpAny_bind (wpAny_dictEntries hoa hda ?_)))))
    dsimp only
    refine wpAny_bind (wpAny_dictEntries hob hdb ?_)
    rw [h0]
    by_cases hz : ea.size = 0
    · rw [hz] at hR ⊢
      rw [if_neg (by decide)]
      refine wpAny_bind (wpAny_dictEpoch hoa hda ?_)
      refine wpAny_bind ?_
      rw [show ∀ f, (forIn [:0] ((none : Option Bool), ()) f : Sem _) = pure (none, ()) from fun f => by simp]
      exact wpAny_pure (wpAny_pure hR)
    · rw [if_pos (by simpa using hz)]
      have e : (ea.size == 0) = false := by simpa using hz
      rw [e] at hR
      exact wpAny_bind (wpAny_rule (wpAny_pure hR))
  first
    | exact same _ (wpAny_pure ⟨_, rfl, (fun x => nomatch x), by simpa using h⟩)
    | exact same _ (wpAny_pure ⟨_, rfl, by simp, by simpa using h⟩)
def rNeDicM (w : World) : R2 := fun x y H Q => ∃ a b o o' ks, x = .ref a ∧ y = .ref b ∧ H a = some (MixO w a o ks) ∧ H b = some (MixO w b o' []) ∧ Q (.bl (!ks.isEmpty)) H
theorem op_neDicM (hu : X.A.units + 64 < cLine) : OpR X (compareOp .NotEq) (rNeDicM X.w) := by
  intro pins s σ H x y v u Q I rx ry h
  obtain ⟨a, b, o, o', ks, rfl, rfl, ea, eb, q⟩ := h
  obtain rfl : v = Value.ref a := rx
  obtain rfl : u = Value.ref b := ry
  obtain ⟨ea1, ep1, xs1, raw1, _, _, _, z1, n1⟩ := mix_raw I ea
  obtain ⟨ea2, ep2, xs2, raw2, _, _, _, z2, n2⟩ := mix_raw I eb
  refine ne_raw n1 n2 raw1 raw2 (by omega) z2 ⟨.bl _, H, I, rfl, ?_⟩
  have : (!(ea1.size == 0)) = !ks.isEmpty := by rw [z1]; cases ks <;> rfl
  rw [this]
  exact q
end
end DL
set_option maxHeartbeats 1000000
namespace DL
open PySem PySem.Spec L2
variable [TabsC]
def mAt (kds : List (D × D)) (dk : D) : Option D := (kds.find? fun p => decide (keyM p.1 = keyM dk)).map (·.2)
def mSet (dk v : D) (p : D × D) : D × D := if keyM p.1 = keyM dk then (p.1, v) else p
def mPut (kds : List (D × D)) (dk v : D) : List (D × D) := if (mAt kds dk).isSome then kds.map (mSet dk v) else kds ++ [(dk, v)]
def mPuts (kds l : List (D × D)) : List (D × D) := l.foldl (fun a p => mPut a p.1 p.2) kds
theorem kOfM_key {d : D} {k : NestedKey} (h : kOfM d = some k) : keyM d = some k := by
  obtain ⟨k', e1, e2⟩ := Option.bind_eq_some_iff.mp h
  split at e2
  · cases e2; exact e1
  · cases e2
section
variable {K : PySem.W.Frag} {G H : Hp}
theorem mAt_ok {kvs : List VM} {kds : List (D × D)} {dk : D} {k : NestedKey} (h : DensM K G kvs kds) (hk : kOfM dk = some k) : (∃ v d, atM kvs k = some v ∧ mAt kds dk = some d ∧ Den K G v d ∧ k ∈ kvs.map (·.1)) ∨ (atM kvs k = none ∧ mAt kds dk = none ∧ k ∉ kvs.map (·.1)) := by
  have hk := kOfM_key hk
  induction kds generalizing kvs with
  | nil => rw [All2.nil_right h]; exact .inr ⟨rfl, rfl, by simp⟩
  | cons q r ih =>
    obtain ⟨p, vr, rfl, ⟨h1, h2, h3⟩, h4⟩ := All2.cons_right h
    have h1 := kOfM_key h1
    unfold atM mAt
    by_cases e : p.1 = k
    · rw [List.find?_cons_of_pos (by simp [e]), List.find?_cons_of_pos (by simp [h1, hk, e])]
      exact .inl ⟨_, _, rfl, rfl, h3, by simp [e]⟩
    · rw [List.find?_cons_of_neg (by simp [e]), List.find?_cons_of_neg (by simp [h1, hk, e])]
      rcases ih h4 with ⟨v, d, a, b, c, m⟩ | ⟨a, b, m⟩
      · exact .inl ⟨v, d, a, b, c, List.mem_cons_of_mem _ m⟩
      · exact .inr ⟨a, b, by rw [List.map_cons]; exact fun z => (List.mem_cons.mp z).elim (fun z => e z.symm) m⟩
theorem mPut_ok {kvs : List VM} {kds : List (D × D)} {dk d : D} {k : NestedKey} {y v : V} (h : DensM K G kvs kds) (hk : kOfM dk = some k) (dy : Den K G y dk) (dv : Den K G v d) : DensM K G (putM kvs k y v) (mPut kds dk d) := by
  unfold putM mPut
  rcases mAt_ok h hk with ⟨v', d', e1, e2, _, m⟩ | ⟨e1, e2, m⟩
  · rw [e2, if_pos m, if_pos (show (some d').isSome = true from rfl)]
    clear e1 e2 m
    have hk := kOfM_key hk
    induction kds generalizing kvs with
    | nil => rw [All2.nil_right h]; exact .nil
    | cons q r ih =>
      obtain ⟨p, vr, rfl, ⟨h1, h2, h3⟩, h4⟩ := All2.cons_right h
      refine .cons ?_ (ih h4)
      have h1' := kOfM_key h1
      show kOfM (mSet dk d q).1 = some (setM k v p).1 ∧ Den K G (setM k v p).2.1 (mSet dk d q).1 ∧ Den K G (setM k v p).2.2 (mSet dk d q).2
      unfold setM mSet
      by_cases e : p.1 = k
      · rw [if_pos e, if_pos (by rw [h1', hk, e])]; exact ⟨h1, h2, dv⟩
      · rw [if_neg e, if_neg (by rw [h1', hk]; exact fun z => e (Option.some.inj z))]; exact ⟨h1, h2, h3⟩
  · rw [e2, if_neg m, if_neg (by simp)]
    exact All2.append h (.cons ⟨hk, dy, dv⟩ .nil)
theorem mPuts_ok : ∀ {ps : List VM} {l : List (D × D)} {kvs : List VM} {kds : List (D × D)}, DensM K G kvs kds → DensM K G ps l → DensM K G (putsM kvs ps) (mPuts kds l)
  | [], l, _, _, h, q => by rw [All2.nil_left q]; exact h
  | p :: ps, [], _, _, h, q => by have := q.1; simp at this
  | p :: ps, a :: l, kvs, kds, h, q => by
    have z := mPuts_ok (ps := ps) (l := l) (mPut_ok h (All2.head q).1 (All2.head q).2.1 (All2.head q).2.2) (All2.tail q)
    exact z
theorem DensM.mk {kvs : List VM} {kds : List (D × D)} (h : DensM K G kvs kds) (x : Ex G H) : ∀ p ∈ kvs, MKey K H p.1 p.2.1 := fun p hp => by
  obtain ⟨i, hi⟩ := List.mem_iff_getElem?.mp hp
  obtain ⟨q, hq, h1, h2, _⟩ := h.getL hi
  exact ⟨_, h2.mono x, h1⟩
theorem DensM.keys {kvs : List VM} {kds : List (D × D)} (h : DensM K G kvs kds) : Dens K G (kvs.map (·.2.1)) (kds.map (·.1)) := by
  induction kds generalizing kvs with
  | nil => rw [All2.nil_right h]; exact .nil
  | cons q r ih =>
    obtain ⟨p, vr, rfl, ⟨_, h2, _⟩, h4⟩ := All2.cons_right h
    exact .cons h2 (ih h4)
theorem Seen.dcm {v : V} {w : World} {kds : List (D × D)} (h : Seen K G H v (.dcm w kds)) (x : Ex G H) : ∃ a o kvs, v = .ref a ∧ H a = some (MixO w a o kvs) ∧ DensM K G kvs kds := by
  rcases h with h | ⟨p, rfl, h | ⟨_, h⟩⟩
  · obtain ⟨a, o, vs, e, h1, h2⟩ := h.of_dcm
    exact ⟨a, o, vs, e, x _ _ h1, h2⟩
  · obtain ⟨o, vs, h1, h2⟩ := h
    exact ⟨p, o, vs, rfl, h1, h2⟩
  · exact h.elim
theorem Seen.mk {v : V} {d : D} {k : NestedKey} (h : Seen K G H v d) (x : Ex G H) (e : kOfM d = some k) : MKey K H k v := by
  rcases h with h | ⟨p, rfl, h⟩
  · exact ⟨d, h.mono x, e⟩
  · exfalso
    have e := kOfM_key e
    cases d with
    | lst => cases e
    | dic => cases e
    | ins => cases e
    | dct => cases e
    | dcm => cases e
    | bl => exact h.elim (fun z => z.elim) fun z => z.2.elim
    | non => exact h.elim (fun z => z.elim) fun z => z.2.elim
    | int => exact h.elim (fun z => z.elim) fun z => z.2.elim
    | str => exact h.elim (fun z => z.elim) fun z => z.2.elim
    | tup => exact h.elim (fun z => z.elim) fun z => z.2.elim
    | ty => cases e
    | exc => cases e
    | obx => cases e
end
open Classical in
noncomputable def dcmW (w : World) (d : D) : Option (List (D × D)) := match d with
  | .dcm w' kds => if w' = w then some kds else none
  | _ => none
theorem dcmW_some {w : World} {d : D} {kds : List (D × D)} (h : dcmW w d = some kds) : d = .dcm w kds := by
  unfold dcmW at h
  split at h
  · split at h
    · rename_i e; cases h; rw [e]
    · cases h
  · cases h
theorem dcmW_dcm {w : World} {kds : List (D × D)} : dcmW w (.dcm w kds) = some kds := if_pos rfl
noncomputable def mAtW (w : World) (d k : D) : Option D := (dcmW w d).bind fun kds => (kOfM k).bind fun _ => mAt kds k
noncomputable def fMix (w : World) (fa fb : FE) : FE := fa.bind fun r1 => fb.bind fun r2 => (peekF r1).bind fun d => (peekF r2).bind fun k => (F.of (mAtW w d k)).bind fun y => F.ret (.val y)
section
variable {X : Cx} {K : PySem.W.Frag} {L : Lk} {p pos apos cpos : Pos} {a b e o f : Expr} {fa fb fo fe ff fx : FE} {fA : FA} {w : World} {tg : Expr}
theorem fe_mix (hw : X.w = w) (hu : X.A.units + 12 < cLine) (ha : HE X L a fa) (hb : HE X L b fb) (hs : NoSl b := by exact fun _ _ => rfl) : HE X L (.Subscript a b pos) (fMix w fa fb) := by
  subst hw
  exact PE.weak (pe_ix (ix_mix hu) ha hb hs) <| lift_of fun C σ H G W δ P Q I lk h k => by
    refine lift_two (P2 := fun r1 r2 δ2 => ∃ d kk y, peek r1 δ2 = some d ∧ peek r2 δ2 = some kk ∧ mAtW X.w d kk = some y ∧ P (.val y) δ2) I lk (pP_mono (pP_bind.mp h) fun r1 δ1 h => pP_mono (pP_bind.mp h) fun r2 δ2 h => ?_) fun r1 r2 δ2 x y H2 G2 W2 h2 x2 I2 o1 o2 => ?_
    · obtain ⟨d, e1, h⟩ := pP_peek (pP_bind.mp h)
      obtain ⟨kk, e2, h⟩ := pP_peek (pP_bind.mp h)
      obtain ⟨y, e3, h⟩ := pP_of (pP_bind.mp h)
      exact ⟨d, kk, y, e1, e2, e3, h⟩
    · obtain ⟨d, kk, z, e1, e2, e3, hp⟩ := h2
      rw [← peek_pub] at e1 e2
      obtain ⟨kds, f1, e4⟩ := Option.bind_eq_some_iff.mp e3
      obtain ⟨k9, f2, e5⟩ := Option.bind_eq_some_iff.mp e4
      obtain rfl := dcmW_some f1
      obtain ⟨p, ob, kvs, rfl, hD, dn⟩ := (I2.peekOk o1 e1).dcm I2.gh
      have tk := (I2.peekOk o2 e2).mk I2.gh f2
      rcases mAt_ok dn f2 with ⟨v, d', g1, g2, g3, _⟩ | ⟨g1, g2, _⟩
      · rw [e5] at g2
        cases g2
        exact ⟨p, ob, k9, kvs, v, rfl, hD, dn.mk I2.gh, tk, g1, k _ δ2 v H2 G2 W2 hp x2 I2 g3⟩
      · rw [e5] at g2
        cases g2
theorem SI.unholdM {C : Ct} {σ : L2.St} {H G : Hp} {W : Ow} {δ : List R} {p : Addr} {o : Obj} {kvs : List VM} {kds : List (D × D)} (I : SI K (C.hold p (MixO w p o kvs)) σ H G W δ) (n0 : C.H0 p = none) (nt : C.T p = none) (h : DensM K G kvs kds) : ∃ W', SI K C σ H G W' δ ∧ ROk K C σ H G W' none (.ref p) (.own (.dcm w kds)) := by
  have hpT : (C.hold p (MixO w p o kvs)).T p = some (MixO w p o kvs) := upd_same
  obtain ⟨t1, t2, t3, _⟩ := I.tm p _ hpT
  have J : SI K (C.hold p (MixO w p o kvs)) σ H G (fun a => if a = p then none else W a) δ := I.disown fun i d q hi hw ht hs => by
    obtain ⟨v, h1, h2⟩ := I.sl i (by rw [hi]; simp)
    rw [hs] at h1; cases h1
    rw [hi] at h2
    obtain ⟨a, e, ⟨_, _, _, m4⟩, _⟩ := h2
    cases e
    rintro rfl
    rw [hpT] at m4; cases m4
  exact ⟨_, SI.less (Ct.hold_less nt) J, p, rfl, ⟨t2, n0, t3, nt⟩, if_pos rfl, o, kvs, t1, h⟩
def keysAllM (l : List (D × D)) : Bool := l.all fun p => (kOfM p.1).isSome
theorem keysM_ok {G : Hp} : ∀ {l : List (D × D)} {vs : List (V × V)}, All2 (fun (u : V × V) (q : D × D) => Den K G u.1 q.1 ∧ Den K G u.2 q.2) vs l → keysAllM l = true → ∃ kvs : List VM, vs = kvs.map (·.2) ∧ DensM K G kvs l
  | [], vs, h, e => by rw [h.nil_right]; exact ⟨[], rfl, .nil⟩
  | q :: r, vs, h, e => by
    obtain ⟨u, us, rfl, h1, h2⟩ := h.cons_right
    unfold keysAllM at e
    rw [List.all_cons, Bool.and_eq_true] at e
    obtain ⟨k, hk⟩ := Option.isSome_iff_exists.mp e.1
    obtain ⟨kvs, rfl, d⟩ := keysM_ok h2 e.2
    exact ⟨(k, u) :: kvs, rfl, .cons ⟨hk, h1.1, h1.2⟩ d⟩
def dispM (w : World) (l : List (D × D)) : Option R := if keysAllM l = true then some (.own (.dcm w (mPuts [] l))) else none
def fDispM (w : World) (ps : List (FE × FE)) : FE := (fPairs ps).bind fun l => F.of (dispM w l)
theorem fe_dispM {ps : List (FE × FE)} {keys : List (Option Expr)} {values : List Expr} (hw : X.w = w) (hu : X.A.units + 12 < cLine) (h : PPs X pos keys values (ps.map fun q => (lift X.K L (pP L.x q.1), lift X.K L (pP L.x q.2)))) (hall : keys.all (·.isSome) = true := by rfl) (hl : keys.length = values.length := by rfl) (h0 : keys ≠ [] := by simp)
    (h15 : keys.length ≤ 15 := by decide) : HE X L (.Dict keys values pos) (fDispM w ps) := by
  subst hw
  exact PE.weak (pe_dispM hu h hall hl h0 h15) <| lift_of fun C σ H G W δ P Q I lk h k => fun p np => by
    have m := I.fresh np
    have lk' : Lnk X.K L (C.hold p (MixO X.w p emptyO [])) G := fun c fs δ d σ H G W fvs hx x I gd dn => lk c fs δ d σ H G W fvs hx x (I.less (Ct.hold_less m.2.2.2)) gd dn
    refine pairs_walk (C := C.hold p (MixO X.w p emptyO [])) (I.hold np flat_mix) lk' (pP_bind.mp h) fun l δ1 vs H1 G1 W1 h1 x1 I1 o1 => ?_
    obtain ⟨r, e1, h1⟩ := pP_of h1
    have t := I1.tm p (MixO X.w p emptyO []) upd_same
    unfold dispM at e1
    split at e1
    · rename_i hk
      cases e1
      obtain ⟨kvs, rfl, dn⟩ := keysM_ok o1 hk
      refine ⟨t.1, kvs, rfl, dn.mk I1.gh, fun o' => ?_⟩
      have J := I1.rehold (o' := MixO X.w p o' (putsM [] kvs)) m.2.1 flat_mix
      obtain ⟨W', J', o''⟩ := J.unholdM m.2.1 m.2.2.2 (mPuts_ok .nil dn)
      exact k _ δ1 _ _ G1 W' h1 x1 J' o''
    · cases e1
def fDnewM (w : World) : FE := fun δ => .ret (.ok (.own (.dcm w [])) δ)
theorem fe_dnewM (hw : X.w = w) : HE X L (.Dict [] [] pos) (fDnewM w) := by
  subst hw
  exact PE.weak pe_dnewM <| lift_of fun C σ H G W δ P Q I lk h k => fun p np => by
    have m := I.fresh np
    obtain ⟨W', J', o'⟩ := (I.hold (o := MixO X.w p emptyO []) np flat_mix).unholdM m.2.1 m.2.2.2 (kds := []) .nil
    exact k _ δ _ _ G W' h (Ex.refl G) J' o'
theorem jok_mix {C : Ct} {G : Hp} {w : World} {a : Addr} {ob : Obj} {kvs : List VM} {kds : List (D × D)} (ha : G a = some (MixO w a ob kvs)) (dn : DensM K G kvs kds) : JOk K C G (ItM w a ob kvs) (kds.map (·.1)) where
  go := fun i σ H G' W δ hi x I => by
    rw [List.length_map, ← dn.1] at hi
    exact ⟨I.gh _ _ (x _ _ ha), hi⟩
  stop := fun σ H G' W δ x I => ⟨I.gh _ _ (x _ _ ha), by rw [List.length_map, dn.1]; exact Nat.le_refl _⟩
  yld := fun i d σ H G' W δ z H' hd x I ⟨e0, p, hp, ex⟩ => by
    subst e0 ex
    rw [List.getElem?_map] at hd
    obtain ⟨q, hq, rfl⟩ := Option.map_eq_some_iff.mp hd
    exact ⟨G', W, Ex.refl _, I, ((dn.2 i p q hp hq).2.1).mono x⟩
noncomputable def fiMix (w : World) (fe : FE) : FI := fe.bind fun r => (useF r).bind fun d => (F.of (dcmW w d)).bind fun kds => F.ret (kds.map (·.1))
theorem fi_mix (hw : X.w = w) (he : HE X L e fe) : HI X L tg e (fiMix w fe) := by
  subst hw
  exact PI.weak (pi_mix he) <| liftI_of fun C σ H G W δ P Q I lk h k => ⟨C, G, W, δ, _, I, lk, pP_bind.mp h, fun r δ1 v H1 G1 W1 h1 x1 I1 o1 => by
    obtain ⟨d, δ2, e1, h2⟩ := pP_use (pP_bind.mp h1)
    obtain ⟨kds, e2, h3⟩ := pP_of (pP_bind.mp h2)
    obtain rfl := dcmW_some e2
    obtain ⟨G2, x2, I2, o2, _⟩ := I1.useOk o1 e1
    obtain ⟨a, ob, kvs, rfl, hG, dn⟩ := Den.of_dcm (show Den X.K G2 v (.dcm X.w kds) from o2)
    exact ⟨a, ob, kvs, rfl, I2.gh _ _ hG, k _ δ2 _ H1 G2 W1 h3 (x1.trans x2) I2 fun C' _ => jok_mix hG dn⟩⟩
noncomputable def bListMF (w : World) : List D → Option R
  | [d] => (dcmW w d).bind fun kds => if kds.length ≤ sizeLine then some (.own (.lst (kds.map (·.1)))) else none
  | _ => none
theorem cl_listM : CallLook K (rListM w) (bOf (bListMF w)) := fun C σ H G W δ vs ds P Q I a hg k => by
  obtain ⟨r, e, hp⟩ := hg
  match ds, e, a with
  | [d], e, a =>
    obtain ⟨kds, f1, f2⟩ := Option.bind_eq_some_iff.mp (show (dcmW w d).bind _ = some r from e)
    obtain rfl := dcmW_some f1
    split at f2
    · rename_i hz
      cases f2
      obtain ⟨v, rfl, s⟩ := one_of a
      obtain ⟨q, ob, kvs, rfl, hd, dn⟩ := s.dcm I.gh
      refine ⟨q, ob, kvs, rfl, hd, by rw [dn.1]; exact hz, fun t ht => ?_⟩
      obtain ⟨I', o'⟩ := I.newLst ht dn.keys
      exact k _ _ _ _ _ hp (Ex.refl G) I' o'
    · cases f2
theorem fe_listM (hw : X.w = w) (hc : X.calm = true) (ha : HA X L [e] fA) (hg : Gl X "list") (hm : X.mg "list" = none) (hv : bootBuiltins "list" = some (.type "list"))
    (he : starEach [e] X.env = (false, eval e X.env) :: starEach [] X.env := by rfl) (hpl : (backTo pos (starEach [] X.env)).any (·.1) = false := by rfl) : HE X L (.Call (.Name "list" p) [e] [] pos) (fCB (bListMF w) fA) := by
  subst hw
  exact fe_ct (bs_of (bf := bListMF X.w)) (call_listM hc) cl_listM hg hm hv ha (by decide) (by decide) he hpl
theorem SI.newWs {C : Ct} {σ : L2.St} {δ : List R} {ob : Addr → List Value} : ∀ {ts : List Addr} {ws : List (List V)} {dss : List (List D)} {H G : Hp} {W : Ow}, SI K C σ H G W δ → ts.length = ws.length → ts.Nodup → (∀ t ∈ ts, H t = none) → All2 (Dens K G) ws dss →
    ∃ G' W', Ex G G' ∧ SI K C σ (putWs ob H ts ws) G' W' δ ∧ Dens K G' (ts.map V.ref) (dss.map D.tup)
  | [], [], dss, H, G, W, I, _, _, _, d => by
    rw [All2.nil_left d]
    exact ⟨G, W, Ex.refl G, I, .nil⟩
  | [], _ :: _, _, _, _, _, _, h, _, _, _ => by cases h
  | _ :: _, [], _, _, _, _, _, h, _, _, _ => by cases h
  | t :: ts, p :: ws, [], H, G, W, I, hl, hn, hf, d => by have := d.1; simp at this
  | t :: ts, p :: ws, q :: dss, H, G, W, I, hl, hn, hf, d => by
    have hn' := List.nodup_cons.mp hn
    obtain ⟨I1, d1⟩ := I.newTup (its := ob t) (hf t (List.mem_cons_self ..)) (All2.head d)
    have x1 : Ex G (upd G t (.frz (tupObj (ob t)) (.tup p))) := Ex.new (I.fresh (hf t (List.mem_cons_self ..))).1
    obtain ⟨G', W', x2, I2, d2⟩ := SI.newWs (ob := ob) (dss := dss) I1 (Nat.succ.inj hl) hn'.2 (fun a ha => by rw [upd_ne (show a ≠ t from fun z => hn'.1 (by rw [← z]; exact ha))]; exact hf a (List.mem_cons_of_mem _ ha)) ((All2.tail d).imp fun _ _ z => z.mono x1)
    exact ⟨G', W', x1.trans x2, I2, .cons (d1.mono x2) d2⟩
def itemsD (kds : List (D × D)) : List D := kds.map fun p => .tup [p.1, p.2]
theorem pairs_dens {G : Hp} {kvs : List VM} {kds : List (D × D)} (dn : DensM K G kvs kds) : All2 (Dens K G) (kvs.map pairV) (kds.map fun p => [p.1, p.2]) := by
  induction kds generalizing kvs with
  | nil => rw [All2.nil_right dn]; exact .nil
  | cons q r ih =>
    obtain ⟨p, vr, rfl, ⟨_, h2, h3⟩, h4⟩ := All2.cons_right dn
    exact .cons (.cons h2 (.cons h3 .nil)) (ih h4)
noncomputable def fItemsM (w : World) (fa : FE) : FE := fa.bind fun r => (peekF r).bind fun d => (F.of ((dcmW w d).bind fun kds => if kds.length ≤ sizeLine then some kds else none)).bind fun kds => F.ret (.own (.lst (itemsD kds)))
theorem fe_itemsM (hw : X.w = w) (hc : X.calm = true) (he : HE X L e fa) (hg : Gl X "list") (hm : X.mg "list" = none) (hbase : attributeBase e "items" X.env (eval e X.env) = eval e X.env := by rfl) (hline : (apos.endLine == cpos.line) = true := by rfl)
    (hs : starEach [.Call (.Attribute e "items" apos) [] [] cpos] X.env = (false, eval (.Call (.Attribute e "items" apos) [] [] cpos) X.env) :: starEach [] X.env := by rfl) :
    HE X L (.Call (.Name "list" p) [.Call (.Attribute e "items" apos) [] [] cpos] [] pos) (fItemsM w fa) := by
  subst hw
  exact PE.weak (pe_listItemsM hc he hg hm hbase hline hs) <| lift_of fun C σ H G W δ P Q I lk h k => ⟨C, G, W, δ, _, I, lk, pP_bind.mp h, fun r δ1 v H1 G1 W1 h1 x1 I1 o1 => by
    obtain ⟨d, e1, h2⟩ := pP_peek (pP_bind.mp h1)
    obtain ⟨kds, e2, hp⟩ := pP_of (pP_bind.mp h2)
    obtain ⟨kd', f1, f2⟩ := Option.bind_eq_some_iff.mp e2
    obtain rfl := dcmW_some f1
    split at f2
    · rename_i hz
      cases f2
      obtain ⟨a, oo, vs, rfl, h3, dn⟩ := (I1.peekOk o1 e1).dcm I1.gh
      refine ⟨a, oo, vs, rfl, h3, by rw [dn.1]; exact hz, fun ob p ts hl hn hpn hf hpt => ?_⟩
      obtain ⟨G2, W2, x2, I2, d2⟩ := I1.newWs (ob := ob) (by rw [List.length_map]; exact hl) hn hf (pairs_dens dn)
      obtain ⟨I3, o3⟩ := I2.newLst (p := p) (by rw [putWs_off ts _ _ hpt]; exact hpn) d2
      rw [List.map_map] at o3
      exact k _ δ1 _ _ _ _ hp (x1.trans x2) I3 o3
    · cases f2⟩
def pairsM : List D → Option (List (D × D))
  | [] => some []
  | .tup [k, v] :: r => if (kOfM k).isSome then (pairsM r).map ((k, v) :: ·) else none
  | _ => none
theorem pairsM_ok {G H : Hp} (x : Ex G H) : ∀ {ps : List D} {us : List V} {l : List (D × D)}, Dens K G us ps → pairsM ps = some l → ∃ ts kvs, us = ts.map V.ref ∧ Paired (fun t (p : VM) => SqT K H t [p.2.1, p.2.2]) ts kvs ∧ DensM K G kvs l
  | [], us, l, h, e => by cases e; rw [h.nil_right]; exact ⟨[], [], rfl, .nil, .nil⟩
  | d :: ps, us, l, h, e => by
    obtain ⟨u, ur, rfl, h1, h2⟩ := h.cons_right
    unfold pairsM at e
    split at e
    · rename_i heq; cases heq
    · rename_i k v r heq
      cases heq
      split at e
      · rename_i hk
        obtain ⟨k9, hk⟩ := Option.isSome_iff_exists.mp hk
        obtain ⟨l', e', rfl⟩ := Option.map_eq_some_iff.mp e
        obtain ⟨ts, kvs, rfl, p1, p2⟩ := pairsM_ok x h2 e'
        obtain ⟨a, vs, rfl, hs, dn⟩ := Den.of_tup (show Den K G u (.tup [k, v]) from h1)
        obtain ⟨a1, r1, rfl, d1, t1⟩ := All2.cons_right dn
        obtain ⟨a2, r2, rfl, d2, t2⟩ := All2.cons_right t1
        obtain rfl := t2.nil_right
        exact ⟨a :: ts, (k9, a1, a2) :: kvs, rfl, .cons (ex_t x hs) p1, .cons ⟨hk, d1, d2⟩ p2⟩
      · cases e
    · cases e
def bDictMF (w : World) : List D → Option R
  | [.lst ps] => (pairsM ps).map fun l => .own (.dcm w (mPuts [] l))
  | _ => none
theorem cl_dictM : CallLook K (rDictM w K) (bOf (bDictMF w)) := fun C σ H G W δ vs ds P Q I a hg k => by
  obtain ⟨r, e, hp⟩ := hg
  match ds, e, a with
  | [.lst ps], e, a =>
    obtain ⟨l, f1, rfl⟩ := Option.map_eq_some_iff.mp (show (pairsM ps).map _ = some r from e)
    obtain ⟨v, rfl, s⟩ := one_of a
    obtain ⟨q, us, rfl, h1, h2⟩ := s.lst I.gh
    obtain ⟨ts, kvs, rfl, p1, p2⟩ := pairsM_ok I.gh h2 f1
    refine ⟨q, ts, kvs, rfl, .of h1, p1, p2.mk I.gh, fun t o' ht => ?_⟩
    have m := I.fresh ht
    exact k _ _ _ _ _ hp (Ex.refl G) (I.lay (o := MixO w t o' (putsM [] kvs)) ht flat_mix) ⟨t, rfl, m, if_pos rfl, o', _, upd_same, mPuts_ok .nil p2⟩
theorem fe_dictM (hw : X.w = w) (hc : X.calm = true) (hu : X.A.units + 12 < cLine) (ha : HA X L [e] fA) (hg : Gl X "dict") (hm : X.mg "dict" = none) (hv : bootBuiltins "dict" = some (.type "dict"))
    (he : starEach [e] X.env = (false, eval e X.env) :: starEach [] X.env := by rfl) (hpl : (backTo pos (starEach [] X.env)).any (·.1) = false := by rfl) : HE X L (.Call (.Name "dict" p) [e] [] pos) (fCB (bDictMF w) fA) := by
  subst hw
  exact fe_ct (bs_of (bf := bDictMF X.w)) (call_dictM hc hu) cl_dictM hg hm hv ha (by decide) (by decide) he hpl
noncomputable def cNeDicMF (w : World) : D → D → Option Bool := fun d1 d2 => (dcmW w d1).bind fun kds => (dcmW w d2).bind fun kd2 => if kd2 = [] then some (!kds.isEmpty) else none
theorem cs_neDicM : CmpSem K (rNeDicM w) (fun d1 d2 b => cNeDicMF w d1 d2 = some b) := fun H x y d1 d2 b Q h1 h2 hc q => by
  obtain ⟨kds, f1, hc1⟩ := Option.bind_eq_some_iff.mp (show (dcmW w d1).bind _ = some b from hc)
  obtain ⟨kd2, f2, hc2⟩ := Option.bind_eq_some_iff.mp hc1
  obtain rfl := dcmW_some f1
  obtain rfl := dcmW_some f2
  clear hc hc1
  split at hc2
  · rename_i e
    cases hc2
    subst e
    obtain ⟨a, o, kvs, rfl, ha, n1⟩ := h1.of_dcm
    obtain ⟨b, o', kvs2, rfl, hb, n2⟩ := h2.of_dcm
    have e2 : kvs2 = [] := List.eq_nil_of_length_eq_zero n2.1
    subst e2
    refine ⟨a, b, o, o', kvs, rfl, rfl, ha, hb, ?_⟩
    have : kvs.isEmpty = kds.isEmpty := by
      have := n1.1
      cases kvs <;> cases kds <;> first | rfl | simp at this
    rw [this]; exact q
  · cases hc2
theorem ft_neDicM (hw : X.w = w) (hu : X.A.units + 64 < cLine) (ha : HE X L a fa) (hb : HE X L b fb) : HT' X L (.Compare a [.NotEq] [b] pos) (fTst (fCmp (cNeDicMF w) fa fb)) := by
  subst hw; exact ft_cmp (fun _ _ _ h => h) (op_neDicM hu) cs_neDicM ha hb (nomark _)
end
end DL
set_option maxHeartbeats 1000000
namespace DL
open PySem PySem.Spec L2
variable [TabsC]
noncomputable def putKM (w : World) (i : Nat) (d k : D) : FS := fun δ => match kOfM k, gt δ i with
  | some _, .own d0 => (match dcmW w d0 with
    | some ds => if ds.length < sizeLine then .ret (.nx (st δ i (.own (.dcm w (mPut ds k d))))) else .fail
    | none => .fail)
  | _, _ => .fail
noncomputable def ownMS (w : World) (i : Nat) (f : FS) : FS := fun δ => match gt δ i with
  | .own d0 => (match dcmW w d0 with
    | some _ => f δ
    | none => .fail)
  | _ => .fail
noncomputable def fPutM (w : World) (i : Nat) (fx fe : FE) : FS := eS fe fun r => ownMS w i (eS fx fun r2 => eS (useF r) fun d => eS (peekF r2) fun k => putKM w i d k)
section
variable {X : Cx} {K : PySem.W.Frag} {L : Lk} {e ix : Expr} {fe fx : FE} {pos px tpos : Pos} {y : Str} {i : Nat} {x : Lx} {δ : List R} {w : World}
theorem ownMS_imp {f : FS} {DD : DEnds} (h : pS x (ownMS w i f) DD δ) : (∃ ds, gt δ i = .own (.dcm w ds)) ∧ pS x f DD δ := by
  unfold pS ownMS at h; (try dsimp only at h)
  split at h
  · split at h
    · rename_i e _ _ f1
      exact ⟨⟨_, by rw [e, dcmW_some f1]⟩, h⟩
    · exact h.elim
  · exact h.elim
def dPutM (w : World) (i : Nat) (dx de : DE) : DS := fun DD δ => de δ fun r δ1 => (∃ ds, gt δ1 i = .own (.dcm w ds)) ∧ dx δ1 fun r2 δ2 => ∃ d δ3 dk k ds, use r δ2 = some (.val d, δ3) ∧ peek r2 δ3 = some dk ∧ kOfM dk = some k ∧ gt δ3 i = .own (.dcm w ds) ∧ ds.length < sizeLine ∧ DD.nx (st δ3 i (.own (.dcm w (mPut ds dk d))))
theorem Seen.denK {K : PySem.W.Frag} {G H : Hp} {v : V} {d : D} {k : NestedKey} (h : Seen K G H v d) (e : kOfM d = some k) : Den K G v d := by
  rcases h with h | ⟨p, rfl, h⟩
  · exact h
  · exfalso
    have e := kOfM_key e
    cases d with
    | lst => cases e
    | dic => cases e
    | ins => cases e
    | dct => cases e
    | dcm => cases e
    | bl => exact h.elim (fun z => z.elim) fun z => z.2.elim
    | non => exact h.elim (fun z => z.elim) fun z => z.2.elim
    | int => exact h.elim (fun z => z.elim) fun z => z.2.elim
    | str => exact h.elim (fun z => z.elim) fun z => z.2.elim
    | tup => exact h.elim (fun z => z.elim) fun z => z.2.elim
    | ty => cases e
    | exc => cases e
    | obx => cases e
theorem fs_putM (hw : X.w = w) (he : HE X L e fe) (pg : PG X (.Subscript (.Name y px) ix tpos) (L2.gSub (tVar i) (lift X.K L (pP L.x fx)) (rSetM X.w X.K)))
    (hs : swapsWithSole [.Subscript (.Name y px) ix tpos] e pos.line X.env = pure false := by rfl) (hsw : swappedStores [.Subscript (.Name y px) ix tpos] e X.env = pure none := by rfl) (h1 : (assignEach [.Subscript (.Name y px) ix tpos] X.env).map (·.2) = [assign (.Subscript (.Name y px) ix tpos) X.env] := by rfl) :
    HS X L (.Assign [.Subscript (.Name y px) ix tpos] e pos) (fPutM w i fx fe) := by
  subst hw
  exact PS.weak (PS.weak (ps_asg he pg hs hsw h1) <| liftS_of (ds := dPutM X.w i (pP L.x fx) (pP L.x fe)) fun C D σ H G W δ DD I lk h k => ⟨C, G, W, δ, _, I, lk, h, fun r δ1 v H1 G1 W1 h1 x1 I1 o1 => by
    obtain ⟨G1', x1', I1', o1'⟩ := I1.pub o1
    obtain ⟨⟨ds0, h0⟩, h1⟩ := h1
    obtain ⟨p, hp, _⟩ := I1'.ownAt h0
    refine ⟨.ref p, hp, C, G1', W1, δ1, _, I1', lk.mono (x1.trans x1'), h1, fun r2 δ2 y H2 G2 W2 h2 x2 I2 o2 => ?_⟩
    obtain ⟨d, δ3, dk, k', ds, e1, e2, ek, e3, e4, hn⟩ := h2
    obtain ⟨G2', x2', I2', o2'⟩ := I2.pub o2
    rw [← use_pub] at e1
    obtain ⟨G3, x3, I3, o3, _⟩ := I2'.useOk (ROk.keep o1' (x2.trans x2')) e1
    rw [← peek_pub] at e2
    have ey := (I3.peekOk (ROk.keep o2' x3) e2)
    obtain ⟨q, hq, ob, vs, hv, dn⟩ := I3.ownAt e3
    rw [hp] at hq
    have eq : p = q := by simpa using hq
    subst eq
    refine ⟨p, ob, k', vs, rfl, hv, dn.mk I3.gh, ey.mk I3.gh ek, by rw [dn.1]; exact Nat.le_of_lt e4, fun ob' => ?_⟩
    exact k.nx σ _ G3 W2 _ ((((x1.trans x1').trans x2).trans x2').trans x3) (I3.write (d' := .dcm X.w (mPut ds dk d)) e3 hp ⟨ob', _, upd_same, mPut_ok dn ek (ey.denK ek) o3⟩) hn⟩) (liftS_imp fun DD δ h => eS_imp h fun r δ1 h => by
    obtain ⟨h0, h⟩ := ownMS_imp h
    refine ⟨h0, eS_imp h fun r2 δ2 h => ?_⟩
    obtain ⟨d, δ3, e1, h⟩ := pP_use (eS_imp h (Q := fun d δ3 => pS L.x (eS (peekF r2) fun k => putKM X.w i d k) DD δ3) fun _ _ z => z)
    obtain ⟨k, e2, h⟩ := pP_peek (eS_imp h (Q := fun k δ3 => pS L.x (putKM X.w i d k) DD δ3) fun _ _ z => z)
    unfold pS putKM at h; (try dsimp only at h)
    split at h
    · rename_i k9 d0 ek eg
      split at h
      · rename_i ds f1
        split at h
        · rename_i hl
          exact ⟨d, δ3, _, _, _, e1, e2, ek, by rw [eg, dcmW_some f1], hl, h⟩
        · exact h.elim
      · exact h.elim
    · exact h.elim)
theorem pe_excV {x : Str} {C fI : Addr} {k : Nat} {fd : FuncData} {ps : List Str} {sp : Sp} {es : List Expr} {ta : TA} {p pos : Pos} {e : Expr} (T : OexC X.K C) (iC : PySem.W.findIn X.K (.ref C) "__init__" = some (some (.ref fI))) (tI : PySem.W.typeIn X.K (.ref fI) = some (.type "function"))
    (F1 : FnOk X.prog X.w X.K X.mg X.base CX0 k fI fd ps sp) (hr : Room (k + 1) X.A) (hb : Binds X.K fd ps []) (hg : Gl X x) (hm : X.mg x = some (.ref C)) (ha : PA X (e :: es) ta)
    (hdb : (x == ("__debug__" : Str)) = false := by decide) (he : starEach (e :: es) X.env = (false, eval e X.env) :: starEach es X.env := by rfl) (hpl : (backTo pos (starEach es X.env)).any (·.1) = false := by rfl) :
    PE X (.Call (.Name x p) (e :: es) [] pos) (fun σ H Q => ta σ H fun vs H1 => vs.length ≤ 1000 ∧ ∀ a, H1 a = none → sp (.ref a :: vs) (upd H1 a (exo a C none)) (fun v H2 => v = .non ∧ Q (.ref a) H2) (fun _ _ _ => False)) := by
  refine ⟨fun pins s σ H Q I h => ?_⟩
  obtain ⟨nm, q, N, bs, bm, sn, sub, ab, col, dd, k0, k1, k2, k3, k5, hC, hbm⟩ := T.cls
  refine wpAny_Call_Name_kw (ld_glob I hg hm ?_ hdb)
  refine PySem.W.callWith_K (h₀ := X.base) I.ok.mod.kin T.kC (thn (ha.run pos pins s σ H _ I h) fun us s1 ⟨vs, H1, I1, r1, hz, q1⟩ => ⟨I1.kIn, ?_⟩) he hpl
  show wpAny _ _ (call (.ref C) us) _ _ _
  obtain ⟨hp, g, dr, tk, os⟩ := s1
  have hsz : hp.objs.size ≤ hp.objs.size + 1 := Nat.le_succ _
  have hq := q1 (hp.objs.size + 1) (I1.hok.fresh hsz)
  have kk : ∀ b o, hp.get? b = some o → ((hp.push (PySem.W.kdv_tup us)).push (PySem.HandSPX.excO C hp.objs.size)).get? b = some o := fun b o e => Heap.get?_push_of_some _ (Heap.get?_push_of_some _ e)
  have hget : ((hp.push (PySem.W.kdv_tup us)).push (PySem.HandSPX.excO C hp.objs.size)).get? (hp.objs.size + 1) = some (PySem.HandSPX.excO C hp.objs.size) := by heap_get
  have I2 : Inv X pins σ (upd H1 (hp.objs.size + 1) (exo (hp.objs.size + 1) C none)) ⟨(hp.push (PySem.W.kdv_tup us)).push (PySem.HandSPX.excO C hp.objs.size), g, dr, tk, os⟩ :=
    I1.laid (t' := tk) (a := hp.objs.size + 1) (o := exo (hp.objs.size + 1) C none) (h' := (hp.push (PySem.W.kdv_tup us)).push (PySem.HandSPX.excO C hp.objs.size)) kk hsz (exo_ok hget)
  have r2 : Vals (V.ref (hp.objs.size + 1) :: vs) (Value.ref (hp.objs.size + 1) :: us) := .cons rfl r1
  have hl : (Value.ref (hp.objs.size + 1) :: us ++ []).length = ps.length := by
    have e := r2.length
    rw [F1.len _ _ _ _ hq] at e
    rw [List.append_nil]
    exact e.symm
  have hus : us.length ≤ sizeLine := by
    rw [← Paired.length r1, sizeLine_eq]
    omega
  refine wpAny_call (PySem.HandSPX.call_own F.excBase_ValueError (fun Y => PySem.HandSPX.refsVE_contains Y bm hbm) (I1.kIn _ _ hC) (PySem.W.looks_findIn I1.kIn iC) (fun self => PySem.W.bind_fn I1.kIn self tI) hus
    (codeAny_mono (F1.run _ X.stack _ _ ⟨Value.ref (hp.objs.size + 1) :: us, []⟩ (Value.ref (hp.objs.size + 1) :: us) _ _ (fun _ _ _ => False) (hr.make C us []) (I2.env0.make C us []) (by have := hb _ (Value.ref (hp.objs.size + 1) :: us) I2.kIn hl; rwa [List.append_nil] at this) r2 hq) fun r s' hq' => ?_))
  cases r with
  | error er => exact pass0 pins σ _ _ er s' I2 hq'
  | ok fl =>
    cases fl with
    | ret u =>
      obtain ⟨v, H2, os2, bare2, un2, hok2, rv, ev, q2⟩ := hq'
      subst ev
      exact ⟨rv, .ref (hp.objs.size + 1), H2, I2.call' (ch := []) os2 un2 hok2 bare2 (fun b z => absurd z (by simp)), rfl, q2⟩
    | next => exact False.elim hq'
    | brk => exact False.elim hq'
    | cont => exact False.elim hq'
end
end DL
set_option maxHeartbeats 1000000
namespace DL
open PySem PySem.Spec L2
variable [TabsC]
def mkEK (Cl : Addr) : List R → List R → T (EO R) := fun rs δ => match rs with
  | [.val _] => .any fun a _ => .ret (.ok (.val (.obx Cl a)) δ)
  | _ => .fail
def fMkE (Cl : Addr) (fa : FA) : FE := fa.bind fun rs => (useAllF rs).bind (mkEK Cl)
section
variable {X : Cx} {K : PySem.W.Frag} {L : Lk} {e : Expr} {fa : FA} {fe : FE} {pos p : Pos} {y f : Str} {Cl : Addr}
theorem fe_mkE (T : ErrC X.prog X.w X.K X.mg X.base y Cl f) (hr : Room 2 X.A) (hg : Gl X y) (ha : HA X L [e] fa)
    (hdb : (y == ("__debug__" : Str)) = false := by decide) (he : starEach (e :: []) X.env = (false, eval e X.env) :: starEach [] X.env := by rfl) (hpl : (backTo pos (starEach [] X.env)).any (·.1) = false := by rfl) : HE X L (.Call (.Name y p) [e] [] pos) (fMkE Cl fa) := by
  obtain ⟨fI, fd, ps, i1, i2, F, hb⟩ := T.ini
  refine PE.weak (pe_excV T.oex i1 i2 F hr hb hg T.gl ha hdb he hpl) <| lift_of fun C σ H G W δ P Q I lk h k => ⟨C, G, W, δ, _, I, lk, pP_bind.mp h, fun rs δ1 vs H1 G1 W1 h1 x1 I1 o1 => ?_⟩
  obtain ⟨rs', δ2, e1, h2⟩ := pP_useAll (pP_bind.mp h1)
  obtain ⟨G2, x2, I2, o2⟩ := I1.useAllOk o1 e1
  unfold mkEK pP at h2
  split at h2
  · rename_i d
    obtain ⟨v, r, rfl, z1, z2⟩ := o2.cons_right
    rw [z2.nil_right]
    refine ⟨by simp, fun a na => ⟨a, Cl, v, rfl, T.oex, T.no, upd_same, fun dx n ne => ⟨rfl, ?_⟩⟩⟩
    have n1 : H1 dx = none := by rw [upd_ne ne] at n; exact n
    have eq : upd (upd (upd H1 a (exo a Cl none)) dx (exd dx [(f, v)])) a (exo a Cl (some dx)) = upd (upd H1 dx (exd dx [(f, v)])) a (exo a Cl (some dx)) := by
      funext b
      by_cases hb1 : b = a
      · subst hb1; rw [upd_same, upd_same]
      · rw [upd_ne hb1, upd_ne hb1]
        by_cases hb2 : b = dx
        · subst hb2; rw [upd_same, upd_same]
        · rw [upd_ne hb2, upd_ne hb2, upd_ne hb1]
    rw [eq]
    have m := I2.fresh n1
    have I3 := (I2.lay (o := exd dx [(f, v)]) n1 flat_exd).publish upd_same m (fun i d _ => by simp) flat_exd
    have na' : upd H1 dx (exd dx [(f, v)]) a = none := by rw [upd_ne (Ne.symm ne)]; exact na
    have m2 := I3.fresh na'
    have I4 := (I3.lay (o := exo a Cl (some dx)) na' flat_exo).publish upd_same m2 (fun i d _ => by simp) flat_exo
    have h3 : ∀ a' d', P (.val (.obx Cl a')) δ2 := h2
    refine k _ δ2 _ _ _ _ (h3 a dx) (((x1.trans x2).trans (Ex.new m.1)).trans (Ex.new m2.1)) I4 ?_
    exact Den.obx upd_same (by rw [upd_ne ne, upd_same])
  · exact h2.elim
def TyZ (K : PySem.W.Frag) (H : Hp) (x : V) (t : Value) : Prop := TyX K H x t ∨ (∃ (a : Addr) (w : World) (o : Obj) (kvs : List VM), x = .ref a ∧ t = .type "dict" ∧ H a = some (MixO w a o kvs)) ∨
  ∃ (a d C : Addr) (fs : List (Str × V)), x = .ref a ∧ t = .ref C ∧ ExcC K C ∧ H a = some (exo a C (some d)) ∧ H d = some (exd d fs)
theorem kit_ofZ {pins : List (Addr × Obj)} {σ : L2.St} {H : Hp} {s : Shared} {x : V} {u t : Value} (I : Inv X pins σ H s) (rx : RelV x u) (ty : TyZ X.K H x t) : ∃ P : Heap → Prop, PySem.W.KitX X.K u t P ∧ P s.heap ∧ u ≠ .builtin "__main__.__loader__#opaque" := by
  rcases ty with ty | ⟨a, w, o, kvs, rfl, rfl, h⟩ | ⟨a, d, C, fs, rfl, rfl, EC, h, hd⟩
  · exact kit_of I rx ty
  · obtain rfl : u = Value.ref a := rx
    obtain ⟨⟨ho, ⟨ea, ep, hx, _⟩, _⟩, _⟩ : ObjOk X.prog X.w H s.heap a (MixO w a o kvs) := I.hok a _ h
    exact ⟨_, PySem.W.kitx_dict, ⟨o, ho, hx.1⟩, fun z => nomatch z⟩
  · obtain rfl : u = Value.ref a := rx
    obtain ⟨t1, hoe⟩ := exo_at I.hok h
    obtain ⟨mA, hns, _⟩ := exd_at I.hok hd
    obtain ⟨od, ho, hl⟩ := lookIn_ns hns
    have J : PySem.W.InstAt s.heap a _ C (some od) := ⟨hoe, rfl, by unfold PySem.W.notCls; rfl, ho⟩
    have hcl : (PySem.W.clsIn X.K C).isSome = true := by
      obtain ⟨cd, hc, _⟩ := PySem.W.any_some EC.hd
      rw [hc]; rfl
    exact ⟨_, PySem.W.kitx_exc hcl EC.hg EC.hk EC.hs EC.ha EC.hn EC.ht EC.hm, J, fun z => nomatch z⟩
def rIsiZ (K : PySem.W.Frag) : List V → Hp → VK → Prop := fun xs H Q => ∃ (x c : V) (t u : Value) (b : Bool), xs = [x, c] ∧ ClsV c u ∧ TyZ K H x t ∧ PySem.W.kitOne K t u = some b ∧ Q (.bl b) H
def rIsiTZ (K : PySem.W.Frag) : List V → Hp → VK → Prop := fun xs H Q => ∃ (x : V) (tp : Addr) (cs : List V) (t : Value) (us : List Value) (b : Bool), xs = [x, .ref tp] ∧ H tp = some (.tup cs) ∧ Paired ClsV cs us ∧ TyZ K H x t ∧ PySem.W.kitAny K t us = some b ∧ Q (.bl b) H
theorem call_isiZ : CallR X (.builtin "isinstance") (rIsiZ X.K) := by
  intro pins s σ H xs us Q I r h
  obtain ⟨x, c, t, u, b, rfl, k, ty, e, q⟩ := h
  obtain ⟨u1, u2, rfl, r1, r2⟩ := vals2 r
  obtain rfl := k.eq r2
  obtain ⟨P, Z, p, hx⟩ := kit_ofZ I r1 ty
  exact PySem.W.kia_one Z I.kIn p e hx fun tk => ⟨.bl b, H, I.tok tk, rfl, q⟩
theorem call_isiTZ : CallR X (.builtin "isinstance") (rIsiTZ X.K) := by
  intro pins s σ H xs us Q I r h
  obtain ⟨x, tp, cs, t, ws, b, rfl, hT, k, ty, e, q⟩ := h
  obtain ⟨u1, u2, rfl, r1, r2⟩ := vals2 r
  cases (show u2 = Value.ref tp from r2)
  obtain ⟨P, Z, p, hx⟩ := kit_ofZ I r1 ty
  obtain ⟨_, its, rv, o, h1, h2, n, h3⟩ := (show ObjOk X.prog X.w H s.heap tp (.tup cs) from I.hok tp _ hT)
  obtain rfl := ClsV.all k rv
  obtain ⟨oc, od, dt, sl⟩ := o
  simp only at h2 h3
  subst h2 h3
  exact PySem.W.kia_tup Z I.kIn p h1 e hx fun tk => ⟨.bl b, H, I.tok tk, rfl, q⟩
def tyQ (ci ce : List Addr) : D → Option Value
  | .dcm _ _ => some (.type "dict")
  | .obx c _ => if ce.contains c = true then some (.ref c) else none
  | .ins c _ => if ci.contains c = true then some (.ref c) else none
  | d => (tyName d).map Value.type
def isTyQ (ci ce : List Addr) (t : String) : D → Option Bool
  | .dcm _ _ => kitB "dict" t
  | .obx c _ => if ce.contains c = true then some false else none
  | .ins c _ => if ci.contains c = true then some false else none
  | d => isTy t d
def isTysQ (ci ce : List Addr) : List String → D → Option Bool
  | [], d => (tyQ ci ce d).map fun _ => false
  | t :: ts, d => match isTyQ ci ce t d with
    | some true => some true
    | some false => isTysQ ci ce ts d
    | none => none
structure NtX (K : PySem.W.Frag) (C : Addr) (t : String) : Prop where
  ex : ExcC K C
  kit : PySem.W.kitOne K (.ref C) (.type t) = some false
def CQ1 (K : PySem.W.Frag) (ci ce : List Addr) (t : String) : Prop := (∀ c ∈ ci, IsC K c ∧ PySem.W.kitOne K (.ref c) (.type t) = some false) ∧ ∀ c ∈ ce, NtX K c t
theorem cq_nil {t : String} : CQ1 K [] [] t := ⟨fun x hx => (List.not_mem_nil hx).elim, fun x hx => (List.not_mem_nil hx).elim⟩
theorem cq_e {t : String} {c : Addr} {ci ce : List Addr} (n : NtX K c t) (h : CQ1 K ci ce t) : CQ1 K ci (c :: ce) t := by
  refine ⟨h.1, fun x hx => ?_⟩
  rcases List.mem_cons.mp hx with rfl | hx
  · exact n
  · exact h.2 x hx
theorem tyQ_ok {ci ce : List Addr} {t0 : String} {H : Hp} {v : V} {d : D} {t : Value} (cq : CQ1 K ci ce t0) (h : Den K H v d) (e : tyQ ci ce d = some t) : TyZ K H v t := by
  have other : (tyName d).map Value.type = some t → TyZ K H v t := fun e => by
    obtain ⟨n, hn, rfl⟩ := Option.map_eq_some_iff.mp e
    exact .inl (tyX_of h hn)
  cases d with
  | dcm w kds =>
    cases e
    obtain ⟨a, o, kvs, rfl, h1, _⟩ := h.of_dcm
    exact .inr (.inl ⟨a, w, o, kvs, rfl, rfl, h1⟩)
  | obx c a =>
    have e : (if ce.contains c = true then some (Value.ref c) else none) = some t := e
    split at e
    · rename_i hc
      cases e
      obtain ⟨d, fs, rfl, h1, h2⟩ := h.of_obx
      exact .inr (.inr ⟨a, d, c, fs, rfl, rfl, (cq.2 c (List.contains_iff_mem.mp hc)).ex, h1, h2⟩)
    · cases e
  | ins c fs =>
    have e : (if ci.contains c = true then some (Value.ref c) else none) = some t := e
    split at e
    · rename_i hc
      cases e
      obtain ⟨I, _⟩ := cq.1 c (List.contains_iff_mem.mp hc)
      obtain ⟨a, dx, vs, rfl, h1, _⟩ := h.of_ins
      exact .inl (.base (.ins h1 I.cls I.ha I.hn I.htk I.hm))
    · cases e
  | non => exact other e
  | bl => exact other e
  | int => exact other e
  | str => exact other e
  | lst => exact other e
  | tup => exact other e
  | dic => exact other e
  | ty => exact other e
  | exc => exact other e
  | dct => exact other e
theorem isTyQ_ok {ci ce : List Addr} {t : String} {d : D} {b : Bool} (cq : CQ1 K ci ce t) (e : isTyQ ci ce t d = some b) : ∃ q, tyQ ci ce d = some q ∧ PySem.W.kitOne K q (.type t) = some b := by
  have other : isTy t d = some b → ∃ q, (tyName d).map Value.type = some q ∧ PySem.W.kitOne K q (.type t) = some b := fun e => by
    obtain ⟨n, e3, e4⟩ := Option.bind_eq_some_iff.mp e
    exact ⟨.type n, by rw [e3]; rfl, kit_ty e4⟩
  cases d with
  | dcm w kds => exact ⟨_, rfl, kit_ty e⟩
  | obx c a =>
    have e : (if ce.contains c = true then some false else none) = some b := e
    split at e
    · rename_i hc
      cases e
      exact ⟨.ref c, if_pos hc, (cq.2 c (List.contains_iff_mem.mp hc)).kit⟩
    · cases e
  | ins c fs =>
    have e : (if ci.contains c = true then some false else none) = some b := e
    split at e
    · rename_i hc
      cases e
      exact ⟨.ref c, if_pos hc, (cq.1 c (List.contains_iff_mem.mp hc)).2⟩
    · cases e
  | non => exact other e
  | bl => exact other e
  | int => exact other e
  | str => exact other e
  | lst => exact other e
  | tup => exact other e
  | dic => exact other e
  | ty => exact other e
  | exc => exact other e
  | dct => exact other e
theorem isTysQ_ok {ci ce : List Addr} {d : D} : ∀ {ts : List String} {b : Bool}, (∀ t ∈ ts, CQ1 K ci ce t) → isTysQ ci ce ts d = some b → ∃ q, tyQ ci ce d = some q ∧ PySem.W.kitAny K q (ts.map Value.type) = some b
  | [], b, _, e => by
    obtain ⟨q, hq, e⟩ := Option.map_eq_some_iff.mp (show (tyQ ci ce d).map _ = some b from e)
    subst e
    exact ⟨q, hq, rfl⟩
  | t :: ts, b, cq, e => by
    unfold isTysQ at e
    split at e
    · rename_i e1
      cases e
      obtain ⟨q, h1, h2⟩ := isTyQ_ok (cq t (List.mem_cons_self ..)) e1
      exact ⟨q, h1, kitAny_cons h2 (fun z => by cases z) fun _ => rfl⟩
    · rename_i e1
      obtain ⟨q, h1, h2⟩ := isTyQ_ok (cq t (List.mem_cons_self ..)) e1
      obtain ⟨q', h3, h4⟩ := isTysQ_ok (ts := ts) (fun t ht => cq t (List.mem_cons_of_mem _ ht)) e
      rw [h1] at h3
      cases h3
      exact ⟨q, h1, kitAny_cons h2 (fun _ => h4) fun z => by cases z⟩
    · cases e
def fIsiQ (ci ce : List Addr) (t : String) (fe : FE) : FE := fe.bind fun r => (peekF r).bind fun d => (F.of (isTyQ ci ce t d)).bind fun b => F.ret (.val (.bl b))
def fIsisQ (ci ce : List Addr) (ts : List String) (fe : FE) : FE := fe.bind fun r => (peekF r).bind fun d => (F.of (isTysQ ci ce ts d)).bind fun b => F.ret (.val (.bl b))
theorem fe_isiQ {ci ce : List Addr} {t : String} {y : Str} {p py : Pos} (cq : CQ1 X.K ci ce t) (he : HE X L e fe) (hg : Gl X "isinstance") (hm : X.mg "isinstance" = none) (hgy : Gl X y) (hmy : X.mg y = none) (hy : bootBuiltins y = some (.type t)) (hv : bootBuiltins "isinstance" = some (.builtin "isinstance")) (hny : y ≠ "__name__" := by decide) (hdy : (y == ("__debug__" : Str)) = false := by decide)
    (h1 : starEach [e, .Name y py] X.env = (false, eval e X.env) :: starEach [.Name y py] X.env := by rfl) (h2 : starEach [.Name y py] X.env = (false, eval (.Name y py) X.env) :: starEach [] X.env := by rfl) (hpl : (backTo pos (starEach [.Name y py] X.env)).any (·.1) = false := by rfl) :
    HE X L (.Call (.Name "isinstance" p) [e, .Name y py] [] pos) (fIsiQ ci ce t fe) :=
  PE.weak (pe_callB call_isiZ hg hm hv (pa_cons he (pa_cons (pe_bltn (v := .ty t) hgy hmy hy rfl hny hdy) pa_nil h2) h1) (by decide) (by decide) h1 hpl) <| lift_of fun C σ H G W δ P Q I lk h k => ⟨C, G, W, δ, _, I, lk, pP_bind.mp h, fun r δ1 v H1 G1 W1 h1 x1 I1 o1 => by
    obtain ⟨d, b, e1, e2, hp⟩ := isi_imp h1
    obtain ⟨q, t1, t2⟩ := isTyQ_ok cq e2
    exact ⟨v, .ty t, q, .type t, b, rfl, .ty t, tyQ_ok cq ((I1.peekOk o1 e1).den I1.gh) t1, t2, k _ δ1 _ H1 G1 W1 hp x1 I1 (.bl b)⟩⟩
theorem fe_isisQ {ci ce : List Addr} {ts : List String} {ct : List Expr} {x1 : Nat} {p pt : Pos} (cq : ∀ t ∈ ts, CQ1 X.K ci ce t) (h0 : ts ≠ []) (he : HE X L e fe) (hc : PA X ct (fun σ H Q => Q (ts.map V.ty) H)) (hl : ts.length ≤ 100) (hg : Gl X "isinstance") (hm : X.mg "isinstance" = none) (hv : bootBuiltins "isinstance" = some (.builtin "isinstance"))
    (h1 : starEach [e, .Tuple ct x1 pt] X.env = (false, eval e X.env) :: starEach [.Tuple ct x1 pt] X.env := by rfl) (h2 : starEach [.Tuple ct x1 pt] X.env = (false, eval (.Tuple ct x1 pt) X.env) :: starEach [] X.env := by rfl) (hpl : (backTo pos (starEach [.Tuple ct x1 pt] X.env)).any (·.1) = false := by rfl) :
    HE X L (.Call (.Name "isinstance" p) [e, .Tuple ct x1 pt] [] pos) (fIsisQ ci ce ts fe) :=
  PE.weak (pe_callB call_isiTZ hg hm hv (pa_cons he (pa_cons (pe_tup hc) pa_nil h2) h1) (by decide) (by decide) h1 hpl) <| lift_of fun C σ H G W δ P Q I lk h k => ⟨C, G, W, δ, _, I, lk, pP_bind.mp h, fun r δ1 v H1 G1 W1 h1 x1 I1 o1 => by
    obtain ⟨d, b, e1, e2, hp⟩ := isi_imp h1
    refine ⟨by rw [List.length_map, sizeLine_eq]; omega, fun tp ntp => ?_⟩
    have dn := ((I1.peekOk o1 e1).den I1.gh).mono (Ex.new (o := .tup (ts.map V.ty)) ntp)
    have I2 := I1.laid (o := .tup (ts.map V.ty)) ntp
    obtain ⟨q, t1, t2⟩ := isTysQ_ok cq e2
    obtain ⟨t0, ht0⟩ := List.exists_mem_of_ne_nil ts h0
    exact ⟨v, tp, _, q, _, b, rfl, upd_same, paired_ty _, tyQ_ok (cq t0 ht0) dn t1, t2, k _ δ1 _ _ G1 W1 hp x1 I2 (.bl b)⟩⟩
theorem cq_two {ci ce : List Addr} {t1 t2 : String} (h1 : CQ1 K ci ce t1) (h2 : CQ1 K ci ce t2) : ∀ t ∈ [t1, t2], CQ1 K ci ce t := fun t ht => by
  simp only [List.mem_cons, List.not_mem_nil, or_false] at ht
  rcases ht with rfl | rfl
  · exact h1
  · exact h2
end
end DL
set_option maxHeartbeats 1000000
namespace DL
open PySem PySem.Spec L2
variable [TabsC]
def upK (d : D) : Option D := match d with
  | .str a => if a.length ≤ 5592405 then some (.str (Txt.upper a)) else none
  | _ => none
def fUp (fo : FE) : FE := fo.bind fun r => (peekF r).bind fun d => (F.of (upK d)).bind fun z => F.ret (.val z)
section
variable {X : Cx} {K : PySem.W.Frag} {L : Lk} {o : Expr} {fo : FE} {apos cpos : Pos}
theorem fe_upper (ho : HE X L o fo) (hbase : attributeBase o "upper" X.env (eval o X.env) = eval o X.env := by rfl) (hline : (apos.endLine == cpos.line) = true := by rfl) : HE X L (.Call (.Attribute o "upper" apos) [] [] cpos) (fUp fo) :=
  PE.weak (pe_upper ho hbase hline) <| lift_of fun C σ H G W δ P Q I lk h k => ⟨C, G, W, δ, _, I, lk, pP_bind.mp h, fun r1 δ1 x H1 G1 W1 h1 x1 I1 o1 => by
    obtain ⟨d, e1, h1⟩ := pP_peek (pP_bind.mp h1)
    obtain ⟨z, e2, h2⟩ := pP_of (pP_bind.mp h1)
    have dx : Den X.K H1 x d := (I1.peekOk o1 e1).den I1.gh
    unfold upK at e2
    split at e2
    · rename_i a
      split at e2
      · rename_i hz
        cases e2
        exact ⟨⟨a, dx.of_str⟩, a, dx.of_str, rfl, hz, k _ δ1 _ H1 G1 W1 h2 x1 I1 (Den.str _)⟩
      · cases e2
    · cases e2⟩
end
end DL
set_option maxHeartbeats 1000000
namespace DL
open PySem PySem.Spec L2
variable [TabsC]
section
variable {X : Cx} {L : Lk} {w : World} {pos : Pos} {e : Expr} {fe : FE}
end
theorem hu12 {A : Around} {k : Nat} (hr : Room k A) : A.units + 12 < cLine := by
  have := units65 hr; omega
section
variable {w : World} {δ : List R} {fa fb fo fe ff fx ek ev : FE} {kds ds : List (D × D)} {k d : D} {k9 : NestedKey} {i j : Nat} {f : FS} {m : FM} {g : FG} {t : FT} {fi : FI} {vs : List Nat} {acc : List (D × D)} {dl : List D} {b neg : Bool} {q : (D × NestedKey) × D} {e : F ((D × NestedKey) × D)} {kc : List (D × D) → List R → T (List (D × D) × List R)}
end
end DL
namespace DL
open PySem PySem.Spec L2
open PySem.SeqAt (RcAt EqAt)
variable [TabsC]
section
variable {X : Cx} {K : PySem.W.Frag}
def rEqNil (K : PySem.W.Frag) : R2 := fun x y H Q => ∃ a b xs, x = .ref a ∧ y = .ref b ∧ SqL K H a xs ∧ SqL K H b [] ∧ Q (.bl xs.isEmpty) H
theorem op_eqNil (hu : X.A.units < cLine) : OpR X (compareOp .Eq) (rEqNil X.K) := by
  intro pins s σ H x y v u Q I rx ry h
  obtain ⟨a, b, xs, rfl, rfl, ha, hb, q⟩ := h
  cases (show v = Value.ref a from rx)
  cases (show u = Value.ref b from ry)
  obtain ⟨us, r1, p1, _⟩ := I.list ha
  obtain ⟨ws, r2, p2, _⟩ := I.list hb
  cases r2
  have key : RcAt X.A s (.ref a) (.ref b) xs.isEmpty := by
    cases xs with
    | nil =>
      cases r1
      exact RcAt.lists (e := fun _ => true) p1.isList p2.isList rfl hu (fun j h1 _ => absurd h1 (Nat.not_lt_zero j))
    | cons x xs =>
      cases r1
      exact RcAt.lists_lengths p1.isList p2.isList (by simp) hu
  exact key X.prog X.w _ _ ⟨.bl _, H, I, rfl, q⟩
def cEqNilF : D → D → Option Bool
  | .lst ds, .lst [] => some ds.isEmpty
  | _, _ => none
theorem cs_eqNil : CmpSem K (rEqNil K) (fun d1 d2 b => cEqNilF d1 d2 = some b) := fun H x y d1 d2 b Q h1 h2 hc q => by
  have hc : cEqNilF d1 d2 = some b := hc
  match d1, d2, hc with
  | .lst ds, .lst [], hc =>
    cases hc
    obtain ⟨a1, vs1, rfl, k1, e1⟩ := h1.of_lst
    obtain ⟨a2, vs2, rfl, k2, e2⟩ := h2.of_lst
    have : vs2 = [] := List.length_eq_zero_iff.mp e2.1
    subst this
    refine ⟨a1, a2, vs1, rfl, rfl, .of k1, .of k2, ?_⟩
    have l1 : vs1.length = ds.length := e1.1
    have : vs1.isEmpty = ds.isEmpty := by cases vs1 <;> cases ds <;> first | rfl | simp at l1
    rw [this]
    exact q
variable {L : Lk} {a b : Expr} {fa fb : FE} {pos : Pos}
theorem fe_eqNil (hu : X.A.units + 64 < cLine) (ha : HE X L a fa) (hb : HE X L b fb) : HE X L (.Compare a [.Eq] [b] pos) (fCmp cEqNilF fa fb) := fe_cmp (fun _ _ _ h => h) (op_eqNil (by omega)) cs_eqNil ha hb (nomark _)
theorem k_eqNil {ds : List D} : cEqNilF (.lst ds) (.lst []) = some ds.isEmpty := (rfl)
end
section
variable {X : Cx} {K : PySem.W.Frag}
open Classical in
variable {L : Lk} {a b : Expr} {fa fb : FE} {pos : Pos}
def D.FitsY (d : D) : Prop := d.fitd 280 = true ∧ d.widd 280 ≤ 16000000
instance {d : D} : Decidable d.FitsY := by unfold D.FitsY; exact inferInstance
theorem FitsY.shown {d : D} (h : d.FitsY) : (D.pyd 280 d).showable = true ∧ (D.pyd 280 d).shown.length ≤ 16000000 := ⟨(fitd_shown h.1).1, Nat.le_trans (fitd_shown h.1).2 h.2⟩
end
end DL
set_option maxHeartbeats 1000000
namespace DL
open PySem PySem.Spec PyProof.Rows L2
section
variable {prog : Program} {w : World} {A : Around} {E : Value → Shared → Prop} {s : Shared} {d : Addr} {ea : Array DictEntry} {ep : Nat}
theorem len_body_raw {Q : Value → Shared → Prop} (hd : (d == sysModules) = false) (hm : s.heap.DictRaw d ea ep) (hz : ea.size ≤ sizeLine) (h : ∀ t k, Q (.int ea.size t) { s with toks := k }) : wpAny (model prog w) A (Builtin.«len» ⟨[.ref d], []⟩) (fun fin s' => ∃ r, fin = .done (.ret r) ∧ Q r s') E s := by
  have hl := sizeLine_eq
  unfold Builtin.«len»
  refine wpAny_bind (m := oneArg "len" _) (wpAny_pure ?_)
  refine wpAny_bind (m := callSpecial? (.ref d) (Str.ofString "__len__")) (wpAny_callSpecial?_slot (name := Str.ofString "__len__") hm.typeIs F.slot_dict_len (call_len_raw hd hm ?_))
  show wpAny _ _ _ _ _ { s with toks := s.toks + 1 }
  refine wpAny_bind (wpAny_holding (wpAny_pure (wpAny_bind (wpAny_letGo ?_))))
  show wpAny _ _ (if ((ea.size : Nat) : Int) < 0 then _ else _) _ _ _
  rw [if_neg (by omega)]
  show wpAny _ _ (if ((ea.size : Nat) : Int) ≥ 2 ^ 63 then _ else _) _ _ _
  rw [if_neg (by omega)]
  exact wpAny_bind (wpAny_mkInt (wpAny_pure ⟨_, rfl, h _ _⟩))
theorem truthy_raw {Q : Bool → Shared → Prop} (hd : (d == sysModules) = false) (hm : s.heap.DictRaw d ea ep) (hz : ea.size ≤ sizeLine) (h : ∀ k, Q (!(ea.size == 0)) { s with toks := k }) : wpAny (model prog w) A (truthy (.ref d)) Q E s := by
  have hne : ((ea.size : Int) != 0) = !(ea.size == 0) := by
    cases hh : ea.size with
    | zero => rfl
    | succ n => simp; omega
  have key : wpAny (model prog w) A (runValue (.builtin "len" ⟨[.ref d], []⟩)) (fun r s' => ∃ t, r = .int ea.size t ∧ Q (!(ea.size == 0)) s') E s := by
    refine wpAny_runValue (codeAny_builtin entry_len ?_)
    rw [Around.under_plainId plain_len _]
    exact wpAny_mono (len_body_raw (Q := fun r s' => ∃ t, r = .int ea.size t ∧ Q (!(ea.size == 0)) s') hd hm hz fun t k => ⟨t, rfl, h k⟩) (fun fin s' h' => by obtain ⟨r, rfl, hq⟩ := h'; exact hq) fun _ _ e => e
  unfold truthy
  first
    | refine wpAny_bind (wpAny_callSpecial?_none (name := Str.ofString "__bool__") hm.typeIs noBool_dict ?_)
    | refine wpAny_bind (wpAny_pure (wpAny_bind (wpAny_callSpecial?_none (name := Str.ofString "__bool__") hm.typeIs noBool_dict ?_)))
  first
    | refine wpAny_bind (wpAny_specialOf (name := Str.ofString "__len__") hm.typeIs F.slot_dict_len.lookup ?_)
    | refine wpAny_bind (wpAny_pure (wpAny_bind (wpAny_specialOf (name := Str.ofString "__len__") hm.typeIs F.slot_dict_len.lookup ?_)))
  first
    | exact wpAny_bind (wpAny_mono key (fun r s' h' => by obtain ⟨t, rfl, hq⟩ := h'; exact wpAny_pure (hne ▸ hq)) fun _ _ e => e)
    | exact wpAny_bind (wpAny_pure (wpAny_bind (wpAny_mono key (fun r s' h' => by obtain ⟨t, rfl, hq⟩ := h'; exact wpAny_pure (hne ▸ hq)) fun _ _ e => e)))
end
variable [TabsC]
section
variable {X : Cx} {K : PySem.W.Frag} {L : Lk} {a b : Expr} {fa fb : FE} {pos : Pos}
def TruM (x : V) (H : Hp) (k : Bool) : Prop := (x = .non ∧ k = false) ∨ x = .bl k ∨ ∃ (p : Addr) (w : World) (o : Obj) (kvs : List VM), x = .ref p ∧ H p = some (MixO w p o kvs) ∧ kvs.length ≤ sizeLine ∧ k = !kvs.isEmpty
theorem pe_notM {ta : TE} (ha : PE X a ta) : PE X (.UnaryOp .Not a pos) (fun σ H Q => ta σ H fun x H1 => ∃ k, TruM x H1 k ∧ Q (.bl (!k)) H1) := by
  refine ⟨fun pins s σ H Q I h => ?_⟩
  refine UnaryOp_ (thn (ha.run pins s σ H _ I h) fun v s1 ⟨x, H1, I1, r1, k, e, q1⟩ => ?_)
  rcases e with ⟨rfl, rfl⟩ | rfl | ⟨p, w, o, kvs, rfl, hp, hz, rfl⟩
  · cases r1
    exact not_of (truthy_none ⟨.bl true, H1, I1, rfl, q1⟩)
  · cases r1
    exact not_of (wpAny_truthy_bool ⟨.bl _, H1, I1, rfl, q1⟩)
  · obtain rfl : v = Value.ref p := r1
    obtain ⟨⟨ho, ⟨ea, ep, h1, h2, h3, h4⟩, n⟩, _⟩ : ObjOk X.prog X.w H1 s1.heap p (MixO w p o kvs) := I1.hok p _ hp
    have hl : ea.size = kvs.length := by rw [← Array.length_toList]; exact (p2_len h3).symm
    refine not_of (truthy_raw n ⟨o, ho, h1, h2⟩ (by omega) fun k => ⟨.bl _, H1, I1.tok k, rfl, ?_⟩)
    have : (!(!(ea.size == 0))) = !!kvs.isEmpty := by rw [hl]; cases kvs <;> rfl
    rw [this]
    exact q1
def truQ : D → Option Bool
  | .non => some false
  | .bl b => some b
  | .dcm _ kds => if kds.length ≤ sizeLine then some (!kds.isEmpty) else none
  | _ => none
theorem truQ_ok {H : Hp} {v : V} {d : D} {k : Bool} (h : Den K H v d) (e : truQ d = some k) : TruM v H k := by
  unfold truQ at e
  split at e
  · cases e; exact .inl ⟨h.of_non, rfl⟩
  · cases e; exact .inr (.inl h.of_bl)
  · rename_i w kds
    split at e
    · rename_i hz
      cases e
      obtain ⟨p, o, kvs, rfl, hp, dn⟩ := h.of_dcm
      refine .inr (.inr ⟨p, w, o, kvs, rfl, hp, by rw [dn.1]; exact hz, ?_⟩)
      have := dn.1
      cases kvs <;> cases kds <;> first | rfl | simp at this
    · cases e
  · cases e
def fNotQ (fa : FE) : FE := fa.bind fun r => (peekF r).bind fun d => (F.of (truQ d)).bind fun k => F.ret (.val (.bl (!k)))
theorem fe_notQ (ha : HE X L a fa) : HE X L (.UnaryOp .Not a pos) (fNotQ fa) :=
  PE.weak (pe_notM ha) <| lift_of fun C σ H G W δ P Q I lk h k => ⟨C, G, W, δ, _, I, lk, pP_bind.mp h, fun r δ1 v H1 G1 W1 h1 x1 I1 o1 => by
    obtain ⟨d, e1, h1⟩ := pP_peek (pP_bind.mp h1)
    obtain ⟨b, e2, hp⟩ := pP_of (pP_bind.mp h1)
    exact ⟨b, truQ_ok ((I1.peekOk o1 e1).den I1.gh) e2, k _ δ1 _ H1 G1 W1 hp x1 I1 (.bl _)⟩⟩
theorem op_isQ : OpR X (compareOp .Is) (fun x y H Q => ∃ b c, y = .bl b ∧ ((x = .non ∧ c = false) ∨ (∃ a, x = .bl a ∧ c = decide (a = b)) ∨ (∃ p, x = .ref p) ∧ c = false) ∧ Q (.bl c) H) := by
  intro pins s σ H x y v u Q I rx ry h
  obtain ⟨b, c, rfl, h, q⟩ := h
  cases (show u = Value.bool b from ry)
  rcases h with ⟨rfl, rfl⟩ | ⟨a, rfl, rfl⟩ | ⟨⟨p, rfl⟩, rfl⟩
  · cases (show v = Value.none from rx)
    exact wpAny_is_plain rfl (fin_bl I q rfl)
  · cases (show v = Value.bool a from rx)
    exact wpAny_is_plain rfl (fin_bl I q (by cases a <;> cases b <;> rfl))
  · cases (show v = Value.ref p from rx)
    exact wpAny_is_plain rfl (fin_bl I q rfl)
def cIsQF : D → D → Option Bool
  | .non, .bl _ => some false
  | .bl x, .bl y => some (decide (x = y))
  | .dcm _ _, .bl _ => some false
  | _, _ => none
theorem cs_isQ : CmpSem K (fun x y H Q => ∃ b c, y = .bl b ∧ ((x = .non ∧ c = false) ∨ (∃ a, x = .bl a ∧ c = decide (a = b)) ∨ (∃ p, x = .ref p) ∧ c = false) ∧ Q (.bl c) H) (fun d1 d2 b => cIsQF d1 d2 = some b) := fun H x y d1 d2 b Q h1 h2 hc q => by
  have hc : cIsQF d1 d2 = some b := hc
  unfold cIsQF at hc
  split at hc
  · cases hc; exact ⟨_, _, h2.of_bl, .inl ⟨h1.of_non, rfl⟩, q⟩
  · cases hc; exact ⟨_, _, h2.of_bl, .inr (.inl ⟨_, h1.of_bl, rfl⟩), q⟩
  · cases hc
    obtain ⟨p, _, _, rfl, _⟩ := h1.of_dcm
    exact ⟨_, _, h2.of_bl, .inr (.inr ⟨⟨_, rfl⟩, rfl⟩), q⟩
  · cases hc
theorem fe_isQ (ha : HE X L a fa) (hb : HE X L b fb) : HE X L (.Compare a [.Is] [b] pos) (fCmp cIsQF fa fb) := fe_cmp (fun _ _ _ h => h) op_isQ cs_isQ ha hb (nomark _)
end
def xnB (K : PySem.W.Frag) (C : Addr) (t : String) : Bool := excIB K C && decide (PySem.W.kitOne K (.ref C) (.type t) = some false)
theorem xn_of {K : PySem.W.Frag} {C : Addr} {t : String} (q : xnB K C t = true) : NtX K C t := by
  unfold xnB excIB at q
  simp only [Bool.and_eq_true, decide_eq_true_eq] at q
  obtain ⟨⟨q1, q2, q3, q4, q5, q6, q7, q8⟩, q9⟩ := q
  exact ⟨⟨He.eqO_ok q1, q2, q3, q4, He.eqO_ok q5, He.eqO_ok q6, q7, q8⟩, q9⟩
section
variable {w : World} {δ : List R} {fe fa fb fx : FE} {fA : FA} {ps : List (FE × FE)} {l kds : List (D × D)} {d k v : D} {i : Nat} {f : FS} {ci ce : List Addr} {t : String} {ts : List String} {c a : Addr}
theorem q_dispM : fDispM w ps δ = (fPairs ps δ).bind fun o => o.on fun l => F.of (dispM w l) := (rfl)
theorem q_dispK : dispM w l = if keysAllM l = true then some (.own (.dcm w (mPuts [] l))) else none := (rfl)
theorem q_dnewM : fDnewM w δ = .ret (.ok (.own (.dcm w [])) δ) := (rfl)
theorem q_mix : fMix w fa fb δ = (fa δ).bind fun o => o.on fun r1 => fb.bind fun r2 => (peekF r1).bind fun d => (peekF r2).bind fun k => (F.of (mAtW w d k)).bind fun y => F.ret (.val y) := (rfl)
theorem q_mAtW (h : (kOfM k).isSome = true) : mAtW w (.dcm w kds) k = mAt kds k := by
  obtain ⟨k9, e⟩ := Option.isSome_iff_exists.mp h
  unfold mAtW; rw [dcmW_dcm, e]; rfl
theorem q_fiMix : fiMix w fe δ = (fe δ).bind fun o => o.on fun r => (useF r).bind fun d => (F.of (dcmW w d)).bind fun kds => F.ret (kds.map (·.1)) := (rfl)
theorem q_dcmW : dcmW w (.dcm w kds) = some kds := dcmW_dcm
theorem q_listM (h : kds.length ≤ sizeLine) : bListMF w [.dcm w kds] = some (.own (.lst (kds.map (·.1)))) := by
  show (dcmW w (.dcm w kds)).bind _ = _
  rw [dcmW_dcm]; exact if_pos h
theorem q_itemsM : fItemsM w fe δ = (fe δ).bind fun o => o.on fun r => (peekF r).bind fun d => (F.of ((dcmW w d).bind fun kds => if kds.length ≤ sizeLine then some kds else none)).bind fun kds => F.ret (.own (.lst (itemsD kds))) := (rfl)
theorem q_dictM {xs : List D} : bDictMF w [.lst xs] = (pairsM xs).map fun l => .own (.dcm w (mPuts [] l)) := (rfl)
theorem q_putM : fPutM w i fx fe δ = (fe δ).bind fun o => o.go fun r => ownMS w i (eS fx fun r2 => eS (useF r) fun d => eS (peekF r2) fun k => putKM w i d k) := (rfl)
theorem q_ownMS (h : gt δ i = .own (.dcm w kds)) : ownMS w i f δ = f δ := by unfold ownMS; rw [h]; simp only [dcmW_dcm]
theorem q_putKM (h : (kOfM k).isSome = true) (h2 : gt δ i = .own (.dcm w kds)) (h3 : kds.length < sizeLine) : putKM w i d k δ = .ret (.nx (st δ i (.own (.dcm w (mPut kds k d))))) := by
  obtain ⟨k9, e⟩ := Option.isSome_iff_exists.mp h
  unfold putKM; rw [e, h2]; simp only [dcmW_dcm, if_pos h3]
theorem q_neDicM : cNeDicMF w (.dcm w kds) (.dcm w []) = some (!kds.isEmpty) := by
  unfold cNeDicMF; rw [dcmW_dcm, dcmW_dcm]; rfl
theorem q_isiQ : fIsiQ ci ce t fe δ = (fe δ).bind fun o => o.on fun r => (peekF r).bind fun d => (F.of (isTyQ ci ce t d)).bind fun b => F.ret (.val (.bl b)) := (rfl)
theorem q_isisQ : fIsisQ ci ce ts fe δ = (fe δ).bind fun o => o.on fun r => (peekF r).bind fun d => (F.of (isTysQ ci ce ts d)).bind fun b => F.ret (.val (.bl b)) := (rfl)
theorem q_tyNon : isTyQ ci ce t .non = isTy t .non := (rfl)
theorem q_tyBl {b : Bool} : isTyQ ci ce t (.bl b) = isTy t (.bl b) := (rfl)
theorem q_tyInt {n : Int} : isTyQ ci ce t (.int n) = isTy t (.int n) := (rfl)
theorem q_tyStr {x : Str} : isTyQ ci ce t (.str x) = isTy t (.str x) := (rfl)
theorem q_tyLst {xs : List D} : isTyQ ci ce t (.lst xs) = isTy t (.lst xs) := (rfl)
theorem q_tyTup {xs : List D} : isTyQ ci ce t (.tup xs) = isTy t (.tup xs) := (rfl)
theorem q_tyDcm : isTyQ ci ce t (.dcm w kds) = kitB "dict" t := (rfl)
theorem q_tyObx : isTyQ ci ce t (.obx c a) = if ce.contains c = true then some false else none := (rfl)
theorem q_mkE : fMkE c fA δ = (fA δ).bind fun o => o.on fun rs => (useAllF rs).bind (mkEK c) := (rfl)
theorem q_mkEK : mkEK c [.val d] δ = .any fun a _ => .ret (.ok (.val (.obx c a)) δ) := (rfl)
theorem q_up : fUp fe δ = (fe δ).bind fun o => o.on fun r => (peekF r).bind fun d => (F.of (upK d)).bind fun z => F.ret (.val z) := (rfl)
theorem q_upK {x : Str} : upK (.str x) = if x.length ≤ 5592405 then some (.str (Txt.upper x)) else none := (rfl)
theorem q_notQ : fNotQ fe δ = (fe δ).bind fun o => o.on fun r => (peekF r).bind fun d => (F.of (truQ d)).bind fun k => F.ret (.val (.bl (!k))) := (rfl)
theorem q_truN : truQ .non = some false := (rfl)
theorem q_truB {b : Bool} : truQ (.bl b) = some b := (rfl)
theorem q_isN {b : Bool} : cIsQF .non (.bl b) = some false := (rfl)
theorem q_isB {x y : Bool} : cIsQF (.bl x) (.bl y) = some (decide (x = y)) := (rfl)
theorem q_isD {b : Bool} : cIsQF (.dcm w kds) (.bl b) = some false := (rfl)
end
section
variable {w : World} {kds : List (D × D)} {ci ce : List Addr} {ts : List String} {t : String} {d : D}
theorem q_kd_int : kitB "dict" "int" = some false := (rfl)
theorem q_kd_bool : kitB "dict" "bool" = some false := (rfl)
theorem q_kd_str : kitB "dict" "str" = some false := (rfl)
theorem q_kd_list : kitB "dict" "list" = some false := (rfl)
theorem q_kd_tuple : kitB "dict" "tuple" = some false := (rfl)
theorem q_kd_dict : kitB "dict" "dict" = some true := (rfl)
theorem q_tys0 : isTysQ ci ce [] d = (tyQ ci ce d).map fun _ => false := (rfl)
theorem q_tys1 : isTysQ ci ce (t :: ts) d = (match isTyQ ci ce t d with | some true => some true | some false => isTysQ ci ce ts d | none => none) := by
  first | rfl | (rw [isTysQ.eq_def])
theorem q_tqNon : tyQ ci ce .non = some (.type "NoneType") := (rfl)
theorem q_tqBl {b : Bool} : tyQ ci ce (.bl b) = some (.type "bool") := (rfl)
theorem q_tqInt {n : Int} : tyQ ci ce (.int n) = some (.type "int") := (rfl)
theorem q_tqStr {x : Str} : tyQ ci ce (.str x) = some (.type "str") := (rfl)
theorem q_tqDcm : tyQ ci ce (.dcm w kds) = some (.type "dict") := (rfl)
end
end DL
namespace DL
open PySem PySem.Spec L2 PyProof.Rows
variable [TabsC]
def gMulT : D → D → (R → Prop) → Prop
  | .tup x, .int k, P => (2 ≤ k ∧ k ≤ 1000) ∧ (x ≠ [] ∧ x.length ≤ 1000) ∧ P (.val (.tup (List.replicate k.toNat x).flatten))
  | _, _, _ => False
def gMulTF : D → D → Option R
  | .tup x, .int k => if (2 ≤ k ∧ k ≤ 1000) ∧ (x.isEmpty = false ∧ x.length ≤ 1000) then some (.val (.tup (List.replicate k.toNat x).flatten)) else none
  | _, _ => none
theorem gs_mulT : GS gMulTF gMulT := fun d1 d2 r P h hp => by
  unfold gMulTF at h
  split at h
  · split at h
    · rename_i z
      cases h
      exact ⟨z.1, ⟨fun e => (by rw [e] at z; cases z.2.1), z.2.2⟩, hp⟩
    · cases h
  · cases h
def rRepF (K : PySem.W.Frag) : R2 := fun x y H Q => ∃ l k xs, x = .ref l ∧ y = .int k ∧ SqT K H l xs ∧ xs ≠ [] ∧ 2 ≤ k ∧ k ≤ 1000 ∧ xs.length ≤ 1000 ∧ ∀ p its, H p = none → Q (.ref p) (upd H p (.frz (tupObj its) (.tup (List.replicate k.toNat xs).flatten)))
theorem op_repF {X : Cx} : OpR X (binaryOp .Mult) (rRepF X.K) := by
  intro pins s σ H x y v u Q I rx ry h
  obtain ⟨l, k, xs, rfl, rfl, hT, hne, h1, h2, hz, q⟩ := h
  cases rx
  obtain ⟨t, rfl⟩ := ry
  obtain ⟨its, r, ⟨⟨cls, dd, data, sl⟩, ho, hc, n, hd⟩, hs⟩ := I.tuple hT
  simp only at hc hd
  subst hc hd
  have hle : its.length = xs.length := r.length.symm
  have hn : its ≠ [] := fun e => hne (by
    rw [e] at hle
    exact List.eq_nil_of_length_eq_zero hle.symm)
  have hi : its.toArray.isEmpty = false := by
    cases its with
    | nil => exact absurd rfl hn
    | cons a b => rfl
  have hsz0 : its.toArray.size = xs.length := by rw [List.size_toArray, hle]
  have hm : ((its.toArray.size : Nat) : Int) * k ≤ 1000000 := by
    rw [hsz0]
    have a1 : ((xs.length : Nat) : Int) * k ≤ 1000 * k := Int.mul_le_mul_of_nonneg_right (by omega) (by omega)
    omega
  have hrl : ∀ {α : Type} (ys : List α), ys.length = xs.length → (List.replicate k.toNat ys).flatten.length ≤ sizeLine := fun ys e => by
    rw [PyProof.Rows.lm_len_rep_flat, e, sizeLine_eq]
    have a1 : k.toNat * xs.length ≤ 1000 * 1000 := Nat.mul_le_mul (by omega) hz
    omega
  have c0 : (decide (k < -(2 ^ 63)) || decide (k ≥ 2 ^ 63)) = false := by
    rw [decide_eq_false (by omega), decide_eq_false (by omega)] <;> rfl
  have c1 : (its.toArray.isEmpty || k == 1) = false := by
    rw [hi, Bool.false_or]
    exact beq_eq_false_iff_ne.mpr (by omega)
  have c2 : (decide (k ≤ 0) || its.toArray.isEmpty) = false := by
    rw [hi, Bool.or_false]
    exact decide_eq_false (by omega)
  have c4 : Builtin.Tuple.tupleTooMany (((its.toArray.size : Nat) : Int) * k) = false := by
    unfold Builtin.Tuple.tupleTooMany
    rw [sizeLine_eq]
    exact decide_eq_false (by omega)
  refine wpAny_binaryOp_repeat_ref (T := "tuple") (U := "int") (by decide) ⟨_, ho, rfl⟩ (fun s' => typeIs_int s' k t) noFill_tuple_mul F.fills_int_mul F.slot_int_rmul repeat_tuple F.slot_int_index.lookup
    (call_meets F.slot_int_rmul (typeIs_int s k t) F.entry_int_rmul (F.args_int_rmul_2 _ _) (int_rmul_tuple k t l its.toArray n dd sl)
      ⟨ho, rfl, ⟨_, ho, rfl⟩, call_meets F.slot_tuple_mul ⟨_, ho, rfl⟩ F.entry_tuple_mul (F.args_tuple_mul_2 _ _) (tuple_mulW l its.toArray n dd sl k t c0 c1 c2 (by omega) c4 (by rw [size_rep, List.size_toArray]; exact hrl its hle)) ⟨ho, ?_⟩⟩)
  rw [size_rep]
  exact ⟨.ref s.heap.objs.size, _, layTup I (r.rep k.toNat) (hrl xs rfl) s.toks, rfl, q _ _ (I.hok.fresh (Nat.le_refl _))⟩
section
variable {X : Cx} {K : PySem.W.Frag} {L : Lk} {pos : Pos} {a b : Expr} {fa fb : FE}
theorem os_mulT : OpSem K (rRepF K) gMulT := fun C σ H G W δ x y d1 d2 P Q I h1 h2 hg k => by
  cases d1 with
  | tup xs => cases d2 with
    | int n =>
      obtain ⟨p, vs, rfl, hp, dp⟩ := h1.of_tup
      obtain ⟨g1, ⟨g2, g3⟩, g4⟩ := hg
      have hne : vs ≠ [] := fun e => g2 (List.length_eq_zero_iff.mp (by rw [← dp.1, e]; rfl))
      refine ⟨p, n, vs, rfl, h2.of_int, ex_t I.gh hp, hne, g1.1, g1.2, by rw [dp.1]; exact g3, fun t its ht => ?_⟩
      obtain ⟨I', o⟩ := I.newTup (its := its) ht (all2_flat dp n.toNat)
      exact k _ _ _ _ _ g4 (Ex.new (I.fresh ht).1) I' o
    | _ => exact hg.elim
  | _ => cases d2 <;> exact hg.elim
theorem fe_mulT (ha : HE X L a fa) (hb : HE X L b fb) : HE X L (.BinOp a .Mult b pos) (fBin gMulTF fa fb) := fe_op gs_mulT op_repF os_mulT ha hb
end
theorem q_mulT {xs : List D} {m : Int} : gMulTF (.tup xs) (.int m) = if (2 ≤ m ∧ m ≤ 1000) ∧ (xs.isEmpty = false ∧ xs.length ≤ 1000) then some (.val (.tup (List.replicate m.toNat xs).flatten)) else none := (rfl)
end DL
set_option maxHeartbeats 4000000
namespace K20
open PySem PySem.Spec L2 DL
def topS (i : Nat) : Stmt := PySem.Challenge.pw_refusedahead_k20_tests_known.main.body.getD i (.Pass ⟨0, 0, 0, 0⟩)
def gl_ANSWERS : List D := [.str "error", .str "no", .str "unknown", .str "yes"]
abbrev gd_ANSWERS : D := .tup gl_ANSWERS
abbrev gd_FAR : D := .int 1000000000000
abbrev gd_LETTERS : D := .str "abcdefghijklmnopqrstuvwxyz"
abbrev gd_MOST_LETTERS : D := .int 8
def gl_SIGNS : List D := [.str "<", .str "<=", .str "<>", .str "=", .str ">", .str ">="]
abbrev gd_SIGNS : D := .tup gl_SIGNS
abbrev s_is_integer : Stmt := topS 7
abbrev s_is_number : Stmt := topS 8
abbrev s_is_name : Stmt := topS 9
abbrev s_are_pairs : Stmt := topS 11
abbrev s_is_step : Stmt := topS 12
abbrev s_are_steps : Stmt := topS 13
abbrev s_is_test : Stmt := topS 16
abbrev s_column_of : Stmt := topS 17
abbrev s_are_conditions : Stmt := topS 20
abbrev s_is_case : Stmt := topS 21
abbrev s_is_condition : Stmt := topS 22
abbrev s__law_alike : Stmt := topS 26
abbrev s__law_one : Stmt := topS 27
abbrev s__law_number : Stmt := topS 28
abbrev s__law_step : Stmt := topS 29
abbrev s__law_test : Stmt := topS 30
abbrev s__law_leaf : Stmt := topS 31
abbrev s__law_small : Stmt := topS 32
abbrev s__law_split : Stmt := topS 33
abbrev s__law_tree : Stmt := topS 34
abbrev s__law_deepest : Stmt := topS 35
abbrev s__law_odd : Stmt := topS 36
abbrev s__law_bent : Stmt := topS 37
abbrev s__law_bent_row : Stmt := topS 38
abbrev s__law_bent_dict : Stmt := topS 39
abbrev s__law_is_whole_number : Stmt := topS 40
abbrev s__law_is_near_number : Stmt := topS 41
abbrev s__law_is_word : Stmt := topS 42
abbrev s__law_are_pairs : Stmt := topS 45
abbrev s__law_is_step : Stmt := topS 44
abbrev s__law_are_steps : Stmt := topS 43
abbrev s__law_is_test : Stmt := topS 46
abbrev s__law_are_conditions : Stmt := topS 47
abbrev s__law_is_condition : Stmt := topS 48
abbrev s__law_wide : Stmt := topS 49
abbrev s__law_grown : Stmt := topS 50
abbrev s_law : Stmt := topS 51
abbrev sTake : Stmt := topS 25
abbrev sBag : Stmt := topS 24
abbrev i_Wrong : Stmt := inClass (topS 2) 0
def D_fn : List He.DefD := [
  ⟨("_law_take", none), "_law_take", "_law_take", defArgs sTake, defBody sTake, defScope sTake, [], []⟩,
  ⟨("_law_bag", none), "_law_bag", "_law_bag", defArgs sBag, defBody sBag, defScope sBag, [], []⟩,
  ⟨("is_integer", none), "is_integer", "is_integer", defArgs s_is_integer, defBody s_is_integer, defScope s_is_integer, [], []⟩,
  ⟨("is_number", none), "is_number", "is_number", defArgs s_is_number, defBody s_is_number, defScope s_is_number, [], []⟩,
  ⟨("is_name", none), "is_name", "is_name", defArgs s_is_name, defBody s_is_name, defScope s_is_name, [], []⟩,
  ⟨("are_pairs", none), "are_pairs", "are_pairs", defArgs s_are_pairs, defBody s_are_pairs, defScope s_are_pairs, [], []⟩,
  ⟨("is_step", none), "is_step", "is_step", defArgs s_is_step, defBody s_is_step, defScope s_is_step, [], []⟩,
  ⟨("are_steps", none), "are_steps", "are_steps", defArgs s_are_steps, defBody s_are_steps, defScope s_are_steps, [], []⟩,
  ⟨("is_test", none), "is_test", "is_test", defArgs s_is_test, defBody s_is_test, defScope s_is_test, [], []⟩,
  ⟨("column_of", none), "column_of", "column_of", defArgs s_column_of, defBody s_column_of, defScope s_column_of, [], []⟩,
  ⟨("are_conditions", none), "are_conditions", "are_conditions", defArgs s_are_conditions, defBody s_are_conditions, defScope s_are_conditions, [], []⟩,
  ⟨("is_case", none), "is_case", "is_case", defArgs s_is_case, defBody s_is_case, defScope s_is_case, [], []⟩,
  ⟨("is_condition", none), "is_condition", "is_condition", defArgs s_is_condition, defBody s_is_condition, defScope s_is_condition, [], []⟩,
  ⟨("_law_alike", none), "_law_alike", "_law_alike", defArgs s__law_alike, defBody s__law_alike, defScope s__law_alike, [], []⟩,
  ⟨("_law_one", none), "_law_one", "_law_one", defArgs s__law_one, defBody s__law_one, defScope s__law_one, [], []⟩,
  ⟨("_law_number", none), "_law_number", "_law_number", defArgs s__law_number, defBody s__law_number, defScope s__law_number, [], []⟩,
  ⟨("_law_step", none), "_law_step", "_law_step", defArgs s__law_step, defBody s__law_step, defScope s__law_step, [], []⟩,
  ⟨("_law_test", none), "_law_test", "_law_test", defArgs s__law_test, defBody s__law_test, defScope s__law_test, [], []⟩,
  ⟨("_law_leaf", none), "_law_leaf", "_law_leaf", defArgs s__law_leaf, defBody s__law_leaf, defScope s__law_leaf, [], []⟩,
  ⟨("_law_small", none), "_law_small", "_law_small", defArgs s__law_small, defBody s__law_small, defScope s__law_small, [], []⟩,
  ⟨("_law_split", none), "_law_split", "_law_split", defArgs s__law_split, defBody s__law_split, defScope s__law_split, [], []⟩,
  ⟨("_law_tree", none), "_law_tree", "_law_tree", defArgs s__law_tree, defBody s__law_tree, defScope s__law_tree, [], []⟩,
  ⟨("_law_deepest", none), "_law_deepest", "_law_deepest", defArgs s__law_deepest, defBody s__law_deepest, defScope s__law_deepest, [], []⟩,
  ⟨("_law_odd", none), "_law_odd", "_law_odd", defArgs s__law_odd, defBody s__law_odd, defScope s__law_odd, [], []⟩,
  ⟨("_law_bent", none), "_law_bent", "_law_bent", defArgs s__law_bent, defBody s__law_bent, defScope s__law_bent, [], []⟩,
  ⟨("_law_bent_row", none), "_law_bent_row", "_law_bent_row", defArgs s__law_bent_row, defBody s__law_bent_row, defScope s__law_bent_row, [], []⟩,
  ⟨("_law_bent_dict", none), "_law_bent_dict", "_law_bent_dict", defArgs s__law_bent_dict, defBody s__law_bent_dict, defScope s__law_bent_dict, [], []⟩,
  ⟨("_law_is_whole_number", none), "_law_is_whole_number", "_law_is_whole_number", defArgs s__law_is_whole_number, defBody s__law_is_whole_number, defScope s__law_is_whole_number, [], []⟩,
  ⟨("_law_is_near_number", none), "_law_is_near_number", "_law_is_near_number", defArgs s__law_is_near_number, defBody s__law_is_near_number, defScope s__law_is_near_number, [], []⟩,
  ⟨("_law_is_word", none), "_law_is_word", "_law_is_word", defArgs s__law_is_word, defBody s__law_is_word, defScope s__law_is_word, [], []⟩,
  ⟨("_law_are_pairs", none), "_law_are_pairs", "_law_are_pairs", defArgs s__law_are_pairs, defBody s__law_are_pairs, defScope s__law_are_pairs, [], []⟩,
  ⟨("_law_is_step", none), "_law_is_step", "_law_is_step", defArgs s__law_is_step, defBody s__law_is_step, defScope s__law_is_step, [], []⟩,
  ⟨("_law_are_steps", none), "_law_are_steps", "_law_are_steps", defArgs s__law_are_steps, defBody s__law_are_steps, defScope s__law_are_steps, [], []⟩,
  ⟨("_law_is_test", none), "_law_is_test", "_law_is_test", defArgs s__law_is_test, defBody s__law_is_test, defScope s__law_is_test, [], []⟩,
  ⟨("_law_are_conditions", none), "_law_are_conditions", "_law_are_conditions", defArgs s__law_are_conditions, defBody s__law_are_conditions, defScope s__law_are_conditions, [], []⟩,
  ⟨("_law_is_condition", none), "_law_is_condition", "_law_is_condition", defArgs s__law_is_condition, defBody s__law_is_condition, defScope s__law_is_condition, [], []⟩,
  ⟨("_law_wide", none), "_law_wide", "_law_wide", defArgs s__law_wide, defBody s__law_wide, defScope s__law_wide, [], []⟩,
  ⟨("_law_grown", none), "_law_grown", "_law_grown", defArgs s__law_grown, defBody s__law_grown, defScope s__law_grown, [], []⟩,
  ⟨("law", none), "law", "law", defArgs s_law, defBody s_law, defScope s_law, [], []⟩,
  ⟨("Wrong", some "__init__"), "__init__", "Wrong.__init__", defArgs i_Wrong, defBody i_Wrong, defScope i_Wrong, [], []⟩]
def D_ex : List (PySem.W.Frag → Bool) := [
  fun K => gloB K "_law_take",
  fun K => gloB K "_law_bag",
  fun K => gloB K "is_integer",
  fun K => gloB K "is_number",
  fun K => gloB K "is_name",
  fun K => gloB K "are_pairs",
  fun K => gloB K "is_step",
  fun K => gloB K "are_steps",
  fun K => gloB K "is_test",
  fun K => gloB K "column_of",
  fun K => gloB K "are_conditions",
  fun K => gloB K "is_case",
  fun K => gloB K "is_condition",
  fun K => gloB K "_law_alike",
  fun K => gloB K "_law_one",
  fun K => gloB K "_law_number",
  fun K => gloB K "_law_step",
  fun K => gloB K "_law_test",
  fun K => gloB K "_law_leaf",
  fun K => gloB K "_law_small",
  fun K => gloB K "_law_split",
  fun K => gloB K "_law_tree",
  fun K => gloB K "_law_deepest",
  fun K => gloB K "_law_odd",
  fun K => gloB K "_law_bent",
  fun K => gloB K "_law_bent_row",
  fun K => gloB K "_law_bent_dict",
  fun K => gloB K "_law_is_whole_number",
  fun K => gloB K "_law_is_near_number",
  fun K => gloB K "_law_is_word",
  fun K => gloB K "_law_are_pairs",
  fun K => gloB K "_law_is_step",
  fun K => gloB K "_law_are_steps",
  fun K => gloB K "_law_is_test",
  fun K => gloB K "_law_are_conditions",
  fun K => gloB K "_law_is_condition",
  fun K => gloB K "_law_wide",
  fun K => gloB K "_law_grown",
  fun K => gloB K "law",
  fun K => freeB K "abs",
  fun K => freeB K "all",
  fun K => freeB K "bool",
  fun K => freeB K "dict",
  fun K => freeB K "int",
  fun K => freeB K "isinstance",
  fun K => freeB K "len",
  fun K => freeB K "list",
  fun K => freeB K "max",
  fun K => freeB K "min",
  fun K => freeB K "range",
  fun K => freeB K "repr",
  fun K => freeB K "str",
  fun K => freeB K "tuple",
  fun K => errB K "Wrong" "place",
  fun K => gloB K "Wrong",
  fun K => gkB K "ANSWERS" gd_ANSWERS,
  fun K => gkB K "FAR" gd_FAR,
  fun K => gkB K "LETTERS" gd_LETTERS,
  fun K => gkB K "MOST_LETTERS" gd_MOST_LETTERS,
  fun K => gkB K "SIGNS" gd_SIGNS,
  fun K => xnB K (He.ga K "Wrong") "str",
  fun K => xnB K (He.ga K "Wrong") "tuple",
  fun K => sysB K]
abbrev RowX : PySem.W.OpenRow := PySem.W.OpenLaw.row PySem.Challenge.rw_refusedahead_k20_tests_known
def D_ts : List He.Tab := []
abbrev Hk : PySem.W.Hook := hookF 5 D_fn D_ex D_ts
def Ob (s : PySem.W.SharedT) : AlF := obsF 5 D_fn D_ex D_ts (HandSHeadRun.getT s)
theorem Ob_eq (s : PySem.W.SharedT) : Ob s = Hk.obs s.abs := obsF_eq (HandSHeadRun.getT_eq s)
def Loose : List Str := (["AskError", "Wrong", "LETTERS", "MOST_LETTERS", "FAR", "is_integer", "is_number", "is_name", "are_pairs", "is_step", "are_steps", "SIGNS", "is_test", "column_of", "ANSWERS", "are_conditions"] : List Str) ++ (["is_case", "is_condition", "_law_bag", "_law_take", "_law_alike", "_law_one", "_law_number", "_law_step", "_law_test", "_law_leaf", "_law_small", "_law_split", "_law_tree", "_law_deepest", "_law_odd", "_law_bent"] : List Str) ++ (["_law_bent_row", "_law_bent_dict", "_law_is_whole_number", "_law_is_near_number", "_law_is_word", "_law_are_steps", "_law_is_step", "_law_are_pairs", "_law_is_test", "_law_are_conditions", "_law_is_condition", "_law_wide", "_law_grown"] : List Str)
set_option maxHeartbeats 0 in
theorem Run (w : World) : HandSHeadRun.RunEq RowX (PySem.W.view RowX.prog [51]) Hk Ob 4000 Loose w := by
  intro os
  kernel_rfl
end K20
namespace K20
open PySem PySem.Spec L2 DL
noncomputable section
def fs_is_integer : FS := (fRet (fAndV (fIsiQ [] [] "int" (fVar 0)) (fNotV (fIsiQ [] [] "bool" (fVar 0)))))
def m_is_integer : FM := mk 1 (fs_is_integer)
def fs_is_number : FS := (fRet (fAndV (fCall m_is_integer (fCons (fVar 0) fNil)) (fChain cLe cLe (fNeg (fC gd_FAR)) (fVar 0) (fC gd_FAR))))
def m_is_number : FM := mk 1 (fs_is_number)
def e_is_name_c1 (c_Wrong : Addr) : FE := (fCmp cInSF (fVar 1) (fC gd_LETTERS))
def fs_is_name (c_Wrong : Addr) : FS := (fSq (fIfS (fOr (fNot (fTst (fIsiQ [] [c_Wrong] "str" (fVar 0)))) (fNot (fTst (fChain cLe cLe (fC (.int 1)) (fCB bLenF (fCons (fVar 0) fNil)) (fC gd_MOST_LETTERS))))) (fRet (fC (.bl false))) fNext)
  (fRet (fCB bAllF (fCons (fComp (fiStr (fVar 0)) (fgN 1) fYes (e_is_name_c1 c_Wrong) [1]) fNil))))
def m_is_name (c_Wrong : Addr) : FM := mk 2 (fs_is_name c_Wrong)
def b_are_pairs_1 : FS := (fWipe [1] (fIfS (fOr (fNot (fTst (fIsiQ [] [] "tuple" (fVar 1)))) (fOr (fTst (fCmp (cEqF true) (fCB bLenF (fCons (fVar 1) fNil)) (fC (.int 2)))) (fOr (fNot (fTst (fCall m_is_number (fCons (fIx (fVar 1) (fC (.int 0))) fNil)))) (fNot (fTst (fCall m_is_number (fCons (fIx (fVar 1) (fC (.int 1))) fNil))))))) (fRet (fC (.bl false))) fNext))
def e_are_pairs_c2 : FE := (fCmp cLt (fIx (fIx (fVar 0) (fVar 2)) (fC (.int 0))) (fIx (fIx (fVar 0) (fBin gAddF (fVar 2) (fC (.int 1)))) (fC (.int 0))))
def fs_are_pairs : FS := (fSq (fIfS (fNot (fTst (fIsiQ [] [] "tuple" (fVar 0)))) (fRet (fC (.bl false))) fNext)
  (fSq (fWipe [1] (fFor (fiWipe [1] (fiSeq (fVar 0))) (fgN 1) b_are_pairs_1))
  (fRet (fCB bAllF (fCons (fComp (fiRng1 (fCons (fBin gSubF (fCB bLenF (fCons (fVar 0) fNil)) (fC (.int 1))) fNil)) (fgN 2) fYes e_are_pairs_c2 [2]) fNil)))))
def m_are_pairs : FM := mk 3 (fs_are_pairs)
def fs_is_step (c_Wrong : Addr) : FS := (fSq (fIfS (fOr (fNot (fTst (fIsiQ [] [c_Wrong] "tuple" (fVar 0)))) (fOr (fTst (fCmp (cEqF true) (fCB bLenF (fCons (fVar 0) fNil)) (fC (.int 2)))) (fNot (fTst (fIsiQ [] [c_Wrong] "str" (fIx (fVar 0) (fC (.int 0)))))))) (fRet (fC (.bl false))) fNext)
  (fSq (fAsg (fVar 0) (fgT 2 (fgCons (fgN 1) (fgCons (fgN 2) fgNil))))
  (fSq (fIfS (fTst (fCmp (cEqF false) (fVar 1) (fC (.str "found")))) (fRet (fCall m_are_pairs (fCons (fVar 2) fNil))) fNext)
  (fSq (fIfS (fOr (fTst (fCmp (cInF true) (fVar 1) (fTup (fCons (fC (.str "plus")) (fCons (fC (.str "times")) (fCons (fC (.str "into")) (fCons (fC (.str "over")) fNil))))))) (fNot (fTst (fCall m_is_number (fCons (fVar 2) fNil))))) (fRet (fC (.bl false))) fNext)
  (fRet (fIf (fTst (fCmp (cEqF false) (fVar 1) (fC (.str "times")))) (fCmp (cEqF true) (fVar 2) (fC (.int 0))) (fOrV (fCmp (cEqF true) (fVar 1) (fC (.str "into"))) (fCmp cGe (fVar 2) (fC (.int 1))))))))))
def m_is_step (c_Wrong : Addr) : FM := mk 3 (fs_is_step c_Wrong)
def e_are_steps_c1 (c_Wrong : Addr) : FE := (fCall (m_is_step c_Wrong) (fCons (fVar 1) fNil))
def fs_are_steps (c_Wrong : Addr) : FS := (fRet (fAndV (fIsiQ [] [c_Wrong] "tuple" (fVar 0)) (fCB bAllF (fCons (fComp (fiSeq (fVar 0)) (fgN 1) fYes (e_are_steps_c1 c_Wrong) [1]) fNil))))
def m_are_steps (c_Wrong : Addr) : FM := mk 2 (fs_are_steps c_Wrong)
def fs_is_test (c_Wrong : Addr) : FS := (fSq (fIfS (fOr (fNot (fTst (fIsiQ [] [c_Wrong] "tuple" (fVar 0)))) (fOr (fTst (fCmp cLt (fCB bLenF (fCons (fVar 0) fNil)) (fC (.int 2)))) (fOr (fNot (fTst (fIsiQ [] [c_Wrong] "str" (fIx (fVar 0) (fC (.int 0)))))) (fNot (fTst (fCall (m_is_name c_Wrong) (fCons (fIx (fVar 0) (fC (.int 1))) fNil))))))) (fRet (fC (.bl false))) fNext)
  (fSq (fIfS (fTst (fCmp (cInF false) (fIx (fVar 0) (fC (.int 0))) (fTup (fCons (fC (.str "empty")) (fCons (fC (.str "number")) fNil))))) (fRet (fCmp (cEqF false) (fCB bLenF (fCons (fVar 0) fNil)) (fC (.int 2)))) fNext)
  (fSq (fIfS (fOr (fTst (fCmp (cEqF true) (fIx (fVar 0) (fC (.int 0))) (fC (.str "asks")))) (fOr (fTst (fCmp (cEqF true) (fCB bLenF (fCons (fVar 0) fNil)) (fC (.int 5)))) (fNot (fTst (fCall (m_are_steps c_Wrong) (fCons (fIx (fVar 0) (fC (.int 2))) fNil)))))) (fRet (fC (.bl false))) fNext)
  (fRet (fAndV (fIsiQ [] [c_Wrong] "str" (fIx (fVar 0) (fC (.int 3)))) (fAndV (fCmp (cInF false) (fIx (fVar 0) (fC (.int 3))) (fC gd_SIGNS)) (fCall m_is_number (fCons (fIx (fVar 0) (fC (.int 4))) fNil))))))))
def m_is_test (c_Wrong : Addr) : FM := mk 1 (fs_is_test c_Wrong)
def fs_column_of : FS := (fRet (fIx (fVar 0) (fC (.int 1))))
def m_column_of : FM := mk 1 (fs_column_of)
def e_are_conditions_c1 (c_Wrong : Addr) (r_are_conditions r_is_case r_is_condition : FM) : FE := (fCall r_is_condition (fCons (fVar 1) fNil))
def fs_are_conditions (c_Wrong : Addr) (r_are_conditions r_is_case r_is_condition : FM) : FS := (fRet (fAndV (fIsiQ [] [c_Wrong] "tuple" (fVar 0)) (fCB bAllF (fCons (fComp (fiSeq (fVar 0)) (fgN 1) fYes (e_are_conditions_c1 c_Wrong r_are_conditions r_is_case r_is_condition) [1]) fNil))))
def e_is_case_c1 (c_Wrong : Addr) (r_are_conditions r_is_case r_is_condition : FM) : FE := (fAndV (fIsiQ [] [c_Wrong] "tuple" (fVar 1)) (fCmp (cEqF false) (fCB bLenF (fCons (fVar 1) fNil)) (fC (.int 2))))
def e_is_case_c2 (c_Wrong : Addr) (r_are_conditions r_is_case r_is_condition : FM) : FE := (fCall r_are_conditions (fCons (fVar 1) fNil))
def fs_is_case (c_Wrong : Addr) (r_are_conditions r_is_case r_is_condition : FM) : FS := (fSq (fIfS (fOr (fNot (fTst (fIsiQ [] [c_Wrong] "tuple" (fIx (fVar 0) (fC (.int 1)))))) (fNot (fTst (fCB bAllF (fCons (fComp (fiSeq (fIx (fVar 0) (fC (.int 1)))) (fgN 1) fYes (e_is_case_c1 c_Wrong r_are_conditions r_is_case r_is_condition) [1]) fNil))))) (fRet (fC (.bl false))) fNext)
  (fRet (fAndV (fCB bAllF (fCons (fComp (fiSeq (fIx (fVar 0) (fC (.int 1)))) (fgN 1) fYes (e_is_case_c2 c_Wrong r_are_conditions r_is_case r_is_condition) [1]) fNil)) (fCall r_is_condition (fCons (fIx (fVar 0) (fC (.int 2))) fNil)))))
def fs_is_condition (c_Wrong : Addr) (r_are_conditions r_is_case r_is_condition : FM) : FS := (fSq (fIfS (fOr (fNot (fTst (fIsiQ [] [c_Wrong] "tuple" (fVar 0)))) (fOr (fTst (fCmp (cInF true) (fCB bLenF (fCons (fVar 0) fNil)) (fTup (fCons (fC (.int 2)) (fCons (fC (.int 3)) (fCons (fC (.int 5)) fNil)))))) (fNot (fTst (fIsiQ [] [c_Wrong] "str" (fIx (fVar 0) (fC (.int 0)))))))) (fRet (fC (.bl false))) fNext)
  (fSq (fIfS (fTst (fCmp (cEqF false) (fIx (fVar 0) (fC (.int 0))) (fC (.str "case")))) (fRet (fAndV (fCmp (cEqF false) (fCB bLenF (fCons (fVar 0) fNil)) (fC (.int 3))) (fCall r_is_case (fCons (fVar 0) fNil)))) fNext)
  (fSq (fIfS (fTst (fCmp (cInF false) (fIx (fVar 0) (fC (.int 0))) (fTup (fCons (fC (.str "all")) (fCons (fC (.str "any")) (fCons (fC (.str "first")) fNil)))))) (fRet (fAndV (fCmp (cEqF false) (fCB bLenF (fCons (fVar 0) fNil)) (fC (.int 2))) (fCall r_are_conditions (fCons (fIx (fVar 0) (fC (.int 1))) fNil)))) fNext)
  (fSq (fIfS (fTst (fCmp (cEqF false) (fIx (fVar 0) (fC (.int 0))) (fC (.str "not")))) (fRet (fAndV (fCmp (cEqF false) (fCB bLenF (fCons (fVar 0) fNil)) (fC (.int 2))) (fCall r_is_condition (fCons (fIx (fVar 0) (fC (.int 1))) fNil)))) fNext)
  (fSq (fIfS (fTst (fCmp (cEqF false) (fIx (fVar 0) (fC (.int 0))) (fC (.str "always")))) (fRet (fAndV (fCmp (cEqF false) (fCB bLenF (fCons (fVar 0) fNil)) (fC (.int 2))) (fAndV (fIsiQ [] [c_Wrong] "str" (fIx (fVar 0) (fC (.int 1)))) (fCmp (cInF false) (fIx (fVar 0) (fC (.int 1))) (fC gd_ANSWERS))))) fNext)
  (fRet (fCall (m_is_test c_Wrong) (fCons (fVar 0) fNil))))))))
mutual
def m_are_conditions (c_Wrong : Addr) : Nat → FM
  | 0 => m_none
  | n + 1 => mk 2 (fs_are_conditions c_Wrong (m_are_conditions c_Wrong n) (m_is_case c_Wrong n) (m_is_condition c_Wrong n))
def m_is_case (c_Wrong : Addr) : Nat → FM
  | 0 => m_none
  | n + 1 => mk 2 (fs_is_case c_Wrong (m_are_conditions c_Wrong n) (m_is_case c_Wrong n) (m_is_condition c_Wrong n))
def m_is_condition (c_Wrong : Addr) : Nat → FM
  | 0 => m_none
  | n + 1 => mk 1 (fs_is_condition c_Wrong (m_are_conditions c_Wrong n) (m_is_case c_Wrong n) (m_is_condition c_Wrong n))
end
theorem mS_are_conditions (c_Wrong : Addr) (n : Nat) : m_are_conditions c_Wrong (n + 1) = mk 2 (fs_are_conditions c_Wrong (m_are_conditions c_Wrong n) (m_is_case c_Wrong n) (m_is_condition c_Wrong n)) := rfl
theorem mS_is_case (c_Wrong : Addr) (n : Nat) : m_is_case c_Wrong (n + 1) = mk 2 (fs_is_case c_Wrong (m_are_conditions c_Wrong n) (m_is_case c_Wrong n) (m_is_condition c_Wrong n)) := rfl
theorem mS_is_condition (c_Wrong : Addr) (n : Nat) : m_is_condition c_Wrong (n + 1) = mk 1 (fs_is_condition c_Wrong (m_are_conditions c_Wrong n) (m_is_case c_Wrong n) (m_is_condition c_Wrong n)) := rfl
abbrev m__law_take : FM := m_take
def fs__law_alike : FS := (fRet (fAndV (fCmp (cEqF false) (fVar 0) (fVar 1)) (fCmp cEqSF (fCB bReprXF (fCons (fVar 0) fNil)) (fCB bReprXF (fCons (fVar 1) fNil)))))
def m__law_alike : FM := mk 2 (fs__law_alike)
def fs__law_one : FS := (fRet (fIx (fVar 1) (fCall m__law_take (fCons (fVar 0) (fCons (fCB bLenF (fCons (fVar 1) fNil)) fNil)))))
def m__law_one : FM := mk 2 (fs__law_one)
def fs__law_number : FS := (fSq (fSet 1 (fCall m__law_take (fCons (fVar 0) (fCons (fC (.int 12)) fNil))))
  (fSq (fIfS (fTst (fCmp cGt (fVar 1) (fC (.int 1)))) (fRet (fBin gSubF (fCall m__law_take (fCons (fVar 0) (fCons (fC (.int 13)) fNil))) (fC (.int 6)))) fNext)
  (fRet (fBin gMulF (fIx (fLst (fCons (fBin gSubF (fBin gPowF (fC (.int 10)) (fC (.int 12))) (fCall m__law_take (fCons (fVar 0) (fCons (fC (.int 3)) fNil)))) (fCons (fCall m__law_take (fCons (fVar 0) (fCons (fC (.int 2000)) fNil))) fNil))) (fVar 1)) (fIx (fLst (fCons (fC (.int 1)) (fCons (fNeg (fC (.int 1))) fNil))) (fCall m__law_take (fCons (fVar 0) (fCons (fC (.int 2)) fNil))))))))
def m__law_number : FM := mk 2 (fs__law_number)
def e__law_step_c1 : FE := (fBin gMulF (fVar 5) (fVar 2))
def t__law_step_c1 : FT := (fTst (fCmp (cEqF false) (fCall m__law_take (fCons (fVar 0) (fCons (fC (.int 2)) fNil))) (fC (.int 0))))
def e__law_step_c2 : FE := (fTup (fCons (fVar 5) (fCons (fCall m__law_number (fCons (fVar 0) fNil)) fNil)))
def fs__law_step : FS := (fSq (fSet 1 (fCall m__law_one (fCons (fVar 0) (fCons (fLst (fCons (fC (.str "plus")) (fCons (fC (.str "times")) (fCons (fC (.str "into")) (fCons (fC (.str "over")) (fCons (fC (.str "found")) fNil)))))) fNil))))
  (fSq (fWipe [2, 3] (fIfS (fTst (fCmp (cEqF false) (fVar 1) (fC (.str "found")))) (fSq (fSet 2 (fIx (fLst (fCons (fC (.int 1)) (fCons (fC (.int 1)) (fCons (fC (.int 1)) (fCons (fBin gAddF (fBin gPowF (fC (.int 10)) (fC (.int 11))) (fC (.int 7))) fNil))))) (fCall m__law_take (fCons (fVar 0) (fCons (fC (.int 4)) fNil)))))
  (fSq (fSet 3 (fSl (fComp (fiRng2 (fCons (fNeg (fC (.int 3))) (fCons (fC (.int 4)) fNil))) (fgN 5) t__law_step_c1 e__law_step_c1 [5]) foNone (foSome (fC (.int 6)))))
  (fRet (fTup (fCons (fC (.str "found")) (fCons (fCB bTupleF (fCons (fComp (fiSeq (fVar 3)) (fgN 5) fYes e__law_step_c2 [5]) fNil)) fNil)))))) fNext))
  (fSq (fSet 4 (fCall m__law_number (fCons (fVar 0) fNil)))
  (fSq (fIfS (fTst (fCmp (cEqF false) (fVar 1) (fC (.str "into")))) (fRet (fTup (fCons (fC (.str "into")) (fCons (fCB bMax2F (fCons (fC (.int 1)) (fCons (fCB bAbsF (fCons (fVar 4) fNil)) fNil))) fNil)))) fNext)
  (fRet (fTup (fCons (fVar 1) (fCons (fIf (fOr (fTst (fCmp (cEqF true) (fVar 4) (fC (.int 0)))) (fTst (fCmp (cEqF true) (fVar 1) (fC (.str "times"))))) (fVar 4) (fC (.int 2))) fNil))))))))
def m__law_step : FM := mk 6 (fs__law_step)
def e__law_test_c1 : FE := (fCall m__law_step (fCons (fVar 0) fNil))
def fs__law_test : FS := (fSq (fPar [2, 3] (fCons (fCall m__law_one (fCons (fVar 0) (fCons (fVar 1) fNil))) (fCons (fCall m__law_take (fCons (fVar 0) (fCons (fC (.int 10)) fNil))) fNil)))
  (fSq (fIfS (fTst (fCmp cLt (fVar 3) (fC (.int 2)))) (fRet (fTup (fCons (fIx (fLst (fCons (fC (.str "empty")) (fCons (fC (.str "number")) fNil))) (fVar 3)) (fCons (fVar 2) fNil)))) fNext)
  (fSq (fSet 4 (fTup fNil))
  (fSq (fIfS (fTst (fCmp cGt (fVar 3) (fC (.int 4)))) (fSet 4 (fTup (fCons (fTup (fCons (fC (.str "plus")) (fCons (fBin gSubF (fCall m__law_take (fCons (fVar 0) (fCons (fC (.int 7)) fNil))) (fC (.int 3))) fNil))) (fCons (fTup (fCons (fC (.str "over")) (fCons (fBin gSubF (fCall m__law_take (fCons (fVar 0) (fCons (fC (.int 9)) fNil))) (fC (.int 4))) fNil))) fNil)))) fNext)
  (fSq (fIfS (fTst (fCmp cGt (fVar 3) (fC (.int 7)))) (fSet 4 (fCB bTupleF (fCons (fComp (fiRng1 (fCons (fBin gAddF (fC (.int 1)) (fCall m__law_take (fCons (fVar 0) (fCons (fC (.int 3)) fNil)))) fNil)) (fgN 5) fYes e__law_test_c1 [5]) fNil))) fNext)
  (fRet (fTup (fCons (fC (.str "asks")) (fCons (fVar 2) (fCons (fVar 4) (fCons (fCall m__law_one (fCons (fVar 0) (fCons (fLst (fCons (fC (.str "<")) (fCons (fC (.str "<=")) (fCons (fC (.str "<>")) (fCons (fC (.str "=")) (fCons (fC (.str ">")) (fCons (fC (.str ">=")) fNil))))))) fNil))) (fCons (fBin gSubF (fCall m__law_take (fCons (fVar 0) (fCons (fC (.int 9)) fNil))) (fC (.int 4))) fNil))))))))))))
def m__law_test : FM := mk 6 (fs__law_test)
def fs__law_leaf : FS := (fSq (fIfS (fTst (fCmp (cEqF false) (fCall m__law_take (fCons (fVar 0) (fCons (fC (.int 9)) fNil))) (fC (.int 0)))) (fRet (fTup (fCons (fC (.str "always")) (fCons (fCall m__law_one (fCons (fVar 0) (fCons (fLst (fCons (fC (.str "error")) (fCons (fC (.str "no")) (fCons (fC (.str "unknown")) (fCons (fC (.str "yes")) fNil))))) fNil))) fNil)))) fNext)
  (fRet (fCall m__law_test (fCons (fVar 0) (fCons (fVar 1) fNil)))))
def m__law_leaf : FM := mk 2 (fs__law_leaf)
def fs__law_small : FS := (fSq (fPar [2, 3] (fCons (fCall m__law_take (fCons (fVar 0) (fCons (fC (.int 12)) fNil))) (fCons (fCall m__law_leaf (fCons (fVar 0) (fCons (fVar 1) fNil))) fNil)))
  (fSq (fIfS (fTst (fCmp (cEqF false) (fVar 2) (fC (.int 0)))) (fRet (fCall m__law_one (fCons (fVar 0) (fCons (fLst (fCons (fTup (fCons (fC (.str "all")) (fCons (fTup fNil) fNil))) (fCons (fTup (fCons (fC (.str "any")) (fCons (fTup fNil) fNil))) (fCons (fTup (fCons (fC (.str "first")) (fCons (fTup fNil) fNil))) (fCons (fTup (fCons (fC (.str "case")) (fCons (fTup fNil) (fCons (fVar 3) fNil)))) (fCons (fTup (fCons (fC (.str "case")) (fCons (fTup fNil) (fCons (fVar 3) fNil)))) fNil)))))) fNil)))) fNext)
  (fSq (fIfS (fTst (fCmp (cEqF false) (fVar 2) (fC (.int 1)))) (fRet (fCall m__law_one (fCons (fVar 0) (fCons (fLst (fCons (fTup (fCons (fC (.str "not")) (fCons (fVar 3) fNil))) (fCons (fTup (fCons (fC (.str "not")) (fCons (fVar 3) fNil))) (fCons (fTup (fCons (fC (.str "all")) (fCons (fTup (fCons (fVar 3) fNil)) fNil))) (fCons (fTup (fCons (fC (.str "any")) (fCons (fTup (fCons (fVar 3) fNil)) fNil))) (fCons (fTup (fCons (fC (.str "first")) (fCons (fTup (fCons (fVar 3) fNil)) fNil))) fNil)))))) fNil)))) fNext)
  (fRet (fVar 3)))))
def m__law_small : FM := mk 4 (fs__law_small)
def b__law_split_1 : FS := (fWipe [4] (fAug 3 (fCall m__law_take (fCons (fVar 0) (fCons (fVar 2) fNil))) (fC (.int 1))))
def fs__law_split : FS := (fSq (fSet 3 (fBin gMulF (fLst (fCons (fC (.int 1)) fNil)) (fVar 2)))
  (fSq (fWipe [4] (fFor (fiWipe [4] (fiRng1 (fCons (fBin gSubF (fVar 1) (fVar 2)) fNil))) (fgN 4) b__law_split_1))
  (fRet (fVar 3))))
def m__law_split : FM := mk 5 (fs__law_split)
def e__law_tree_c1 (r__law_tree : FM) : FE := (fCall r__law_tree (fCons (fVar 0) (fCons (fVar 1) (fCons (fVar 7) (fCons (fBin gSubF (fVar 3) (fC (.int 1))) fNil)))))
def e__law_tree_c2 (r__law_tree : FM) : FE := (fTup (fCons (fIx (fVar 6) (fBin gMulF (fC (.int 2)) (fVar 8))) (fCons (fIx (fVar 6) (fBin gAddF (fBin gMulF (fC (.int 2)) (fVar 8)) (fC (.int 1)))) fNil)))
def fs__law_tree (r__law_tree : FM) : FS := (fSq (fIfS (fOr (fTst (fCmp cLt (fVar 2) (fC (.int 2)))) (fTst (fCmp cLt (fVar 3) (fC (.int 1))))) (fRet (fCall m__law_small (fCons (fVar 0) (fCons (fVar 1) fNil)))) fNext)
  (fSq (fPar [4, 5] (fCons (fCall m__law_take (fCons (fVar 0) (fCons (fC (.int 9)) fNil))) (fCons (fBin gAddF (fC (.int 2)) (fCall m__law_take (fCons (fVar 0) (fCons (fBin gSubF (fCB bMin2F (fCons (fVar 2) (fCons (fC (.int 5)) fNil))) (fC (.int 1))) fNil)))) fNil)))
  (fSq (fIfS (fTst (fCmp (cEqF false) (fVar 4) (fC (.int 0)))) (fRet (fTup (fCons (fC (.str "not")) (fCons (fCall r__law_tree (fCons (fVar 0) (fCons (fVar 1) (fCons (fVar 2) (fCons (fBin gSubF (fVar 3) (fC (.int 1))) fNil))))) fNil)))) fNext)
  (fSq (fIfS (fAnd (fTst (fCmp (cEqF false) (fVar 4) (fC (.int 1)))) (fTst (fCmp cGt (fVar 2) (fC (.int 2))))) (fSet 5 (fBin gAddF (fC (.int 3)) (fBin gMulF (fC (.int 2)) (fCB bIntF (fCons (fAndV (fCmp cGt (fVar 2) (fC (.int 4))) (fCmp cGt (fVar 5) (fC (.int 3)))) fNil))))) fNext)
  (fSq (fSet 6 (fComp (fiSeq (fCall m__law_split (fCons (fVar 0) (fCons (fVar 2) (fCons (fVar 5) fNil))))) (fgN 7) fYes (e__law_tree_c1 r__law_tree) [7]))
  (fSq (fIfS (fAnd (fTst (fCmp (cEqF false) (fVar 4) (fC (.int 1)))) (fTst (fCmp cGt (fVar 2) (fC (.int 2))))) (fRet (fTup (fCons (fC (.str "case")) (fCons (fCB bTupleF (fCons (fComp (fiRng1 (fCons (fBin gFdivF (fVar 5) (fC (.int 2))) fNil)) (fgN 8) fYes (e__law_tree_c2 r__law_tree) [8]) fNil)) (fCons (fIx (fVar 6) (fNeg (fC (.int 1)))) fNil))))) fNext)
  (fRet (fTup (fCons (fIf (fTst (fCmp cLt (fVar 4) (fC (.int 3)))) (fC (.str "first")) (fIx (fLst (fCons (fC (.str "all")) (fCons (fC (.str "any")) fNil))) (fBin gModF (fCB bIntF (fCons (fVar 4) fNil)) (fC (.int 2))))) (fCons (fCB bTupleF (fCons (fVar 6) fNil)) fNil))))))))))
def m__law_tree : Nat → FM
  | 0 => m_none
  | n + 1 => mk 9 (fs__law_tree (m__law_tree n))
theorem mS__law_tree (n : Nat) : m__law_tree (n + 1) = mk 9 (fs__law_tree (m__law_tree n)) := rfl
def b__law_deepest_1 : FS := (fWipe [1] (fSet 0 (fLst (fCons (fVar 0) fNil))))
def fs__law_deepest : FS := (fSq (fSet 0 (fLst fNil))
  (fSq (fWipe [1] (fFor (fiWipe [1] (fiRng1 (fCons (fC (.int 29)) fNil))) (fgN 1) b__law_deepest_1))
  (fRet (fVar 0))))
def m__law_deepest : FM := mk 2 (fs__law_deepest)
def b__law_odd_1 (c_WORLD : World) : FS := (fWipe [2, 3] (fSet 1 (fIf (fTst (fCmp (cEqF false) (fCall m__law_take (fCons (fVar 0) (fCons (fC (.int 2)) fNil))) (fC (.int 0)))) (fLst (fCons (fVar 1) fNil)) (fTup (fCons (fVar 1) fNil)))))
def fs__law_odd (c_WORLD : World) : FS := (fSq (fSet 1 (fCall m__law_one (fCons (fVar 0) (fCons (fLst (fCons (fLst fNil) (fCons (fDnewM c_WORLD) (fCons (fTup fNil) (fCons (fC (.str "a")) fNil))))) fNil))))
  (fSq (fWipe [2, 3] (fFor (fiWipe [2, 3] (fiRng1 (fCons (fC (.int 4)) fNil))) (fgN 2) (b__law_odd_1 c_WORLD)))
  (fSq (fSet 3 (fLst (fCons (fC .non) (fCons (fC (.bl true)) (fCons (fC (.bl false)) (fCons (fC (.int 0)) (fCons (fC (.int 1)) (fCons (fNeg (fC (.int 1))) (fCons (fC (.int 3)) (fCons (fBin gPowF (fC (.int 10)) (fC (.int 12))) (fCons (fBin gAddF (fBin gPowF (fC (.int 10)) (fC (.int 12))) (fC (.int 1))) (fCons (fBin gSubF (fNeg (fBin gPowF (fC (.int 10)) (fC (.int 12)))) (fC (.int 1))) (fCons (fBin gPowF (fC (.int 10)) (fC (.int 59))) (fCons (fC (.str "")) (fCons (fC (.str "a")) (fCons (fC (.str "A")) (fCons (fC (.str "ninesigns")) fNil)))))))))))))))))
  (fSq (fSet 3 (fBin gAddF (fVar 3) (fLst (fCons (fC (.str "n ")) (fCons (fC (.str "a\n")) (fCons (fC (.str "yes")) (fCons (fC (.str "maybe")) (fCons (fLst fNil) (fCons (fTup fNil) (fCons (fDnewM c_WORLD) (fCons (fLst (fCons (fC (.int 0)) fNil)) (fCons (fTup (fCons (fC (.int 0)) fNil)) (fCons (fDispM c_WORLD (((fC (.str "a")), (fC (.int 0))) :: [])) (fCons (fDispM c_WORLD (((fC (.int 0)), (fC (.str "a"))) :: [])) (fCons (fLst (fCons (fLst fNil) fNil)) (fCons (fTup (fCons (fTup fNil) fNil)) (fCons (fVar 1) fNil)))))))))))))))))
  (fSq (fSet 3 (fBin gAddF (fVar 3) (fLst (fCons (fTup (fCons (fC (.str "plus")) fNil)) (fCons (fTup (fCons (fC (.str "plus")) (fCons (fC (.bl true)) fNil))) (fCons (fTup (fCons (fC (.str "into")) (fCons (fC (.int 0)) fNil))) (fCons (fTup (fCons (fC (.str "times")) (fCons (fC (.int 0)) fNil))) (fCons (fLst (fCons (fC (.str "plus")) (fCons (fC (.int 1)) fNil))) (fCons (fTup (fCons (fC (.str "found")) (fCons (fTup (fCons (fTup (fCons (fC (.int 1)) (fCons (fC (.int 2)) fNil))) (fCons (fTup (fCons (fC (.int 0)) (fCons (fC (.int 3)) fNil))) fNil))) fNil))) fNil)))))))))
  (fSq (fSet 3 (fBin gAddF (fVar 3) (fLst (fCons (fTup (fCons (fC (.str "found")) (fCons (fLst (fCons (fTup (fCons (fC (.int 0)) (fCons (fC (.int 1)) fNil))) fNil)) fNil))) (fCons (fTup (fCons (fC (.str "empty")) (fCons (fC (.str "a")) fNil))) (fCons (fTup (fCons (fC (.str "number")) (fCons (fC (.str "A")) fNil))) (fCons (fTup (fCons (fC (.str "always")) (fCons (fC (.str "perhaps")) fNil))) (fCons (fTup (fCons (fC (.str "all")) (fCons (fLst fNil) fNil))) (fCons (fTup (fCons (fC (.str "not")) fNil)) fNil)))))))))
  (fSq (fSet 3 (fBin gAddF (fVar 3) (fLst (fCons (fTup (fCons (fC (.str "case")) (fCons (fTup (fCons (fTup (fCons (fC (.str "a")) (fCons (fC (.str "b")) fNil))) fNil)) (fCons (fTup (fCons (fC (.str "empty")) (fCons (fC (.str "a")) fNil))) fNil)))) (fCons (fTup (fCons (fC (.str "case")) (fCons (fTup fNil) (fCons (fTup fNil) fNil)))) (fCons (fTup (fCons (fC (.str "a")) (fCons (fC (.int 0)) (fCons (fC (.int 3)) (fCons (fC (.bl true)) (fCons (fC (.bl false)) fNil)))))) (fCons (fBin gMulF (fLst (fCons (fC (.int 0)) fNil)) (fC (.int 300))) fNil)))))))
  (fRet (fCall m__law_one (fCons (fVar 0) (fCons (fBin gAddF (fVar 3) (fLst (fCons (fTup (fCons (fC (.str "first")) (fCons (fTup (fCons (fTup (fCons (fC (.str "always")) (fCons (fC (.str "yes")) fNil))) fNil)) fNil))) (fCons (fTup (fCons (fC (.str "a")) (fCons (fC (.int 3)) (fCons (fC (.int 0)) (fCons (fC (.bl true)) (fCons (fC (.bl false)) fNil)))))) (fCons (fDispM c_WORLD (((fC (.str "a")), (fC .non)) :: (((fC (.str "b")), (fC (.str "ten"))) :: []))) fNil))))) fNil)))))))))))
def m__law_odd (c_WORLD : World) : FM := mk 4 (fs__law_odd c_WORLD)
def fs__law_bent (c_WORLD : World) (r__law_bent r__law_bent_row r__law_bent_dict : FM) : FS := (fSq (fSet 2 (fCall m__law_take (fCons (fVar 0) (fCons (fC (.int 7)) fNil))))
  (fSq (fIfS (fTst (fCmp (cEqF false) (fVar 2) (fC (.int 0)))) (fRet (fCall (m__law_odd c_WORLD) (fCons (fVar 0) fNil))) fNext)
  (fSq (fIfS (fTst (fIsisQ [] [] ["list", "tuple"] (fVar 1))) (fRet (fCall r__law_bent_row (fCons (fVar 0) (fCons (fVar 1) (fCons (fVar 2) fNil))))) fNext)
  (fSq (fIfS (fAnd (fTst (fIsiQ [] [] "dict" (fVar 1))) (fTst (fCmp (cNeDicMF c_WORLD) (fVar 1) (fDnewM c_WORLD)))) (fRet (fCall r__law_bent_dict (fCons (fVar 0) (fCons (fVar 1) (fCons (fVar 2) fNil))))) fNext)
  (fSq (fWipe [3, 4] (fIfS (fTst (fIsiQ [] [] "str" (fVar 1))) (fSq (fSet 3 (fCall m__law_take (fCons (fVar 0) (fCons (fBin gAddF (fCB bLenF (fCons (fVar 1) fNil)) (fC (.int 1))) fNil))))
  (fSq (fSet 4 (fBin gAddF (fBin gAddF (fSl (fVar 1) foNone (foSome (fVar 3))) (fCall m__law_one (fCons (fVar 0) (fCons (fCB bListSF (fCons (fC (.str "abz A0_\n")) fNil)) fNil)))) (fSl (fVar 1) (foSome (fVar 3)) foNone)))
  (fRet (fIx (fLst (fCons (fVar 4) (fCons (fSl (fVar 1) foNone (foSome (fNeg (fC (.int 1))))) (fCons (fUp (fVar 1)) (fCons (fBin gAddF (fVar 1) (fVar 1)) (fCons (fBin gAddF (fVar 1) (fC (.str " "))) (fCons (fCall (m__law_odd c_WORLD) (fCons (fVar 0) fNil)) fNil))))))) (fBin gSubF (fVar 2) (fC (.int 1))))))) fNext))
  (fSq (fIfS (fAnd (fTst (fIsiQ [] [] "int" (fVar 1))) (fNot (fTst (fIsiQ [] [] "bool" (fVar 1))))) (fRet (fIx (fLst (fCons (fBin gAddF (fVar 1) (fC (.int 1))) (fCons (fBin gSubF (fVar 1) (fC (.int 1))) (fCons (fNeg (fVar 1)) (fCons (fCB bStrF (fCons (fVar 1) fNil)) (fCons (fCmp (cEqF false) (fVar 1) (fC (.int 1))) (fCons (fCall (m__law_odd c_WORLD) (fCons (fVar 0) fNil)) fNil))))))) (fBin gSubF (fVar 2) (fC (.int 1))))) fNext)
  (fRet (fIx (fLst (fCons (fC .non) (fCons (fNotQ (fVar 1)) (fCons (fCB bIntF (fCons (fCmp cIsQF (fVar 1) (fC (.bl true))) fNil)) (fCons (fVar 1) (fCons (fC (.str "no")) (fCons (fCall (m__law_odd c_WORLD) (fCons (fVar 0) fNil)) fNil))))))) (fBin gSubF (fVar 2) (fC (.int 1)))))))))))
def fs__law_bent_row (c_WORLD : World) (r__law_bent r__law_bent_row r__law_bent_dict : FM) : FS := (fSq (fSet 3 (fCB bListF (fCons (fVar 1) fNil)))
  (fSq (fSet 4 (fCall m__law_take (fCons (fVar 0) (fCons (fBin gAddF (fCB bLenF (fCons (fVar 3) fNil)) (fC (.int 1))) fNil))))
  (fSq (fIfS (fTst (fCmp (cEqF false) (fVar 2) (fC (.int 1)))) (fRet (fIf (fTst (fIsiQ [] [] "list" (fVar 1))) (fCB bTupleF (fCons (fVar 3) fNil)) (fVar 3))) fNext)
  (fSq (fWipe [5] (fIfS (fTst (fCmp (cEqF false) (fVar 2) (fC (.int 2)))) (fSet 3 (fBin gAddF (fSl (fVar 3) foNone (foSome (fVar 4))) (fSl (fVar 3) (foSome (fBin gAddF (fVar 4) (fC (.int 1)))) foNone))) (fWipe [5] (fIfS (fTst (fCmp (cEqF false) (fVar 2) (fC (.int 3)))) (fSet 3 (fBin gAddF (fBin gAddF (fSl (fVar 3) foNone (foSome (fVar 4))) (fLst (fCons (fCall (m__law_odd c_WORLD) (fCons (fVar 0) fNil)) fNil))) (fSl (fVar 3) (foSome (fVar 4)) foNone))) (fWipe [5] (fIfS (fTst (fCmp (cEqF false) (fVar 2) (fC (.int 4)))) (fSet 3 (fRev (fVar 3))) (fWipe [5] (fIfS (fTst (fCmp cNeNilF (fVar 3) (fLst fNil))) (fSq (fSet 5 (fCB bMin2F (fCons (fVar 4) (fCons (fBin gSubF (fCB bLenF (fCons (fVar 3) fNil)) (fC (.int 1))) fNil))))
  (fSetIx 3 (fVar 5) (fCall r__law_bent (fCons (fVar 0) (fCons (fIx (fVar 3) (fVar 5)) fNil))))) fNext))))))))
  (fRet (fIf (fTst (fIsiQ [] [] "list" (fVar 1))) (fVar 3) (fCB bTupleF (fCons (fVar 3) fNil))))))))
def e__law_bent_dict_c1 (c_WORLD : World) (r__law_bent r__law_bent_row r__law_bent_dict : FM) : FE := (fTup (fCons (fVar 6) (fCons (fMix c_WORLD (fVar 1) (fVar 6)) fNil)))
def t__law_bent_dict_c1 (c_WORLD : World) (r__law_bent r__law_bent_row r__law_bent_dict : FM) : FT := (fTst (fCmp (cEqF true) (fVar 6) (fVar 3)))
def fs__law_bent_dict (c_WORLD : World) (r__law_bent r__law_bent_row r__law_bent_dict : FM) : FS := (fSq (fSet 3 (fCall m__law_one (fCons (fVar 0) (fCons (fCB (bListMF c_WORLD) (fCons (fVar 1) fNil)) fNil))))
  (fSq (fSet 4 (fCB (bDictMF c_WORLD) (fCons (fComp (fiMix c_WORLD (fVar 1)) (fgN 6) (t__law_bent_dict_c1 c_WORLD r__law_bent r__law_bent_row r__law_bent_dict) (e__law_bent_dict_c1 c_WORLD r__law_bent r__law_bent_row r__law_bent_dict) [6]) fNil)))
  (fSq (fIfS (fTst (fCmp (cEqF false) (fVar 2) (fC (.int 1)))) (fRet (fVar 4)) fNext)
  (fSq (fIfS (fTst (fCmp (cEqF false) (fVar 2) (fC (.int 2)))) (fRet (fItemsM c_WORLD (fVar 1))) fNext)
  (fSq (fWipe [5] (fIfS (fTst (fCmp cLt (fVar 2) (fC (.int 5)))) (fSq (fSet 5 (fLst (fCons (fC .non) (fCons (fC (.int 0)) (fCons (fC (.str "")) (fCons (fC (.str "A")) (fCons (fC (.str "zz")) (fCons (fTup fNil) (fCons (fTup (fCons (fC (.int 0)) fNil)) (fCons (fC (.str "ninesigns")) (fCons (fC (.bl true)) fNil)))))))))))
  (fSq (fPutM c_WORLD 4 (fCall m__law_one (fCons (fVar 0) (fCons (fVar 5) fNil))) (fMix c_WORLD (fVar 1) (fVar 3)))
  (fRet (fVar 4)))) fNext))
  (fSq (fPutM c_WORLD 4 (fVar 3) (fCall r__law_bent (fCons (fVar 0) (fCons (fMix c_WORLD (fVar 1) (fVar 3)) fNil))))
  (fRet (fVar 4))))))))
mutual
def m__law_bent (c_WORLD : World) : Nat → FM
  | 0 => m_none
  | n + 1 => mk 5 (fs__law_bent c_WORLD (m__law_bent c_WORLD n) (m__law_bent_row c_WORLD n) (m__law_bent_dict c_WORLD n))
def m__law_bent_row (c_WORLD : World) : Nat → FM
  | 0 => m_none
  | n + 1 => mk 6 (fs__law_bent_row c_WORLD (m__law_bent c_WORLD n) (m__law_bent_row c_WORLD n) (m__law_bent_dict c_WORLD n))
def m__law_bent_dict (c_WORLD : World) : Nat → FM
  | 0 => m_none
  | n + 1 => mk 7 (fs__law_bent_dict c_WORLD (m__law_bent c_WORLD n) (m__law_bent_row c_WORLD n) (m__law_bent_dict c_WORLD n))
end
theorem mS__law_bent (c_WORLD : World) (n : Nat) : m__law_bent c_WORLD (n + 1) = mk 5 (fs__law_bent c_WORLD (m__law_bent c_WORLD n) (m__law_bent_row c_WORLD n) (m__law_bent_dict c_WORLD n)) := rfl
theorem mS__law_bent_row (c_WORLD : World) (n : Nat) : m__law_bent_row c_WORLD (n + 1) = mk 6 (fs__law_bent_row c_WORLD (m__law_bent c_WORLD n) (m__law_bent_row c_WORLD n) (m__law_bent_dict c_WORLD n)) := rfl
theorem mS__law_bent_dict (c_WORLD : World) (n : Nat) : m__law_bent_dict c_WORLD (n + 1) = mk 7 (fs__law_bent_dict c_WORLD (m__law_bent c_WORLD n) (m__law_bent_row c_WORLD n) (m__law_bent_dict c_WORLD n)) := rfl
def fs__law_is_whole_number : FS := (fRet (fAndV (fIsiQ [] [] "int" (fVar 0)) (fNotV (fIsiQ [] [] "bool" (fVar 0)))))
def m__law_is_whole_number : FM := mk 1 (fs__law_is_whole_number)
def fs__law_is_near_number : FS := (fRet (fAndV (fCall m__law_is_whole_number (fCons (fVar 0) fNil)) (fChain cLe cLe (fNeg (fBin gPowF (fC (.int 10)) (fC (.int 12)))) (fVar 0) (fBin gPowF (fC (.int 10)) (fC (.int 12))))))
def m__law_is_near_number : FM := mk 1 (fs__law_is_near_number)
def e__law_is_word_c1 (c_Wrong : Addr) : FE := (fVar 1)
def t__law_is_word_c1 (c_Wrong : Addr) : FT := (fTst (fCmp cNInSF (fVar 1) (fC (.str "abcdefghijklmnopqrstuvwxyz"))))
def fs__law_is_word (c_Wrong : Addr) : FS := (fSq (fIfS (fOr (fNot (fTst (fIsiQ [] [c_Wrong] "str" (fVar 0)))) (fNot (fTst (fChain cLt cLt (fC (.int 0)) (fCB bLenF (fCons (fVar 0) fNil)) (fC (.int 9)))))) (fRet (fC (.bl false))) fNext)
  (fRet (fCmp cEqNilF (fComp (fiStr (fVar 0)) (fgN 1) (t__law_is_word_c1 c_Wrong) (e__law_is_word_c1 c_Wrong) [1]) (fLst fNil))))
def m__law_is_word (c_Wrong : Addr) : FM := mk 2 (fs__law_is_word c_Wrong)
def b__law_are_pairs_1 : FS := (fWipe [1] (fSq (fIfS (fOr (fNot (fTst (fIsiQ [] [] "tuple" (fVar 1)))) (fTst (fCmp (cEqF true) (fCB bLenF (fCons (fVar 1) fNil)) (fC (.int 2))))) (fRet (fC (.bl false))) fNext)
  (fIfS (fOr (fNot (fTst (fCall m__law_is_near_number (fCons (fIx (fVar 1) (fC (.int 0))) fNil)))) (fNot (fTst (fCall m__law_is_near_number (fCons (fIx (fVar 1) (fC (.int 1))) fNil))))) (fRet (fC (.bl false))) fNext)))
def e__law_are_pairs_c2 : FE := (fVar 2)
def t__law_are_pairs_c2 : FT := (fTst (fCmp cGe (fIx (fIx (fVar 0) (fVar 2)) (fC (.int 0))) (fIx (fIx (fVar 0) (fBin gAddF (fVar 2) (fC (.int 1)))) (fC (.int 0)))))
def fs__law_are_pairs : FS := (fSq (fIfS (fNot (fTst (fIsiQ [] [] "tuple" (fVar 0)))) (fRet (fC (.bl false))) fNext)
  (fSq (fWipe [1] (fFor (fiWipe [1] (fiSeq (fVar 0))) (fgN 1) b__law_are_pairs_1))
  (fRet (fCmp (cEqF false) (fComp (fiRng1 (fCons (fBin gSubF (fCB bLenF (fCons (fVar 0) fNil)) (fC (.int 1))) fNil)) (fgN 2) t__law_are_pairs_c2 e__law_are_pairs_c2 [2]) (fLst fNil)))))
def m__law_are_pairs : FM := mk 3 (fs__law_are_pairs)
def fs__law_is_step (c_Wrong : Addr) : FS := (fSq (fIfS (fOr (fNot (fTst (fIsiQ [] [c_Wrong] "tuple" (fVar 0)))) (fOr (fTst (fCmp (cEqF true) (fCB bLenF (fCons (fVar 0) fNil)) (fC (.int 2)))) (fNot (fTst (fIsiQ [] [c_Wrong] "str" (fIx (fVar 0) (fC (.int 0)))))))) (fRet (fC (.bl false))) fNext)
  (fSq (fIfS (fTst (fCmp (cEqF false) (fIx (fVar 0) (fC (.int 0))) (fC (.str "found")))) (fRet (fCall m__law_are_pairs (fCons (fIx (fVar 0) (fC (.int 1))) fNil))) fNext)
  (fSq (fIfS (fOr (fTst (fCmp (cInF true) (fIx (fVar 0) (fC (.int 0))) (fTup (fCons (fC (.str "plus")) (fCons (fC (.str "times")) (fCons (fC (.str "into")) (fCons (fC (.str "over")) fNil))))))) (fNot (fTst (fCall m__law_is_near_number (fCons (fIx (fVar 0) (fC (.int 1))) fNil))))) (fRet (fC (.bl false))) fNext)
  (fRet (fIf (fTst (fCmp (cEqF false) (fIx (fVar 0) (fC (.int 0))) (fC (.str "times")))) (fCmp (cEqF true) (fIx (fVar 0) (fC (.int 1))) (fC (.int 0))) (fOrV (fCmp (cEqF true) (fIx (fVar 0) (fC (.int 0))) (fC (.str "into"))) (fCmp cGt (fIx (fVar 0) (fC (.int 1))) (fC (.int 0)))))))))
def m__law_is_step (c_Wrong : Addr) : FM := mk 1 (fs__law_is_step c_Wrong)
def e__law_are_steps_c1 (c_Wrong : Addr) : FE := (fVar 1)
def t__law_are_steps_c1 (c_Wrong : Addr) : FT := (fNot (fTst (fCall (m__law_is_step c_Wrong) (fCons (fVar 1) fNil))))
def fs__law_are_steps (c_Wrong : Addr) : FS := (fRet (fAndV (fIsiQ [] [c_Wrong] "tuple" (fVar 0)) (fCmp cEqNilF (fComp (fiSeq (fVar 0)) (fgN 1) (t__law_are_steps_c1 c_Wrong) (e__law_are_steps_c1 c_Wrong) [1]) (fLst fNil))))
def m__law_are_steps (c_Wrong : Addr) : FM := mk 2 (fs__law_are_steps c_Wrong)
def fs__law_is_test (c_Wrong : Addr) : FS := (fSq (fIfS (fOr (fNot (fTst (fIsiQ [] [c_Wrong] "tuple" (fVar 0)))) (fOr (fTst (fCmp (cInF true) (fCB bLenF (fCons (fVar 0) fNil)) (fTup (fCons (fC (.int 2)) (fCons (fC (.int 5)) fNil))))) (fNot (fTst (fIsiQ [] [c_Wrong] "str" (fIx (fVar 0) (fC (.int 0)))))))) (fRet (fC (.bl false))) fNext)
  (fSq (fIfS (fNot (fTst (fCall (m__law_is_word c_Wrong) (fCons (fIx (fVar 0) (fC (.int 1))) fNil)))) (fRet (fC (.bl false))) fNext)
  (fSq (fIfS (fTst (fCmp (cEqF false) (fCB bLenF (fCons (fVar 0) fNil)) (fC (.int 2)))) (fRet (fCmp (cInF false) (fIx (fVar 0) (fC (.int 0))) (fTup (fCons (fC (.str "empty")) (fCons (fC (.str "number")) fNil))))) fNext)
  (fSq (fIfS (fOr (fTst (fCmp (cEqF true) (fIx (fVar 0) (fC (.int 0))) (fC (.str "asks")))) (fOr (fNot (fTst (fCall (m__law_are_steps c_Wrong) (fCons (fIx (fVar 0) (fC (.int 2))) fNil)))) (fNot (fTst (fIsiQ [] [c_Wrong] "str" (fIx (fVar 0) (fC (.int 3)))))))) (fRet (fC (.bl false))) fNext)
  (fRet (fAndV (fCmp (cInF false) (fIx (fVar 0) (fC (.int 3))) (fTup (fCons (fC (.str "<")) (fCons (fC (.str "<=")) (fCons (fC (.str "<>")) (fCons (fC (.str "=")) (fCons (fC (.str ">")) (fCons (fC (.str ">=")) fNil)))))))) (fCall m__law_is_near_number (fCons (fIx (fVar 0) (fC (.int 4))) fNil))))))))
def m__law_is_test (c_Wrong : Addr) : FM := mk 1 (fs__law_is_test c_Wrong)
def e__law_are_conditions_c1 (c_Wrong : Addr) (r__law_are_conditions r__law_is_condition : FM) : FE := (fVar 1)
def t__law_are_conditions_c1 (c_Wrong : Addr) (r__law_are_conditions r__law_is_condition : FM) : FT := (fNot (fTst (fCall r__law_is_condition (fCons (fVar 1) fNil))))
def fs__law_are_conditions (c_Wrong : Addr) (r__law_are_conditions r__law_is_condition : FM) : FS := (fRet (fAndV (fIsiQ [] [c_Wrong] "tuple" (fVar 0)) (fCmp cEqNilF (fComp (fiSeq (fVar 0)) (fgN 1) (t__law_are_conditions_c1 c_Wrong r__law_are_conditions r__law_is_condition) (e__law_are_conditions_c1 c_Wrong r__law_are_conditions r__law_is_condition) [1]) (fLst fNil))))
def e__law_is_condition_c1 (c_Wrong : Addr) (r__law_are_conditions r__law_is_condition : FM) : FE := (fVar 1)
def t__law_is_condition_c1 (c_Wrong : Addr) (r__law_are_conditions r__law_is_condition : FM) : FT := (fOr (fNot (fTst (fCall r__law_are_conditions (fCons (fVar 1) fNil)))) (fTst (fCmp (cEqF true) (fCB bLenF (fCons (fVar 1) fNil)) (fC (.int 2)))))
def fs__law_is_condition (c_Wrong : Addr) (r__law_are_conditions r__law_is_condition : FM) : FS := (fSq (fIfS (fOr (fNot (fTst (fIsiQ [] [c_Wrong] "tuple" (fVar 0)))) (fOr (fTst (fCmp (cInF true) (fCB bLenF (fCons (fVar 0) fNil)) (fTup (fCons (fC (.int 2)) (fCons (fC (.int 3)) (fCons (fC (.int 5)) fNil)))))) (fNot (fTst (fIsiQ [] [c_Wrong] "str" (fIx (fVar 0) (fC (.int 0)))))))) (fRet (fC (.bl false))) fNext)
  (fSq (fIfS (fAnd (fTst (fCmp (cEqF false) (fIx (fVar 0) (fC (.int 0))) (fC (.str "case")))) (fTst (fCmp (cEqF false) (fCB bLenF (fCons (fVar 0) fNil)) (fC (.int 3))))) (fSq (fIfS (fOr (fNot (fTst (fIsiQ [] [c_Wrong] "tuple" (fIx (fVar 0) (fC (.int 1)))))) (fNot (fTst (fCall r__law_is_condition (fCons (fIx (fVar 0) (fC (.int 2))) fNil))))) (fRet (fC (.bl false))) fNext)
  (fRet (fCmp cEqNilF (fComp (fiSeq (fIx (fVar 0) (fC (.int 1)))) (fgN 1) (t__law_is_condition_c1 c_Wrong r__law_are_conditions r__law_is_condition) (e__law_is_condition_c1 c_Wrong r__law_are_conditions r__law_is_condition) [1]) (fLst fNil)))) fNext)
  (fSq (fIfS (fAnd (fTst (fCmp (cEqF false) (fCB bLenF (fCons (fVar 0) fNil)) (fC (.int 2)))) (fTst (fCmp (cInF false) (fIx (fVar 0) (fC (.int 0))) (fTup (fCons (fC (.str "all")) (fCons (fC (.str "any")) (fCons (fC (.str "first")) fNil))))))) (fRet (fCall r__law_are_conditions (fCons (fIx (fVar 0) (fC (.int 1))) fNil))) fNext)
  (fSq (fIfS (fAnd (fTst (fCmp (cEqF false) (fCB bLenF (fCons (fVar 0) fNil)) (fC (.int 2)))) (fTst (fCmp (cEqF false) (fIx (fVar 0) (fC (.int 0))) (fC (.str "not"))))) (fRet (fCall r__law_is_condition (fCons (fIx (fVar 0) (fC (.int 1))) fNil))) fNext)
  (fSq (fIfS (fAnd (fTst (fCmp (cEqF false) (fCB bLenF (fCons (fVar 0) fNil)) (fC (.int 2)))) (fTst (fCmp (cEqF false) (fIx (fVar 0) (fC (.int 0))) (fC (.str "always"))))) (fRet (fAndV (fIsiQ [] [c_Wrong] "str" (fIx (fVar 0) (fC (.int 1)))) (fCmp (cInF false) (fIx (fVar 0) (fC (.int 1))) (fTup (fCons (fC (.str "error")) (fCons (fC (.str "no")) (fCons (fC (.str "unknown")) (fCons (fC (.str "yes")) fNil)))))))) fNext)
  (fRet (fCall (m__law_is_test c_Wrong) (fCons (fVar 0) fNil))))))))
mutual
def m__law_are_conditions (c_Wrong : Addr) : Nat → FM
  | 0 => m_none
  | n + 1 => mk 2 (fs__law_are_conditions c_Wrong (m__law_are_conditions c_Wrong n) (m__law_is_condition c_Wrong n))
def m__law_is_condition (c_Wrong : Addr) : Nat → FM
  | 0 => m_none
  | n + 1 => mk 2 (fs__law_is_condition c_Wrong (m__law_are_conditions c_Wrong n) (m__law_is_condition c_Wrong n))
end
theorem mS__law_are_conditions (c_Wrong : Addr) (n : Nat) : m__law_are_conditions c_Wrong (n + 1) = mk 2 (fs__law_are_conditions c_Wrong (m__law_are_conditions c_Wrong n) (m__law_is_condition c_Wrong n)) := rfl
theorem mS__law_is_condition (c_Wrong : Addr) (n : Nat) : m__law_is_condition c_Wrong (n + 1) = mk 2 (fs__law_is_condition c_Wrong (m__law_are_conditions c_Wrong n) (m__law_is_condition c_Wrong n)) := rfl
def e__law_wide_c1 : FE := (fCall m__law_leaf (fCons (fVar 0) (fCons (fVar 1) fNil)))
def e__law_wide_c2 : FE := (fTup (fCons (fIx (fVar 4) (fBin gMulF (fC (.int 2)) (fVar 7))) (fCons (fIx (fVar 4) (fBin gAddF (fBin gMulF (fC (.int 2)) (fVar 7)) (fC (.int 1)))) fNil)))
def fs__law_wide : FS := (fSq (fSet 3 (fCall m__law_take (fCons (fVar 0) (fCons (fC (.int 4)) fNil))))
  (fSq (fSet 4 (fComp (fiRng1 (fCons (fCB bMin2F (fCons (fVar 2) (fCons (fIx (fLst (fCons (fC (.int 11)) (fCons (fC (.int 11)) (fCons (fC (.int 6)) (fCons (fC (.int 6)) fNil))))) (fVar 3)) fNil))) fNil)) (fgN 6) fYes e__law_wide_c1 [6]))
  (fSq (fWipe [5] (fIfS (fTst (fCmp (cEqF false) (fVar 3) (fC (.int 0)))) (fSq (fSet 5 (fComp (fiRng1 (fCons (fBin gFdivF (fBin gSubF (fCB bLenF (fCons (fVar 4) fNil)) (fC (.int 1))) (fC (.int 2))) fNil)) (fgN 7) fYes e__law_wide_c2 [7]))
  (fRet (fTup (fCons (fC (.str "case")) (fCons (fCB bTupleF (fCons (fVar 5) fNil)) (fCons (fIx (fVar 4) (fNeg (fC (.int 1)))) fNil)))))) fNext))
  (fRet (fTup (fCons (fIx (fLst (fCons (fC (.str "")) (fCons (fC (.str "first")) (fCons (fC (.str "all")) (fCons (fC (.str "any")) fNil))))) (fVar 3)) (fCons (fCB bTupleF (fCons (fVar 4) fNil)) fNil)))))))
def m__law_wide : FM := mk 8 (fs__law_wide)
def fs__law_grown : FS := (fSq (fIfS (fAnd (fTst (fCmp cGt (fVar 2) (fC (.int 6)))) (fTst (fCmp (cEqF false) (fCall m__law_take (fCons (fVar 0) (fCons (fC (.int 2)) fNil))) (fC (.int 0))))) (fRet (fCall m__law_wide (fCons (fVar 0) (fCons (fVar 1) (fCons (fVar 2) fNil))))) fNext)
  (fRet (fCall (m__law_tree 8) (fCons (fVar 0) (fCons (fVar 1) (fCons (fVar 2) (fCons (fVar 3) fNil)))))))
def m__law_grown : FM := mk 4 (fs__law_grown)
def b_law_1 (c_WORLD : World) (c_Wrong : Addr) : FS := (fWipe [3, 4, 5, 6, 7, 8, 9, 10, 11] (fSet 2 (fTup (fCons (fC (.str "not")) (fCons (fVar 2) fNil)))))
def b_law_2 (c_WORLD : World) (c_Wrong : Addr) : FS := (fWipe [2, 3, 4, 5, 6, 7, 8, 9, 10, 11] (fIfS (fNot (fTst (fCall m__law_alike (fCons (fLst (fCons (fCall (m_is_test c_Wrong) (fCons (fVar 6) fNil)) (fCons (fCall (m_is_condition c_Wrong 120) (fCons (fVar 6) fNil)) fNil))) (fCons (fLst (fCons (fCall (m__law_is_test c_Wrong) (fCons (fVar 6) fNil)) (fCons (fCall (m__law_is_condition c_Wrong 120) (fCons (fVar 6) fNil)) fNil))) fNil))))) (fRet (fC (.bl false))) fNext))
def b_law_3 (c_WORLD : World) (c_Wrong : Addr) : FS := (fWipe [2, 3, 4, 5, 7, 9, 10, 11] (fSet 6 (fCall (m__law_bent c_WORLD 60) (fCons (fVar 1) (fCons (fVar 6) fNil)))))
def b_law_4 (c_WORLD : World) (c_Wrong : Addr) : FS := (fWipe [2, 3, 4, 5, 7, 9] (fIfS (fOr (fNot (fTst (fCall m__law_alike (fCons (fLst (fCons (fCall (m_is_test c_Wrong) (fCons (fVar 6) fNil)) (fCons (fCall (m_is_condition c_Wrong 120) (fCons (fVar 6) fNil)) fNil))) (fCons (fVar 11) fNil))))) (fTst (fCmp cNeSF (fCB bReprXF (fCons (fVar 6) fNil)) (fVar 10)))) (fRet (fC (.bl false))) fNext))
def b_law_5 (c_WORLD : World) (c_Wrong : Addr) : FS := (fWipe [2, 3, 4, 5, 6, 7, 8, 9, 10, 11] (fSq (fSet 6 (fCall m__law_grown (fCons (fVar 1) (fCons (fLst (fCons (fC (.str "n")) (fCons (fC (.str "m")) (fCons (fC (.str "all")) fNil)))) (fCons (fBin gAddF (fC (.int 1)) (fCall m__law_take (fCons (fVar 1) (fCons (fC (.int 11)) fNil)))) (fCons (fC (.int 4)) fNil))))))
  (fSq (fIfS (fTst (fCmp (cEqF false) (fCall m__law_take (fCons (fVar 1) (fCons (fC (.int 2)) fNil))) (fC (.int 0)))) (fSet 6 (fCall m__law_test (fCons (fVar 1) (fCons (fLst (fCons (fC (.str "n")) (fCons (fC (.str "empty")) (fCons (fC (.str "abcdefgh")) fNil)))) fNil)))) fNext)
  (fSq (fSet 8 (fVar 6))
  (fSq (fIfS (fNot (fTst (fCall m__law_alike (fCons (fLst (fCons (fCall (m_is_test c_Wrong) (fCons (fVar 6) fNil)) (fCons (fCall (m_is_condition c_Wrong 120) (fCons (fVar 6) fNil)) fNil))) (fCons (fLst (fCons (fCall (m__law_is_test c_Wrong) (fCons (fVar 6) fNil)) (fCons (fCall (m__law_is_condition c_Wrong 120) (fCons (fVar 6) fNil)) fNil))) fNil))))) (fRet (fC (.bl false))) fNext)
  (fSq (fWipe [2, 3, 4, 5, 7, 9, 10, 11] (fFor (fiWipe [2, 3, 4, 5, 7, 9, 10, 11] (fiRng1 (fCons (fIx (fLst (fCons (fC (.int 0)) (fCons (fC (.int 1)) (fCons (fC (.int 1)) (fCons (fC (.int 2)) fNil))))) (fCall m__law_take (fCons (fVar 1) (fCons (fC (.int 4)) fNil)))) fNil))) (fgN 9) (b_law_3 c_WORLD c_Wrong)))
  (fSq (fPar [10, 11] (fCons (fCB bReprXF (fCons (fVar 6) fNil)) (fCons (fLst (fCons (fCall (m__law_is_test c_Wrong) (fCons (fVar 6) fNil)) (fCons (fCall (m__law_is_condition c_Wrong 120) (fCons (fVar 6) fNil)) fNil))) fNil)))
  (fSq (fWipe [2, 3, 4, 5, 7, 9, 10] (fFor (fiWipe [2, 3, 4, 5, 7, 9] (fiRng1 (fCons (fC (.int 2)) fNil))) (fgN 9) (b_law_4 c_WORLD c_Wrong)))
  (fSq (fIfS (fAnd (fTst (fIx (fVar 11) (fC (.int 0)))) (fNot (fTst (fCall m__law_alike (fCons (fCall m_column_of (fCons (fVar 6) fNil)) (fCons (fIx (fVar 6) (fC (.int 1))) fNil)))))) (fRet (fC (.bl false))) fNext)
  (fIfS (fNot (fTst (fCall m__law_alike (fCons (fCall (m_is_condition c_Wrong 120) (fCons (fVar 8) fNil)) (fCons (fCall (m__law_is_condition c_Wrong 120) (fCons (fVar 8) fNil)) fNil))))) (fRet (fC (.bl false))) fNext))))))))))
def fs_law (c_WORLD : World) (c_Wrong : Addr) : FS := (fSq (fSet 2 (fTup (fCons (fC (.str "always")) (fCons (fC (.str "no")) fNil))))
  (fSq (fWipe [3, 4, 5, 6, 7, 8, 9, 10, 11] (fFor (fiWipe [3, 4, 5, 6, 7, 8, 9, 10, 11] (fiRng1 (fCons (fC (.int 27)) fNil))) (fgN 3) (b_law_1 c_WORLD c_Wrong)))
  (fSq (fSet 4 (fTup (fCons (fC (.str "asks")) (fCons (fC (.str "n")) (fCons (fBin gMulTF (fTup (fCons (fTup (fCons (fC (.str "plus")) (fCons (fC (.int 1)) fNil))) fNil)) (fC (.int 5))) (fCons (fC (.str "<")) (fCons (fC (.int 0)) fNil)))))))
  (fSq (fSet 5 (fLst (fCons (fMkE c_Wrong (fCons (fC (.int 0)) fNil)) (fCons (fTup (fCons (fC (.str "not")) (fCons (fMkE c_Wrong (fCons (fC (.int 0)) fNil)) fNil))) (fCons (fBin gMulF (fLst (fCons (fC (.int 0)) fNil)) (fC (.int 4900))) (fCons (fCall m__law_deepest fNil) (fCons (fTup (fCons (fC (.str "all")) (fCons (fBin gMulTF (fTup (fCons (fTup (fCons (fC (.str "empty")) (fCons (fC (.str "n")) fNil))) fNil)) (fC (.int 900))) fNil))) fNil)))))))
  (fSq (fWipe [2, 3, 4, 5, 6, 7, 8, 9, 10, 11] (fFor (fiWipe [2, 3, 4, 5, 6, 7, 8, 9, 10, 11] (fiSeq (fBin gAddF (fVar 5) (fLst (fCons (fVar 2) (fCons (fVar 4) fNil)))))) (fgN 6) (b_law_2 c_WORLD c_Wrong)))
  (fSq (fWipe [1, 2, 3, 4, 5, 6, 7, 8, 9, 10, 11] (fFor (fiWipe [2, 3, 4, 5, 6, 7, 8, 9, 10, 11] (fiRng1 (fCons (fC (.int 24)) fNil))) (fgN 7) (b_law_5 c_WORLD c_Wrong)))
  (fRet (fAndV (fCmp cIsBF (fCall (m_is_condition c_Wrong 120) (fCons (fTup (fCons (fC (.str "all")) (fCons (fTup fNil) fNil))) fNil)) (fC (.bl true))) (fCmp cIsBF (fCall (m_is_condition c_Wrong 120) (fCons (fTup (fCons (fC (.str "case")) (fCons (fTup fNil) (fCons (fTup (fCons (fC (.str "empty")) (fCons (fC (.str "n")) fNil))) fNil)))) fNil)) (fC (.bl true)))))))))))
def m_law (c_WORLD : World) (c_Wrong : Addr) : FM := mk 12 (fs_law c_WORLD c_Wrong)
end
end K20
set_option maxHeartbeats 4000000
namespace K20
open PySem PySem.Spec L2 DL
variable {P : Program} {w : World} {K : PySem.W.Frag} {mg : Str → Option Value} {base : Heap} [TabsC]
abbrev n_is_integer : List Str := ["thing"]
theorem sc_is_integer : FnScope n_is_integer ["thing"] (defScope s_is_integer) := ⟨rfl, rfl, rfl, by decide +kernel, rfl, by decide +kernel, by decide +kernel⟩
theorem fc_is_integer (T : Df K mg "is_integer" s_is_integer)   (m_bool : mg "bool" = none) (m_int : mg "int" = none) (m_isinstance : mg "isinstance" = none) : Fc P w K mg base 1 "is_integer" ["thing"] (spM0 1 m_is_integer) := by
  obtain ⟨f, fd, F, hm⟩ := T
  have nd := sc_is_integer.nd
  exact ⟨f, fd, fn_f (k := 0) (N := n_is_integer) (fs := fs_is_integer) F sc_is_integer (by decide) (fun cdv A outer s H E hr => (fss_one (fs_ret (fe_and (fe_isiQ cq_nil (fe_var 0) (by rfl) m_isinstance (by rfl) m_int (by decide +kernel) (by decide +kernel)) (fe_one (fe_not (fe_isiQ cq_nil (fe_var 0) (by rfl) m_isinstance (by rfl) m_bool (by decide +kernel) (by decide +kernel)))))))), hm, F.kp, F.binds (ps := ["thing"]) (fun _ _ _ _ _ _ us hl => match us, hl with | [_], _ => rfl)⟩
abbrev n_is_number : List Str := ["thing"]
theorem sc_is_number : FnScope n_is_number ["thing"] (defScope s_is_number) := ⟨rfl, rfl, rfl, by decide +kernel, rfl, by decide +kernel, by decide +kernel⟩
theorem fc_is_number (T : Df K mg "is_number" s_is_number) (F_is_integer : Fc P w K mg base 1 "is_integer" ["thing"] (spM0 1 m_is_integer))  (GK_FAR : GK K mg "FAR" gd_FAR)  : Fc P w K mg base 2 "is_number" ["thing"] (spM0 1 m_is_number) := by
  obtain ⟨f, fd, F, hm⟩ := T
  have nd := sc_is_number.nd
  exact ⟨f, fd, fn_f (k := 1) (N := n_is_number) (fs := fs_is_number) F sc_is_number (by decide) (fun cdv A outer s H E hr => (fss_one (fs_ret (fe_and (fe_fc F_is_integer (hr.mono (by omega)) (by rfl) (fa_cons (fe_var 0) fa_nil) (argN_cons argN_nil)) (fe_one (fe_leLe (fe_neg (fe_gk (by rfl) GK_FAR)) (fe_var 0) (fe_gk (by rfl) GK_FAR))))))), hm, F.kp, F.binds (ps := ["thing"]) (fun _ _ _ _ _ _ us hl => match us, hl with | [_], _ => rfl)⟩
abbrev n_is_name : List Str := ["thing", "sign"]
theorem sc_is_name : FnScope n_is_name ["thing"] (defScope s_is_name) := ⟨rfl, rfl, rfl, by decide +kernel, rfl, by decide +kernel, by decide +kernel⟩
theorem fc_is_name {c_Wrong : Addr} (T : Df K mg "is_name" s_is_name)   (XN_Wrong_str : NtX K c_Wrong "str") (GK_LETTERS : GK K mg "LETTERS" gd_LETTERS) (GK_MOST_LETTERS : GK K mg "MOST_LETTERS" gd_MOST_LETTERS) (m_all : mg "all" = none) (m_isinstance : mg "isinstance" = none) (m_len : mg "len" = none) (m_str : mg "str" = none) : Fc P w K mg base 1 "is_name" ["thing"] (spM0 1 (m_is_name c_Wrong)) := by
  obtain ⟨f, fd, F, hm⟩ := T
  have nd := sc_is_name.nd
  exact ⟨f, fd, fn_f (k := 0) (N := n_is_name) (fs := fs_is_name c_Wrong) F sc_is_name (by decide) (fun cdv A outer s H E hr => (fss_cons (fs_if (PW.pt (ft_or (ft_not (ft_val (fe_isiQ (cq_e XN_Wrong_str cq_nil) (fe_var 0) (by rfl) m_isinstance (by rfl) m_str (by decide +kernel) (by decide +kernel)))) (ft_or1 (ft_not (ft_leLe fe_int (fe_cb bs_len call_len cl_len (by rfl) m_len (by decide +kernel) (fa_cons (fe_var 0) fa_nil)) (fe_gk (by rfl) GK_MOST_LETTERS)))))) (fss_one (fs_ret fe_bl)) fss_nil)
      (fss_one (fs_ret (fe_cb bs_of (cr_all rfl) cl_all (by rfl) m_all (by decide +kernel) (fa_cons (fe_lc (fe := (e_is_name_c1 c_Wrong)) (t := fYes) gN_imp rfl nd (fi_str (fe_var 0)) (blkOk_by (own := [("sign", 1)]) (N := n_is_name) (sc := defScope s_is_name) (by decide +kernel)) (gok_name (by decide)) rfl (fun _ _ _ _ _ => pg_name (i := 1) nd rfl (by first | exact .inl rfl | exact .inr rfl)) (fun _ _ _ _ _ => fts_nil) (fun _ _ _ _ _ => (fe_inS (fe_var 1) (fe_gk (by rfl) GK_LETTERS)))) fa_nil)))))), hm, F.kp, F.binds (ps := ["thing"]) (fun _ _ _ _ _ _ us hl => match us, hl with | [_], _ => rfl)⟩
abbrev n_are_pairs : List Str := ["thing", "pair", "at"]
theorem sc_are_pairs : FnScope n_are_pairs ["thing"] (defScope s_are_pairs) := ⟨rfl, rfl, rfl, by decide +kernel, rfl, by decide +kernel, by decide +kernel⟩
theorem fc_are_pairs (T : Df K mg "are_pairs" s_are_pairs) (F_is_number : Fc P w K mg base 2 "is_number" ["thing"] (spM0 1 m_is_number))  (m_all : mg "all" = none) (m_isinstance : mg "isinstance" = none) (m_len : mg "len" = none) (m_range : mg "range" = none) (m_tuple : mg "tuple" = none) : Fc P w K mg base 3 "are_pairs" ["thing"] (spM0 1 m_are_pairs) := by
  obtain ⟨f, fd, F, hm⟩ := T
  have nd := sc_are_pairs.nd
  exact ⟨f, fd, fn_f (k := 2) (N := n_are_pairs) (fs := fs_are_pairs) F sc_are_pairs (by decide) (fun cdv A outer s H E hr => (fss_cons (fs_if (ft_not (ft_val (fe_isiQ cq_nil (fe_var 0) (by rfl) m_isinstance (by rfl) m_tuple (by decide +kernel) (by decide +kernel)))) (fss_one (fs_ret fe_bl)) fss_nil)
      (fss_cons (fs_wipe [1] (fs_for (b := b_are_pairs_1) PassesOwn.never rfl (fi_wipe [1] (fi_seq (fe_var 0))) (fg_name (i := 1) nd) (fss_wipe [1] (fss_one (fs_if (PW.pt (ft_or (ft_not (ft_val (fe_isiQ cq_nil (fe_var 1) (by rfl) m_isinstance (by rfl) m_tuple (by decide +kernel) (by decide +kernel)))) (ft_or (ft_ne hr.units (fe_cb bs_len call_len cl_len (by rfl) m_len (by decide +kernel) (fa_cons (fe_var 1) fa_nil)) fe_int) (ft_or (ft_not (ft_val (fe_fc F_is_number (hr.mono (by omega)) (by rfl) (fa_cons (fe_ix (fe_var 1) fe_int) fa_nil) (argN_cons argN_nil)))) (ft_or1 (ft_not (ft_val (fe_fc F_is_number (hr.mono (by omega)) (by rfl) (fa_cons (fe_ix (fe_var 1) fe_int) fa_nil) (argN_cons argN_nil))))))))) (fss_one (fs_ret fe_bl)) fss_nil)))))
      (fss_one (fs_ret (fe_cb bs_of (cr_all rfl) cl_all (by rfl) m_all (by decide +kernel) (fa_cons (fe_lc (fe := e_are_pairs_c2) (t := fYes) gN_imp rfl nd (fi_rng1 (by rfl) m_range (fa_cons (fe_sub (fe_cb bs_len call_len cl_len (by rfl) m_len (by decide +kernel) (fa_cons (fe_var 0) fa_nil)) fe_int) fa_nil)) (blkOk_by (own := [("at", 2)]) (N := n_are_pairs) (sc := defScope s_are_pairs) (by decide +kernel)) (gok_name (by decide)) rfl (fun _ _ _ _ _ => pg_name (i := 2) nd rfl (by first | exact .inl rfl | exact .inr rfl)) (fun _ _ _ _ _ => fts_nil) (fun _ _ _ _ _ => (fe_lt (fe_ix (fe_ix (fe_var 0) (fe_var 2)) fe_int) (fe_ix (fe_ix (fe_var 0) (fe_add (fe_var 2) fe_int)) fe_int)))) fa_nil))))))), hm, F.kp, F.binds (ps := ["thing"]) (fun _ _ _ _ _ _ us hl => match us, hl with | [_], _ => rfl)⟩
abbrev n_is_step : List Str := ["thing", "word", "number"]
theorem sc_is_step : FnScope n_is_step ["thing"] (defScope s_is_step) := ⟨rfl, rfl, rfl, by decide +kernel, rfl, by decide +kernel, by decide +kernel⟩
theorem fc_is_step {c_Wrong : Addr} (T : Df K mg "is_step" s_is_step) (F_are_pairs : Fc P w K mg base 3 "are_pairs" ["thing"] (spM0 1 m_are_pairs)) (F_is_number : Fc P w K mg base 2 "is_number" ["thing"] (spM0 1 m_is_number))  (XN_Wrong_str : NtX K c_Wrong "str") (XN_Wrong_tuple : NtX K c_Wrong "tuple") (m_isinstance : mg "isinstance" = none) (m_len : mg "len" = none) (m_str : mg "str" = none) (m_tuple : mg "tuple" = none) : Fc P w K mg base 4 "is_step" ["thing"] (spM0 1 (m_is_step c_Wrong)) := by
  obtain ⟨f, fd, F, hm⟩ := T
  have nd := sc_is_step.nd
  exact ⟨f, fd, fn_f (k := 3) (N := n_is_step) (fs := fs_is_step c_Wrong) F sc_is_step (by decide) (fun cdv A outer s H E hr => (fss_cons (fs_if (PW.pt (ft_or (ft_not (ft_val (fe_isiQ (cq_e XN_Wrong_tuple cq_nil) (fe_var 0) (by rfl) m_isinstance (by rfl) m_tuple (by decide +kernel) (by decide +kernel)))) (ft_or (ft_ne hr.units (fe_cb bs_len call_len cl_len (by rfl) m_len (by decide +kernel) (fa_cons (fe_var 0) fa_nil)) fe_int) (ft_or1 (ft_not (ft_val (fe_isiQ (cq_e XN_Wrong_str cq_nil) (fe_ix (fe_var 0) fe_int) (by rfl) m_isinstance (by rfl) m_str (by decide +kernel) (by decide +kernel)))))))) (fss_one (fs_ret fe_bl)) fss_nil)
      (fss_cons (fs_asg (fe_var 0) (fg_tup rfl (fgs_cons (fg_name (i := 1) nd) (fgs_cons (fg_name (i := 2) nd) fgs_nil))))
      (fss_cons (fs_if (ft_eq hr.units (fe_var 1) fe_str) (fss_one (fs_ret (fe_fc F_are_pairs (hr.mono (by omega)) (by rfl) (fa_cons (fe_var 2) fa_nil) (argN_cons argN_nil)))) fss_nil)
      (fss_cons (fs_if (PW.pt (ft_or (ft_notin (units65 hr) (fe_var 1) (fe_tup (fa_cons fe_str (fa_cons fe_str (fa_cons fe_str (fa_cons fe_str fa_nil)))))) (ft_or1 (ft_not (ft_val (fe_fc F_is_number (hr.mono (by omega)) (by rfl) (fa_cons (fe_var 2) fa_nil) (argN_cons argN_nil))))))) (fss_one (fs_ret fe_bl)) fss_nil)
      (fss_one (fs_ret (fe_if (ft_eq hr.units (fe_var 1) fe_str) (fe_ne hr.units (fe_var 2) fe_int) (fe_or (fe_ne hr.units (fe_var 1) fe_str) (fe_one (fe_ge (fe_var 2) fe_int))))))))))), hm, F.kp, F.binds (ps := ["thing"]) (fun _ _ _ _ _ _ us hl => match us, hl with | [_], _ => rfl)⟩
abbrev n_are_steps : List Str := ["thing", "one"]
theorem sc_are_steps : FnScope n_are_steps ["thing"] (defScope s_are_steps) := ⟨rfl, rfl, rfl, by decide +kernel, rfl, by decide +kernel, by decide +kernel⟩
theorem fc_are_steps {c_Wrong : Addr} (T : Df K mg "are_steps" s_are_steps) (F_is_step : Fc P w K mg base 4 "is_step" ["thing"] (spM0 1 (m_is_step c_Wrong)))  (XN_Wrong_tuple : NtX K c_Wrong "tuple") (m_all : mg "all" = none) (m_isinstance : mg "isinstance" = none) (m_tuple : mg "tuple" = none) : Fc P w K mg base 5 "are_steps" ["thing"] (spM0 1 (m_are_steps c_Wrong)) := by
  obtain ⟨f, fd, F, hm⟩ := T
  have nd := sc_are_steps.nd
  exact ⟨f, fd, fn_f (k := 4) (N := n_are_steps) (fs := fs_are_steps c_Wrong) F sc_are_steps (by decide) (fun cdv A outer s H E hr => (fss_one (fs_ret (fe_and (fe_isiQ (cq_e XN_Wrong_tuple cq_nil) (fe_var 0) (by rfl) m_isinstance (by rfl) m_tuple (by decide +kernel) (by decide +kernel)) (fe_one (fe_cb bs_of (cr_all rfl) cl_all (by rfl) m_all (by decide +kernel) (fa_cons (fe_lc (fe := (e_are_steps_c1 c_Wrong)) (t := fYes) gN_imp rfl nd (fi_seq (fe_var 0)) (blkOk_by (own := [("one", 1)]) (N := n_are_steps) (sc := defScope s_are_steps) (by decide +kernel)) (gok_name (by decide)) rfl (fun _ _ _ _ _ => pg_name (i := 1) nd rfl (by first | exact .inl rfl | exact .inr rfl)) (fun _ _ _ _ _ => fts_nil) (fun _ _ _ _ _ => (fe_fc F_is_step (hr.mono (by omega)) (by rfl) (fa_cons (fe_var 1) fa_nil) (argN_cons argN_nil)))) fa_nil))))))), hm, F.kp, F.binds (ps := ["thing"]) (fun _ _ _ _ _ _ us hl => match us, hl with | [_], _ => rfl)⟩
abbrev n_is_test : List Str := ["thing"]
theorem sc_is_test : FnScope n_is_test ["thing"] (defScope s_is_test) := ⟨rfl, rfl, rfl, by decide +kernel, rfl, by decide +kernel, by decide +kernel⟩
theorem fc_is_test {c_Wrong : Addr} (T : Df K mg "is_test" s_is_test) (F_are_steps : Fc P w K mg base 5 "are_steps" ["thing"] (spM0 1 (m_are_steps c_Wrong))) (F_is_name : Fc P w K mg base 1 "is_name" ["thing"] (spM0 1 (m_is_name c_Wrong))) (F_is_number : Fc P w K mg base 2 "is_number" ["thing"] (spM0 1 m_is_number))  (XN_Wrong_str : NtX K c_Wrong "str") (XN_Wrong_tuple : NtX K c_Wrong "tuple") (GK_SIGNS : GK K mg "SIGNS" gd_SIGNS) (m_isinstance : mg "isinstance" = none) (m_len : mg "len" = none) (m_str : mg "str" = none) (m_tuple : mg "tuple" = none) : Fc P w K mg base 6 "is_test" ["thing"] (spM0 1 (m_is_test c_Wrong)) := by
  obtain ⟨f, fd, F, hm⟩ := T
  have nd := sc_is_test.nd
  exact ⟨f, fd, fn_f (k := 5) (N := n_is_test) (fs := fs_is_test c_Wrong) F sc_is_test (by decide) (fun cdv A outer s H E hr => (fss_cons (fs_if (PW.pt (ft_or (ft_not (ft_val (fe_isiQ (cq_e XN_Wrong_tuple cq_nil) (fe_var 0) (by rfl) m_isinstance (by rfl) m_tuple (by decide +kernel) (by decide +kernel)))) (ft_or (ft_lt (fe_cb bs_len call_len cl_len (by rfl) m_len (by decide +kernel) (fa_cons (fe_var 0) fa_nil)) fe_int) (ft_or (ft_not (ft_val (fe_isiQ (cq_e XN_Wrong_str cq_nil) (fe_ix (fe_var 0) fe_int) (by rfl) m_isinstance (by rfl) m_str (by decide +kernel) (by decide +kernel)))) (ft_or1 (ft_not (ft_val (fe_fc F_is_name (hr.mono (by omega)) (by rfl) (fa_cons (fe_ix (fe_var 0) fe_int) fa_nil) (argN_cons argN_nil))))))))) (fss_one (fs_ret fe_bl)) fss_nil)
      (fss_cons (fs_if (ft_in (units65 hr) (fe_ix (fe_var 0) fe_int) (fe_tup (fa_cons fe_str (fa_cons fe_str fa_nil)))) (fss_one (fs_ret (fe_eq hr.units (fe_cb bs_len call_len cl_len (by rfl) m_len (by decide +kernel) (fa_cons (fe_var 0) fa_nil)) fe_int))) fss_nil)
      (fss_cons (fs_if (PW.pt (ft_or (ft_ne hr.units (fe_ix (fe_var 0) fe_int) fe_str) (ft_or (ft_ne hr.units (fe_cb bs_len call_len cl_len (by rfl) m_len (by decide +kernel) (fa_cons (fe_var 0) fa_nil)) fe_int) (ft_or1 (ft_not (ft_val (fe_fc F_are_steps (hr.mono (by omega)) (by rfl) (fa_cons (fe_ix (fe_var 0) fe_int) fa_nil) (argN_cons argN_nil)))))))) (fss_one (fs_ret fe_bl)) fss_nil)
      (fss_one (fs_ret (fe_and (fe_isiQ (cq_e XN_Wrong_str cq_nil) (fe_ix (fe_var 0) fe_int) (by rfl) m_isinstance (by rfl) m_str (by decide +kernel) (by decide +kernel)) (fe_and (fe_in (units65 hr) (fe_ix (fe_var 0) fe_int) (fe_gk (by rfl) GK_SIGNS)) (fe_one (fe_fc F_is_number (hr.mono (by omega)) (by rfl) (fa_cons (fe_ix (fe_var 0) fe_int) fa_nil) (argN_cons argN_nil))))))))))), hm, F.kp, F.binds (ps := ["thing"]) (fun _ _ _ _ _ _ us hl => match us, hl with | [_], _ => rfl)⟩
abbrev n_column_of : List Str := ["test"]
theorem sc_column_of : FnScope n_column_of ["test"] (defScope s_column_of) := ⟨rfl, rfl, rfl, by decide +kernel, rfl, by decide +kernel, by decide +kernel⟩
theorem fc_column_of (T : Df K mg "column_of" s_column_of)    : Fc P w K mg base 1 "column_of" ["test"] (spM0 1 m_column_of) := by
  obtain ⟨f, fd, F, hm⟩ := T
  have nd := sc_column_of.nd
  exact ⟨f, fd, fn_f (k := 0) (N := n_column_of) (fs := fs_column_of) F sc_column_of (by decide) (fun cdv A outer s H E hr => (fss_one (fs_ret (fe_ix (fe_var 0) fe_int)))), hm, F.kp, F.binds (ps := ["test"]) (fun _ _ _ _ _ _ us hl => match us, hl with | [_], _ => rfl)⟩
abbrev n_are_conditions : List Str := ["thing", "one"]
theorem sc_are_conditions : FnScope n_are_conditions ["thing"] (defScope s_are_conditions) := ⟨rfl, rfl, rfl, by decide +kernel, rfl, by decide +kernel, by decide +kernel⟩
theorem fc_are_conditions {c_Wrong : Addr} {r_are_conditions r_is_case r_is_condition : FM} {k : Nat} (hk : 6 ≤ k) (T : Df K mg "are_conditions" s_are_conditions) (F_is_condition : Fc P w K mg base k "is_condition" ["thing"] (spM0 1 r_is_condition))  (XN_Wrong_tuple : NtX K c_Wrong "tuple") (m_all : mg "all" = none) (m_isinstance : mg "isinstance" = none) (m_tuple : mg "tuple" = none) : Fc P w K mg base (k + 1) "are_conditions" ["thing"] (spM0 1 (mk 2 (fs_are_conditions c_Wrong r_are_conditions r_is_case r_is_condition))) := by
  obtain ⟨f, fd, F, hm⟩ := T
  have nd := sc_are_conditions.nd
  exact ⟨f, fd, fn_f (k := k) (N := n_are_conditions) (fs := fs_are_conditions c_Wrong r_are_conditions r_is_case r_is_condition) F sc_are_conditions (by decide) (fun cdv A outer s H E hr => (fss_one (fs_ret (fe_and (fe_isiQ (cq_e XN_Wrong_tuple cq_nil) (fe_var 0) (by rfl) m_isinstance (by rfl) m_tuple (by decide +kernel) (by decide +kernel)) (fe_one (fe_cb bs_of (cr_all rfl) cl_all (by rfl) m_all (by decide +kernel) (fa_cons (fe_lc (fe := (e_are_conditions_c1 c_Wrong r_are_conditions r_is_case r_is_condition)) (t := fYes) gN_imp rfl nd (fi_seq (fe_var 0)) (blkOk_by (own := [("one", 1)]) (N := n_are_conditions) (sc := defScope s_are_conditions) (by decide +kernel)) (gok_name (by decide)) rfl (fun _ _ _ _ _ => pg_name (i := 1) nd rfl (by first | exact .inl rfl | exact .inr rfl)) (fun _ _ _ _ _ => fts_nil) (fun _ _ _ _ _ => (fe_fc F_is_condition (hr.mono (by omega)) (by rfl) (fa_cons (fe_var 1) fa_nil) (argN_cons argN_nil)))) fa_nil))))))), hm, F.kp, F.binds (ps := ["thing"]) (fun _ _ _ _ _ _ us hl => match us, hl with | [_], _ => rfl)⟩
abbrev n_is_case : List Str := ["thing", "pair"]
theorem sc_is_case : FnScope n_is_case ["thing"] (defScope s_is_case) := ⟨rfl, rfl, rfl, by decide +kernel, rfl, by decide +kernel, by decide +kernel⟩
theorem fc_is_case {c_Wrong : Addr} {r_are_conditions r_is_case r_is_condition : FM} {k : Nat} (hk : 6 ≤ k) (T : Df K mg "is_case" s_is_case) (F_are_conditions : Fc P w K mg base k "are_conditions" ["thing"] (spM0 1 r_are_conditions)) (F_is_condition : Fc P w K mg base k "is_condition" ["thing"] (spM0 1 r_is_condition))  (XN_Wrong_tuple : NtX K c_Wrong "tuple") (m_all : mg "all" = none) (m_isinstance : mg "isinstance" = none) (m_len : mg "len" = none) (m_tuple : mg "tuple" = none) : Fc P w K mg base (k + 1) "is_case" ["thing"] (spM0 1 (mk 2 (fs_is_case c_Wrong r_are_conditions r_is_case r_is_condition))) := by
  obtain ⟨f, fd, F, hm⟩ := T
  have nd := sc_is_case.nd
  exact ⟨f, fd, fn_f (k := k) (N := n_is_case) (fs := fs_is_case c_Wrong r_are_conditions r_is_case r_is_condition) F sc_is_case (by decide) (fun cdv A outer s H E hr => (fss_cons (fs_if (PW.pt (ft_or (ft_not (ft_val (fe_isiQ (cq_e XN_Wrong_tuple cq_nil) (fe_ix (fe_var 0) fe_int) (by rfl) m_isinstance (by rfl) m_tuple (by decide +kernel) (by decide +kernel)))) (ft_or1 (ft_not (ft_val (fe_cb bs_of (cr_all rfl) cl_all (by rfl) m_all (by decide +kernel) (fa_cons (fe_lc (fe := (e_is_case_c1 c_Wrong r_are_conditions r_is_case r_is_condition)) (t := fYes) gN_imp rfl nd (fi_seq (fe_ix (fe_var 0) fe_int)) (blkOk_by (own := [("pair", 1)]) (N := n_is_case) (sc := defScope s_is_case) (by decide +kernel)) (gok_name (by decide)) rfl (fun _ _ _ _ _ => pg_name (i := 1) nd rfl (by first | exact .inl rfl | exact .inr rfl)) (fun _ _ _ _ _ => fts_nil) (fun _ _ _ _ _ => (fe_and (fe_isiQ (cq_e XN_Wrong_tuple cq_nil) (fe_var 1) (by rfl) m_isinstance (by rfl) m_tuple (by decide +kernel) (by decide +kernel)) (fe_one (fe_eq hr.units (fe_cb bs_len call_len cl_len (by rfl) m_len (by decide +kernel) (fa_cons (fe_var 1) fa_nil)) fe_int))))) fa_nil))))))) (fss_one (fs_ret fe_bl)) fss_nil)
      (fss_one (fs_ret (fe_and (fe_cb bs_of (cr_all rfl) cl_all (by rfl) m_all (by decide +kernel) (fa_cons (fe_lc (fe := (e_is_case_c2 c_Wrong r_are_conditions r_is_case r_is_condition)) (t := fYes) gN_imp rfl nd (fi_seq (fe_ix (fe_var 0) fe_int)) (blkOk_by (own := [("pair", 1)]) (N := n_is_case) (sc := defScope s_is_case) (by decide +kernel)) (gok_name (by decide)) rfl (fun _ _ _ _ _ => pg_name (i := 1) nd rfl (by first | exact .inl rfl | exact .inr rfl)) (fun _ _ _ _ _ => fts_nil) (fun _ _ _ _ _ => (fe_fc F_are_conditions (hr.mono (by omega)) (by rfl) (fa_cons (fe_var 1) fa_nil) (argN_cons argN_nil)))) fa_nil)) (fe_one (fe_fc F_is_condition (hr.mono (by omega)) (by rfl) (fa_cons (fe_ix (fe_var 0) fe_int) fa_nil) (argN_cons argN_nil)))))))), hm, F.kp, F.binds (ps := ["thing"]) (fun _ _ _ _ _ _ us hl => match us, hl with | [_], _ => rfl)⟩
abbrev n_is_condition : List Str := ["thing"]
theorem sc_is_condition : FnScope n_is_condition ["thing"] (defScope s_is_condition) := ⟨rfl, rfl, rfl, by decide +kernel, rfl, by decide +kernel, by decide +kernel⟩
theorem fc_is_condition {c_Wrong : Addr} {r_are_conditions r_is_case r_is_condition : FM} {k : Nat} (hk : 6 ≤ k) (T : Df K mg "is_condition" s_is_condition) (F_are_conditions : Fc P w K mg base k "are_conditions" ["thing"] (spM0 1 r_are_conditions)) (F_is_case : Fc P w K mg base k "is_case" ["thing"] (spM0 1 r_is_case)) (F_is_condition : Fc P w K mg base k "is_condition" ["thing"] (spM0 1 r_is_condition)) (F_is_test : Fc P w K mg base 6 "is_test" ["thing"] (spM0 1 (m_is_test c_Wrong)))  (XN_Wrong_str : NtX K c_Wrong "str") (XN_Wrong_tuple : NtX K c_Wrong "tuple") (GK_ANSWERS : GK K mg "ANSWERS" gd_ANSWERS) (m_isinstance : mg "isinstance" = none) (m_len : mg "len" = none) (m_str : mg "str" = none) (m_tuple : mg "tuple" = none) : Fc P w K mg base (k + 1) "is_condition" ["thing"] (spM0 1 (mk 1 (fs_is_condition c_Wrong r_are_conditions r_is_case r_is_condition))) := by
  obtain ⟨f, fd, F, hm⟩ := T
  have nd := sc_is_condition.nd
  exact ⟨f, fd, fn_f (k := k) (N := n_is_condition) (fs := fs_is_condition c_Wrong r_are_conditions r_is_case r_is_condition) F sc_is_condition (by decide) (fun cdv A outer s H E hr => (fss_cons (fs_if (PW.pt (ft_or (ft_not (ft_val (fe_isiQ (cq_e XN_Wrong_tuple cq_nil) (fe_var 0) (by rfl) m_isinstance (by rfl) m_tuple (by decide +kernel) (by decide +kernel)))) (ft_or (ft_notin (units65 hr) (fe_cb bs_len call_len cl_len (by rfl) m_len (by decide +kernel) (fa_cons (fe_var 0) fa_nil)) (fe_tup (fa_cons fe_int (fa_cons fe_int (fa_cons fe_int fa_nil))))) (ft_or1 (ft_not (ft_val (fe_isiQ (cq_e XN_Wrong_str cq_nil) (fe_ix (fe_var 0) fe_int) (by rfl) m_isinstance (by rfl) m_str (by decide +kernel) (by decide +kernel)))))))) (fss_one (fs_ret fe_bl)) fss_nil)
      (fss_cons (fs_if (ft_eq hr.units (fe_ix (fe_var 0) fe_int) fe_str) (fss_one (fs_ret (fe_and (fe_eq hr.units (fe_cb bs_len call_len cl_len (by rfl) m_len (by decide +kernel) (fa_cons (fe_var 0) fa_nil)) fe_int) (fe_one (fe_fc F_is_case (hr.mono (by omega)) (by rfl) (fa_cons (fe_var 0) fa_nil) (argN_cons argN_nil)))))) fss_nil)
      (fss_cons (fs_if (ft_in (units65 hr) (fe_ix (fe_var 0) fe_int) (fe_tup (fa_cons fe_str (fa_cons fe_str (fa_cons fe_str fa_nil))))) (fss_one (fs_ret (fe_and (fe_eq hr.units (fe_cb bs_len call_len cl_len (by rfl) m_len (by decide +kernel) (fa_cons (fe_var 0) fa_nil)) fe_int) (fe_one (fe_fc F_are_conditions (hr.mono (by omega)) (by rfl) (fa_cons (fe_ix (fe_var 0) fe_int) fa_nil) (argN_cons argN_nil)))))) fss_nil)
      (fss_cons (fs_if (ft_eq hr.units (fe_ix (fe_var 0) fe_int) fe_str) (fss_one (fs_ret (fe_and (fe_eq hr.units (fe_cb bs_len call_len cl_len (by rfl) m_len (by decide +kernel) (fa_cons (fe_var 0) fa_nil)) fe_int) (fe_one (fe_fc F_is_condition (hr.mono (by omega)) (by rfl) (fa_cons (fe_ix (fe_var 0) fe_int) fa_nil) (argN_cons argN_nil)))))) fss_nil)
      (fss_cons (fs_if (ft_eq hr.units (fe_ix (fe_var 0) fe_int) fe_str) (fss_one (fs_ret (fe_and (fe_eq hr.units (fe_cb bs_len call_len cl_len (by rfl) m_len (by decide +kernel) (fa_cons (fe_var 0) fa_nil)) fe_int) (fe_and (fe_isiQ (cq_e XN_Wrong_str cq_nil) (fe_ix (fe_var 0) fe_int) (by rfl) m_isinstance (by rfl) m_str (by decide +kernel) (by decide +kernel)) (fe_one (fe_in (units65 hr) (fe_ix (fe_var 0) fe_int) (fe_gk (by rfl) GK_ANSWERS))))))) fss_nil)
      (fss_one (fs_ret (fe_fc F_is_test (hr.mono (by omega)) (by rfl) (fa_cons (fe_var 0) fa_nil) (argN_cons argN_nil)))))))))), hm, F.kp, F.binds (ps := ["thing"]) (fun _ _ _ _ _ _ us hl => match us, hl with | [_], _ => rfl)⟩
theorem rec_are_conditions {c_Wrong : Addr} (Tare_conditions : Df K mg "are_conditions" s_are_conditions) (Tis_case : Df K mg "is_case" s_is_case) (Tis_condition : Df K mg "is_condition" s_is_condition) (F_is_test : Fc P w K mg base 6 "is_test" ["thing"] (spM0 1 (m_is_test c_Wrong)))  (XN_Wrong_str : NtX K c_Wrong "str") (XN_Wrong_tuple : NtX K c_Wrong "tuple") (GK_ANSWERS : GK K mg "ANSWERS" gd_ANSWERS) (m_all : mg "all" = none) (m_isinstance : mg "isinstance" = none) (m_len : mg "len" = none) (m_str : mg "str" = none) (m_tuple : mg "tuple" = none) : ∀ n : Nat, Fc P w K mg base (6 + n) "are_conditions" ["thing"] (spM0 1 (m_are_conditions c_Wrong n)) ∧ Fc P w K mg base (6 + n) "is_case" ["thing"] (spM0 1 (m_is_case c_Wrong n)) ∧ Fc P w K mg base (6 + n) "is_condition" ["thing"] (spM0 1 (m_is_condition c_Wrong n))
  | 0 => by
    obtain ⟨f_are_conditions, d_are_conditions, U_are_conditions, g_are_conditions⟩ := Tare_conditions
    obtain ⟨f_is_case, d_is_case, U_is_case, g_is_case⟩ := Tis_case
    obtain ⟨f_is_condition, d_is_condition, U_is_condition, g_is_condition⟩ := Tis_condition
    exact ⟨⟨f_are_conditions, d_are_conditions, fn_none _ none_no, g_are_conditions, U_are_conditions.kp, U_are_conditions.binds (ps := ["thing"]) (fun _ _ _ _ _ _ us hl => match us, hl with | [_], _ => rfl)⟩, ⟨f_is_case, d_is_case, fn_none _ none_no, g_is_case, U_is_case.kp, U_is_case.binds (ps := ["thing"]) (fun _ _ _ _ _ _ us hl => match us, hl with | [_], _ => rfl)⟩, ⟨f_is_condition, d_is_condition, fn_none _ none_no, g_is_condition, U_is_condition.kp, U_is_condition.binds (ps := ["thing"]) (fun _ _ _ _ _ _ us hl => match us, hl with | [_], _ => rfl)⟩⟩
  | n + 1 => by
    have ih := rec_are_conditions Tare_conditions Tis_case Tis_condition F_is_test XN_Wrong_str XN_Wrong_tuple GK_ANSWERS m_all m_isinstance m_len m_str m_tuple n
    obtain ⟨F_are_conditions, F_is_case, F_is_condition⟩ := ih
    exact ⟨fc_are_conditions (k := 6 + n) (by omega) Tare_conditions F_is_condition XN_Wrong_tuple m_all m_isinstance m_tuple, fc_is_case (k := 6 + n) (by omega) Tis_case F_are_conditions F_is_condition XN_Wrong_tuple m_all m_isinstance m_len m_tuple, fc_is_condition (k := 6 + n) (by omega) Tis_condition F_are_conditions F_is_case F_is_condition F_is_test XN_Wrong_str XN_Wrong_tuple GK_ANSWERS m_isinstance m_len m_str m_tuple⟩
abbrev n__law_alike : List Str := ["_law_found", "_law_due"]
theorem sc__law_alike : FnScope n__law_alike ["_law_found", "_law_due"] (defScope s__law_alike) := ⟨rfl, rfl, rfl, by decide +kernel, rfl, by decide +kernel, by decide +kernel⟩
theorem fc__law_alike (T : Df K mg "_law_alike" s__law_alike)   (m_repr : mg "repr" = none ∧ sysB K = true) : FcG P w K mg base 1 "_law_alike" ["_law_found", "_law_due"] (spM0 2 m__law_alike) := by
  obtain ⟨f, fd, F, hm⟩ := T
  have nd := sc__law_alike.nd
  exact ⟨f, fd, fn_fg (k := 0) (N := n__law_alike) (fs := fs__law_alike) F sc__law_alike (by decide) (fun cdv A outer s H E hq hr => (fss_one (fs_ret (fe_and (fe_eq hr.units (fe_var 0) (fe_var 1)) (fe_one (fe_eqS (fe_cb bs_reprX (call_reprX hq hr.units m_repr.2) cl_reprX (by rfl) m_repr.1 (by decide +kernel) (fa_cons (fe_var 0) fa_nil)) (fe_cb bs_reprX (call_reprX hq hr.units m_repr.2) cl_reprX (by rfl) m_repr.1 (by decide +kernel) (fa_cons (fe_var 1) fa_nil)))))))), hm, F.kp, F.binds (ps := ["_law_found", "_law_due"]) (fun _ _ _ _ _ _ us hl => match us, hl with | [_, _], _ => rfl)⟩
abbrev n__law_one : List Str := ["_law_bag_here", "_law_things"]
theorem sc__law_one : FnScope n__law_one ["_law_bag_here", "_law_things"] (defScope s__law_one) := ⟨rfl, rfl, rfl, by decide +kernel, rfl, by decide +kernel, by decide +kernel⟩
theorem fc__law_one (T : Df K mg "_law_one" s__law_one) (F__law_take : Fc P w K mg base 1 "_law_take" ["_law_bag_here", "_law_many"] (spM0 2 m__law_take))  (m_len : mg "len" = none) : Fc P w K mg base 2 "_law_one" ["_law_bag_here", "_law_things"] (spM0 2 m__law_one) := by
  obtain ⟨f, fd, F, hm⟩ := T
  have nd := sc__law_one.nd
  exact ⟨f, fd, fn_f (k := 1) (N := n__law_one) (fs := fs__law_one) F sc__law_one (by decide) (fun cdv A outer s H E hr => (fss_one (fs_ret (fe_ix (fe_var 1) (fe_fc F__law_take (hr.mono (by omega)) (by rfl) (fa_cons (fe_var 0) (fa_cons (fe_cb bs_len call_len cl_len (by rfl) m_len (by decide +kernel) (fa_cons (fe_var 1) fa_nil)) fa_nil)) (argN_cons (argN_cons argN_nil))))))), hm, F.kp, F.binds (ps := ["_law_bag_here", "_law_things"]) (fun _ _ _ _ _ _ us hl => match us, hl with | [_, _], _ => rfl)⟩
abbrev n__law_number : List Str := ["_law_bag_here", "_law_way"]
theorem sc__law_number : FnScope n__law_number ["_law_bag_here"] (defScope s__law_number) := ⟨rfl, rfl, rfl, by decide +kernel, rfl, by decide +kernel, by decide +kernel⟩
theorem fc__law_number (T : Df K mg "_law_number" s__law_number) (F__law_take : Fc P w K mg base 1 "_law_take" ["_law_bag_here", "_law_many"] (spM0 2 m__law_take))   : Fc P w K mg base 2 "_law_number" ["_law_bag_here"] (spM0 1 m__law_number) := by
  obtain ⟨f, fd, F, hm⟩ := T
  have nd := sc__law_number.nd
  exact ⟨f, fd, fn_f (k := 1) (N := n__law_number) (fs := fs__law_number) F sc__law_number (by decide) (fun cdv A outer s H E hr => (fss_cons (fs_set (i := 1) nd (fe_fc F__law_take (hr.mono (by omega)) (by rfl) (fa_cons (fe_var 0) (fa_cons fe_int fa_nil)) (argN_cons (argN_cons argN_nil))))
      (fss_cons (fs_if (ft_gt (fe_var 1) fe_int) (fss_one (fs_ret (fe_sub (fe_fc F__law_take (hr.mono (by omega)) (by rfl) (fa_cons (fe_var 0) (fa_cons fe_int fa_nil)) (argN_cons (argN_cons argN_nil))) fe_int))) fss_nil)
      (fss_one (fs_ret (fe_mul (fe_ix (fe_lst (fa_cons (fe_sub (fe_pow fe_int fe_int) (fe_fc F__law_take (hr.mono (by omega)) (by rfl) (fa_cons (fe_var 0) (fa_cons fe_int fa_nil)) (argN_cons (argN_cons argN_nil)))) (fa_cons (fe_fc F__law_take (hr.mono (by omega)) (by rfl) (fa_cons (fe_var 0) (fa_cons fe_int fa_nil)) (argN_cons (argN_cons argN_nil))) fa_nil))) (fe_var 1)) (fe_ix (fe_lst (fa_cons fe_int (fa_cons (fe_neg fe_int) fa_nil))) (fe_fc F__law_take (hr.mono (by omega)) (by rfl) (fa_cons (fe_var 0) (fa_cons fe_int fa_nil)) (argN_cons (argN_cons argN_nil)))))))))), hm, F.kp, F.binds (ps := ["_law_bag_here"]) (fun _ _ _ _ _ _ us hl => match us, hl with | [_], _ => rfl)⟩
abbrev n__law_step : List Str := ["_law_bag_here", "_law_word", "_law_by", "_law_keys", "_law_number_here", "_law_key"]
theorem sc__law_step : FnScope n__law_step ["_law_bag_here"] (defScope s__law_step) := ⟨rfl, rfl, rfl, by decide +kernel, rfl, by decide +kernel, by decide +kernel⟩
theorem fc__law_step (T : Df K mg "_law_step" s__law_step) (F__law_number : Fc P w K mg base 2 "_law_number" ["_law_bag_here"] (spM0 1 m__law_number)) (F__law_one : Fc P w K mg base 2 "_law_one" ["_law_bag_here", "_law_things"] (spM0 2 m__law_one)) (F__law_take : Fc P w K mg base 1 "_law_take" ["_law_bag_here", "_law_many"] (spM0 2 m__law_take))  (m_abs : mg "abs" = none) (m_max : mg "max" = none) (m_range : mg "range" = none) (m_tuple : mg "tuple" = none) : Fc P w K mg base 3 "_law_step" ["_law_bag_here"] (spM0 1 m__law_step) := by
  obtain ⟨f, fd, F, hm⟩ := T
  have nd := sc__law_step.nd
  exact ⟨f, fd, fn_f (k := 2) (N := n__law_step) (fs := fs__law_step) F sc__law_step (by decide) (fun cdv A outer s H E hr => (fss_cons (fs_set (i := 1) nd (fe_fc F__law_one (hr.mono (by omega)) (by rfl) (fa_cons (fe_var 0) (fa_cons (fe_lst (fa_cons fe_str (fa_cons fe_str (fa_cons fe_str (fa_cons fe_str (fa_cons fe_str fa_nil)))))) fa_nil)) (argN_cons (argN_cons argN_nil))))
      (fss_cons (fs_wipe [2, 3] (fs_if (ft_eq hr.units (fe_var 1) fe_str) (fss_cons (fs_set (i := 2) nd (fe_ix (fe_lst (fa_cons fe_int (fa_cons fe_int (fa_cons fe_int (fa_cons (fe_add (fe_pow fe_int fe_int) fe_int) fa_nil))))) (fe_fc F__law_take (hr.mono (by omega)) (by rfl) (fa_cons (fe_var 0) (fa_cons fe_int fa_nil)) (argN_cons (argN_cons argN_nil)))))
      (fss_cons (fs_set (i := 3) nd (fe_sl (fe_lc (fe := e__law_step_c1) (t := t__law_step_c1) gN_imp rfl nd (fi_rng2 (by rfl) m_range (fa_cons (fe_neg fe_int) (fa_cons fe_int fa_nil))) (blkOk_by (own := [("_law_key", 5)]) (N := n__law_step) (sc := defScope s__law_step) (by decide +kernel)) (gok_name (by decide)) rfl (fun _ _ _ _ _ => pg_name (i := 5) nd rfl (by first | exact .inl rfl | exact .inr rfl)) (fun _ _ _ _ _ => fts_one (ft_eq hr.units (fe_fc F__law_take (hr.mono (by omega)) (by rfl) (fa_cons (fe_var 0) (fa_cons fe_int fa_nil)) (argN_cons (argN_cons argN_nil))) fe_int)) (fun _ _ _ _ _ => (fe_mul (fe_var 5) (fe_var 2)))) fo_none (fo_some fe_int)))
      (fss_one (fs_ret (fe_tup (fa_cons fe_str (fa_cons (fe_ct bs_tuple call_tupF cl_tuple (by rfl) m_tuple (by decide +kernel) (fa_cons (fe_lc (fe := e__law_step_c2) (t := fYes) gN_imp rfl nd (fi_seq (fe_var 3)) (blkOk_by (own := [("_law_key", 5)]) (N := n__law_step) (sc := defScope s__law_step) (by decide +kernel)) (gok_name (by decide)) rfl (fun _ _ _ _ _ => pg_name (i := 5) nd rfl (by first | exact .inl rfl | exact .inr rfl)) (fun _ _ _ _ _ => fts_nil) (fun _ _ _ _ _ => (fe_tup (fa_cons (fe_var 5) (fa_cons (fe_fc F__law_number (hr.mono (by omega)) (by rfl) (fa_cons (fe_var 0) fa_nil) (argN_cons argN_nil)) fa_nil))))) fa_nil)) fa_nil))))))) fss_nil))
      (fss_cons (fs_set (i := 4) nd (fe_fc F__law_number (hr.mono (by omega)) (by rfl) (fa_cons (fe_var 0) fa_nil) (argN_cons argN_nil)))
      (fss_cons (fs_if (ft_eq hr.units (fe_var 1) fe_str) (fss_one (fs_ret (fe_tup (fa_cons fe_str (fa_cons (fe_cb bs_max2 (call_max2 rfl) cl_max2 (by rfl) m_max (by decide +kernel) (fa_cons fe_int (fa_cons (fe_cb bs_abs call_abs cl_abs (by rfl) m_abs (by decide +kernel) (fa_cons (fe_var 4) fa_nil)) fa_nil))) fa_nil))))) fss_nil)
      (fss_one (fs_ret (fe_tup (fa_cons (fe_var 1) (fa_cons (fe_if (PW.pt (ft_or (ft_ne hr.units (fe_var 4) fe_int) (ft_or1 (ft_ne hr.units (fe_var 1) fe_str)))) (fe_var 4) fe_int) fa_nil)))))))))), hm, F.kp, F.binds (ps := ["_law_bag_here"]) (fun _ _ _ _ _ _ us hl => match us, hl with | [_], _ => rfl)⟩
abbrev n__law_test : List Str := ["_law_bag_here", "_law_names", "_law_name", "_law_way", "_law_steps", "_law_k"]
theorem sc__law_test : FnScope n__law_test ["_law_bag_here", "_law_names"] (defScope s__law_test) := ⟨rfl, rfl, rfl, by decide +kernel, rfl, by decide +kernel, by decide +kernel⟩
theorem fc__law_test (T : Df K mg "_law_test" s__law_test) (F__law_one : Fc P w K mg base 2 "_law_one" ["_law_bag_here", "_law_things"] (spM0 2 m__law_one)) (F__law_step : Fc P w K mg base 3 "_law_step" ["_law_bag_here"] (spM0 1 m__law_step)) (F__law_take : Fc P w K mg base 1 "_law_take" ["_law_bag_here", "_law_many"] (spM0 2 m__law_take))  (m_range : mg "range" = none) (m_tuple : mg "tuple" = none) : Fc P w K mg base 4 "_law_test" ["_law_bag_here", "_law_names"] (spM0 2 m__law_test) := by
  obtain ⟨f, fd, F, hm⟩ := T
  have nd := sc__law_test.nd
  exact ⟨f, fd, fn_f (k := 3) (N := n__law_test) (fs := fs__law_test) F sc__law_test (by decide) (fun cdv A outer s H E hr => (fss_cons (fs_par2 (i := 2) (j := 3) rfl nd rfl rfl (by decide) rfl rfl (fa_cons (fe_fc F__law_one (hr.mono (by omega)) (by rfl) (fa_cons (fe_var 0) (fa_cons (fe_var 1) fa_nil)) (argN_cons (argN_cons argN_nil))) (fa_cons (fe_fc F__law_take (hr.mono (by omega)) (by rfl) (fa_cons (fe_var 0) (fa_cons fe_int fa_nil)) (argN_cons (argN_cons argN_nil))) fa_nil)))
      (fss_cons (fs_if (ft_lt (fe_var 3) fe_int) (fss_one (fs_ret (fe_tup (fa_cons (fe_ix (fe_lst (fa_cons fe_str (fa_cons fe_str fa_nil))) (fe_var 3)) (fa_cons (fe_var 2) fa_nil))))) fss_nil)
      (fss_cons (fs_set (i := 4) nd (fe_tup fa_nil))
      (fss_cons (fs_if (ft_gt (fe_var 3) fe_int) (fss_one (fs_set (i := 4) nd (fe_tup (fa_cons (fe_tup (fa_cons fe_str (fa_cons (fe_sub (fe_fc F__law_take (hr.mono (by omega)) (by rfl) (fa_cons (fe_var 0) (fa_cons fe_int fa_nil)) (argN_cons (argN_cons argN_nil))) fe_int) fa_nil))) (fa_cons (fe_tup (fa_cons fe_str (fa_cons (fe_sub (fe_fc F__law_take (hr.mono (by omega)) (by rfl) (fa_cons (fe_var 0) (fa_cons fe_int fa_nil)) (argN_cons (argN_cons argN_nil))) fe_int) fa_nil))) fa_nil))))) fss_nil)
      (fss_cons (fs_if (ft_gt (fe_var 3) fe_int) (fss_one (fs_set (i := 4) nd (fe_ct bs_tuple call_tupF cl_tuple (by rfl) m_tuple (by decide +kernel) (fa_cons (fe_lc (fe := e__law_test_c1) (t := fYes) gN_imp rfl nd (fi_rng1 (by rfl) m_range (fa_cons (fe_add fe_int (fe_fc F__law_take (hr.mono (by omega)) (by rfl) (fa_cons (fe_var 0) (fa_cons fe_int fa_nil)) (argN_cons (argN_cons argN_nil)))) fa_nil)) (blkOk_by (own := [("_law_k", 5)]) (N := n__law_test) (sc := defScope s__law_test) (by decide +kernel)) (gok_name (by decide)) rfl (fun _ _ _ _ _ => pg_name (i := 5) nd rfl (by first | exact .inl rfl | exact .inr rfl)) (fun _ _ _ _ _ => fts_nil) (fun _ _ _ _ _ => (fe_fc F__law_step (hr.mono (by omega)) (by rfl) (fa_cons (fe_var 0) fa_nil) (argN_cons argN_nil)))) fa_nil)))) fss_nil)
      (fss_one (fs_ret (fe_tup (fa_cons fe_str (fa_cons (fe_var 2) (fa_cons (fe_var 4) (fa_cons (fe_fc F__law_one (hr.mono (by omega)) (by rfl) (fa_cons (fe_var 0) (fa_cons (fe_lst (fa_cons fe_str (fa_cons fe_str (fa_cons fe_str (fa_cons fe_str (fa_cons fe_str (fa_cons fe_str fa_nil))))))) fa_nil)) (argN_cons (argN_cons argN_nil))) (fa_cons (fe_sub (fe_fc F__law_take (hr.mono (by omega)) (by rfl) (fa_cons (fe_var 0) (fa_cons fe_int fa_nil)) (argN_cons (argN_cons argN_nil))) fe_int) fa_nil)))))))))))))), hm, F.kp, F.binds (ps := ["_law_bag_here", "_law_names"]) (fun _ _ _ _ _ _ us hl => match us, hl with | [_, _], _ => rfl)⟩
abbrev n__law_leaf : List Str := ["_law_bag_here", "_law_names"]
theorem sc__law_leaf : FnScope n__law_leaf ["_law_bag_here", "_law_names"] (defScope s__law_leaf) := ⟨rfl, rfl, rfl, by decide +kernel, rfl, by decide +kernel, by decide +kernel⟩
theorem fc__law_leaf (T : Df K mg "_law_leaf" s__law_leaf) (F__law_one : Fc P w K mg base 2 "_law_one" ["_law_bag_here", "_law_things"] (spM0 2 m__law_one)) (F__law_take : Fc P w K mg base 1 "_law_take" ["_law_bag_here", "_law_many"] (spM0 2 m__law_take)) (F__law_test : Fc P w K mg base 4 "_law_test" ["_law_bag_here", "_law_names"] (spM0 2 m__law_test))   : Fc P w K mg base 5 "_law_leaf" ["_law_bag_here", "_law_names"] (spM0 2 m__law_leaf) := by
  obtain ⟨f, fd, F, hm⟩ := T
  have nd := sc__law_leaf.nd
  exact ⟨f, fd, fn_f (k := 4) (N := n__law_leaf) (fs := fs__law_leaf) F sc__law_leaf (by decide) (fun cdv A outer s H E hr => (fss_cons (fs_if (ft_eq hr.units (fe_fc F__law_take (hr.mono (by omega)) (by rfl) (fa_cons (fe_var 0) (fa_cons fe_int fa_nil)) (argN_cons (argN_cons argN_nil))) fe_int) (fss_one (fs_ret (fe_tup (fa_cons fe_str (fa_cons (fe_fc F__law_one (hr.mono (by omega)) (by rfl) (fa_cons (fe_var 0) (fa_cons (fe_lst (fa_cons fe_str (fa_cons fe_str (fa_cons fe_str (fa_cons fe_str fa_nil))))) fa_nil)) (argN_cons (argN_cons argN_nil))) fa_nil))))) fss_nil)
      (fss_one (fs_ret (fe_fc F__law_test (hr.mono (by omega)) (by rfl) (fa_cons (fe_var 0) (fa_cons (fe_var 1) fa_nil)) (argN_cons (argN_cons argN_nil))))))), hm, F.kp, F.binds (ps := ["_law_bag_here", "_law_names"]) (fun _ _ _ _ _ _ us hl => match us, hl with | [_, _], _ => rfl)⟩
abbrev n__law_small : List Str := ["_law_bag_here", "_law_names", "_law_way", "_law_leaf_here"]
theorem sc__law_small : FnScope n__law_small ["_law_bag_here", "_law_names"] (defScope s__law_small) := ⟨rfl, rfl, rfl, by decide +kernel, rfl, by decide +kernel, by decide +kernel⟩
theorem fc__law_small (T : Df K mg "_law_small" s__law_small) (F__law_leaf : Fc P w K mg base 5 "_law_leaf" ["_law_bag_here", "_law_names"] (spM0 2 m__law_leaf)) (F__law_one : Fc P w K mg base 2 "_law_one" ["_law_bag_here", "_law_things"] (spM0 2 m__law_one)) (F__law_take : Fc P w K mg base 1 "_law_take" ["_law_bag_here", "_law_many"] (spM0 2 m__law_take))   : Fc P w K mg base 6 "_law_small" ["_law_bag_here", "_law_names"] (spM0 2 m__law_small) := by
  obtain ⟨f, fd, F, hm⟩ := T
  have nd := sc__law_small.nd
  exact ⟨f, fd, fn_f (k := 5) (N := n__law_small) (fs := fs__law_small) F sc__law_small (by decide) (fun cdv A outer s H E hr => (fss_cons (fs_par2 (i := 2) (j := 3) rfl nd rfl rfl (by decide) rfl rfl (fa_cons (fe_fc F__law_take (hr.mono (by omega)) (by rfl) (fa_cons (fe_var 0) (fa_cons fe_int fa_nil)) (argN_cons (argN_cons argN_nil))) (fa_cons (fe_fc F__law_leaf (hr.mono (by omega)) (by rfl) (fa_cons (fe_var 0) (fa_cons (fe_var 1) fa_nil)) (argN_cons (argN_cons argN_nil))) fa_nil)))
      (fss_cons (fs_if (ft_eq hr.units (fe_var 2) fe_int) (fss_one (fs_ret (fe_fc F__law_one (hr.mono (by omega)) (by rfl) (fa_cons (fe_var 0) (fa_cons (fe_lst (fa_cons (fe_tup (fa_cons fe_str (fa_cons (fe_tup fa_nil) fa_nil))) (fa_cons (fe_tup (fa_cons fe_str (fa_cons (fe_tup fa_nil) fa_nil))) (fa_cons (fe_tup (fa_cons fe_str (fa_cons (fe_tup fa_nil) fa_nil))) (fa_cons (fe_tup (fa_cons fe_str (fa_cons (fe_tup fa_nil) (fa_cons (fe_var 3) fa_nil)))) (fa_cons (fe_tup (fa_cons fe_str (fa_cons (fe_tup fa_nil) (fa_cons (fe_var 3) fa_nil)))) fa_nil)))))) fa_nil)) (argN_cons (argN_cons argN_nil))))) fss_nil)
      (fss_cons (fs_if (ft_eq hr.units (fe_var 2) fe_int) (fss_one (fs_ret (fe_fc F__law_one (hr.mono (by omega)) (by rfl) (fa_cons (fe_var 0) (fa_cons (fe_lst (fa_cons (fe_tup (fa_cons fe_str (fa_cons (fe_var 3) fa_nil))) (fa_cons (fe_tup (fa_cons fe_str (fa_cons (fe_var 3) fa_nil))) (fa_cons (fe_tup (fa_cons fe_str (fa_cons (fe_tup (fa_cons (fe_var 3) fa_nil)) fa_nil))) (fa_cons (fe_tup (fa_cons fe_str (fa_cons (fe_tup (fa_cons (fe_var 3) fa_nil)) fa_nil))) (fa_cons (fe_tup (fa_cons fe_str (fa_cons (fe_tup (fa_cons (fe_var 3) fa_nil)) fa_nil))) fa_nil)))))) fa_nil)) (argN_cons (argN_cons argN_nil))))) fss_nil)
      (fss_one (fs_ret (fe_var 3))))))), hm, F.kp, F.binds (ps := ["_law_bag_here", "_law_names"]) (fun _ _ _ _ _ _ us hl => match us, hl with | [_, _], _ => rfl)⟩
abbrev n__law_split : List Str := ["_law_bag_here", "_law_many", "_law_number_here", "_law_sizes", "_law_k"]
theorem sc__law_split : FnScope n__law_split ["_law_bag_here", "_law_many", "_law_number_here"] (defScope s__law_split) := ⟨rfl, rfl, rfl, by decide +kernel, rfl, by decide +kernel, by decide +kernel⟩
theorem fc__law_split (T : Df K mg "_law_split" s__law_split) (F__law_take : Fc P w K mg base 1 "_law_take" ["_law_bag_here", "_law_many"] (spM0 2 m__law_take))  (m_range : mg "range" = none) : Fc P w K mg base 2 "_law_split" ["_law_bag_here", "_law_many", "_law_number_here"] (spM0 3 m__law_split) := by
  obtain ⟨f, fd, F, hm⟩ := T
  have nd := sc__law_split.nd
  exact ⟨f, fd, fn_f (k := 1) (N := n__law_split) (fs := fs__law_split) F sc__law_split (by decide) (fun cdv A outer s H E hr => (fss_cons (fs_set (i := 3) nd (fe_mul (fe_lst (fa_cons fe_int fa_nil)) (fe_var 2)))
      (fss_cons (fs_wipe [4] (fs_for (b := b__law_split_1) PassesOwn.never rfl (fi_wipe [4] (fi_rng1 (by rfl) m_range (fa_cons (fe_sub (fe_var 1) (fe_var 2)) fa_nil))) (fg_name (i := 4) nd) (fss_wipe [4] (fss_one (fs_aug (pv 3) (fe_fc F__law_take (hr.mono (by omega)) (by rfl) (fa_cons (fe_var 0) (fa_cons (fe_var 2) fa_nil)) (argN_cons (argN_cons argN_nil))) fe_int)))))
      (fss_one (fs_ret (fe_var 3)))))), hm, F.kp, F.binds (ps := ["_law_bag_here", "_law_many", "_law_number_here"]) (fun _ _ _ _ _ _ us hl => match us, hl with | [_, _, _], _ => rfl)⟩
abbrev n__law_tree : List Str := ["_law_bag_here", "_law_names", "_law_many", "_law_deep", "_law_way", "_law_number_here", "_law_some", "_law_size", "_law_at"]
theorem sc__law_tree : FnScope n__law_tree ["_law_bag_here", "_law_names", "_law_many", "_law_deep"] (defScope s__law_tree) := ⟨rfl, rfl, rfl, by decide +kernel, rfl, by decide +kernel, by decide +kernel⟩
theorem fc__law_tree {r__law_tree : FM} {k : Nat} (hk : 6 ≤ k) (T : Df K mg "_law_tree" s__law_tree) (F__law_small : Fc P w K mg base 6 "_law_small" ["_law_bag_here", "_law_names"] (spM0 2 m__law_small)) (F__law_split : Fc P w K mg base 2 "_law_split" ["_law_bag_here", "_law_many", "_law_number_here"] (spM0 3 m__law_split)) (F__law_take : Fc P w K mg base 1 "_law_take" ["_law_bag_here", "_law_many"] (spM0 2 m__law_take)) (F__law_tree : Fc P w K mg base k "_law_tree" ["_law_bag_here", "_law_names", "_law_many", "_law_deep"] (spM0 4 r__law_tree))  (m_int : mg "int" = none) (m_min : mg "min" = none) (m_range : mg "range" = none) (m_tuple : mg "tuple" = none) : Fc P w K mg base (k + 1) "_law_tree" ["_law_bag_here", "_law_names", "_law_many", "_law_deep"] (spM0 4 (mk 9 (fs__law_tree r__law_tree))) := by
  obtain ⟨f, fd, F, hm⟩ := T
  have nd := sc__law_tree.nd
  exact ⟨f, fd, fn_f (k := k) (N := n__law_tree) (fs := fs__law_tree r__law_tree) F sc__law_tree (by decide) (fun cdv A outer s H E hr => (fss_cons (fs_if (PW.pt (ft_or (ft_lt (fe_var 2) fe_int) (ft_or1 (ft_lt (fe_var 3) fe_int)))) (fss_one (fs_ret (fe_fc F__law_small (hr.mono (by omega)) (by rfl) (fa_cons (fe_var 0) (fa_cons (fe_var 1) fa_nil)) (argN_cons (argN_cons argN_nil))))) fss_nil)
      (fss_cons (fs_par2 (i := 4) (j := 5) rfl nd rfl rfl (by decide) rfl rfl (fa_cons (fe_fc F__law_take (hr.mono (by omega)) (by rfl) (fa_cons (fe_var 0) (fa_cons fe_int fa_nil)) (argN_cons (argN_cons argN_nil))) (fa_cons (fe_add fe_int (fe_fc F__law_take (hr.mono (by omega)) (by rfl) (fa_cons (fe_var 0) (fa_cons (fe_sub (fe_cb bs_min2 (call_min2 rfl) cl_min2 (by rfl) m_min (by decide +kernel) (fa_cons (fe_var 2) (fa_cons fe_int fa_nil))) fe_int) fa_nil)) (argN_cons (argN_cons argN_nil)))) fa_nil)))
      (fss_cons (fs_if (ft_eq hr.units (fe_var 4) fe_int) (fss_one (fs_ret (fe_tup (fa_cons fe_str (fa_cons (fe_fc F__law_tree (hr.mono (by omega)) (by rfl) (fa_cons (fe_var 0) (fa_cons (fe_var 1) (fa_cons (fe_var 2) (fa_cons (fe_sub (fe_var 3) fe_int) fa_nil)))) (argN_cons (argN_cons (argN_cons (argN_cons argN_nil))))) fa_nil))))) fss_nil)
      (fss_cons (fs_if (PW.pt (ft_and (ft_eq hr.units (fe_var 4) fe_int) (ft_and1 (ft_gt (fe_var 2) fe_int)))) (fss_one (fs_set (i := 5) nd (fe_add fe_int (fe_mul fe_int (fe_ct bs_int call_int1 cl_int (by rfl) m_int (by decide +kernel) (fa_cons (fe_and (fe_gt (fe_var 2) fe_int) (fe_one (fe_gt (fe_var 5) fe_int))) fa_nil)))))) fss_nil)
      (fss_cons (fs_set (i := 6) nd (fe_lc (fe := (e__law_tree_c1 r__law_tree)) (t := fYes) gN_imp rfl nd (fi_seq (fe_fc F__law_split (hr.mono (by omega)) (by rfl) (fa_cons (fe_var 0) (fa_cons (fe_var 2) (fa_cons (fe_var 5) fa_nil))) (argN_cons (argN_cons (argN_cons argN_nil))))) (blkOk_by (own := [("_law_size", 7)]) (N := n__law_tree) (sc := defScope s__law_tree) (by decide +kernel)) (gok_name (by decide)) rfl (fun _ _ _ _ _ => pg_name (i := 7) nd rfl (by first | exact .inl rfl | exact .inr rfl)) (fun _ _ _ _ _ => fts_nil) (fun _ _ _ _ _ => (fe_fc F__law_tree (hr.mono (by omega)) (by rfl) (fa_cons (fe_var 0) (fa_cons (fe_var 1) (fa_cons (fe_var 7) (fa_cons (fe_sub (fe_var 3) fe_int) fa_nil)))) (argN_cons (argN_cons (argN_cons (argN_cons argN_nil))))))))
      (fss_cons (fs_if (PW.pt (ft_and (ft_eq hr.units (fe_var 4) fe_int) (ft_and1 (ft_gt (fe_var 2) fe_int)))) (fss_one (fs_ret (fe_tup (fa_cons fe_str (fa_cons (fe_ct bs_tuple call_tupF cl_tuple (by rfl) m_tuple (by decide +kernel) (fa_cons (fe_lc (fe := (e__law_tree_c2 r__law_tree)) (t := fYes) gN_imp rfl nd (fi_rng1 (by rfl) m_range (fa_cons (fe_fdiv (fe_var 5) fe_int) fa_nil)) (blkOk_by (own := [("_law_at", 8)]) (N := n__law_tree) (sc := defScope s__law_tree) (by decide +kernel)) (gok_name (by decide)) rfl (fun _ _ _ _ _ => pg_name (i := 8) nd rfl (by first | exact .inl rfl | exact .inr rfl)) (fun _ _ _ _ _ => fts_nil) (fun _ _ _ _ _ => (fe_tup (fa_cons (fe_ix (fe_var 6) (fe_mul fe_int (fe_var 8))) (fa_cons (fe_ix (fe_var 6) (fe_add (fe_mul fe_int (fe_var 8)) fe_int)) fa_nil))))) fa_nil)) (fa_cons (fe_ix (fe_var 6) (fe_neg fe_int)) fa_nil)))))) fss_nil)
      (fss_one (fs_ret (fe_tup (fa_cons (fe_if (ft_lt (fe_var 4) fe_int) fe_str (fe_ix (fe_lst (fa_cons fe_str (fa_cons fe_str fa_nil))) (fe_mod (fe_ct bs_int call_int1 cl_int (by rfl) m_int (by decide +kernel) (fa_cons (fe_var 4) fa_nil)) fe_int))) (fa_cons (fe_ct bs_tuple call_tupF cl_tuple (by rfl) m_tuple (by decide +kernel) (fa_cons (fe_var 6) fa_nil)) fa_nil)))))))))))), hm, F.kp, F.binds (ps := ["_law_bag_here", "_law_names", "_law_many", "_law_deep"]) (fun _ _ _ _ _ _ us hl => match us, hl with | [_, _, _, _], _ => rfl)⟩
theorem rec__law_tree (T_law_tree : Df K mg "_law_tree" s__law_tree) (F__law_small : Fc P w K mg base 6 "_law_small" ["_law_bag_here", "_law_names"] (spM0 2 m__law_small)) (F__law_split : Fc P w K mg base 2 "_law_split" ["_law_bag_here", "_law_many", "_law_number_here"] (spM0 3 m__law_split)) (F__law_take : Fc P w K mg base 1 "_law_take" ["_law_bag_here", "_law_many"] (spM0 2 m__law_take))  (m_int : mg "int" = none) (m_min : mg "min" = none) (m_range : mg "range" = none) (m_tuple : mg "tuple" = none) : ∀ n : Nat, Fc P w K mg base (6 + n) "_law_tree" ["_law_bag_here", "_law_names", "_law_many", "_law_deep"] (spM0 4 (m__law_tree n))
  | 0 => by
    obtain ⟨f__law_tree, d__law_tree, U__law_tree, g__law_tree⟩ := T_law_tree
    exact ⟨f__law_tree, d__law_tree, fn_none _ none_no, g__law_tree, U__law_tree.kp, U__law_tree.binds (ps := ["_law_bag_here", "_law_names", "_law_many", "_law_deep"]) (fun _ _ _ _ _ _ us hl => match us, hl with | [_, _, _, _], _ => rfl)⟩
  | n + 1 => by
    have ih := rec__law_tree T_law_tree F__law_small F__law_split F__law_take m_int m_min m_range m_tuple n
    have F__law_tree := ih
    exact fc__law_tree (k := 6 + n) (by omega) T_law_tree F__law_small F__law_split F__law_take F__law_tree m_int m_min m_range m_tuple
abbrev n__law_deepest : List Str := ["_law_found", "_law_k"]
theorem sc__law_deepest : FnScope n__law_deepest [] (defScope s__law_deepest) := ⟨rfl, rfl, rfl, by decide +kernel, rfl, by decide +kernel, by decide +kernel⟩
theorem fc__law_deepest (T : Df K mg "_law_deepest" s__law_deepest)   (m_range : mg "range" = none) : Fc P w K mg base 1 "_law_deepest" [] (spM0 0 m__law_deepest) := by
  obtain ⟨f, fd, F, hm⟩ := T
  have nd := sc__law_deepest.nd
  exact ⟨f, fd, fn_f (k := 0) (N := n__law_deepest) (fs := fs__law_deepest) F sc__law_deepest (by decide) (fun cdv A outer s H E hr => (fss_cons (fs_set (i := 0) nd (fe_lst fa_nil))
      (fss_cons (fs_wipe [1] (fs_for (b := b__law_deepest_1) PassesOwn.never rfl (fi_wipe [1] (fi_rng1 (by rfl) m_range (fa_cons fe_int fa_nil))) (fg_name (i := 1) nd) (fss_wipe [1] (fss_one (fs_set (i := 0) nd (fe_lst (fa_cons (fe_var 0) fa_nil)))))))
      (fss_one (fs_ret (fe_var 0)))))), hm, F.kp, F.binds (ps := []) (fun _ _ _ _ _ _ us hl => match us, hl with | [], _ => rfl)⟩
abbrev n__law_odd : List Str := ["_law_bag_here", "_law_deep", "_law_k", "_law_odd_here"]
theorem sc__law_odd : FnScope n__law_odd ["_law_bag_here"] (defScope s__law_odd) := ⟨rfl, rfl, rfl, by decide +kernel, rfl, by decide +kernel, by decide +kernel⟩
theorem fc__law_odd (T : Df K mg "_law_odd" s__law_odd) (F__law_one : Fc P w K mg base 2 "_law_one" ["_law_bag_here", "_law_things"] (spM0 2 m__law_one)) (F__law_take : Fc P w K mg base 1 "_law_take" ["_law_bag_here", "_law_many"] (spM0 2 m__law_take))  (m_range : mg "range" = none) : Fc P w K mg base 3 "_law_odd" ["_law_bag_here"] (spM0 1 (m__law_odd w)) := by
  obtain ⟨f, fd, F, hm⟩ := T
  have nd := sc__law_odd.nd
  exact ⟨f, fd, fn_f (k := 2) (N := n__law_odd) (fs := fs__law_odd w) F sc__law_odd (by decide) (fun cdv A outer s H E hr => (fss_cons (fs_set (i := 1) nd (fe_fc F__law_one (hr.mono (by omega)) (by rfl) (fa_cons (fe_var 0) (fa_cons (fe_lst (fa_cons (fe_lst fa_nil) (fa_cons (fe_dnewM rfl) (fa_cons (fe_tup fa_nil) (fa_cons fe_str fa_nil))))) fa_nil)) (argN_cons (argN_cons argN_nil))))
      (fss_cons (fs_wipe [2, 3] (fs_for (b := (b__law_odd_1 w)) PassesOwn.never rfl (fi_wipe [2, 3] (fi_rng1 (by rfl) m_range (fa_cons fe_int fa_nil))) (fg_name (i := 2) nd) (fss_wipe [2, 3] (fss_one (fs_set (i := 1) nd (fe_if (ft_eq hr.units (fe_fc F__law_take (hr.mono (by omega)) (by rfl) (fa_cons (fe_var 0) (fa_cons fe_int fa_nil)) (argN_cons (argN_cons argN_nil))) fe_int) (fe_lst (fa_cons (fe_var 1) fa_nil)) (fe_tup (fa_cons (fe_var 1) fa_nil))))))))
      (fss_cons (fs_set (i := 3) nd (fe_lst (fa_cons fe_non (fa_cons fe_bl (fa_cons fe_bl (fa_cons fe_int (fa_cons fe_int (fa_cons (fe_neg fe_int) (fa_cons fe_int (fa_cons (fe_pow fe_int fe_int) (fa_cons (fe_add (fe_pow fe_int fe_int) fe_int) (fa_cons (fe_sub (fe_neg (fe_pow fe_int fe_int)) fe_int) (fa_cons (fe_pow fe_int fe_int) (fa_cons fe_str (fa_cons fe_str (fa_cons fe_str (fa_cons fe_str fa_nil)))))))))))))))))
      (fss_cons (fs_set (i := 3) nd (fe_add (fe_var 3) (fe_lst (fa_cons fe_str (fa_cons fe_str (fa_cons fe_str (fa_cons fe_str (fa_cons (fe_lst fa_nil) (fa_cons (fe_tup fa_nil) (fa_cons (fe_dnewM rfl) (fa_cons (fe_lst (fa_cons fe_int fa_nil)) (fa_cons (fe_tup (fa_cons fe_int fa_nil)) (fa_cons (fe_dispM rfl (hu12 hr) (fpp_cons fe_str fe_int fpp_nil)) (fa_cons (fe_dispM rfl (hu12 hr) (fpp_cons fe_int fe_str fpp_nil)) (fa_cons (fe_lst (fa_cons (fe_lst fa_nil) fa_nil)) (fa_cons (fe_tup (fa_cons (fe_tup fa_nil) fa_nil)) (fa_cons (fe_var 1) fa_nil)))))))))))))))))
      (fss_cons (fs_set (i := 3) nd (fe_add (fe_var 3) (fe_lst (fa_cons (fe_tup (fa_cons fe_str fa_nil)) (fa_cons (fe_tup (fa_cons fe_str (fa_cons fe_bl fa_nil))) (fa_cons (fe_tup (fa_cons fe_str (fa_cons fe_int fa_nil))) (fa_cons (fe_tup (fa_cons fe_str (fa_cons fe_int fa_nil))) (fa_cons (fe_lst (fa_cons fe_str (fa_cons fe_int fa_nil))) (fa_cons (fe_tup (fa_cons fe_str (fa_cons (fe_tup (fa_cons (fe_tup (fa_cons fe_int (fa_cons fe_int fa_nil))) (fa_cons (fe_tup (fa_cons fe_int (fa_cons fe_int fa_nil))) fa_nil))) fa_nil))) fa_nil)))))))))
      (fss_cons (fs_set (i := 3) nd (fe_add (fe_var 3) (fe_lst (fa_cons (fe_tup (fa_cons fe_str (fa_cons (fe_lst (fa_cons (fe_tup (fa_cons fe_int (fa_cons fe_int fa_nil))) fa_nil)) fa_nil))) (fa_cons (fe_tup (fa_cons fe_str (fa_cons fe_str fa_nil))) (fa_cons (fe_tup (fa_cons fe_str (fa_cons fe_str fa_nil))) (fa_cons (fe_tup (fa_cons fe_str (fa_cons fe_str fa_nil))) (fa_cons (fe_tup (fa_cons fe_str (fa_cons (fe_lst fa_nil) fa_nil))) (fa_cons (fe_tup (fa_cons fe_str fa_nil)) fa_nil)))))))))
      (fss_cons (fs_set (i := 3) nd (fe_add (fe_var 3) (fe_lst (fa_cons (fe_tup (fa_cons fe_str (fa_cons (fe_tup (fa_cons (fe_tup (fa_cons fe_str (fa_cons fe_str fa_nil))) fa_nil)) (fa_cons (fe_tup (fa_cons fe_str (fa_cons fe_str fa_nil))) fa_nil)))) (fa_cons (fe_tup (fa_cons fe_str (fa_cons (fe_tup fa_nil) (fa_cons (fe_tup fa_nil) fa_nil)))) (fa_cons (fe_tup (fa_cons fe_str (fa_cons fe_int (fa_cons fe_int (fa_cons fe_bl (fa_cons fe_bl fa_nil)))))) (fa_cons (fe_mul (fe_lst (fa_cons fe_int fa_nil)) fe_int) fa_nil)))))))
      (fss_one (fs_ret (fe_fc F__law_one (hr.mono (by omega)) (by rfl) (fa_cons (fe_var 0) (fa_cons (fe_add (fe_var 3) (fe_lst (fa_cons (fe_tup (fa_cons fe_str (fa_cons (fe_tup (fa_cons (fe_tup (fa_cons fe_str (fa_cons fe_str fa_nil))) fa_nil)) fa_nil))) (fa_cons (fe_tup (fa_cons fe_str (fa_cons fe_int (fa_cons fe_int (fa_cons fe_bl (fa_cons fe_bl fa_nil)))))) (fa_cons (fe_dispM rfl (hu12 hr) (fpp_cons fe_str fe_non (fpp_cons fe_str fe_str fpp_nil))) fa_nil))))) fa_nil)) (argN_cons (argN_cons argN_nil))))))))))))), hm, F.kp, F.binds (ps := ["_law_bag_here"]) (fun _ _ _ _ _ _ us hl => match us, hl with | [_], _ => rfl)⟩
abbrev n__law_bent : List Str := ["_law_bag_here", "_law_thing", "_law_way", "_law_at", "_law_more"]
theorem sc__law_bent : FnScope n__law_bent ["_law_bag_here", "_law_thing"] (defScope s__law_bent) := ⟨rfl, rfl, rfl, by decide +kernel, rfl, by decide +kernel, by decide +kernel⟩
theorem fc__law_bent {r__law_bent r__law_bent_row r__law_bent_dict : FM} {k : Nat} (hk : 3 ≤ k) (T : Df K mg "_law_bent" s__law_bent) (F__law_bent_dict : Fc P w K mg base k "_law_bent_dict" ["_law_bag_here", "_law_thing", "_law_way"] (spM0 3 r__law_bent_dict)) (F__law_bent_row : Fc P w K mg base k "_law_bent_row" ["_law_bag_here", "_law_thing", "_law_way"] (spM0 3 r__law_bent_row)) (F__law_odd : Fc P w K mg base 3 "_law_odd" ["_law_bag_here"] (spM0 1 (m__law_odd w))) (F__law_one : Fc P w K mg base 2 "_law_one" ["_law_bag_here", "_law_things"] (spM0 2 m__law_one)) (F__law_take : Fc P w K mg base 1 "_law_take" ["_law_bag_here", "_law_many"] (spM0 2 m__law_take))  (m_bool : mg "bool" = none) (m_dict : mg "dict" = none) (m_int : mg "int" = none) (m_isinstance : mg "isinstance" = none) (m_len : mg "len" = none) (m_list : mg "list" = none) (m_str : mg "str" = none) (m_tuple : mg "tuple" = none) : Fc P w K mg base (k + 1) "_law_bent" ["_law_bag_here", "_law_thing"] (spM0 2 (mk 5 (fs__law_bent w r__law_bent r__law_bent_row r__law_bent_dict))) := by
  obtain ⟨f, fd, F, hm⟩ := T
  have nd := sc__law_bent.nd
  exact ⟨f, fd, fn_f (k := k) (N := n__law_bent) (fs := fs__law_bent w r__law_bent r__law_bent_row r__law_bent_dict) F sc__law_bent (by decide) (fun cdv A outer s H E hr => (fss_cons (fs_set (i := 2) nd (fe_fc F__law_take (hr.mono (by omega)) (by rfl) (fa_cons (fe_var 0) (fa_cons fe_int fa_nil)) (argN_cons (argN_cons argN_nil))))
      (fss_cons (fs_if (ft_eq hr.units (fe_var 2) fe_int) (fss_one (fs_ret (fe_fc F__law_odd (hr.mono (by omega)) (by rfl) (fa_cons (fe_var 0) fa_nil) (argN_cons argN_nil)))) fss_nil)
      (fss_cons (fs_if (ft_val (fe_isisQ (cq_two cq_nil cq_nil) (by decide) (fe_var 1) (pa_ty2 (by rfl) m_list (by decide +kernel) (by rfl) m_tuple (by decide +kernel)) (by decide) (by rfl) m_isinstance (by decide +kernel))) (fss_one (fs_ret (fe_fc F__law_bent_row (hr.mono (by omega)) (by rfl) (fa_cons (fe_var 0) (fa_cons (fe_var 1) (fa_cons (fe_var 2) fa_nil))) (argN_cons (argN_cons (argN_cons argN_nil)))))) fss_nil)
      (fss_cons (fs_if (PW.pt (ft_and (ft_val (fe_isiQ cq_nil (fe_var 1) (by rfl) m_isinstance (by rfl) m_dict (by decide +kernel) (by decide +kernel))) (ft_and1 (ft_neDicM rfl hr.units (fe_var 1) (fe_dnewM rfl))))) (fss_one (fs_ret (fe_fc F__law_bent_dict (hr.mono (by omega)) (by rfl) (fa_cons (fe_var 0) (fa_cons (fe_var 1) (fa_cons (fe_var 2) fa_nil))) (argN_cons (argN_cons (argN_cons argN_nil)))))) fss_nil)
      (fss_cons (fs_wipe [3, 4] (fs_if (ft_val (fe_isiQ cq_nil (fe_var 1) (by rfl) m_isinstance (by rfl) m_str (by decide +kernel) (by decide +kernel))) (fss_cons (fs_set (i := 3) nd (fe_fc F__law_take (hr.mono (by omega)) (by rfl) (fa_cons (fe_var 0) (fa_cons (fe_add (fe_cb bs_len call_len cl_len (by rfl) m_len (by decide +kernel) (fa_cons (fe_var 1) fa_nil)) fe_int) fa_nil)) (argN_cons (argN_cons argN_nil))))
      (fss_cons (fs_set (i := 4) nd (fe_add (fe_add (fe_sl (fe_var 1) fo_none (fo_some (fe_var 3))) (fe_fc F__law_one (hr.mono (by omega)) (by rfl) (fa_cons (fe_var 0) (fa_cons (fe_listS rfl (fa_cons fe_str fa_nil) (by rfl) m_list (by decide +kernel)) fa_nil)) (argN_cons (argN_cons argN_nil)))) (fe_sl (fe_var 1) (fo_some (fe_var 3)) fo_none)))
      (fss_one (fs_ret (fe_ix (fe_lst (fa_cons (fe_var 4) (fa_cons (fe_sl (fe_var 1) fo_none (fo_some (fe_neg fe_int))) (fa_cons (fe_upper (fe_var 1)) (fa_cons (fe_add (fe_var 1) (fe_var 1)) (fa_cons (fe_add (fe_var 1) fe_str) (fa_cons (fe_fc F__law_odd (hr.mono (by omega)) (by rfl) (fa_cons (fe_var 0) fa_nil) (argN_cons argN_nil)) fa_nil))))))) (fe_sub (fe_var 2) fe_int)))))) fss_nil))
      (fss_cons (fs_if (PW.pt (ft_and (ft_val (fe_isiQ cq_nil (fe_var 1) (by rfl) m_isinstance (by rfl) m_int (by decide +kernel) (by decide +kernel))) (ft_and1 (ft_not (ft_val (fe_isiQ cq_nil (fe_var 1) (by rfl) m_isinstance (by rfl) m_bool (by decide +kernel) (by decide +kernel))))))) (fss_one (fs_ret (fe_ix (fe_lst (fa_cons (fe_add (fe_var 1) fe_int) (fa_cons (fe_sub (fe_var 1) fe_int) (fa_cons (fe_neg (fe_var 1)) (fa_cons (fe_strX (fa_cons (fe_var 1) fa_nil) (by rfl) m_str (by decide +kernel)) (fa_cons (fe_eq hr.units (fe_var 1) fe_int) (fa_cons (fe_fc F__law_odd (hr.mono (by omega)) (by rfl) (fa_cons (fe_var 0) fa_nil) (argN_cons argN_nil)) fa_nil))))))) (fe_sub (fe_var 2) fe_int)))) fss_nil)
      (fss_one (fs_ret (fe_ix (fe_lst (fa_cons fe_non (fa_cons (fe_notQ (fe_var 1)) (fa_cons (fe_ct bs_int call_int1 cl_int (by rfl) m_int (by decide +kernel) (fa_cons (fe_isQ (fe_var 1) fe_bl) fa_nil)) (fa_cons (fe_var 1) (fa_cons fe_str (fa_cons (fe_fc F__law_odd (hr.mono (by omega)) (by rfl) (fa_cons (fe_var 0) fa_nil) (argN_cons argN_nil)) fa_nil))))))) (fe_sub (fe_var 2) fe_int))))))))))), hm, F.kp, F.binds (ps := ["_law_bag_here", "_law_thing"]) (fun _ _ _ _ _ _ us hl => match us, hl with | [_, _], _ => rfl)⟩
abbrev n__law_bent_row : List Str := ["_law_bag_here", "_law_thing", "_law_way", "_law_some", "_law_at", "_law_spot"]
theorem sc__law_bent_row : FnScope n__law_bent_row ["_law_bag_here", "_law_thing", "_law_way"] (defScope s__law_bent_row) := ⟨rfl, rfl, rfl, by decide +kernel, rfl, by decide +kernel, by decide +kernel⟩
theorem fc__law_bent_row {r__law_bent r__law_bent_row r__law_bent_dict : FM} {k : Nat} (hk : 3 ≤ k) (T : Df K mg "_law_bent_row" s__law_bent_row) (F__law_bent : Fc P w K mg base k "_law_bent" ["_law_bag_here", "_law_thing"] (spM0 2 r__law_bent)) (F__law_odd : Fc P w K mg base 3 "_law_odd" ["_law_bag_here"] (spM0 1 (m__law_odd w))) (F__law_take : Fc P w K mg base 1 "_law_take" ["_law_bag_here", "_law_many"] (spM0 2 m__law_take))  (m_isinstance : mg "isinstance" = none) (m_len : mg "len" = none) (m_list : mg "list" = none) (m_min : mg "min" = none) (m_tuple : mg "tuple" = none) : Fc P w K mg base (k + 1) "_law_bent_row" ["_law_bag_here", "_law_thing", "_law_way"] (spM0 3 (mk 6 (fs__law_bent_row w r__law_bent r__law_bent_row r__law_bent_dict))) := by
  obtain ⟨f, fd, F, hm⟩ := T
  have nd := sc__law_bent_row.nd
  exact ⟨f, fd, fn_f (k := k) (N := n__law_bent_row) (fs := fs__law_bent_row w r__law_bent r__law_bent_row r__law_bent_dict) F sc__law_bent_row (by decide) (fun cdv A outer s H E hr => (fss_cons (fs_set (i := 3) nd (fe_ct bs_list call_list_of cl_list (by rfl) m_list (by decide +kernel) (fa_cons (fe_var 1) fa_nil)))
      (fss_cons (fs_set (i := 4) nd (fe_fc F__law_take (hr.mono (by omega)) (by rfl) (fa_cons (fe_var 0) (fa_cons (fe_add (fe_cb bs_len call_len cl_len (by rfl) m_len (by decide +kernel) (fa_cons (fe_var 3) fa_nil)) fe_int) fa_nil)) (argN_cons (argN_cons argN_nil))))
      (fss_cons (fs_if (ft_eq hr.units (fe_var 2) fe_int) (fss_one (fs_ret (fe_if (ft_val (fe_isiQ cq_nil (fe_var 1) (by rfl) m_isinstance (by rfl) m_list (by decide +kernel) (by decide +kernel))) (fe_ct bs_tuple call_tupF cl_tuple (by rfl) m_tuple (by decide +kernel) (fa_cons (fe_var 3) fa_nil)) (fe_var 3)))) fss_nil)
      (fss_cons (fs_wipe [5] (fs_if (ft_eq hr.units (fe_var 2) fe_int) (fss_one (fs_set (i := 3) nd (fe_add (fe_sl (fe_var 3) fo_none (fo_some (fe_var 4))) (fe_sl (fe_var 3) (fo_some (fe_add (fe_var 4) fe_int)) fo_none)))) (fss_one (fs_wipe [5] (fs_if (ft_eq hr.units (fe_var 2) fe_int) (fss_one (fs_set (i := 3) nd (fe_add (fe_add (fe_sl (fe_var 3) fo_none (fo_some (fe_var 4))) (fe_lst (fa_cons (fe_fc F__law_odd (hr.mono (by omega)) (by rfl) (fa_cons (fe_var 0) fa_nil) (argN_cons argN_nil)) fa_nil))) (fe_sl (fe_var 3) (fo_some (fe_var 4)) fo_none)))) (fss_one (fs_wipe [5] (fs_if (ft_eq hr.units (fe_var 2) fe_int) (fss_one (fs_set (i := 3) nd (fe_rev (fe_var 3)))) (fss_one (fs_wipe [5] (fs_if (ft_neNil hr.units (fe_var 3) (fe_lst fa_nil)) (fss_cons (fs_set (i := 5) nd (fe_cb bs_min2 (call_min2 rfl) cl_min2 (by rfl) m_min (by decide +kernel) (fa_cons (fe_var 4) (fa_cons (fe_sub (fe_cb bs_len call_len cl_len (by rfl) m_len (by decide +kernel) (fa_cons (fe_var 3) fa_nil)) fe_int) fa_nil))))
      (fss_one (fs_setIx (fe_fc F__law_bent (hr.mono (by omega)) (by rfl) (fa_cons (fe_var 0) (fa_cons (fe_ix (fe_var 3) (fe_var 5)) fa_nil)) (argN_cons (argN_cons argN_nil))) (pg_sub (pv 3) (fe_var 5) set_list)))) fss_nil)))))))))))
      (fss_one (fs_ret (fe_if (ft_val (fe_isiQ cq_nil (fe_var 1) (by rfl) m_isinstance (by rfl) m_list (by decide +kernel) (by decide +kernel))) (fe_var 3) (fe_ct bs_tuple call_tupF cl_tuple (by rfl) m_tuple (by decide +kernel) (fa_cons (fe_var 3) fa_nil)))))))))), hm, F.kp, F.binds (ps := ["_law_bag_here", "_law_thing", "_law_way"]) (fun _ _ _ _ _ _ us hl => match us, hl with | [_, _, _], _ => rfl)⟩
abbrev n__law_bent_dict : List Str := ["_law_bag_here", "_law_thing", "_law_way", "_law_key", "_law_found", "_law_odd_here", "_law_one_here"]
theorem sc__law_bent_dict : FnScope n__law_bent_dict ["_law_bag_here", "_law_thing", "_law_way"] (defScope s__law_bent_dict) := ⟨rfl, rfl, rfl, by decide +kernel, rfl, by decide +kernel, by decide +kernel⟩
theorem fc__law_bent_dict {r__law_bent r__law_bent_row r__law_bent_dict : FM} {k : Nat} (hk : 3 ≤ k) (T : Df K mg "_law_bent_dict" s__law_bent_dict) (F__law_bent : Fc P w K mg base k "_law_bent" ["_law_bag_here", "_law_thing"] (spM0 2 r__law_bent)) (F__law_one : Fc P w K mg base 2 "_law_one" ["_law_bag_here", "_law_things"] (spM0 2 m__law_one))  (m_dict : mg "dict" = none) (m_list : mg "list" = none) : Fc P w K mg base (k + 1) "_law_bent_dict" ["_law_bag_here", "_law_thing", "_law_way"] (spM0 3 (mk 7 (fs__law_bent_dict w r__law_bent r__law_bent_row r__law_bent_dict))) := by
  obtain ⟨f, fd, F, hm⟩ := T
  have nd := sc__law_bent_dict.nd
  exact ⟨f, fd, fn_f (k := k) (N := n__law_bent_dict) (fs := fs__law_bent_dict w r__law_bent r__law_bent_row r__law_bent_dict) F sc__law_bent_dict (by decide) (fun cdv A outer s H E hr => (fss_cons (fs_set (i := 3) nd (fe_fc F__law_one (hr.mono (by omega)) (by rfl) (fa_cons (fe_var 0) (fa_cons (fe_listM rfl rfl (fa_cons (fe_var 1) fa_nil) (by rfl) m_list (by decide +kernel)) fa_nil)) (argN_cons (argN_cons argN_nil))))
      (fss_cons (fs_set (i := 4) nd (fe_dictM rfl rfl (hu12 hr) (fa_cons (fe_lc (fe := (e__law_bent_dict_c1 w r__law_bent r__law_bent_row r__law_bent_dict)) (t := (t__law_bent_dict_c1 w r__law_bent r__law_bent_row r__law_bent_dict)) gN_imp rfl nd (fi_mix rfl (fe_var 1)) (blkOk_by (own := [("_law_one_here", 6)]) (N := n__law_bent_dict) (sc := defScope s__law_bent_dict) (by decide +kernel)) (gok_name (by decide)) rfl (fun _ _ _ _ _ => pg_name (i := 6) nd rfl (by first | exact .inl rfl | exact .inr rfl)) (fun _ _ _ _ _ => fts_one (ft_ne hr.units (fe_var 6) (fe_var 3))) (fun _ _ _ _ _ => (fe_tup (fa_cons (fe_var 6) (fa_cons (fe_mix rfl (hu12 hr) (fe_var 1) (fe_var 6)) fa_nil))))) fa_nil) (by rfl) m_dict (by decide +kernel)))
      (fss_cons (fs_if (ft_eq hr.units (fe_var 2) fe_int) (fss_one (fs_ret (fe_var 4))) fss_nil)
      (fss_cons (fs_if (ft_eq hr.units (fe_var 2) fe_int) (fss_one (fs_ret (fe_itemsM rfl rfl (fe_var 1) (by rfl) m_list))) fss_nil)
      (fss_cons (fs_wipe [5] (fs_if (ft_lt (fe_var 2) fe_int) (fss_cons (fs_set (i := 5) nd (fe_lst (fa_cons fe_non (fa_cons fe_int (fa_cons fe_str (fa_cons fe_str (fa_cons fe_str (fa_cons (fe_tup fa_nil) (fa_cons (fe_tup (fa_cons fe_int fa_nil)) (fa_cons fe_str (fa_cons fe_bl fa_nil)))))))))))
      (fss_cons (fs_putM rfl (fe_mix rfl (hu12 hr) (fe_var 1) (fe_var 3)) (pg_sub (pv 4) (fe_fc F__law_one (hr.mono (by omega)) (by rfl) (fa_cons (fe_var 0) (fa_cons (fe_var 5) fa_nil)) (argN_cons (argN_cons argN_nil))) (set_mixL (hu12 hr))))
      (fss_one (fs_ret (fe_var 4))))) fss_nil))
      (fss_cons (fs_putM rfl (fe_fc F__law_bent (hr.mono (by omega)) (by rfl) (fa_cons (fe_var 0) (fa_cons (fe_mix rfl (hu12 hr) (fe_var 1) (fe_var 3)) fa_nil)) (argN_cons (argN_cons argN_nil))) (pg_sub (pv 4) (fe_var 3) (set_mixL (hu12 hr))))
      (fss_one (fs_ret (fe_var 4)))))))))), hm, F.kp, F.binds (ps := ["_law_bag_here", "_law_thing", "_law_way"]) (fun _ _ _ _ _ _ us hl => match us, hl with | [_, _, _], _ => rfl)⟩
theorem rec__law_bent (T_law_bent : Df K mg "_law_bent" s__law_bent) (T_law_bent_row : Df K mg "_law_bent_row" s__law_bent_row) (T_law_bent_dict : Df K mg "_law_bent_dict" s__law_bent_dict) (F__law_odd : Fc P w K mg base 3 "_law_odd" ["_law_bag_here"] (spM0 1 (m__law_odd w))) (F__law_one : Fc P w K mg base 2 "_law_one" ["_law_bag_here", "_law_things"] (spM0 2 m__law_one)) (F__law_take : Fc P w K mg base 1 "_law_take" ["_law_bag_here", "_law_many"] (spM0 2 m__law_take))  (m_bool : mg "bool" = none) (m_dict : mg "dict" = none) (m_int : mg "int" = none) (m_isinstance : mg "isinstance" = none) (m_len : mg "len" = none) (m_list : mg "list" = none) (m_min : mg "min" = none) (m_str : mg "str" = none) (m_tuple : mg "tuple" = none) : ∀ n : Nat, Fc P w K mg base (3 + n) "_law_bent" ["_law_bag_here", "_law_thing"] (spM0 2 (m__law_bent w n)) ∧ Fc P w K mg base (3 + n) "_law_bent_row" ["_law_bag_here", "_law_thing", "_law_way"] (spM0 3 (m__law_bent_row w n)) ∧ Fc P w K mg base (3 + n) "_law_bent_dict" ["_law_bag_here", "_law_thing", "_law_way"] (spM0 3 (m__law_bent_dict w n))
  | 0 => by
    obtain ⟨f__law_bent, d__law_bent, U__law_bent, g__law_bent⟩ := T_law_bent
    obtain ⟨f__law_bent_row, d__law_bent_row, U__law_bent_row, g__law_bent_row⟩ := T_law_bent_row
    obtain ⟨f__law_bent_dict, d__law_bent_dict, U__law_bent_dict, g__law_bent_dict⟩ := T_law_bent_dict
    exact ⟨⟨f__law_bent, d__law_bent, fn_none _ none_no, g__law_bent, U__law_bent.kp, U__law_bent.binds (ps := ["_law_bag_here", "_law_thing"]) (fun _ _ _ _ _ _ us hl => match us, hl with | [_, _], _ => rfl)⟩, ⟨f__law_bent_row, d__law_bent_row, fn_none _ none_no, g__law_bent_row, U__law_bent_row.kp, U__law_bent_row.binds (ps := ["_law_bag_here", "_law_thing", "_law_way"]) (fun _ _ _ _ _ _ us hl => match us, hl with | [_, _, _], _ => rfl)⟩, ⟨f__law_bent_dict, d__law_bent_dict, fn_none _ none_no, g__law_bent_dict, U__law_bent_dict.kp, U__law_bent_dict.binds (ps := ["_law_bag_here", "_law_thing", "_law_way"]) (fun _ _ _ _ _ _ us hl => match us, hl with | [_, _, _], _ => rfl)⟩⟩
  | n + 1 => by
    have ih := rec__law_bent T_law_bent T_law_bent_row T_law_bent_dict F__law_odd F__law_one F__law_take m_bool m_dict m_int m_isinstance m_len m_list m_min m_str m_tuple n
    obtain ⟨F__law_bent, F__law_bent_row, F__law_bent_dict⟩ := ih
    exact ⟨fc__law_bent (k := 3 + n) (by omega) T_law_bent F__law_bent_dict F__law_bent_row F__law_odd F__law_one F__law_take m_bool m_dict m_int m_isinstance m_len m_list m_str m_tuple, fc__law_bent_row (k := 3 + n) (by omega) T_law_bent_row F__law_bent F__law_odd F__law_take m_isinstance m_len m_list m_min m_tuple, fc__law_bent_dict (k := 3 + n) (by omega) T_law_bent_dict F__law_bent F__law_one m_dict m_list⟩
abbrev n__law_is_whole_number : List Str := ["_law_thing"]
theorem sc__law_is_whole_number : FnScope n__law_is_whole_number ["_law_thing"] (defScope s__law_is_whole_number) := ⟨rfl, rfl, rfl, by decide +kernel, rfl, by decide +kernel, by decide +kernel⟩
theorem fc__law_is_whole_number (T : Df K mg "_law_is_whole_number" s__law_is_whole_number)   (m_bool : mg "bool" = none) (m_int : mg "int" = none) (m_isinstance : mg "isinstance" = none) : Fc P w K mg base 1 "_law_is_whole_number" ["_law_thing"] (spM0 1 m__law_is_whole_number) := by
  obtain ⟨f, fd, F, hm⟩ := T
  have nd := sc__law_is_whole_number.nd
  exact ⟨f, fd, fn_f (k := 0) (N := n__law_is_whole_number) (fs := fs__law_is_whole_number) F sc__law_is_whole_number (by decide) (fun cdv A outer s H E hr => (fss_one (fs_ret (fe_and (fe_isiQ cq_nil (fe_var 0) (by rfl) m_isinstance (by rfl) m_int (by decide +kernel) (by decide +kernel)) (fe_one (fe_not (fe_isiQ cq_nil (fe_var 0) (by rfl) m_isinstance (by rfl) m_bool (by decide +kernel) (by decide +kernel)))))))), hm, F.kp, F.binds (ps := ["_law_thing"]) (fun _ _ _ _ _ _ us hl => match us, hl with | [_], _ => rfl)⟩
abbrev n__law_is_near_number : List Str := ["_law_thing"]
theorem sc__law_is_near_number : FnScope n__law_is_near_number ["_law_thing"] (defScope s__law_is_near_number) := ⟨rfl, rfl, rfl, by decide +kernel, rfl, by decide +kernel, by decide +kernel⟩
theorem fc__law_is_near_number (T : Df K mg "_law_is_near_number" s__law_is_near_number) (F__law_is_whole_number : Fc P w K mg base 1 "_law_is_whole_number" ["_law_thing"] (spM0 1 m__law_is_whole_number))   : Fc P w K mg base 2 "_law_is_near_number" ["_law_thing"] (spM0 1 m__law_is_near_number) := by
  obtain ⟨f, fd, F, hm⟩ := T
  have nd := sc__law_is_near_number.nd
  exact ⟨f, fd, fn_f (k := 1) (N := n__law_is_near_number) (fs := fs__law_is_near_number) F sc__law_is_near_number (by decide) (fun cdv A outer s H E hr => (fss_one (fs_ret (fe_and (fe_fc F__law_is_whole_number (hr.mono (by omega)) (by rfl) (fa_cons (fe_var 0) fa_nil) (argN_cons argN_nil)) (fe_one (fe_leLe (fe_neg (fe_pow fe_int fe_int)) (fe_var 0) (fe_pow fe_int fe_int))))))), hm, F.kp, F.binds (ps := ["_law_thing"]) (fun _ _ _ _ _ _ us hl => match us, hl with | [_], _ => rfl)⟩
abbrev n__law_is_word : List Str := ["_law_thing", "_law_sign"]
theorem sc__law_is_word : FnScope n__law_is_word ["_law_thing"] (defScope s__law_is_word) := ⟨rfl, rfl, rfl, by decide +kernel, rfl, by decide +kernel, by decide +kernel⟩
theorem fc__law_is_word {c_Wrong : Addr} (T : Df K mg "_law_is_word" s__law_is_word)   (XN_Wrong_str : NtX K c_Wrong "str") (m_isinstance : mg "isinstance" = none) (m_len : mg "len" = none) (m_str : mg "str" = none) : Fc P w K mg base 1 "_law_is_word" ["_law_thing"] (spM0 1 (m__law_is_word c_Wrong)) := by
  obtain ⟨f, fd, F, hm⟩ := T
  have nd := sc__law_is_word.nd
  exact ⟨f, fd, fn_f (k := 0) (N := n__law_is_word) (fs := fs__law_is_word c_Wrong) F sc__law_is_word (by decide) (fun cdv A outer s H E hr => (fss_cons (fs_if (PW.pt (ft_or (ft_not (ft_val (fe_isiQ (cq_e XN_Wrong_str cq_nil) (fe_var 0) (by rfl) m_isinstance (by rfl) m_str (by decide +kernel) (by decide +kernel)))) (ft_or1 (ft_not (ft_ltLt fe_int (fe_cb bs_len call_len cl_len (by rfl) m_len (by decide +kernel) (fa_cons (fe_var 0) fa_nil)) fe_int))))) (fss_one (fs_ret fe_bl)) fss_nil)
      (fss_one (fs_ret (fe_eqNil hr.units (fe_lc (fe := (e__law_is_word_c1 c_Wrong)) (t := (t__law_is_word_c1 c_Wrong)) gN_imp rfl nd (fi_str (fe_var 0)) (blkOk_by (own := [("_law_sign", 1)]) (N := n__law_is_word) (sc := defScope s__law_is_word) (by decide +kernel)) (gok_name (by decide)) rfl (fun _ _ _ _ _ => pg_name (i := 1) nd rfl (by first | exact .inl rfl | exact .inr rfl)) (fun _ _ _ _ _ => fts_one (ft_ninS (fe_var 1) fe_str)) (fun _ _ _ _ _ => (fe_var 1))) (fe_lst fa_nil)))))), hm, F.kp, F.binds (ps := ["_law_thing"]) (fun _ _ _ _ _ _ us hl => match us, hl with | [_], _ => rfl)⟩
abbrev n__law_are_pairs : List Str := ["_law_thing", "_law_one_here", "_law_k"]
theorem sc__law_are_pairs : FnScope n__law_are_pairs ["_law_thing"] (defScope s__law_are_pairs) := ⟨rfl, rfl, rfl, by decide +kernel, rfl, by decide +kernel, by decide +kernel⟩
theorem fc__law_are_pairs (T : Df K mg "_law_are_pairs" s__law_are_pairs) (F__law_is_near_number : Fc P w K mg base 2 "_law_is_near_number" ["_law_thing"] (spM0 1 m__law_is_near_number))  (m_isinstance : mg "isinstance" = none) (m_len : mg "len" = none) (m_range : mg "range" = none) (m_tuple : mg "tuple" = none) : Fc P w K mg base 3 "_law_are_pairs" ["_law_thing"] (spM0 1 m__law_are_pairs) := by
  obtain ⟨f, fd, F, hm⟩ := T
  have nd := sc__law_are_pairs.nd
  exact ⟨f, fd, fn_f (k := 2) (N := n__law_are_pairs) (fs := fs__law_are_pairs) F sc__law_are_pairs (by decide) (fun cdv A outer s H E hr => (fss_cons (fs_if (ft_not (ft_val (fe_isiQ cq_nil (fe_var 0) (by rfl) m_isinstance (by rfl) m_tuple (by decide +kernel) (by decide +kernel)))) (fss_one (fs_ret fe_bl)) fss_nil)
      (fss_cons (fs_wipe [1] (fs_for (b := b__law_are_pairs_1) PassesOwn.never rfl (fi_wipe [1] (fi_seq (fe_var 0))) (fg_name (i := 1) nd) (fss_wipe [1] (fss_cons (fs_if (PW.pt (ft_or (ft_not (ft_val (fe_isiQ cq_nil (fe_var 1) (by rfl) m_isinstance (by rfl) m_tuple (by decide +kernel) (by decide +kernel)))) (ft_or1 (ft_ne hr.units (fe_cb bs_len call_len cl_len (by rfl) m_len (by decide +kernel) (fa_cons (fe_var 1) fa_nil)) fe_int)))) (fss_one (fs_ret fe_bl)) fss_nil)
      (fss_one (fs_if (PW.pt (ft_or (ft_not (ft_val (fe_fc F__law_is_near_number (hr.mono (by omega)) (by rfl) (fa_cons (fe_ix (fe_var 1) fe_int) fa_nil) (argN_cons argN_nil)))) (ft_or1 (ft_not (ft_val (fe_fc F__law_is_near_number (hr.mono (by omega)) (by rfl) (fa_cons (fe_ix (fe_var 1) fe_int) fa_nil) (argN_cons argN_nil))))))) (fss_one (fs_ret fe_bl)) fss_nil))))))
      (fss_one (fs_ret (fe_eq hr.units (fe_lc (fe := e__law_are_pairs_c2) (t := t__law_are_pairs_c2) gN_imp rfl nd (fi_rng1 (by rfl) m_range (fa_cons (fe_sub (fe_cb bs_len call_len cl_len (by rfl) m_len (by decide +kernel) (fa_cons (fe_var 0) fa_nil)) fe_int) fa_nil)) (blkOk_by (own := [("_law_k", 2)]) (N := n__law_are_pairs) (sc := defScope s__law_are_pairs) (by decide +kernel)) (gok_name (by decide)) rfl (fun _ _ _ _ _ => pg_name (i := 2) nd rfl (by first | exact .inl rfl | exact .inr rfl)) (fun _ _ _ _ _ => fts_one (ft_ge (fe_ix (fe_ix (fe_var 0) (fe_var 2)) fe_int) (fe_ix (fe_ix (fe_var 0) (fe_add (fe_var 2) fe_int)) fe_int))) (fun _ _ _ _ _ => (fe_var 2))) (fe_lst fa_nil))))))), hm, F.kp, F.binds (ps := ["_law_thing"]) (fun _ _ _ _ _ _ us hl => match us, hl with | [_], _ => rfl)⟩
abbrev n__law_is_step : List Str := ["_law_thing"]
theorem sc__law_is_step : FnScope n__law_is_step ["_law_thing"] (defScope s__law_is_step) := ⟨rfl, rfl, rfl, by decide +kernel, rfl, by decide +kernel, by decide +kernel⟩
theorem fc__law_is_step {c_Wrong : Addr} (T : Df K mg "_law_is_step" s__law_is_step) (F__law_are_pairs : Fc P w K mg base 3 "_law_are_pairs" ["_law_thing"] (spM0 1 m__law_are_pairs)) (F__law_is_near_number : Fc P w K mg base 2 "_law_is_near_number" ["_law_thing"] (spM0 1 m__law_is_near_number))  (XN_Wrong_str : NtX K c_Wrong "str") (XN_Wrong_tuple : NtX K c_Wrong "tuple") (m_isinstance : mg "isinstance" = none) (m_len : mg "len" = none) (m_str : mg "str" = none) (m_tuple : mg "tuple" = none) : Fc P w K mg base 4 "_law_is_step" ["_law_thing"] (spM0 1 (m__law_is_step c_Wrong)) := by
  obtain ⟨f, fd, F, hm⟩ := T
  have nd := sc__law_is_step.nd
  exact ⟨f, fd, fn_f (k := 3) (N := n__law_is_step) (fs := fs__law_is_step c_Wrong) F sc__law_is_step (by decide) (fun cdv A outer s H E hr => (fss_cons (fs_if (PW.pt (ft_or (ft_not (ft_val (fe_isiQ (cq_e XN_Wrong_tuple cq_nil) (fe_var 0) (by rfl) m_isinstance (by rfl) m_tuple (by decide +kernel) (by decide +kernel)))) (ft_or (ft_ne hr.units (fe_cb bs_len call_len cl_len (by rfl) m_len (by decide +kernel) (fa_cons (fe_var 0) fa_nil)) fe_int) (ft_or1 (ft_not (ft_val (fe_isiQ (cq_e XN_Wrong_str cq_nil) (fe_ix (fe_var 0) fe_int) (by rfl) m_isinstance (by rfl) m_str (by decide +kernel) (by decide +kernel)))))))) (fss_one (fs_ret fe_bl)) fss_nil)
      (fss_cons (fs_if (ft_eq hr.units (fe_ix (fe_var 0) fe_int) fe_str) (fss_one (fs_ret (fe_fc F__law_are_pairs (hr.mono (by omega)) (by rfl) (fa_cons (fe_ix (fe_var 0) fe_int) fa_nil) (argN_cons argN_nil)))) fss_nil)
      (fss_cons (fs_if (PW.pt (ft_or (ft_notin (units65 hr) (fe_ix (fe_var 0) fe_int) (fe_tup (fa_cons fe_str (fa_cons fe_str (fa_cons fe_str (fa_cons fe_str fa_nil)))))) (ft_or1 (ft_not (ft_val (fe_fc F__law_is_near_number (hr.mono (by omega)) (by rfl) (fa_cons (fe_ix (fe_var 0) fe_int) fa_nil) (argN_cons argN_nil))))))) (fss_one (fs_ret fe_bl)) fss_nil)
      (fss_one (fs_ret (fe_if (ft_eq hr.units (fe_ix (fe_var 0) fe_int) fe_str) (fe_ne hr.units (fe_ix (fe_var 0) fe_int) fe_int) (fe_or (fe_ne hr.units (fe_ix (fe_var 0) fe_int) fe_str) (fe_one (fe_gt (fe_ix (fe_var 0) fe_int) fe_int)))))))))), hm, F.kp, F.binds (ps := ["_law_thing"]) (fun _ _ _ _ _ _ us hl => match us, hl with | [_], _ => rfl)⟩
abbrev n__law_are_steps : List Str := ["_law_thing", "_law_one_here"]
theorem sc__law_are_steps : FnScope n__law_are_steps ["_law_thing"] (defScope s__law_are_steps) := ⟨rfl, rfl, rfl, by decide +kernel, rfl, by decide +kernel, by decide +kernel⟩
theorem fc__law_are_steps {c_Wrong : Addr} (T : Df K mg "_law_are_steps" s__law_are_steps) (F__law_is_step : Fc P w K mg base 4 "_law_is_step" ["_law_thing"] (spM0 1 (m__law_is_step c_Wrong)))  (XN_Wrong_tuple : NtX K c_Wrong "tuple") (m_isinstance : mg "isinstance" = none) (m_tuple : mg "tuple" = none) : Fc P w K mg base 5 "_law_are_steps" ["_law_thing"] (spM0 1 (m__law_are_steps c_Wrong)) := by
  obtain ⟨f, fd, F, hm⟩ := T
  have nd := sc__law_are_steps.nd
  exact ⟨f, fd, fn_f (k := 4) (N := n__law_are_steps) (fs := fs__law_are_steps c_Wrong) F sc__law_are_steps (by decide) (fun cdv A outer s H E hr => (fss_one (fs_ret (fe_and (fe_isiQ (cq_e XN_Wrong_tuple cq_nil) (fe_var 0) (by rfl) m_isinstance (by rfl) m_tuple (by decide +kernel) (by decide +kernel)) (fe_one (fe_eqNil hr.units (fe_lc (fe := (e__law_are_steps_c1 c_Wrong)) (t := (t__law_are_steps_c1 c_Wrong)) gN_imp rfl nd (fi_seq (fe_var 0)) (blkOk_by (own := [("_law_one_here", 1)]) (N := n__law_are_steps) (sc := defScope s__law_are_steps) (by decide +kernel)) (gok_name (by decide)) rfl (fun _ _ _ _ _ => pg_name (i := 1) nd rfl (by first | exact .inl rfl | exact .inr rfl)) (fun _ _ _ _ _ => fts_one (ft_not (ft_val (fe_fc F__law_is_step (hr.mono (by omega)) (by rfl) (fa_cons (fe_var 1) fa_nil) (argN_cons argN_nil))))) (fun _ _ _ _ _ => (fe_var 1))) (fe_lst fa_nil))))))), hm, F.kp, F.binds (ps := ["_law_thing"]) (fun _ _ _ _ _ _ us hl => match us, hl with | [_], _ => rfl)⟩
abbrev n__law_is_test : List Str := ["_law_thing"]
theorem sc__law_is_test : FnScope n__law_is_test ["_law_thing"] (defScope s__law_is_test) := ⟨rfl, rfl, rfl, by decide +kernel, rfl, by decide +kernel, by decide +kernel⟩
theorem fc__law_is_test {c_Wrong : Addr} (T : Df K mg "_law_is_test" s__law_is_test) (F__law_are_steps : Fc P w K mg base 5 "_law_are_steps" ["_law_thing"] (spM0 1 (m__law_are_steps c_Wrong))) (F__law_is_near_number : Fc P w K mg base 2 "_law_is_near_number" ["_law_thing"] (spM0 1 m__law_is_near_number)) (F__law_is_word : Fc P w K mg base 1 "_law_is_word" ["_law_thing"] (spM0 1 (m__law_is_word c_Wrong)))  (XN_Wrong_str : NtX K c_Wrong "str") (XN_Wrong_tuple : NtX K c_Wrong "tuple") (m_isinstance : mg "isinstance" = none) (m_len : mg "len" = none) (m_str : mg "str" = none) (m_tuple : mg "tuple" = none) : Fc P w K mg base 6 "_law_is_test" ["_law_thing"] (spM0 1 (m__law_is_test c_Wrong)) := by
  obtain ⟨f, fd, F, hm⟩ := T
  have nd := sc__law_is_test.nd
  exact ⟨f, fd, fn_f (k := 5) (N := n__law_is_test) (fs := fs__law_is_test c_Wrong) F sc__law_is_test (by decide) (fun cdv A outer s H E hr => (fss_cons (fs_if (PW.pt (ft_or (ft_not (ft_val (fe_isiQ (cq_e XN_Wrong_tuple cq_nil) (fe_var 0) (by rfl) m_isinstance (by rfl) m_tuple (by decide +kernel) (by decide +kernel)))) (ft_or (ft_notin (units65 hr) (fe_cb bs_len call_len cl_len (by rfl) m_len (by decide +kernel) (fa_cons (fe_var 0) fa_nil)) (fe_tup (fa_cons fe_int (fa_cons fe_int fa_nil)))) (ft_or1 (ft_not (ft_val (fe_isiQ (cq_e XN_Wrong_str cq_nil) (fe_ix (fe_var 0) fe_int) (by rfl) m_isinstance (by rfl) m_str (by decide +kernel) (by decide +kernel)))))))) (fss_one (fs_ret fe_bl)) fss_nil)
      (fss_cons (fs_if (ft_not (ft_val (fe_fc F__law_is_word (hr.mono (by omega)) (by rfl) (fa_cons (fe_ix (fe_var 0) fe_int) fa_nil) (argN_cons argN_nil)))) (fss_one (fs_ret fe_bl)) fss_nil)
      (fss_cons (fs_if (ft_eq hr.units (fe_cb bs_len call_len cl_len (by rfl) m_len (by decide +kernel) (fa_cons (fe_var 0) fa_nil)) fe_int) (fss_one (fs_ret (fe_in (units65 hr) (fe_ix (fe_var 0) fe_int) (fe_tup (fa_cons fe_str (fa_cons fe_str fa_nil)))))) fss_nil)
      (fss_cons (fs_if (PW.pt (ft_or (ft_ne hr.units (fe_ix (fe_var 0) fe_int) fe_str) (ft_or (ft_not (ft_val (fe_fc F__law_are_steps (hr.mono (by omega)) (by rfl) (fa_cons (fe_ix (fe_var 0) fe_int) fa_nil) (argN_cons argN_nil)))) (ft_or1 (ft_not (ft_val (fe_isiQ (cq_e XN_Wrong_str cq_nil) (fe_ix (fe_var 0) fe_int) (by rfl) m_isinstance (by rfl) m_str (by decide +kernel) (by decide +kernel)))))))) (fss_one (fs_ret fe_bl)) fss_nil)
      (fss_one (fs_ret (fe_and (fe_in (units65 hr) (fe_ix (fe_var 0) fe_int) (fe_tup (fa_cons fe_str (fa_cons fe_str (fa_cons fe_str (fa_cons fe_str (fa_cons fe_str (fa_cons fe_str fa_nil)))))))) (fe_one (fe_fc F__law_is_near_number (hr.mono (by omega)) (by rfl) (fa_cons (fe_ix (fe_var 0) fe_int) fa_nil) (argN_cons argN_nil))))))))))), hm, F.kp, F.binds (ps := ["_law_thing"]) (fun _ _ _ _ _ _ us hl => match us, hl with | [_], _ => rfl)⟩
abbrev n__law_are_conditions : List Str := ["_law_thing", "_law_one_here"]
theorem sc__law_are_conditions : FnScope n__law_are_conditions ["_law_thing"] (defScope s__law_are_conditions) := ⟨rfl, rfl, rfl, by decide +kernel, rfl, by decide +kernel, by decide +kernel⟩
theorem fc__law_are_conditions {c_Wrong : Addr} {r__law_are_conditions r__law_is_condition : FM} {k : Nat} (hk : 6 ≤ k) (T : Df K mg "_law_are_conditions" s__law_are_conditions) (F__law_is_condition : Fc P w K mg base k "_law_is_condition" ["_law_thing"] (spM0 1 r__law_is_condition))  (XN_Wrong_tuple : NtX K c_Wrong "tuple") (m_isinstance : mg "isinstance" = none) (m_tuple : mg "tuple" = none) : Fc P w K mg base (k + 1) "_law_are_conditions" ["_law_thing"] (spM0 1 (mk 2 (fs__law_are_conditions c_Wrong r__law_are_conditions r__law_is_condition))) := by
  obtain ⟨f, fd, F, hm⟩ := T
  have nd := sc__law_are_conditions.nd
  exact ⟨f, fd, fn_f (k := k) (N := n__law_are_conditions) (fs := fs__law_are_conditions c_Wrong r__law_are_conditions r__law_is_condition) F sc__law_are_conditions (by decide) (fun cdv A outer s H E hr => (fss_one (fs_ret (fe_and (fe_isiQ (cq_e XN_Wrong_tuple cq_nil) (fe_var 0) (by rfl) m_isinstance (by rfl) m_tuple (by decide +kernel) (by decide +kernel)) (fe_one (fe_eqNil hr.units (fe_lc (fe := (e__law_are_conditions_c1 c_Wrong r__law_are_conditions r__law_is_condition)) (t := (t__law_are_conditions_c1 c_Wrong r__law_are_conditions r__law_is_condition)) gN_imp rfl nd (fi_seq (fe_var 0)) (blkOk_by (own := [("_law_one_here", 1)]) (N := n__law_are_conditions) (sc := defScope s__law_are_conditions) (by decide +kernel)) (gok_name (by decide)) rfl (fun _ _ _ _ _ => pg_name (i := 1) nd rfl (by first | exact .inl rfl | exact .inr rfl)) (fun _ _ _ _ _ => fts_one (ft_not (ft_val (fe_fc F__law_is_condition (hr.mono (by omega)) (by rfl) (fa_cons (fe_var 1) fa_nil) (argN_cons argN_nil))))) (fun _ _ _ _ _ => (fe_var 1))) (fe_lst fa_nil))))))), hm, F.kp, F.binds (ps := ["_law_thing"]) (fun _ _ _ _ _ _ us hl => match us, hl with | [_], _ => rfl)⟩
abbrev n__law_is_condition : List Str := ["_law_thing", "_law_one_here"]
theorem sc__law_is_condition : FnScope n__law_is_condition ["_law_thing"] (defScope s__law_is_condition) := ⟨rfl, rfl, rfl, by decide +kernel, rfl, by decide +kernel, by decide +kernel⟩
theorem fc__law_is_condition {c_Wrong : Addr} {r__law_are_conditions r__law_is_condition : FM} {k : Nat} (hk : 6 ≤ k) (T : Df K mg "_law_is_condition" s__law_is_condition) (F__law_are_conditions : Fc P w K mg base k "_law_are_conditions" ["_law_thing"] (spM0 1 r__law_are_conditions)) (F__law_is_condition : Fc P w K mg base k "_law_is_condition" ["_law_thing"] (spM0 1 r__law_is_condition)) (F__law_is_test : Fc P w K mg base 6 "_law_is_test" ["_law_thing"] (spM0 1 (m__law_is_test c_Wrong)))  (XN_Wrong_str : NtX K c_Wrong "str") (XN_Wrong_tuple : NtX K c_Wrong "tuple") (m_isinstance : mg "isinstance" = none) (m_len : mg "len" = none) (m_str : mg "str" = none) (m_tuple : mg "tuple" = none) : Fc P w K mg base (k + 1) "_law_is_condition" ["_law_thing"] (spM0 1 (mk 2 (fs__law_is_condition c_Wrong r__law_are_conditions r__law_is_condition))) := by
  obtain ⟨f, fd, F, hm⟩ := T
  have nd := sc__law_is_condition.nd
  exact ⟨f, fd, fn_f (k := k) (N := n__law_is_condition) (fs := fs__law_is_condition c_Wrong r__law_are_conditions r__law_is_condition) F sc__law_is_condition (by decide) (fun cdv A outer s H E hr => (fss_cons (fs_if (PW.pt (ft_or (ft_not (ft_val (fe_isiQ (cq_e XN_Wrong_tuple cq_nil) (fe_var 0) (by rfl) m_isinstance (by rfl) m_tuple (by decide +kernel) (by decide +kernel)))) (ft_or (ft_notin (units65 hr) (fe_cb bs_len call_len cl_len (by rfl) m_len (by decide +kernel) (fa_cons (fe_var 0) fa_nil)) (fe_tup (fa_cons fe_int (fa_cons fe_int (fa_cons fe_int fa_nil))))) (ft_or1 (ft_not (ft_val (fe_isiQ (cq_e XN_Wrong_str cq_nil) (fe_ix (fe_var 0) fe_int) (by rfl) m_isinstance (by rfl) m_str (by decide +kernel) (by decide +kernel)))))))) (fss_one (fs_ret fe_bl)) fss_nil)
      (fss_cons (fs_if (PW.pt (ft_and (ft_eq hr.units (fe_ix (fe_var 0) fe_int) fe_str) (ft_and1 (ft_eq hr.units (fe_cb bs_len call_len cl_len (by rfl) m_len (by decide +kernel) (fa_cons (fe_var 0) fa_nil)) fe_int)))) (fss_cons (fs_if (PW.pt (ft_or (ft_not (ft_val (fe_isiQ (cq_e XN_Wrong_tuple cq_nil) (fe_ix (fe_var 0) fe_int) (by rfl) m_isinstance (by rfl) m_tuple (by decide +kernel) (by decide +kernel)))) (ft_or1 (ft_not (ft_val (fe_fc F__law_is_condition (hr.mono (by omega)) (by rfl) (fa_cons (fe_ix (fe_var 0) fe_int) fa_nil) (argN_cons argN_nil))))))) (fss_one (fs_ret fe_bl)) fss_nil)
      (fss_one (fs_ret (fe_eqNil hr.units (fe_lc (fe := (e__law_is_condition_c1 c_Wrong r__law_are_conditions r__law_is_condition)) (t := (t__law_is_condition_c1 c_Wrong r__law_are_conditions r__law_is_condition)) gN_imp rfl nd (fi_seq (fe_ix (fe_var 0) fe_int)) (blkOk_by (own := [("_law_one_here", 1)]) (N := n__law_is_condition) (sc := defScope s__law_is_condition) (by decide +kernel)) (gok_name (by decide)) rfl (fun _ _ _ _ _ => pg_name (i := 1) nd rfl (by first | exact .inl rfl | exact .inr rfl)) (fun _ _ _ _ _ => fts_one (PW.pt (ft_or (ft_not (ft_val (fe_fc F__law_are_conditions (hr.mono (by omega)) (by rfl) (fa_cons (fe_var 1) fa_nil) (argN_cons argN_nil)))) (ft_or1 (ft_ne hr.units (fe_cb bs_len call_len cl_len (by rfl) m_len (by decide +kernel) (fa_cons (fe_var 1) fa_nil)) fe_int))))) (fun _ _ _ _ _ => (fe_var 1))) (fe_lst fa_nil))))) fss_nil)
      (fss_cons (fs_if (PW.pt (ft_and (ft_eq hr.units (fe_cb bs_len call_len cl_len (by rfl) m_len (by decide +kernel) (fa_cons (fe_var 0) fa_nil)) fe_int) (ft_and1 (ft_in (units65 hr) (fe_ix (fe_var 0) fe_int) (fe_tup (fa_cons fe_str (fa_cons fe_str (fa_cons fe_str fa_nil)))))))) (fss_one (fs_ret (fe_fc F__law_are_conditions (hr.mono (by omega)) (by rfl) (fa_cons (fe_ix (fe_var 0) fe_int) fa_nil) (argN_cons argN_nil)))) fss_nil)
      (fss_cons (fs_if (PW.pt (ft_and (ft_eq hr.units (fe_cb bs_len call_len cl_len (by rfl) m_len (by decide +kernel) (fa_cons (fe_var 0) fa_nil)) fe_int) (ft_and1 (ft_eq hr.units (fe_ix (fe_var 0) fe_int) fe_str)))) (fss_one (fs_ret (fe_fc F__law_is_condition (hr.mono (by omega)) (by rfl) (fa_cons (fe_ix (fe_var 0) fe_int) fa_nil) (argN_cons argN_nil)))) fss_nil)
      (fss_cons (fs_if (PW.pt (ft_and (ft_eq hr.units (fe_cb bs_len call_len cl_len (by rfl) m_len (by decide +kernel) (fa_cons (fe_var 0) fa_nil)) fe_int) (ft_and1 (ft_eq hr.units (fe_ix (fe_var 0) fe_int) fe_str)))) (fss_one (fs_ret (fe_and (fe_isiQ (cq_e XN_Wrong_str cq_nil) (fe_ix (fe_var 0) fe_int) (by rfl) m_isinstance (by rfl) m_str (by decide +kernel) (by decide +kernel)) (fe_one (fe_in (units65 hr) (fe_ix (fe_var 0) fe_int) (fe_tup (fa_cons fe_str (fa_cons fe_str (fa_cons fe_str (fa_cons fe_str fa_nil)))))))))) fss_nil)
      (fss_one (fs_ret (fe_fc F__law_is_test (hr.mono (by omega)) (by rfl) (fa_cons (fe_var 0) fa_nil) (argN_cons argN_nil)))))))))), hm, F.kp, F.binds (ps := ["_law_thing"]) (fun _ _ _ _ _ _ us hl => match us, hl with | [_], _ => rfl)⟩
theorem rec__law_are_conditions {c_Wrong : Addr} (T_law_are_conditions : Df K mg "_law_are_conditions" s__law_are_conditions) (T_law_is_condition : Df K mg "_law_is_condition" s__law_is_condition) (F__law_is_test : Fc P w K mg base 6 "_law_is_test" ["_law_thing"] (spM0 1 (m__law_is_test c_Wrong)))  (XN_Wrong_str : NtX K c_Wrong "str") (XN_Wrong_tuple : NtX K c_Wrong "tuple") (m_isinstance : mg "isinstance" = none) (m_len : mg "len" = none) (m_str : mg "str" = none) (m_tuple : mg "tuple" = none) : ∀ n : Nat, Fc P w K mg base (6 + n) "_law_are_conditions" ["_law_thing"] (spM0 1 (m__law_are_conditions c_Wrong n)) ∧ Fc P w K mg base (6 + n) "_law_is_condition" ["_law_thing"] (spM0 1 (m__law_is_condition c_Wrong n))
  | 0 => by
    obtain ⟨f__law_are_conditions, d__law_are_conditions, U__law_are_conditions, g__law_are_conditions⟩ := T_law_are_conditions
    obtain ⟨f__law_is_condition, d__law_is_condition, U__law_is_condition, g__law_is_condition⟩ := T_law_is_condition
    exact ⟨⟨f__law_are_conditions, d__law_are_conditions, fn_none _ none_no, g__law_are_conditions, U__law_are_conditions.kp, U__law_are_conditions.binds (ps := ["_law_thing"]) (fun _ _ _ _ _ _ us hl => match us, hl with | [_], _ => rfl)⟩, ⟨f__law_is_condition, d__law_is_condition, fn_none _ none_no, g__law_is_condition, U__law_is_condition.kp, U__law_is_condition.binds (ps := ["_law_thing"]) (fun _ _ _ _ _ _ us hl => match us, hl with | [_], _ => rfl)⟩⟩
  | n + 1 => by
    have ih := rec__law_are_conditions T_law_are_conditions T_law_is_condition F__law_is_test XN_Wrong_str XN_Wrong_tuple m_isinstance m_len m_str m_tuple n
    obtain ⟨F__law_are_conditions, F__law_is_condition⟩ := ih
    exact ⟨fc__law_are_conditions (k := 6 + n) (by omega) T_law_are_conditions F__law_is_condition XN_Wrong_tuple m_isinstance m_tuple, fc__law_is_condition (k := 6 + n) (by omega) T_law_is_condition F__law_are_conditions F__law_is_condition F__law_is_test XN_Wrong_str XN_Wrong_tuple m_isinstance m_len m_str m_tuple⟩
abbrev n__law_wide : List Str := ["_law_bag_here", "_law_names", "_law_many", "_law_way", "_law_some", "_law_pairs", "_law_k", "_law_at"]
theorem sc__law_wide : FnScope n__law_wide ["_law_bag_here", "_law_names", "_law_many"] (defScope s__law_wide) := ⟨rfl, rfl, rfl, by decide +kernel, rfl, by decide +kernel, by decide +kernel⟩
theorem fc__law_wide (T : Df K mg "_law_wide" s__law_wide) (F__law_leaf : Fc P w K mg base 5 "_law_leaf" ["_law_bag_here", "_law_names"] (spM0 2 m__law_leaf)) (F__law_take : Fc P w K mg base 1 "_law_take" ["_law_bag_here", "_law_many"] (spM0 2 m__law_take))  (m_len : mg "len" = none) (m_min : mg "min" = none) (m_range : mg "range" = none) (m_tuple : mg "tuple" = none) : Fc P w K mg base 6 "_law_wide" ["_law_bag_here", "_law_names", "_law_many"] (spM0 3 m__law_wide) := by
  obtain ⟨f, fd, F, hm⟩ := T
  have nd := sc__law_wide.nd
  exact ⟨f, fd, fn_f (k := 5) (N := n__law_wide) (fs := fs__law_wide) F sc__law_wide (by decide) (fun cdv A outer s H E hr => (fss_cons (fs_set (i := 3) nd (fe_fc F__law_take (hr.mono (by omega)) (by rfl) (fa_cons (fe_var 0) (fa_cons fe_int fa_nil)) (argN_cons (argN_cons argN_nil))))
      (fss_cons (fs_set (i := 4) nd (fe_lc (fe := e__law_wide_c1) (t := fYes) gN_imp rfl nd (fi_rng1 (by rfl) m_range (fa_cons (fe_cb bs_min2 (call_min2 rfl) cl_min2 (by rfl) m_min (by decide +kernel) (fa_cons (fe_var 2) (fa_cons (fe_ix (fe_lst (fa_cons fe_int (fa_cons fe_int (fa_cons fe_int (fa_cons fe_int fa_nil))))) (fe_var 3)) fa_nil))) fa_nil)) (blkOk_by (own := [("_law_k", 6)]) (N := n__law_wide) (sc := defScope s__law_wide) (by decide +kernel)) (gok_name (by decide)) rfl (fun _ _ _ _ _ => pg_name (i := 6) nd rfl (by first | exact .inl rfl | exact .inr rfl)) (fun _ _ _ _ _ => fts_nil) (fun _ _ _ _ _ => (fe_fc F__law_leaf (hr.mono (by omega)) (by rfl) (fa_cons (fe_var 0) (fa_cons (fe_var 1) fa_nil)) (argN_cons (argN_cons argN_nil))))))
      (fss_cons (fs_wipe [5] (fs_if (ft_eq hr.units (fe_var 3) fe_int) (fss_cons (fs_setLc (i := 5) (fe := e__law_wide_c2) (t := fYes) gN_imp rfl nd (sw_true rfl rfl rfl (by decide +kernel)) (fi_rng1 (by rfl) m_range (fa_cons (fe_fdiv (fe_sub (fe_cb bs_len call_len cl_len (by rfl) m_len (by decide +kernel) (fa_cons (fe_var 4) fa_nil)) fe_int) fe_int) fa_nil)) (blkOk_by (own := [("_law_at", 7)]) (N := n__law_wide) (sc := defScope s__law_wide) (by decide +kernel)) (gok_name (by decide)) rfl (fun _ _ _ _ _ => pg_name (i := 7) nd rfl (by first | exact .inl rfl | exact .inr rfl)) (fun _ _ _ _ _ => fts_nil) (fun _ _ _ _ _ => (fe_tup (fa_cons (fe_ix (fe_var 4) (fe_mul fe_int (fe_var 7))) (fa_cons (fe_ix (fe_var 4) (fe_add (fe_mul fe_int (fe_var 7)) fe_int)) fa_nil)))))
      (fss_one (fs_ret (fe_tup (fa_cons fe_str (fa_cons (fe_ct bs_tuple call_tupF cl_tuple (by rfl) m_tuple (by decide +kernel) (fa_cons (fe_var 5) fa_nil)) (fa_cons (fe_ix (fe_var 4) (fe_neg fe_int)) fa_nil))))))) fss_nil))
      (fss_one (fs_ret (fe_tup (fa_cons (fe_ix (fe_lst (fa_cons fe_str (fa_cons fe_str (fa_cons fe_str (fa_cons fe_str fa_nil))))) (fe_var 3)) (fa_cons (fe_ct bs_tuple call_tupF cl_tuple (by rfl) m_tuple (by decide +kernel) (fa_cons (fe_var 4) fa_nil)) fa_nil))))))))), hm, F.kp, F.binds (ps := ["_law_bag_here", "_law_names", "_law_many"]) (fun _ _ _ _ _ _ us hl => match us, hl with | [_, _, _], _ => rfl)⟩
abbrev n__law_grown : List Str := ["_law_bag_here", "_law_names", "_law_many", "_law_deep"]
theorem sc__law_grown : FnScope n__law_grown ["_law_bag_here", "_law_names", "_law_many", "_law_deep"] (defScope s__law_grown) := ⟨rfl, rfl, rfl, by decide +kernel, rfl, by decide +kernel, by decide +kernel⟩
theorem fc__law_grown (T : Df K mg "_law_grown" s__law_grown) (F__law_take : Fc P w K mg base 1 "_law_take" ["_law_bag_here", "_law_many"] (spM0 2 m__law_take)) (F__law_tree : Fc P w K mg base 14 "_law_tree" ["_law_bag_here", "_law_names", "_law_many", "_law_deep"] (spM0 4 (m__law_tree 8))) (F__law_wide : Fc P w K mg base 6 "_law_wide" ["_law_bag_here", "_law_names", "_law_many"] (spM0 3 m__law_wide))   : Fc P w K mg base 15 "_law_grown" ["_law_bag_here", "_law_names", "_law_many", "_law_deep"] (spM0 4 m__law_grown) := by
  obtain ⟨f, fd, F, hm⟩ := T
  have nd := sc__law_grown.nd
  exact ⟨f, fd, fn_f (k := 14) (N := n__law_grown) (fs := fs__law_grown) F sc__law_grown (by decide) (fun cdv A outer s H E hr => (fss_cons (fs_if (PW.pt (ft_and (ft_gt (fe_var 2) fe_int) (ft_and1 (ft_eq hr.units (fe_fc F__law_take (hr.mono (by omega)) (by rfl) (fa_cons (fe_var 0) (fa_cons fe_int fa_nil)) (argN_cons (argN_cons argN_nil))) fe_int)))) (fss_one (fs_ret (fe_fc F__law_wide (hr.mono (by omega)) (by rfl) (fa_cons (fe_var 0) (fa_cons (fe_var 1) (fa_cons (fe_var 2) fa_nil))) (argN_cons (argN_cons (argN_cons argN_nil)))))) fss_nil)
      (fss_one (fs_ret (fe_fc F__law_tree (hr.mono (by omega)) (by rfl) (fa_cons (fe_var 0) (fa_cons (fe_var 1) (fa_cons (fe_var 2) (fa_cons (fe_var 3) fa_nil)))) (argN_cons (argN_cons (argN_cons (argN_cons argN_nil))))))))), hm, F.kp, F.binds (ps := ["_law_bag_here", "_law_names", "_law_many", "_law_deep"]) (fun _ _ _ _ _ _ us hl => match us, hl with | [_, _, _, _], _ => rfl)⟩
abbrev n_law : List Str := ["_law_script", "_law_bag_here", "_law_deep", "_law_k", "_law_long", "_law_some", "_law_thing", "_law_turn", "_law_straight", "_law_again", "_law_said", "_law_due"]
theorem sc_law : FnScope n_law ["_law_script"] (defScope s_law) := ⟨rfl, rfl, rfl, by decide +kernel, rfl, by decide +kernel, by decide +kernel⟩
theorem fn_law_here {f : Addr} {fd : FuncData} {c_Wrong : Addr} (F : Fun K "law" "law" s_law f fd) (B : ∃ (fb : Addr) (fdb : FuncData), FnOk P w K mg base CX0 1 fb fdb ["_law_script"] (spBag K) ∧ mg "_law_bag" = some (.ref fb) ∧ PySem.W.keepIn K (.ref fb) = true ∧ Binds K fdb ["_law_script"] []) (F__law_alike : FcG P w K mg base 1 "_law_alike" ["_law_found", "_law_due"] (spM0 2 m__law_alike)) (F__law_bent : Fc P w K mg base 63 "_law_bent" ["_law_bag_here", "_law_thing"] (spM0 2 (m__law_bent w 60))) (F__law_deepest : Fc P w K mg base 1 "_law_deepest" [] (spM0 0 m__law_deepest)) (F__law_grown : Fc P w K mg base 15 "_law_grown" ["_law_bag_here", "_law_names", "_law_many", "_law_deep"] (spM0 4 m__law_grown)) (F__law_is_condition : Fc P w K mg base 126 "_law_is_condition" ["_law_thing"] (spM0 1 (m__law_is_condition c_Wrong 120))) (F__law_is_test : Fc P w K mg base 6 "_law_is_test" ["_law_thing"] (spM0 1 (m__law_is_test c_Wrong))) (F__law_take : Fc P w K mg base 1 "_law_take" ["_law_bag_here", "_law_many"] (spM0 2 m__law_take)) (F__law_test : Fc P w K mg base 4 "_law_test" ["_law_bag_here", "_law_names"] (spM0 2 m__law_test)) (F_column_of : Fc P w K mg base 1 "column_of" ["test"] (spM0 1 m_column_of)) (F_is_condition : Fc P w K mg base 126 "is_condition" ["thing"] (spM0 1 (m_is_condition c_Wrong 120))) (F_is_test : Fc P w K mg base 6 "is_test" ["thing"] (spM0 1 (m_is_test c_Wrong))) (T_Wrong : ErrC P w K mg base "Wrong" c_Wrong "place") (m_range : mg "range" = none) (m_repr : mg "repr" = none ∧ sysB K = true)
    (hd : (m_law w c_Wrong [.no, .bag]).All fun o => o = .val (.val (.bl true))) : FnG P w K mg base CX0 128 f fd ["_law_script"] (spLaw K) := by
  have nd := sc_law.nd
  obtain ⟨fb, fdb, B1, B2, B3, B4⟩ := B
  exact fn_flawA (N := n_law) (fs := fs_law w c_Wrong) (k := 127) F sc_law (by decide) rfl (fun cdv A outer s H E hq hr => ⟨ps_asg (pe_call B1 (hr.mono (by decide)) (by rfl) B2 B3 B4 .nil pass0 (pa_cons (pv 0) pa_nil)) (pg_name (i := 1) nd rfl (by first | exact .inl rfl | exact .inr rfl)), (fss_cons (fs_set (i := 2) nd (fe_tup (fa_cons fe_str (fa_cons fe_str fa_nil))))
      (fss_cons (fs_wipe [3, 4, 5, 6, 7, 8, 9, 10, 11] (fs_for (b := (b_law_1 w c_Wrong)) PassesOwn.never rfl (fi_wipe [3, 4, 5, 6, 7, 8, 9, 10, 11] (fi_rng1 (by rfl) m_range (fa_cons fe_int fa_nil))) (fg_name (i := 3) nd) (fss_wipe [3, 4, 5, 6, 7, 8, 9, 10, 11] (fss_one (fs_set (i := 2) nd (fe_tup (fa_cons fe_str (fa_cons (fe_var 2) fa_nil))))))))
      (fss_cons (fs_set (i := 4) nd (fe_tup (fa_cons fe_str (fa_cons fe_str (fa_cons (fe_mulT (fe_tup (fa_cons (fe_tup (fa_cons fe_str (fa_cons fe_int fa_nil))) fa_nil)) fe_int) (fa_cons fe_str (fa_cons fe_int fa_nil)))))))
      (fss_cons (fs_set (i := 5) nd (fe_lst (fa_cons (fe_mkE T_Wrong (hr.mono (by omega)) (by rfl) (fa_cons fe_int fa_nil)) (fa_cons (fe_tup (fa_cons fe_str (fa_cons (fe_mkE T_Wrong (hr.mono (by omega)) (by rfl) (fa_cons fe_int fa_nil)) fa_nil))) (fa_cons (fe_mul (fe_lst (fa_cons fe_int fa_nil)) fe_int) (fa_cons (fe_fc0 F__law_deepest (hr.mono (by omega)) (by rfl)) (fa_cons (fe_tup (fa_cons fe_str (fa_cons (fe_mulT (fe_tup (fa_cons (fe_tup (fa_cons fe_str (fa_cons fe_str fa_nil))) fa_nil)) fe_int) fa_nil))) fa_nil)))))))
      (fss_cons (fs_wipe [2, 3, 4, 5, 6, 7, 8, 9, 10, 11] (fs_for (b := (b_law_2 w c_Wrong)) PassesOwn.never rfl (fi_wipe [2, 3, 4, 5, 6, 7, 8, 9, 10, 11] (fi_seq (fe_add (fe_var 5) (fe_lst (fa_cons (fe_var 2) (fa_cons (fe_var 4) fa_nil)))))) (fg_name (i := 6) nd) (fss_wipe [2, 3, 4, 5, 6, 7, 8, 9, 10, 11] (fss_one (fs_if (ft_not (ft_val (fe_fcG F__law_alike hq (hr.mono (by omega)) (by rfl) (fa_cons (fe_lst (fa_cons (fe_fc F_is_test (hr.mono (by omega)) (by rfl) (fa_cons (fe_var 6) fa_nil) (argN_cons argN_nil)) (fa_cons (fe_fc F_is_condition (hr.mono (by omega)) (by rfl) (fa_cons (fe_var 6) fa_nil) (argN_cons argN_nil)) fa_nil))) (fa_cons (fe_lst (fa_cons (fe_fc F__law_is_test (hr.mono (by omega)) (by rfl) (fa_cons (fe_var 6) fa_nil) (argN_cons argN_nil)) (fa_cons (fe_fc F__law_is_condition (hr.mono (by omega)) (by rfl) (fa_cons (fe_var 6) fa_nil) (argN_cons argN_nil)) fa_nil))) fa_nil)) (argN_cons (argN_cons argN_nil))))) (fss_one (fs_ret fe_bl)) fss_nil)))))
      (fss_cons (fs_wipe [1, 2, 3, 4, 5, 6, 7, 8, 9, 10, 11] (fs_for (b := (b_law_5 w c_Wrong)) PassesOwn.never rfl (fi_wipe [2, 3, 4, 5, 6, 7, 8, 9, 10, 11] (fi_rng1 (by rfl) m_range (fa_cons fe_int fa_nil))) (fg_name (i := 7) nd) (fss_wipe [2, 3, 4, 5, 6, 7, 8, 9, 10, 11] (fss_cons (fs_set (i := 6) nd (fe_fc F__law_grown (hr.mono (by omega)) (by rfl) (fa_cons (fe_var 1) (fa_cons (fe_lst (fa_cons fe_str (fa_cons fe_str (fa_cons fe_str fa_nil)))) (fa_cons (fe_add fe_int (fe_fc F__law_take (hr.mono (by omega)) (by rfl) (fa_cons (fe_var 1) (fa_cons fe_int fa_nil)) (argN_cons (argN_cons argN_nil)))) (fa_cons fe_int fa_nil)))) (argN_cons (argN_cons (argN_cons (argN_cons argN_nil))))))
      (fss_cons (fs_if (ft_eq hr.units (fe_fc F__law_take (hr.mono (by omega)) (by rfl) (fa_cons (fe_var 1) (fa_cons fe_int fa_nil)) (argN_cons (argN_cons argN_nil))) fe_int) (fss_one (fs_set (i := 6) nd (fe_fc F__law_test (hr.mono (by omega)) (by rfl) (fa_cons (fe_var 1) (fa_cons (fe_lst (fa_cons fe_str (fa_cons fe_str (fa_cons fe_str fa_nil)))) fa_nil)) (argN_cons (argN_cons argN_nil))))) fss_nil)
      (fss_cons (fs_set (i := 8) nd (fe_var 6))
      (fss_cons (fs_if (ft_not (ft_val (fe_fcG F__law_alike hq (hr.mono (by omega)) (by rfl) (fa_cons (fe_lst (fa_cons (fe_fc F_is_test (hr.mono (by omega)) (by rfl) (fa_cons (fe_var 6) fa_nil) (argN_cons argN_nil)) (fa_cons (fe_fc F_is_condition (hr.mono (by omega)) (by rfl) (fa_cons (fe_var 6) fa_nil) (argN_cons argN_nil)) fa_nil))) (fa_cons (fe_lst (fa_cons (fe_fc F__law_is_test (hr.mono (by omega)) (by rfl) (fa_cons (fe_var 6) fa_nil) (argN_cons argN_nil)) (fa_cons (fe_fc F__law_is_condition (hr.mono (by omega)) (by rfl) (fa_cons (fe_var 6) fa_nil) (argN_cons argN_nil)) fa_nil))) fa_nil)) (argN_cons (argN_cons argN_nil))))) (fss_one (fs_ret fe_bl)) fss_nil)
      (fss_cons (fs_wipe [2, 3, 4, 5, 7, 9, 10, 11] (fs_for (b := (b_law_3 w c_Wrong)) PassesOwn.never rfl (fi_wipe [2, 3, 4, 5, 7, 9, 10, 11] (fi_rng1 (by rfl) m_range (fa_cons (fe_ix (fe_lst (fa_cons fe_int (fa_cons fe_int (fa_cons fe_int (fa_cons fe_int fa_nil))))) (fe_fc F__law_take (hr.mono (by omega)) (by rfl) (fa_cons (fe_var 1) (fa_cons fe_int fa_nil)) (argN_cons (argN_cons argN_nil)))) fa_nil))) (fg_name (i := 9) nd) (fss_wipe [2, 3, 4, 5, 7, 9, 10, 11] (fss_one (fs_set (i := 6) nd (fe_fc F__law_bent (hr.mono (by omega)) (by rfl) (fa_cons (fe_var 1) (fa_cons (fe_var 6) fa_nil)) (argN_cons (argN_cons argN_nil))))))))
      (fss_cons (fs_par2 (i := 10) (j := 11) rfl nd rfl rfl (by decide) rfl rfl (fa_cons (fe_cb bs_reprX (call_reprX hq hr.units m_repr.2) cl_reprX (by rfl) m_repr.1 (by decide +kernel) (fa_cons (fe_var 6) fa_nil)) (fa_cons (fe_lst (fa_cons (fe_fc F__law_is_test (hr.mono (by omega)) (by rfl) (fa_cons (fe_var 6) fa_nil) (argN_cons argN_nil)) (fa_cons (fe_fc F__law_is_condition (hr.mono (by omega)) (by rfl) (fa_cons (fe_var 6) fa_nil) (argN_cons argN_nil)) fa_nil))) fa_nil)))
      (fss_cons (fs_wipe [2, 3, 4, 5, 7, 9, 10] (fs_for (b := (b_law_4 w c_Wrong)) PassesOwn.never rfl (fi_wipe [2, 3, 4, 5, 7, 9] (fi_rng1 (by rfl) m_range (fa_cons fe_int fa_nil))) (fg_name (i := 9) nd) (fss_wipe [2, 3, 4, 5, 7, 9] (fss_one (fs_if (PW.pt (ft_or (ft_not (ft_val (fe_fcG F__law_alike hq (hr.mono (by omega)) (by rfl) (fa_cons (fe_lst (fa_cons (fe_fc F_is_test (hr.mono (by omega)) (by rfl) (fa_cons (fe_var 6) fa_nil) (argN_cons argN_nil)) (fa_cons (fe_fc F_is_condition (hr.mono (by omega)) (by rfl) (fa_cons (fe_var 6) fa_nil) (argN_cons argN_nil)) fa_nil))) (fa_cons (fe_var 11) fa_nil)) (argN_cons (argN_cons argN_nil))))) (ft_or1 (ft_neS (fe_cb bs_reprX (call_reprX hq hr.units m_repr.2) cl_reprX (by rfl) m_repr.1 (by decide +kernel) (fa_cons (fe_var 6) fa_nil)) (fe_var 10))))) (fss_one (fs_ret fe_bl)) fss_nil)))))
      (fss_cons (fs_if (PW.pt (ft_and (ft_val (fe_ix (fe_var 11) fe_int)) (ft_and1 (ft_not (ft_val (fe_fcG F__law_alike hq (hr.mono (by omega)) (by rfl) (fa_cons (fe_fc F_column_of (hr.mono (by omega)) (by rfl) (fa_cons (fe_var 6) fa_nil) (argN_cons argN_nil)) (fa_cons (fe_ix (fe_var 6) fe_int) fa_nil)) (argN_cons (argN_cons argN_nil)))))))) (fss_one (fs_ret fe_bl)) fss_nil)
      (fss_one (fs_if (ft_not (ft_val (fe_fcG F__law_alike hq (hr.mono (by omega)) (by rfl) (fa_cons (fe_fc F_is_condition (hr.mono (by omega)) (by rfl) (fa_cons (fe_var 8) fa_nil) (argN_cons argN_nil)) (fa_cons (fe_fc F__law_is_condition (hr.mono (by omega)) (by rfl) (fa_cons (fe_var 8) fa_nil) (argN_cons argN_nil)) fa_nil)) (argN_cons (argN_cons argN_nil))))) (fss_one (fs_ret fe_bl)) fss_nil)))))))))))))
      (fss_one (fs_ret (fe_and (fe_isB (fe_fc F_is_condition (hr.mono (by omega)) (by rfl) (fa_cons (fe_tup (fa_cons fe_str (fa_cons (fe_tup fa_nil) fa_nil))) fa_nil) (argN_cons argN_nil)) fe_bl) (fe_one (fe_isB (fe_fc F_is_condition (hr.mono (by omega)) (by rfl) (fa_cons (fe_tup (fa_cons fe_str (fa_cons (fe_tup fa_nil) (fa_cons (fe_tup (fa_cons fe_str (fa_cons fe_str fa_nil))) fa_nil)))) fa_nil) (argN_cons argN_nil)) fe_bl)))))))))))⟩) hd
end K20
namespace DL
open PySem PySem.Spec L2
def extK0 (i : Nat) (fe : FE) (r : R) (δ : List R) : T (EO R) := match r with
  | .own (.lst _) => (fe.bind fun r => (peekF r).bind fun d => (F.of (lstOf d)).bind fun es => putOwn i (extG es)) δ
  | _ => .fail
def augK0 (i : Nat) (fx fe : FE) (r : R) (δ : List R) : T SO := match r with
  | .own (.lst _) => eS fx (fun r1 => eS (peekF r1) fun k => augR i fe k) δ
  | _ => .fail
def setIxS (i : Nat) (fx : FE) (r : R) : FS := ownS i (eS fx fun r2 => eS (useF r) fun d => eS (peekF r2) fun k => setIxK i d k)
def setIx0 (i : Nat) (fx : FE) (r : R) (q : R) (δ : List R) : T SO := match q with
  | .own (.lst _) => eS fx (fun r2 => eS (useF r) fun d => eS (peekF r2) fun k => setIxK i d k) δ
  | _ => .fail
def setIx2 (i : Nat) (d : D) (ds : List D) (o : Option Nat) (δ : List R) : T SO := match o with
  | some j => .ret (.nx (st δ i (.own (.lst (ds.set j d)))))
  | none => .fail
def setIx1 (i : Nat) (d : D) (n : Int) (q : R) (δ : List R) : T SO := match q with
  | .own (.lst ds) => setIx2 i d ds (ixN ds.length n) δ
  | _ => .fail
section
variable {α β : Type} {C : Addr} {c : Addr} {fs : List (Str × D)} {δ : List R} {d : D} {i : Nat} {fa fb fc fe fo ff : FE} {t : FT} {fA fr : FA} {A B fu : FS} {r : R} {rs : List R} {ds es : List D} {is : List Nat} {kvs : List (Key × D)} {z : Str} {tbl : List (Str × D)} {neg : Bool}
theorem v_par : fPar is fA δ = (fA δ).bind fun o => o.go fun rs => eS (useAllF rs) fun rs' δ => optS (putAll2 is rs' δ) := (rfl)
theorem v_putN : putAll2 [] [] δ = some δ := (rfl)
theorem v_putC : putAll2 (i :: is) (r :: rs) δ = putAll2 is rs (st δ i r) := (rfl)
theorem v_inT : cInF neg d (.tup ds) = if flatD d = true ∧ ds.all flatD = true then some (ng neg (inD d ds)) else none := (rfl)
theorem v_ngT {b : Bool} : ng true b = !b := (rfl)
theorem v_ngF {b : Bool} : ng false b = b := (rfl)
theorem v_inDN : inD d [] = false := (rfl)
theorem v_inDC {e : D} : inD d (e :: ds) = (eqD 60 e d || inD d ds) := (rfl)
theorem v_flN : flatD .non = true := (rfl)
theorem v_flB {b : Bool} : flatD (.bl b) = true := (rfl)
theorem v_flI {n : Int} : flatD (.int n) = true := (rfl)
theorem v_flS : flatD (.str z) = true := (rfl)
theorem v_flT : flatD (.tup ds) = false := (rfl)
theorem v_flL : flatD (.lst ds) = false := (rfl)
theorem v_rev : fRev fe δ = (fe δ).bind fun o => o.on fun r => (peekF r).bind fun d => (F.of (lstOf d)).bind fun ds => F.ret (.own (.lst ds.reverse)) := (rfl)
theorem v_lstO : lstOf (.lst ds) = some ds := (rfl)
theorem v_aug {fx : FE} : fAug i fx fe δ = augK0 i fx fe (gt δ i) δ := by unfold fAug ownS augK0; rfl
theorem v_augO {fx : FE} : augK0 i fx fe (.own (.lst ds)) δ = (fx δ).bind fun o => o.go fun r1 => eS (peekF r1) fun k => augR i fe k := (rfl)
theorem v_augR {k : D} : augR i fe k δ = augRK i fe k (gt δ i) δ := (rfl)
theorem v_augRK {n : Int} : augRK i fe (.int n) (.own (.lst ds)) δ = if 0 ≤ n ∧ n < 2 ^ 62 then augAK i n.toNat fe ds[n.toNat]? δ else .fail := (rfl)
theorem v_augAK {n : Nat} {a : Int} : augAK i n fe (some (.int a)) δ = (fe δ).bind fun o => o.go fun r2 => eS (peekF r2) fun b => augB i n a b := (rfl)
theorem v_augB {n : Nat} {a : Int} {b : D} : augB i n a b δ = augBK i n a b (gt δ i) δ := (rfl)
theorem v_augBK {n : Nat} {a b : Int} : augBK i n a (.int b) (.own (.lst ds)) δ = if n < ds.length then .ret (.nx (st δ i (.own (.lst (ds.set n (.int (a + b))))))) else .fail := (rfl)
theorem v_ppN : fPairs [] δ = .ret (.ok [] δ) := (rfl)
theorem v_ppC {ps : List (FE × FE)} {k v : FE} : fPairs ((k, v) :: ps) δ = (k δ).bind fun o => o.on fun rk => v.bind fun rv => (useF rk).bind fun dk => (useF rv).bind fun dv => (fPairs ps).bind fun l => F.ret ((dk, dv) :: l) := (rfl)
theorem v_setIx {fx : FE} : fSetIx i fx fe δ = (fe δ).bind fun o => o.go fun r => setIxS i fx r := by unfold fSetIx setIxS; rfl
theorem v_setIxS {fx : FE} : setIxS i fx r δ = setIx0 i fx r (gt δ i) δ := by unfold setIxS ownS setIx0; rfl
theorem v_setIx0 {fx : FE} : setIx0 i fx r (.own (.lst ds)) δ = (fx δ).bind fun o => o.go fun r2 => eS (useF r) fun d => eS (peekF r2) fun k => setIxK i d k := (rfl)
theorem v_setIxK {n : Int} : setIxK i d (.int n) δ = setIx1 i d n (gt δ i) δ := by
  unfold setIxK setIx1
  cases gt δ i with
  | own e => cases e <;> rfl
  | _ => rfl
theorem v_setIx1 {n : Int} : setIx1 i d n (.own (.lst ds)) δ = setIx2 i d ds (ixN ds.length n) δ := (rfl)
theorem v_setIx2 {n : Nat} : setIx2 i d ds (some n) δ = .ret (.nx (st δ i (.own (.lst (ds.set n d))))) := (rfl)
theorem v_chain {c1 c2 : D → D → Option Bool} : fChain c1 c2 fa fb fc δ = (fa δ).bind fun o => o.on fun r1 => fb.bind fun r2 => (peekF r1).bind fun d1 => (peekF r2).bind fun d2 => (F.of (c1 d1 d2)).bind fun k =>
  if k = true then fc.bind fun r3 => (peekF r3).bind fun d3 => (F.of (c2 d2 d3)).bind fun k2 => F.ret (.val (.bl k2)) else F.ret (.val (.bl false)) := (rfl)
theorem v_bAll : bAllF [.lst ds] = (blsOf ds).map fun bs => .val (.bl (bs.all id)) := (rfl)
end
end DL
namespace DL
open PySem PySem.Spec L2
theorem w_is_int_NoneType : isTy "int" .non = some false := (rfl)
theorem w_is_int_int {n : Int} : isTy "int" (.int n) = some true := (rfl)
theorem w_is_int_bool {b : Bool} : isTy "int" (.bl b) = some true := (rfl)
theorem w_is_int_str {y : Str} : isTy "int" (.str y) = some false := (rfl)
theorem w_is_int_list {ds : List D} : isTy "int" (.lst ds) = some false := (rfl)
theorem w_is_int_tuple {ds : List D} : isTy "int" (.tup ds) = some false := (rfl)
theorem w_is_bool_NoneType : isTy "bool" .non = some false := (rfl)
theorem w_is_bool_int {n : Int} : isTy "bool" (.int n) = some false := (rfl)
theorem w_is_bool_bool {b : Bool} : isTy "bool" (.bl b) = some true := (rfl)
theorem w_is_bool_str {y : Str} : isTy "bool" (.str y) = some false := (rfl)
theorem w_is_bool_list {ds : List D} : isTy "bool" (.lst ds) = some false := (rfl)
theorem w_is_bool_tuple {ds : List D} : isTy "bool" (.tup ds) = some false := (rfl)
theorem w_is_str_NoneType : isTy "str" .non = some false := (rfl)
theorem w_is_str_int {n : Int} : isTy "str" (.int n) = some false := (rfl)
theorem w_is_str_bool {b : Bool} : isTy "str" (.bl b) = some false := (rfl)
theorem w_is_str_str {y : Str} : isTy "str" (.str y) = some true := (rfl)
theorem w_is_str_list {ds : List D} : isTy "str" (.lst ds) = some false := (rfl)
theorem w_is_str_tuple {ds : List D} : isTy "str" (.tup ds) = some false := (rfl)
theorem w_is_list_NoneType : isTy "list" .non = some false := (rfl)
theorem w_is_list_int {n : Int} : isTy "list" (.int n) = some false := (rfl)
theorem w_is_list_bool {b : Bool} : isTy "list" (.bl b) = some false := (rfl)
theorem w_is_list_str {y : Str} : isTy "list" (.str y) = some false := (rfl)
theorem w_is_list_list {ds : List D} : isTy "list" (.lst ds) = some true := (rfl)
theorem w_is_list_tuple {ds : List D} : isTy "list" (.tup ds) = some false := (rfl)
theorem w_is_tuple_NoneType : isTy "tuple" .non = some false := (rfl)
theorem w_is_tuple_int {n : Int} : isTy "tuple" (.int n) = some false := (rfl)
theorem w_is_tuple_bool {b : Bool} : isTy "tuple" (.bl b) = some false := (rfl)
theorem w_is_tuple_str {y : Str} : isTy "tuple" (.str y) = some false := (rfl)
theorem w_is_tuple_list {ds : List D} : isTy "tuple" (.lst ds) = some false := (rfl)
theorem w_is_tuple_tuple {ds : List D} : isTy "tuple" (.tup ds) = some true := (rfl)
theorem w_is_dict_NoneType : isTy "dict" .non = some false := (rfl)
theorem w_is_dict_int {n : Int} : isTy "dict" (.int n) = some false := (rfl)
theorem w_is_dict_bool {b : Bool} : isTy "dict" (.bl b) = some false := (rfl)
theorem w_is_dict_str {y : Str} : isTy "dict" (.str y) = some false := (rfl)
section
variable {c : Addr} {f y : Str} {fe fa fb fo : FE} {fA : FA} {δ : List R} {d d1 d2 : D} {m : FM} {r : R} {rs : List R} {i : Nat} {fds gds : List (Str × D)} {ds : List D} {n : Int} {b : Bool}
end
end DL
namespace CN
open PySem PySem.Spec L2 DL
inductive Stp where
  | plus (k : Int) | times (k : Int) | into (k : Int) | over (k : Int) | found (ps : List (Int × Int))
def prD (p : Int × Int) : D := .tup [.int p.1, .int p.2]
def Stp.d : Stp → D
  | .plus k => .tup [.str "plus", .int k]
  | .times k => .tup [.str "times", .int k]
  | .into k => .tup [.str "into", .int k]
  | .over k => .tup [.str "over", .int k]
  | .found ps => .tup [.str "found", .tup (ps.map prD)]
abbrev Sm (k : Int) : Prop := -1000000000000 ≤ k ∧ k ≤ 1000000000000
def Stp.Ok : Stp → Prop
  | .plus k => Sm k
  | .times k => Sm k ∧ k ≠ 0
  | .into k => Sm k ∧ 1 ≤ k
  | .over k => Sm k
  | .found ps => ps.length ≤ 7 ∧ (∀ p ∈ ps, Sm p.1 ∧ Sm p.2) ∧ (ps.map (·.1)).Nodup
def look : List (Int × Int) → Int → Option Int
  | [], _ => none
  | p :: ps, n => if p.1 = n then some p.2 else look ps n
def led1 : Stp → Int → Option Int
  | .plus k, n => some (n + k)
  | .times k, n => some (n * k)
  | .into k, n => some (n.fdiv k)
  | .over k, n => if n = 0 then none else some (k.fdiv n)
  | .found ps, n => look ps n
def led : List Stp → Int → Option Int
  | [], n => some n
  | s :: ss, n => match led1 s n with
    | none => none
    | some m => led ss m
def Bg (e : Nat) (n : Int) : Prop := n.natAbs < 2 ^ e
theorem look_mem {ps : List (Int × Int)} {n m : Int} (h : look ps n = some m) : (n, m) ∈ ps := by
  induction ps with
  | nil => cases h
  | cons p ps ih =>
    unfold look at h
    split at h
    · rename_i e
      cases h
      subst e
      exact List.mem_cons_self ..
    · exact List.mem_cons_of_mem _ (ih h)
theorem pow_mono {a b : Nat} (h : a ≤ b) : 2 ^ a ≤ 2 ^ b := Nat.pow_le_pow_right (by decide) h
theorem sm_bg {k : Int} (h : Sm k) : k.natAbs < 2 ^ 40 := by
  have : k.natAbs ≤ 1000000000000 := by unfold Sm at h; omega
  exact Nat.lt_of_le_of_lt this (by decide)
theorem bg_step {e : Nat} {s : Stp} {n m : Int} (he : 40 ≤ e) (hn : Bg e n) (hs : s.Ok) (h : led1 s n = some m) : Bg (e + 41) m := by
  unfold Bg at hn ⊢
  have p1 : (2 : Nat) ^ 40 ≤ 2 ^ e := pow_mono he
  have p2 : (2 : Nat) ^ (e + 1) ≤ 2 ^ (e + 41) := pow_mono (by omega)
  have p3 : (2 : Nat) ^ (e + 1) = 2 * 2 ^ e := by rw [Nat.pow_succ]; omega
  cases s with
  | plus k =>
    have hk := sm_bg (k := k) hs
    cases h
    have := Int.natAbs_add_le n k
    omega
  | times k =>
    have hk := sm_bg (k := k) hs.1
    cases h
    rw [Int.natAbs_mul]
    have p4 : (2 : Nat) ^ (e + 40) = 2 ^ e * 2 ^ 40 := Nat.pow_add 2 e 40
    have p5 : (2 : Nat) ^ (e + 40) ≤ 2 ^ (e + 41) := pow_mono (by omega)
    have p6 : n.natAbs * k.natAbs ≤ 2 ^ e * k.natAbs := Nat.mul_le_mul_right _ (Nat.le_of_lt hn)
    have p7 : 2 ^ e * k.natAbs < 2 ^ e * 2 ^ 40 := Nat.mul_lt_mul_of_pos_left hk (Nat.pow_pos (by decide))
    omega
  | into k =>
    cases h
    have := Int.natAbs_fdiv_le_natAbs n k
    omega
  | over k =>
    have hk := sm_bg (k := k) hs
    have h : (if n = 0 then none else some (k.fdiv n)) = some m := h
    split at h
    · cases h
    · cases h
      have := Int.natAbs_fdiv_le_natAbs k n
      omega
  | found ps =>
    have := sm_bg (hs.2.1 _ (look_mem h)).2
    simp only at this
    omega
def Fair (ss : List Stp) (n : Int) : Prop := (∀ s ∈ ss, s.Ok) ∧ ∃ e, 40 ≤ e ∧ Bg e n ∧ e + 41 * ss.length ≤ 4000
theorem Fair.head {s : Stp} {ss : List Stp} {n : Int} (h : Fair (s :: ss) n) : Fair [s] n := by
  obtain ⟨h1, e, h2, h3, h4⟩ := h
  exact ⟨fun t ht => h1 t (by simp at ht; simp [ht]), e, h2, h3, by simp at h4 ⊢; omega⟩
theorem Fair.tail {s : Stp} {ss : List Stp} {n m : Int} (h : Fair (s :: ss) n) (hm : led1 s n = some m) : Fair ss m := by
  obtain ⟨h1, e, h2, h3, h4⟩ := h
  exact ⟨fun t ht => h1 t (List.mem_cons_of_mem _ ht), e + 41, by omega, bg_step h2 h3 (h1 s (List.mem_cons_self ..)) hm, by simp at h4; omega⟩
theorem Fair.ok {s : Stp} {ss : List Stp} {n : Int} (h : Fair (s :: ss) n) : s.Ok := h.1 s (List.mem_cons_self ..)
theorem log_lt {n e : Nat} (h : n < 2 ^ e) (he : 0 < e) : n.log2 < e := by
  by_cases h0 : n = 0
  · subst h0; simpa using he
  · exact (Nat.log2_lt h0).mpr h
theorem mul_ok {n k : Int} {e : Nat} (h : Bg e n) (hk : Sm k) (he : e ≤ 4000) (e0 : 40 ≤ e) : mulB n k = true := by
  unfold mulB
  have h1 := log_lt h (by omega)
  have h2 := log_lt (sm_bg hk) (by decide)
  simp only [decide_eq_true_eq]
  omega
inductive Ans where
  | er | no | un | ye
deriving DecidableEq
def Ans.s : Ans → String
  | .er => "error" | .no => "no" | .un => "unknown" | .ye => "yes"
abbrev Ans.d (a : Ans) : D := .str a.s
def Ans.x : Ans → Ans
  | .no => .ye | .ye => .no | a => a
theorem Ans.xx (a : Ans) : a.x.x = a := by cases a <;> rfl
inductive Sg where
  | lt | le | ne | eq | gt | ge
def Sg.s : Sg → String
  | .lt => "<" | .le => "<=" | .ne => "<>" | .eq => "=" | .gt => ">" | .ge => ">="
def Sg.so : Sg → Int → Int → Bool
  | .lt, m, n => decide (m < n) | .le, m, n => decide (m ≤ n) | .ne, m, n => decide (m ≠ n) | .eq, m, n => decide (m = n) | .gt, m, n => decide (n < m) | .ge, m, n => decide (n ≤ m)
inductive Leaf where
  | emp (c : String) | num (c : String) | ask (c : String) (ss : List Stp) (g : Sg) (n : Int) | alw (a : Ans)
def Leaf.d : Leaf → D
  | .emp c => .tup [.str "empty", .str c]
  | .num c => .tup [.str "number", .str c]
  | .ask c ss g n => .tup [.str "asks", .str c, .tup (ss.map Stp.d), .str g.s, .int n]
  | .alw a => .tup [.str "always", .str a.s]
inductive Val where
  | non | int (i : Int) | wd (s : String)
def Val.d : Val → D
  | .non => .non | .int i => .int i | .wd s => .str s
abbrev Row := List (String × Val)
def rowK (r : Row) : List (Key × D) := r.map fun p => (.inr (Str.ofString p.1), p.2.d)
abbrev Row.d (r : Row) : D := .dic (rowK r)
def Row.get : Row → String → Option Val
  | [], _ => none
  | p :: r, c => if p.1 = c then some p.2 else Row.get r c
def numAns (ss : List Stp) (g : Sg) (n i : Int) : Ans := match led ss i with
  | none => .er
  | some m => if g.so m n = true then .ye else .no
def Leaf.ansV : Leaf → Val → Ans
  | .alw a, _ => a
  | .emp _, .non => .ye
  | .emp _, _ => .no
  | .num _, .non => .un
  | .num _, .int _ => .ye
  | .num _, .wd _ => .no
  | .ask _ _ _ _, .non => .un
  | .ask _ ss g n, .int i => numAns ss g n i
  | .ask _ _ _ _, .wd _ => .er
def Leaf.col : Leaf → Option String
  | .emp c => some c | .num c => some c | .ask c _ _ _ => some c | .alw _ => none
def Leaf.ans (l : Leaf) (r : Row) : Ans := match l.col with
  | none => l.ansV .non
  | some c => l.ansV ((r.get c).getD .non)
def Leaf.Ok (ns : List String) : Leaf → Prop
  | .emp c => c ∈ ns
  | .num c => c ∈ ns
  | .ask c ss g n => c ∈ ns ∧ ss.length ≤ 4 ∧ (∀ s ∈ ss, s.Ok) ∧ Sm n
  | .alw _ => True
def Row.Ok (ns : List String) (r : Row) : Prop := (∀ c ∈ ns, ∃ v, r.get c = some v) ∧ ∀ p ∈ r, ∀ i, p.2 = .int i → Bg 3000 i
inductive K where
  | all | any | not | cas | fst
deriving DecidableEq
inductive Cnd where
  | leaf (l : Leaf) | node (k : K) (ps : List Cnd)
def pairsU : List D → List D
  | a :: b :: r => .tup [a, b] :: pairsU r
  | _ => []
def lastD (ds : List D) : D := ds.getLast?.getD .non
def nodeD : K → List D → D
  | .all, ds => .tup [.str "all", .tup ds]
  | .any, ds => .tup [.str "any", .tup ds]
  | .fst, ds => .tup [.str "first", .tup ds]
  | .not, ds => .tup [.str "not", lastD ds]
  | .cas, ds => .tup [.str "case", .tup (pairsU ds), lastD ds]
mutual
def Cnd.d : Cnd → D
  | .leaf l => l.d
  | .node k ps => nodeD k (Cnd.ds ps)
def Cnd.ds : List Cnd → List D
  | [] => []
  | c :: cs => c.d :: Cnd.ds cs
end
theorem ds_map : ∀ cs : List Cnd, Cnd.ds cs = cs.map Cnd.d
  | [] => by simp only [Cnd.ds, List.map_nil]
  | c :: cs => by simp only [Cnd.ds, List.map_cons, ds_map cs]
def kOk : K → Nat → Prop
  | .not, n => n = 1
  | .cas, n => n % 2 = 1
  | _, _ => True
mutual
def Cnd.Wf (ns : List String) : Cnd → Prop
  | .leaf l => l.Ok ns
  | .node k ps => kOk k ps.length ∧ Cnd.Wfs ns ps
def Cnd.Wfs (ns : List String) : List Cnd → Prop
  | [] => True
  | c :: cs => c.Wf ns ∧ Cnd.Wfs ns cs
end
theorem wfs_iff {ns : List String} : ∀ {cs : List Cnd}, Cnd.Wfs ns cs ↔ ∀ c ∈ cs, c.Wf ns
  | [] => by simp [Cnd.Wfs]
  | c :: cs => by simp [Cnd.Wfs, wfs_iff (cs := cs)]
mutual
def Cnd.dep : Cnd → Nat
  | .leaf _ => 0
  | .node _ ps => Cnd.deps ps + 1
def Cnd.deps : List Cnd → Nat
  | [] => 0
  | c :: cs => max c.dep (Cnd.deps cs)
end
theorem deps_le {n : Nat} : ∀ {cs : List Cnd}, Cnd.deps cs ≤ n ↔ ∀ c ∈ cs, c.dep ≤ n
  | [] => by simp [Cnd.deps]
  | c :: cs => by simp only [Cnd.deps, List.mem_cons, forall_eq_or_imp, ← deps_le (cs := cs)]; omega
mutual
def Cnd.lv : Cnd → Nat
  | .leaf _ => 1
  | .node _ ps => Cnd.lvs ps
def Cnd.lvs : List Cnd → Nat
  | [] => 0
  | c :: cs => c.lv + Cnd.lvs cs
end
mutual
def Cnd.nd : Cnd → Nat
  | .leaf _ => 0
  | .node _ ps => Cnd.nds ps + 1
def Cnd.nds : List Cnd → Nat
  | [] => 0
  | c :: cs => c.nd + Cnd.nds cs
end
theorem lvs_le {n : Nat} : ∀ {cs : List Cnd}, (∀ c ∈ cs, c.lv ≤ n) → Cnd.lvs cs ≤ cs.length * n
  | [], _ => by simp [Cnd.lvs]
  | c :: cs, h => by
    have := h c (List.mem_cons_self ..)
    have := lvs_le (cs := cs) fun c hc => h c (List.mem_cons_of_mem _ hc)
    simp only [Cnd.lvs, List.length_cons, Nat.succ_mul]
    omega
theorem nds_le {n : Nat} : ∀ {cs : List Cnd}, (∀ c ∈ cs, c.nd ≤ n) → Cnd.nds cs ≤ cs.length * n
  | [], _ => by simp [Cnd.nds]
  | c :: cs, h => by
    have := h c (List.mem_cons_self ..)
    have := nds_le (cs := cs) fun c hc => h c (List.mem_cons_of_mem _ hc)
    simp only [Cnd.nds, List.length_cons, Nat.succ_mul]
    omega
abbrev Ask := List D → List D × Ans
def askN (dec : Ans) (a : List D) : List Ask → Nat → Ans → List D × Ans
  | [], _, found => ([], found)
  | f :: fs, i, found => if (f (a ++ [.int i])).2 = .er ∨ (f (a ++ [.int i])).2 = dec then f (a ++ [.int i]) else
      ((f (a ++ [.int i])).1 ++ (askN dec a fs (i + 1) (if (f (a ++ [.int i])).2 = .un then .un else found)).1, (askN dec a fs (i + 1) (if (f (a ++ [.int i])).2 = .un then .un else found)).2)
def askF (a : List D) : List Ask → Nat → List D × Ans
  | [], _ => ([], .un)
  | f :: fs, i => if (f (a ++ [.int i])).2 ≠ .un then f (a ++ [.int i]) else ((f (a ++ [.int i])).1 ++ (askF a fs (i + 1)).1, (askF a fs (i + 1)).2)
def askC (a : List D) : List Ask → Nat → List D × Ans
  | [], _ => ([], .un)
  | [e], i => e (a ++ [.int i])
  | w :: t :: r, i => if (w (a ++ [.int i])).2 = .er then w (a ++ [.int i]) else if (w (a ++ [.int i])).2 = .ye then ((w (a ++ [.int i])).1 ++ (t (a ++ [.int ((i + 1 : Nat) : Int)])).1, (t (a ++ [.int ((i + 1 : Nat) : Int)])).2)
      else ((w (a ++ [.int i])).1 ++ (askC a r (i + 2)).1, (askC a r (i + 2)).2)
def askT (a : List D) : List Ask → List D × Ans
  | f :: _ => ((f (a ++ [.int 0])).1, (f (a ++ [.int 0])).2.x)
  | [] => ([], .un)
def askK : K → List Ask → Ask
  | .all, fs, a => askN .no a fs 0 .ye
  | .any, fs, a => askN .ye a fs 0 .no
  | .fst, fs, a => askF a fs 0
  | .cas, fs, a => askC a fs 0
  | .not, fs, a => askT a fs
mutual
def Cnd.ask (r : Row) : Cnd → Ask
  | .leaf l => fun a => ([.tup [.tup a, (l.ans r).d]], l.ans r)
  | .node k ps => askK k (Cnd.asks r ps)
def Cnd.asks (r : Row) : List Cnd → List Ask
  | [] => []
  | c :: cs => c.ask r :: Cnd.asks r cs
end
mutual
def Cnd.turn : Cnd → Cnd
  | .leaf (.alw a) => .leaf (.alw a.x)
  | .leaf (.emp c) => .node .not [.leaf (.emp c)]
  | .leaf (.num c) => .node .not [.leaf (.num c)]
  | .leaf (.ask c ss g n) => .node .not [.leaf (.ask c ss g n)]
  | .node .all ps => .node .any (Cnd.turns ps)
  | .node .any ps => .node .all (Cnd.turns ps)
  | .node .fst ps => .node .fst (Cnd.turns ps)
  | .node .cas ps => .node .cas (Cnd.turnC ps)
  | .node .not (p :: _) => p
  | .node .not [] => .node .not []
def Cnd.turns : List Cnd → List Cnd
  | [] => []
  | c :: cs => c.turn :: Cnd.turns cs
def Cnd.turnC : List Cnd → List Cnd
  | [] => []
  | [e] => [e.turn]
  | w :: t :: r => w :: t.turn :: Cnd.turnC r
end
end CN
namespace CN
open PySem PySem.Spec L2 DL
inductive Rel2 {α : Type} (F : α → α → Prop) : List α → List α → Prop
  | nil : Rel2 F [] []
  | cons {x y : α} {xs ys : List α} (h : F x y) (t : Rel2 F xs ys) : Rel2 F (x :: xs) (y :: ys)
theorem Rel2.map {α β : Type} {F : α → α → Prop} {f g : β → α} : ∀ (xs : List β), (∀ x ∈ xs, F (f x) (g x)) → Rel2 F (xs.map f) (xs.map g)
  | [], _ => .nil
  | x :: xs, h => .cons (h x (List.mem_cons_self ..)) (Rel2.map xs fun y hy => h y (List.mem_cons_of_mem _ hy))
end CN
namespace CN
open PySem PySem.Spec L2 DL
def Wd (n w : Nat) (d : D) : Prop := d.fit n = true ∧ d.wid n ≤ w
theorem Wd.le {n w v : Nat} {d : D} (h : Wd n w d) (k : w ≤ v) : Wd n v d := ⟨h.1, Nat.le_trans h.2 k⟩
theorem wd_tup {n m k : Nat} {xs : List D} (hl : xs.length ≤ k) (h : ∀ d ∈ xs, Wd n m d) : Wd (n + 1) (4 + k * (m + 2)) (.tup xs) := by
  refine ⟨List.all_eq_true.mpr fun d hd => (h d hd).1, ?_⟩
  simp only [D.wid]
  have a := sum_le (m := m + 2) (xs.map fun d => D.wid n d + 2) fun x hx => by
    obtain ⟨d, hd, rfl⟩ := List.mem_map.mp hx
    have := (h d hd).2
    omega
  simp only [List.length_map] at a
  have b : xs.length * (m + 2) ≤ k * (m + 2) := Nat.mul_le_mul_right _ hl
  omega
theorem fit_mono {n : Nat} : ∀ {d : D}, d.fit n = true → d.fit (n + 1) = true := by
  induction n with
  | zero => intro d h; cases d <;> first | exact h | rfl | cases h
  | succ n ih =>
    intro d h
    cases d with
    | lst xs => exact List.all_eq_true.mpr fun d hd => ih (List.all_eq_true.mp h d hd)
    | tup xs => exact List.all_eq_true.mpr fun d hd => ih (List.all_eq_true.mp h d hd)
    | non => rfl
    | bl => rfl
    | int => exact h
    | str => exact h
    | _ => cases h
theorem wid_mono {n : Nat} : ∀ {d : D}, d.fit n = true → d.wid (n + 1) = d.wid n := by
  induction n with
  | zero => intro d h; cases d <;> first | rfl | cases h
  | succ n ih =>
    intro d h
    cases d with
    | lst xs =>
      show 4 + (xs.map fun d => D.wid (n + 1) d + 2).sum = 4 + (xs.map fun d => D.wid n d + 2).sum
      rw [List.map_congr_left fun d hd => by rw [ih (List.all_eq_true.mp h d hd)]]
    | tup xs =>
      show 4 + (xs.map fun d => D.wid (n + 1) d + 2).sum = 4 + (xs.map fun d => D.wid n d + 2).sum
      rw [List.map_congr_left fun d hd => by rw [ih (List.all_eq_true.mp h d hd)]]
    | _ => first | rfl | cases h
theorem Wd.up {n w : Nat} {d : D} (h : Wd n w d) : Wd (n + 1) w d := ⟨fit_mono h.1, by rw [wid_mono h.1]; exact h.2⟩
end CN
namespace CN
open PySem PySem.Spec L2 DL
def Val.isI : Val → Bool
  | .int _ => true | _ => false
end CN
namespace DL
open PySem PySem.Spec L2
section
variable {g g1 : FG} {t t1 : FT} {e : FE} {fi1 : FI} {vs vs1 : List Nat} {ds acc a : List D} {d : D} {δ : List R} {rs : List R}
variable {k : List D → List R → T (List D × List R)} {b : Bool}
end
end DL
namespace CN
open PySem PySem.Spec L2 DL
theorem ds_len (ps : List Cnd) : (Cnd.ds ps).length = ps.length := by rw [ds_map, List.length_map]
theorem lvs_app : ∀ (ps qs : List Cnd), Cnd.lvs (ps ++ qs) = Cnd.lvs ps + Cnd.lvs qs
  | [], qs => by simp [Cnd.lvs]
  | p :: ps, qs => by simp only [List.cons_append, Cnd.lvs, lvs_app ps qs]; omega
end CN
namespace CN
open PySem PySem.Spec L2 DL
theorem rngD_succ (a : Int) (n : Nat) : rngD a (n + 1) = .int a :: rngD (a + 1) n := by
  unfold rngD
  rw [List.range_succ_eq_map, List.map_cons, List.map_map]
  simp only [List.cons.injEq]
  refine ⟨by simp, List.map_congr_left fun i _ => ?_⟩
  simp only [Function.comp, D.int.injEq]
  omega
abbrev nmD (ns : List String) : D := .lst (ns.map fun s => .str (Str.ofString s))
theorem pairs_lc {ds : List D} {v : Nat} {e : FE} {δ : List R}
    (he : ∀ (j : Nat) (x y : D) (acc : List D) (k : List D → List R → T (List D × List R)), ds[2 * j]? = some x → ds[2 * j + 1]? = some y → acc.length < 16777216 → lcG fYes e acc [v] k (fgN v (.int j) δ) = k (acc ++ [.tup [x, y]]) δ) :
    ∀ (rest pre more : List D) (j : Nat), pre ++ (rest ++ more) = ds → pre.length = 2 * j → ∀ acc : List D, acc.length + rest.length ≤ 100000 → fLc (fgN v) fYes e [v] (rngD j (rest.length / 2)) acc δ = .ret (acc ++ pairsU rest, δ)
  | [], pre, more, j, _, _, acc, _ => by simp only [List.length_nil, pairsU, List.append_nil]; rfl
  | [x], pre, more, j, _, _, acc, _ => by simp only [List.length_singleton, pairsU, List.append_nil]; rfl
  | x :: y :: rest, pre, more, j, h1, h2, acc, h3 => by
    have e0 : (x :: y :: rest).length / 2 = rest.length / 2 + 1 := by simp only [List.length_cons]; omega
    simp only [List.length_cons] at h3
    rw [e0, rngD_succ, v_lcC, he j x y acc _ (by rw [← h1, ← h2]; simp) (by rw [← h1, ← h2, List.getElem?_append_right (by omega)]; simp) (by omega)]
    have := pairs_lc he rest (pre ++ [x, y]) more (j + 1) (by rw [← h1]; simp) (by simp; omega) (acc ++ [.tup [x, y]]) (by simp; omega)
    rw [show (((j + 1 : Nat) : Int)) = (j : Int) + 1 by omega] at this
    rw [this]
    simp only [pairsU, List.append_assoc, List.cons_append, List.nil_append]
theorem pairsU_odd : ∀ {xs : List D} {e : D}, xs.length % 2 = 0 → pairsU (xs ++ [e]) = pairsU xs ∧ lastD (xs ++ [e]) = e
  | [], e, _ => ⟨rfl, rfl⟩
  | [x], e, h => by simp at h
  | x :: y :: xs, e, h => by
    have ih := pairsU_odd (xs := xs) (e := e) (by simp only [List.length_cons] at h; omega)
    refine ⟨by simp only [List.cons_append, pairsU, ih.1], ?_⟩
    unfold lastD
    rw [List.getLast?_concat]; rfl
theorem atI_dbl {ds : List D} {j : Nat} {x : D} (h : ds[2 * j]? = some x) : atI ds (2 * (j : Int)) = some x := by
  have := atI_nat h
  rwa [show ((2 * j : Nat) : Int) = 2 * (j : Int) by omega] at this
theorem atI_dbl1 {ds : List D} {j : Nat} {x : D} (h : ds[2 * j + 1]? = some x) : atI ds (2 * (j : Int) + 1) = some x := by
  have := atI_nat h
  rwa [show ((2 * j + 1 : Nat) : Int) = 2 * (j : Int) + 1 by omega] at this
theorem mul_two (j : Nat) (h : j ≤ 100000) : mulB 2 (j : Int) = true := by
  have hs : Sm (2 : Int) := ⟨by decide, by decide⟩
  have h2 : Sm (j : Int) := ⟨by omega, by omega⟩
  exact mul_ok (e := 40) (sm_bg hs) h2 (by decide) (by decide)
theorem at_last {ds : List D} (h : ds ≠ []) : atI ds (-1) = some (lastD ds) := by
  unfold lastD
  rw [List.getLast?_eq_some_getLast h]
  have := List.dropLast_concat_getLast h
  conv => lhs; rw [← this]
  exact v_atL
structure Col where
  name : String
  lo : Int
  hi : Int
  b1 : Bool
  b2 : Bool
def Col.d (c : Col) : D := .tup [.str (Str.ofString c.name), .int c.lo, .int c.hi, .bl c.b1, .bl c.b2]
def Col.Ok (c : Col) : Prop := -4 ≤ c.lo ∧ c.lo ≤ c.hi ∧ c.hi ≤ 6 ∧ c.hi ≤ c.lo + 4
def Val.Sm (v : Val) : Prop := ∀ i, v = .int i → -100 ≤ i ∧ i ≤ 100
def Row.names (r : Row) : List String := r.map (·.1)
def Row.Sm (r : Row) : Prop := ∀ p ∈ r, p.2.Sm
theorem Row.Sm.ok {r : Row} {ns : List String} (h : r.Sm) (hn : ∀ c ∈ ns, c ∈ r.names) : r.Ok ns := by
  refine ⟨fun c hc => ?_, fun p hp i hi => ?_⟩
  · have := hn c hc
    clear h hn
    induction r with
    | nil => simp [Row.names] at this
    | cons p r ih =>
      unfold Row.get
      by_cases e : p.1 = c
      · exact ⟨p.2, by rw [if_pos e]⟩
      · rw [if_neg e]
        simp only [Row.names, List.map_cons, List.mem_cons] at this
        rcases this with z | z
        · exact absurd z.symm e
        · exact ih z
  · have := h p hp i hi
    unfold Bg
    have : i.natAbs ≤ 100 := by omega
    exact Nat.lt_of_le_of_lt this (by decide)
def ndB : Nat → Nat
  | 0 => 1
  | d + 1 => 1 + 5 * ndB d
def Fit (ns : List String) (deep : Nat) (c : Cnd) : Prop := c.Wf ns ∧ c.dep ≤ deep + 1 ∧ c.lv ≤ 5 ^ deep ∧ c.nd ≤ ndB deep
theorem ndB_le {a b : Nat} (h : a ≤ b) : ndB a ≤ ndB b := by
  induction h with
  | refl => exact Nat.le_refl _
  | step h ih => simp only [ndB]; omega
theorem Fit.up {ns : List String} {d e : Nat} {c : Cnd} (h : Fit ns d c) (k : d ≤ e) : Fit ns e c :=
  ⟨h.1, by have := h.2.1; omega, Nat.le_trans h.2.2.1 (Nat.pow_le_pow_right (by decide) k), Nat.le_trans h.2.2.2 (ndB_le k)⟩
theorem fit_node {ns : List String} {d : Nat} {k : K} {ps : List Cnd} (hk : kOk k ps.length) (hl : ps.length ≤ 5) (h : ∀ p ∈ ps, Fit ns d p) : Fit ns (d + 1) (.node k ps) := by
  refine ⟨by simp only [Cnd.Wf]; exact ⟨hk, wfs_iff.mpr fun c hc => (h c hc).1⟩, ?_, ?_, ?_⟩
  · simp only [Cnd.dep]
    have := deps_le (n := d + 1) (cs := ps) |>.mpr fun c hc => (h c hc).2.1
    omega
  · simp only [Cnd.lv]
    have h1 := lvs_le (n := 5 ^ d) (cs := ps) fun c hc => (h c hc).2.2.1
    have h2 : ps.length * 5 ^ d ≤ 5 * 5 ^ d := Nat.mul_le_mul_right _ hl
    have h3 : 5 ^ (d + 1) = 5 * 5 ^ d := by rw [Nat.pow_succ]; omega
    omega
  · simp only [Cnd.nd, ndB]
    have h1 := nds_le (n := ndB d) (cs := ps) fun c hc => (h c hc).2.2.2
    have h2 : ps.length * ndB d ≤ 5 * ndB d := Nat.mul_le_mul_right _ hl
    omega
theorem fit_leaf {ns : List String} {d : Nat} {l : Leaf} (h : l.Ok ns) : Fit ns d (.leaf l) := by
  refine Fit.up (d := 0) ⟨by simpa only [Cnd.Wf] using h, by simp [Cnd.dep], by simp [Cnd.lv], by simp [Cnd.nd]⟩ (by omega)
theorem fit_small {ns : List String} {k : K} {ps : List Cnd} (hk : kOk k ps.length) (hl : ps.length ≤ 1) (h : ∀ p ∈ ps, ∃ l : Leaf, l.Ok ns ∧ p = .leaf l) : Fit ns 0 (.node k ps) := by
  refine ⟨by simp only [Cnd.Wf]; exact ⟨hk, wfs_iff.mpr fun c hc => by obtain ⟨l, hl, rfl⟩ := h c hc; simpa only [Cnd.Wf] using hl⟩, ?_, ?_, ?_⟩
  · simp only [Cnd.dep]
    have := deps_le (n := 0) (cs := ps) |>.mpr fun c hc => by obtain ⟨l, hl, rfl⟩ := h c hc; simp [Cnd.dep]
    omega
  · simp only [Cnd.lv]
    have h1 := lvs_le (n := 1) (cs := ps) fun c hc => by obtain ⟨l, hl, rfl⟩ := h c hc; simp [Cnd.lv]
    simp only [Nat.pow_zero]; omega
  · simp only [Cnd.nd, ndB]
    have h1 := nds_le (n := 0) (cs := ps) fun c hc => by obtain ⟨l, hl, rfl⟩ := h c hc; simp [Cnd.nd]
    omega
end CN
namespace SP
abbrev Ed := Option Int
abbrev Pr := Ed × Ed
def lo : Ed → Int → Bool
  | none, _ => true
  | some l, n => decide (l ≤ n)
def hi : Ed → Int → Bool
  | none, _ => true
  | some h, n => decide (n ≤ h)
def inP (p : Pr) (n : Int) : Bool := lo p.1 n && hi p.2 n
def lies (ps : List Pr) (n : Int) : Bool := ps.any fun p => inP p n
def okB : Pr → Bool
  | (some l, some h) => decide (l ≤ h)
  | _ => true
def AllOk (ps : List Pr) : Prop := ∀ p ∈ ps, okB p = true
def sep (p q : Pr) : Prop := ∃ h l, p.2 = some h ∧ q.1 = some l ∧ h + 1 < l
structure Can (ps : List Pr) : Prop where
  ok : AllOk ps
  pw : ps.Pairwise sep
theorem Can.tail {p : Pr} {ps : List Pr} (h : Can (p :: ps)) : Can ps := ⟨fun q hq => h.ok q (List.mem_cons_of_mem _ hq), (List.pairwise_cons.mp h.pw).2⟩
theorem Can.head {p : Pr} {ps : List Pr} (h : Can (p :: ps)) : okB p = true := h.ok p (List.mem_cons_self ..)
theorem Can.sep {p : Pr} {ps : List Pr} (h : Can (p :: ps)) : ∀ q ∈ ps, SP.sep p q := (List.pairwise_cons.mp h.pw).1
def leE : Ed → Ed → Bool
  | none, _ => true
  | some _, none => false
  | some a, some b => decide (a ≤ b)
def srt (ps : List Pr) : List Pr := ps.mergeSort fun p q => leE p.1 q.1
def joinB : Ed → Ed → Bool
  | none, _ => true
  | some _, none => true
  | some h, some l => decide (l ≤ h + 1)
def later : Ed → Ed → Ed
  | some a, some b => some (max a b)
  | _, _ => none
def mrg1 (acc : List Pr) (p : Pr) : List Pr := match acc.getLast? with
  | some q => if joinB q.2 p.1 = true then acc.dropLast ++ [(q.1, later q.2 p.2)] else acc ++ [p]
  | none => acc ++ [p]
def mrgs (acc : List Pr) (ps : List Pr) : List Pr := ps.foldl mrg1 acc
def mrg (ps : List Pr) : List Pr := mrgs [] (srt ps)
end SP
namespace SP
abbrev GS := List Pr × Ed × Bool
def gapA (low : Ed) : Ed → List Pr
  | some b => [(low, some (b - 1))]
  | none => []
def finE (ps : List Pr) : List Int := ps.flatMap fun p => p.1.toList ++ p.2.toList
def e3 : Ed → List Int
  | some e => [e - 1, e, e + 1]
  | none => []
def Same (es : List Int) (n m : Int) : Prop := ∀ e ∈ es, (e ≤ n ↔ e ≤ m) ∧ (n ≤ e ↔ m ≤ e)
theorem lies_same {ps : List Pr} {n m : Int} (h : ∀ p ∈ ps, ∀ e, (p.1 = some e ∨ p.2 = some e) → (e ≤ n ↔ e ≤ m) ∧ (n ≤ e ↔ m ≤ e)) : lies ps n = lies ps m := by
  unfold lies
  induction ps with
  | nil => rfl
  | cons p ps ih =>
    rw [List.any_cons, List.any_cons, ih fun q hq => h q (List.mem_cons_of_mem _ hq)]
    congr 1
    have h := h p (List.mem_cons_self ..)
    obtain ⟨a, b⟩ := p
    unfold inP
    congr 1
    · cases a with
      | none => rfl
      | some x => simp [lo, (h x (.inl rfl)).1]
    · cases b with
      | none => rfl
      | some x => simp [hi, (h x (.inr rfl)).2]
theorem Same.lies {ps qs : List Pr} {n m : Int} (h : Same (finE ps) n m) (hq : ∀ p ∈ qs, p ∈ ps) : SP.lies qs n = SP.lies qs m := lies_same fun p hp e he => h e (List.mem_flatMap.mpr ⟨p, hq p hp, by
  rcases he with he | he
  · exact List.mem_append_left _ (by rw [he]; simp)
  · exact List.mem_append_right _ (by rw [he]; simp)⟩)
end SP
namespace SP
def upD (i d : Int) : Int := -((-i).fdiv d)
def plu (k : Int) (p : Pr) : Pr := (p.1.map (· + -k), p.2.map (· + -k))
def tmsE (k : Int) (p : Pr) : Pr := if 0 < k then (p.1.map (upD · k), p.2.map (·.fdiv k)) else (p.2.map (upD · k), p.1.map (·.fdiv k))
def tms (k : Int) (p : Pr) : Option Pr := if okB (tmsE k p) = true then some (tmsE k p) else none
def itoE (d : Int) (p : Pr) : Pr := (p.1.map (· * d), p.2.map (fun h => h * d + d - 1))
def lo1 (k : Int) : Ed → Int
  | some a => if a < 0 then max 1 (upD k a) else 1
  | none => 1
def lo2 (k l : Int) : Ed → Int
  | some b => if 0 < b + 1 then max l (k.fdiv (b + 1) + 1) else l
  | none => l
def hi1 (k : Int) : Ed → Ed
  | some a => if 0 < a then some (k.fdiv a) else none
  | none => none
def mn : Ed → Int → Int
  | none, y => y
  | some x, y => min x y
def hi2 (k : Int) (h : Ed) : Ed → Ed
  | some b => if b + 1 < 0 then some (mn h (upD k (b + 1) - 1)) else h
  | none => h
def ovNo (k : Int) (p : Pr) : Bool := (decide (p.1 = some 0) && decide (k < 0)) || (decide (p.2 = some (-1)) && decide (0 ≤ k))
def ovE (k : Int) (p : Pr) : Pr := (some (lo2 k (lo1 k p.1) p.2), hi2 k (hi1 k p.1) p.2)
def ov (k : Int) (p : Pr) : Option Pr := if ovNo k p = true then none else if okB (ovE k p) = true then some (ovE k p) else none
def mir (p : Pr) : Pr := (p.2.map (- ·), p.1.map (- ·))
def ovs (k : Int) (p : Pr) : List Pr := (ov k p).toList ++ ((ov (-k) p).map mir).toList
end SP
namespace SP
open CN
def key1 (q : Int × Int) : Pr := (some q.1, some q.1)
def bef1L (s : Stp) (ps : List Pr) : List Pr := match s with
  | .plus k => ps.map (plu k)
  | .times k => ps.flatMap fun p => (tms k p).toList
  | .into k => ps.map (itoE k)
  | .over k => ps.flatMap (ovs k)
  | .found qs => (qs.filter fun q => lies ps q.2).map key1
def bef1 (s : Stp) (ps : List Pr) : List Pr := mrg (bef1L s ps)
def bef (ss : List Stp) (ps : List Pr) : List Pr := ss.foldr bef1 ps
def at_ (o : Option Int) (ps : List Pr) : Bool := match o with
  | some m => lies ps m
  | none => false
def Bp (e : Nat) (ps : List Pr) : Prop := ∀ p ∈ ps, ∀ x, (p.1 = some x ∨ p.2 = some x) → x.natAbs < 2 ^ e
theorem Bp.le {e f : Nat} {ps : List Pr} (h : Bp e ps) (k : e ≤ f) : Bp f ps := fun p hp x hx => Nat.lt_of_lt_of_le (h p hp x hx) (pow_mono k)
end SP
namespace QN
open PySem PySem.Spec L2 DL
def AnyN : Nat → D → Prop
  | _, .non => True
  | _, .bl _ => True
  | _, .int _ => True
  | _, .str x => PyData.strOk x = true
  | _, .dcm _ _ => True
  | 0, .lst xs => xs.length ≤ 16000000
  | 0, .tup xs => xs.length ≤ 16000000
  | n + 1, .lst xs => xs.length ≤ 16000000 ∧ ∀ x ∈ xs, AnyN n x
  | n + 1, .tup xs => xs.length ≤ 16000000 ∧ ∀ x ∈ xs, AnyN n x
  | _, _ => False
def numB : D → Bool
  | .int i => decide (-1000000000000 ≤ i ∧ i ≤ 1000000000000)
  | _ => false
def intB : D → Bool
  | .int _ => true
  | _ => false
def pairB : D → Bool
  | .tup [a, b] => numB a && numB b
  | _ => false
def keyN : D → Int
  | .tup (.int i :: _) => i
  | _ => 0
def keyAt (ps : List D) (i : Nat) : Int := keyN ((ps[i]?).getD .non)
def ascL (ps : List D) : List Bool := (List.range (ps.length - 1)).map fun i => decide (keyAt ps i < keyAt ps (i + 1))
def ascB (ps : List D) : Bool := (ascL ps).all id
def pairsB : D → Bool
  | .tup ps => ps.all pairB && ascB ps
  | _ => false
def stepB (w4 : Str → Int → Bool) : D → Bool
  | .tup [.str w, n] => if w = Str.ofString "found" then pairsB n else match n with
    | .int k => w4 w k
    | _ => false
  | _ => false
def stepsB (w4 : Str → Int → Bool) : D → Bool
  | .tup ss => ss.all (stepB w4)
  | _ => false
theorem stepB_long (w4 : Str → Int → Bool) (a b c : D) (r : List D) : stepB w4 (.tup (a :: b :: c :: r)) = false := by
  unfold stepB
  split
  · rename_i h; simp at h
  · rfl
theorem filt_nil {α : Type} (f : α → Bool) (l : List α) : (l.filter fun d => !f d).isEmpty = l.all f := by
  induction l with
  | nil => rfl
  | cons a l ih =>
    cases h : f a
    · rw [List.filter_cons_of_pos (by rw [h]; rfl), List.all_cons, h]; rfl
    · rw [List.filter_cons_of_neg (by rw [h]; decide), List.all_cons, h, ih, Bool.true_and]
theorem AnyN.tup {n : Nat} {xs : List D} (h : AnyN (n + 1) (.tup xs)) : xs.length ≤ 16000000 ∧ ∀ x ∈ xs, AnyN n x := h
theorem AnyN.lst {n : Nat} {xs : List D} (h : AnyN (n + 1) (.lst xs)) : xs.length ≤ 16000000 ∧ ∀ x ∈ xs, AnyN n x := h
theorem AnyN.len {n : Nat} {xs : List D} (h : AnyN n (.tup xs)) : xs.length ≤ 16000000 := by
  cases n with
  | zero => exact h
  | succ n => exact h.1
theorem numB_int {d : D} (h : numB d = true) : ∃ i, d = .int i := by
  cases d <;> first | exact ⟨_, rfl⟩ | cases h
theorem pairB_tup {d : D} (h : pairB d = true) : ∃ i j, d = .tup [.int i, .int j] := by
  unfold pairB at h
  split at h
  · rw [Bool.and_eq_true] at h
    obtain ⟨i, rfl⟩ := numB_int h.1
    obtain ⟨j, rfl⟩ := numB_int h.2
    exact ⟨i, j, rfl⟩
  · cases h
theorem pair_at {ps : List D} (h : ps.all pairB = true) {i : Nat} (hi : i < ps.length) : ∃ a b, ps[i]? = some (.tup [.int a, .int b]) ∧ keyAt ps i = a := by
  obtain ⟨a, b, e⟩ := pairB_tup (List.all_eq_true.mp h ps[i] (List.getElem_mem hi))
  have := List.getElem?_eq_getElem hi
  rw [e] at this
  exact ⟨a, b, this, by unfold keyAt; rw [this]; rfl⟩
theorem bls_all : ∀ l : List Bool, blsOf (l.map D.bl) = some l
  | [] => rfl
  | b :: l => by
    show (blsOf (l.map D.bl)).map (b :: ·) = _
    rw [bls_all l]; rfl
theorem rng0 (n : Nat) : rngD 0 n = (List.range n).map fun (i : Nat) => D.int i := by unfold rngD; refine List.map_congr_left fun i _ => ?_; rw [Int.zero_add]
def offL (ps : List D) : List D := ((List.range (ps.length - 1)).filter fun i => !decide (keyAt ps i < keyAt ps (i + 1))).map fun (i : Nat) => D.int i
theorem offL_nil (ps : List D) : (offL ps).isEmpty = ascB ps := by
  unfold offL ascB ascL
  rw [List.isEmpty_map, List.all_map]
  cases h : (List.range (ps.length - 1)).all (id ∘ fun i => decide (keyAt ps i < keyAt ps (i + 1)))
  · cases hz : ((List.range (ps.length - 1)).filter fun i => !decide (keyAt ps i < keyAt ps (i + 1))) with
    | nil =>
      rw [List.filter_eq_nil_iff] at hz
      have : (List.range (ps.length - 1)).all (id ∘ fun i => decide (keyAt ps i < keyAt ps (i + 1))) = true := List.all_eq_true.mpr fun i hi => by have := hz i hi; simpa using this
      rw [h] at this; cases this
    | cons => rfl
  · rw [List.isEmpty_iff, List.filter_eq_nil_iff]
    intro i hi
    have := List.all_eq_true.mp h i hi
    simpa using this
theorem offL_ok (ps : List D) : okk 60 (.lst (offL ps)) = true := by
  refine List.all_eq_true.mpr fun d hd => ?_
  obtain ⟨i, _, rfl⟩ := List.mem_map.mp hd
  rfl
theorem two : (((2 : Nat) : Int) == 2) = true := rfl
theorem two0 : (((0 : Nat) : Int) == 2) = false := rfl
theorem two1 : (((1 : Nat) : Int) == 2) = false := rfl
theorem len_two {α : Type} (a b c : α) (r : List α) : (((a :: b :: c :: r).length : Int) == 2) = false := by
  simp only [List.length_cons, beq_eq_false_iff_ne, ne_eq]; omega
theorem lc_map {α : Type} {g : FG} {t : FT} {e : FE} {vs : List Nat} {δ0 : List R} (F f : α → D) : ∀ (rs : List α) (acc : List D), (∀ r ∈ rs, ∀ (acc : List D) k, acc.length < sizeLine → lcG t e acc vs k (g (F r) δ0) = k (acc ++ [f r]) δ0) → acc.length + rs.length ≤ sizeLine → fLc g t e vs (rs.map F) acc δ0 = .ret (acc ++ rs.map f, δ0)
  | [], acc, h, hl => by rw [List.map_nil, v_lcN]; simp
  | r :: rs, acc, h, hl => by
    simp only [List.length_cons] at hl
    rw [List.map_cons, v_lcC, h r (List.mem_cons_self ..) acc _ (by omega), lc_map F f rs (acc ++ [f r]) (fun x hx => h x (List.mem_cons_of_mem _ hx)) (by simp; omega)]
    simp
theorem lc_filt {α : Type} {g : FG} {t : FT} {e : FE} {vs : List Nat} {δ0 : List R} (F : α → D) (p : α → Bool) : ∀ (rs : List α) (acc : List D), (∀ r ∈ rs, ∀ (acc : List D) k, acc.length < sizeLine → lcG t e acc vs k (g (F r) δ0) = if p r = true then k (acc ++ [F r]) δ0 else k acc δ0) → acc.length + rs.length ≤ sizeLine → fLc g t e vs (rs.map F) acc δ0 = .ret (acc ++ (rs.filter p).map F, δ0)
  | [], acc, h, hl => by rw [List.map_nil, v_lcN]; simp
  | r :: rs, acc, h, hl => by
    simp only [List.length_cons] at hl
    rw [List.map_cons, v_lcC, h r (List.mem_cons_self ..) acc _ (by omega)]
    by_cases q : p r = true
    · rw [if_pos q, List.filter_cons_of_pos q, lc_filt F p rs (acc ++ [F r]) (fun x hx => h x (List.mem_cons_of_mem _ hx)) (by simp; omega)]
      simp
    · rw [if_neg q, List.filter_cons_of_neg q]
      exact lc_filt F p rs acc (fun x hx => h x (List.mem_cons_of_mem _ hx)) (by omega)
theorem eq_nilL (xs : List D) : eqD 60 (.lst xs) (.lst []) = xs.isEmpty := by cases xs <;> rfl
theorem atI_nat1 {ds : List D} {j : Nat} {x : D} (h : ds[j + 1]? = some x) : atI ds ((j : Int) + 1) = some x := by
  rw [show (j : Int) + 1 = ((j + 1 : Nat) : Int) by omega]; exact atI_nat h
def w4 (w : Str) : Bool := (Str.ofString "plus" == w) || ((Str.ofString "times" == w) || ((Str.ofString "into" == w) || (Str.ofString "over" == w)))
def okN (w : Str) (n : Int) : Bool := w4 w && numB (.int n) && (if w = Str.ofString "times" then decide (n ≠ 0) else (decide (w ≠ Str.ofString "into") || decide (1 ≤ n)))
theorem okN_fin (w : Str) (n : Int) (x : Bool) (hx : x = decide (1 ≤ n)) : (if w4 w = false then T.ret (FR.val (R.val (D.bl false))) else if numB (.int n) = false then T.ret (FR.val (R.val (D.bl false))) else
    if w = Str.ofString "times" then T.ret (FR.val (R.val (D.bl !n == 0))) else if (w == Str.ofString "into") = false then T.ret (FR.val (R.val (D.bl true))) else T.ret (FR.val (R.val (D.bl x)))) = T.ret (FR.val (R.val (D.bl (okN w n)))) := by
  unfold okN
  cases w4 w
  · rw [if_pos rfl]; rfl
  · rw [if_neg (by decide)]
    cases numB (.int n)
    · rw [if_pos rfl]; rfl
    · rw [if_neg (by decide)]
      by_cases ht : w = Str.ofString "times"
      · rw [if_pos ht, if_pos ht]
        have : (!n == 0) = decide (n ≠ 0) := by by_cases h : n = 0 <;> simp [h]
        rw [this]; rfl
      · rw [if_neg ht, if_neg ht]
        by_cases hi : w = Str.ofString "into"
        · have h1 : (w == Str.ofString "into") = true := by simpa using hi
          rw [h1, if_neg (by decide), decide_eq_false (by simpa using hi), hx]; rfl
        · have h1 : (w == Str.ofString "into") = false := by simpa using hi
          rw [h1, if_pos rfl, decide_eq_true hi]; rfl
end QN
namespace QB
open PySem PySem.Spec L2 DL QN
abbrev Asc : Str → Prop := PySem.W.KSb.Asc
def keyOk (d : D) : Bool := (kOfM d).isSome && okk 60 d
def thF (w : World) (B : Nat) (P : D → Prop) : D → Prop
  | .non => True
  | .bl _ => True
  | .int i => i.natAbs.log2 < B
  | .str x => Asc x
  | .lst xs => ∀ x ∈ xs, P x
  | .tup xs => ∀ x ∈ xs, P x
  | .dcm v kds => v = w ∧ (kds.map fun p => keyM p.1).Nodup ∧ ∀ p ∈ kds, keyOk p.1 = true ∧ P p.1 ∧ P p.2
  | _ => False
def Th (w : World) (B : Nat) : Nat → D → Prop
  | 0 => thF w B fun _ => False
  | n + 1 => thF w B (Th w B n)
def wdF (f : D → Nat) : D → Nat
  | .non => 4
  | .bl _ => 5
  | .int i => i.natAbs.log2 + 2
  | .str x => 10 * x.length + 2
  | .lst xs => 4 + (xs.map fun d => f d + 2).sum
  | .tup xs => 4 + (xs.map fun d => f d + 2).sum
  | .dcm _ kds => 4 + (kds.map fun p => f p.1 + 2 + f p.2 + 2).sum
  | _ => 0
def wd : Nat → D → Nat
  | 0 => wdF fun _ => 0
  | n + 1 => wdF (wd n)
def wdL (xs : List D) : Nat := (xs.map fun d => wd 60 d + 2).sum
def wdK (kds : List (D × D)) : Nat := (kds.map fun p => wd 60 p.1 + 2 + wd 60 p.2 + 2).sum
theorem sum_congr {α : Type} {f g : α → Nat} (l : List α) (h : ∀ x ∈ l, f x = g x) : (l.map f).sum = (l.map g).sum := by rw [List.map_congr_left h]
section
variable {w : World} {B B' n m : Nat} {d : D} {xs : List D}
theorem thF_mono {P Q : D → Prop} {f g : D → Nat} (hB : B ≤ B') (h : thF w B P d) (k : ∀ x, P x → Q x ∧ f x = g x) : thF w B' Q d ∧ wdF f d = wdF g d := by
  cases d with
  | non => exact ⟨trivial, rfl⟩
  | bl => exact ⟨trivial, rfl⟩
  | int i => exact ⟨Nat.lt_of_lt_of_le (show i.natAbs.log2 < B from h) hB, rfl⟩
  | str x => exact ⟨h, rfl⟩
  | lst xs =>
    have h : ∀ x ∈ xs, P x := h
    exact ⟨fun x hx => (k x (h x hx)).1, congrArg (4 + ·) (sum_congr xs fun x hx => by rw [(k x (h x hx)).2])⟩
  | tup xs =>
    have h : ∀ x ∈ xs, P x := h
    exact ⟨fun x hx => (k x (h x hx)).1, congrArg (4 + ·) (sum_congr xs fun x hx => by rw [(k x (h x hx)).2])⟩
  | dcm v kds =>
    obtain ⟨e, nd, h⟩ := h
    exact ⟨⟨e, nd, fun p hp => ⟨(h p hp).1, (k _ (h p hp).2.1).1, (k _ (h p hp).2.2).1⟩⟩, congrArg (4 + ·) (sum_congr kds fun p hp => by rw [(k _ (h p hp).2.1).2, (k _ (h p hp).2.2).2])⟩
  | _ => exact h.elim
theorem th_mono : ∀ {n m : Nat} {d : D}, Th w B n d → n ≤ m → B ≤ B' → Th w B' m d ∧ wd n d = wd m d
  | 0, 0, d, h, _, hB => ⟨(thF_mono (f := fun _ => 0) (g := fun _ => 0) hB h fun x z => z.elim).1, rfl⟩
  | 0, m + 1, d, h, _, hB => thF_mono hB h fun x z => z.elim
  | n + 1, 0, d, h, hl, _ => absurd hl (by omega)
  | n + 1, m + 1, d, h, hl, hB => thF_mono hB h fun x z => th_mono z (by omega) hB
theorem Th.up (h : Th w B n d) (hl : n ≤ m) (hB : B ≤ B') : Th w B' m d := (th_mono h hl hB).1
theorem wd_at (h : Th w B n d) (hn : n ≤ 59) : wd 59 d = wd 60 d := by
  rw [← (th_mono h hn (Nat.le_refl B)).2, ← (th_mono h (show n ≤ 60 by omega) (Nat.le_refl B)).2]
theorem th_lst (h : Th w B n (.lst xs)) : ∀ x ∈ xs, Th w B (n - 1) x ∧ 0 < n := by
  cases n with
  | zero => exact fun x hx => ((show ∀ x ∈ xs, False from h) x hx).elim
  | succ n => exact fun x hx => ⟨(show ∀ x ∈ xs, Th w B n x from h) x hx, by omega⟩
theorem th_tup (h : Th w B n (.tup xs)) : ∀ x ∈ xs, Th w B (n - 1) x ∧ 0 < n := by
  cases n with
  | zero => exact fun x hx => ((show ∀ x ∈ xs, False from h) x hx).elim
  | succ n => exact fun x hx => ⟨(show ∀ x ∈ xs, Th w B n x from h) x hx, by omega⟩
theorem wd_lst' (h : ∀ x ∈ xs, Th w B n x) (hn : n ≤ 59) : wd 60 (.lst xs) = 4 + wdL xs := congrArg (4 + ·) (sum_congr xs fun x hx => by rw [wd_at (h x hx) hn])
theorem wd_tup' (h : ∀ x ∈ xs, Th w B n x) (hn : n ≤ 59) : wd 60 (.tup xs) = 4 + wdL xs := congrArg (4 + ·) (sum_congr xs fun x hx => by rw [wd_at (h x hx) hn])
theorem wd_lst (h : Th w B n (.lst xs)) (hn : n ≤ 59) : wd 60 (.lst xs) = 4 + wdL xs := wd_lst' (fun x hx => (th_lst h x hx).1) (by omega)
theorem wd_tup (h : Th w B n (.tup xs)) (hn : n ≤ 59) : wd 60 (.tup xs) = 4 + wdL xs := wd_tup' (fun x hx => (th_tup h x hx).1) (by omega)
theorem lst_th (h : ∀ x ∈ xs, Th w B n x) : Th w B (n + 1) (.lst xs) := h
theorem tup_th (h : ∀ x ∈ xs, Th w B n x) : Th w B (n + 1) (.tup xs) := h
theorem th_dcm {v : World} {kds : List (D × D)} (h : Th w B n (.dcm v kds)) : v = w ∧ (kds.map fun p => keyM p.1).Nodup ∧ ∀ p ∈ kds, keyOk p.1 = true ∧ Th w B (n - 1) p.1 ∧ Th w B (n - 1) p.2 ∧ 0 < n := by
  cases n with
  | zero =>
    obtain ⟨e, nd, h⟩ := h
    exact ⟨e, nd, fun p hp => ((h p hp).2.1 : False).elim⟩
  | succ n =>
    obtain ⟨e, nd, h⟩ := h
    exact ⟨e, nd, fun p hp => ⟨(h p hp).1, (h p hp).2.1, (h p hp).2.2, by omega⟩⟩
theorem dcm_th {kds : List (D × D)} (nd : (kds.map fun p => keyM p.1).Nodup) (h : ∀ p ∈ kds, keyOk p.1 = true ∧ Th w B n p.1 ∧ Th w B n p.2) : Th w B (n + 1) (.dcm w kds) := ⟨rfl, nd, h⟩
theorem wd_dcm' {kds : List (D × D)} (v : World) (h : ∀ p ∈ kds, Th w B n p.1 ∧ Th w B n p.2) (hn : n ≤ 59) : wd 60 (.dcm v kds) = 4 + wdK kds := congrArg (4 + ·) (sum_congr kds fun p hp => by rw [wd_at (h p hp).1 hn, wd_at (h p hp).2 hn])
theorem wd_dcm {v : World} {kds : List (D × D)} (h : Th w B n (.dcm v kds)) (hn : n ≤ 59) : wd 60 (.dcm v kds) = 4 + wdK kds := wd_dcm' v (fun p hp => ⟨((th_dcm h).2.2 p hp).2.1, ((th_dcm h).2.2 p hp).2.2.1⟩) (by omega)
theorem wdL_app (xs ys : List D) : wdL (xs ++ ys) = wdL xs + wdL ys := by unfold wdL; rw [List.map_append, List.sum_append]
theorem wdL_cons (x : D) (xs : List D) : wdL (x :: xs) = wd 60 x + 2 + wdL xs := rfl
theorem sum_sub {α : Type} (f : α → Nat) {l l' : List α} (h : l'.Sublist l) : (l'.map f).sum ≤ (l.map f).sum := by
  induction h with
  | slnil => exact Nat.le_refl _
  | cons a _ ih => rw [List.map_cons, List.sum_cons]; omega
  | cons_cons a _ ih => rw [List.map_cons, List.map_cons, List.sum_cons, List.sum_cons]; omega
theorem wdL_sub {xs ys : List D} (h : ys.Sublist xs) : wdL ys ≤ wdL xs := sum_sub _ h
theorem wdL_rev (xs : List D) : wdL xs.reverse = wdL xs := by
  induction xs with
  | nil => rfl
  | cons x xs ih => rw [List.reverse_cons, wdL_app, ih, wdL_cons, wdL_cons]; show _ + (_ + 0) = _; omega
theorem wdL_mem {x : D} {xs : List D} (h : x ∈ xs) : wd 60 x + 2 ≤ wdL xs := by
  induction h with
  | head => rw [wdL_cons]; omega
  | tail _ _ ih => rw [wdL_cons]; omega
theorem wdL_set : ∀ {xs : List D} {i : Nat} {x : D} (v : D), xs[i]? = some x → wdL (xs.set i v) + wd 60 x = wdL xs + wd 60 v
  | a :: xs, 0, x, v, h => by
    rw [List.getElem?_cons_zero] at h
    cases h
    rw [List.set_cons_zero, wdL_cons, wdL_cons]; omega
  | a :: xs, i + 1, x, v, h => by
    rw [List.getElem?_cons_succ] at h
    have := wdL_set v h
    rw [List.set_cons_succ, wdL_cons, wdL_cons]; omega
theorem len_wdL (xs : List D) : 2 * xs.length ≤ wdL xs := by
  induction xs with
  | nil => exact Nat.le_refl _
  | cons x xs ih => rw [wdL_cons, List.length_cons]; omega
theorem len_wdK (kds : List (D × D)) : 4 * kds.length ≤ wdK kds := by
  unfold wdK
  induction kds with
  | nil => exact Nat.le_refl _
  | cons x xs ih => rw [List.map_cons, List.sum_cons, List.length_cons]; omega
theorem asc_ok {x : Str} (h : Asc x) : PyData.strOk x = true := by
  unfold PyData.strOk
  rw [Array.all_eq_true']
  intro c hc
  have := h c (by simpa using hc)
  exact decide_eq_true (by omega)
theorem fit_one {f : D → Bool} {g : D → Nat} {e : D → Nat} {n : Nat} {P : D → Prop} (hB : B ≤ 1900) (h : thF w B P d) (k : ∀ x, P x → x.fitd n = true ∧ D.widd n x = e x) : d.fitd (n + 1) = true ∧ D.widd (n + 1) d = wdF e d := by
  cases d with
  | non => exact ⟨rfl, rfl⟩
  | bl => exact ⟨rfl, rfl⟩
  | int i => exact ⟨decide_eq_true (Nat.lt_of_lt_of_le (show i.natAbs.log2 < B from h) hB), rfl⟩
  | str x => exact ⟨asc_ok h, rfl⟩
  | lst xs =>
    have h : ∀ x ∈ xs, P x := h
    exact ⟨List.all_eq_true.mpr fun x hx => (k x (h x hx)).1, congrArg (4 + ·) (sum_congr xs fun x hx => by rw [(k x (h x hx)).2])⟩
  | tup xs =>
    have h : ∀ x ∈ xs, P x := h
    exact ⟨List.all_eq_true.mpr fun x hx => (k x (h x hx)).1, congrArg (4 + ·) (sum_congr xs fun x hx => by rw [(k x (h x hx)).2])⟩
  | dcm v kds =>
    obtain ⟨_, nd, h⟩ := h
    exact ⟨List.all_eq_true.mpr fun p hp => by rw [(k _ (h p hp).2.1).1, (k _ (h p hp).2.2).1]; rfl, congrArg (4 + ·) (sum_congr kds fun p hp => by rw [(k _ (h p hp).2.1).2, (k _ (h p hp).2.2).2])⟩
  | _ => exact h.elim
theorem fit_th (hB : B ≤ 1900) : ∀ {n : Nat} {d : D}, Th w B n d → d.fitd (n + 1) = true ∧ D.widd (n + 1) d = wd n d
  | 0, d, h => fit_one (f := fun _ => true) (g := fun _ => 0) hB h fun x z => z.elim
  | n + 1, d, h => fit_one (f := fun _ => true) (g := fun _ => 0) hB h fun x z => fit_th hB z
theorem th_fits (h : Th w B n d) (hn : n ≤ 59) (hB : B ≤ 1900) (hw : wd 60 d ≤ 16000000) : d.FitsD 16000000 := by
  have h9 := h.up hn (Nat.le_refl B)
  obtain ⟨a, b⟩ := fit_th hB h9
  refine ⟨a, ?_⟩
  rw [b, wd_at h hn]
  exact hw
theorem th_any : ∀ {k n : Nat} {d : D}, Th w B n d → n ≤ 59 → wd 60 d ≤ 16000000 → AnyN k d
  | k, n, .non, _, _, _ => by cases k <;> trivial
  | k, n, .bl _, _, _, _ => by cases k <;> trivial
  | k, n, .int _, _, _, _ => by cases k <;> trivial
  | k, n, .str x, h, _, _ => by
    have : Asc x := by cases n <;> exact h
    cases k <;> exact asc_ok this
  | k, n, .dcm _ _, _, _, _ => by cases k <;> trivial
  | k, n, .lst xs, h, hn, hw => by
    rw [wd_lst h hn] at hw
    have hl := len_wdL xs
    cases k with
    | zero => exact (show xs.length ≤ 16000000 by omega)
    | succ k => exact ⟨by omega, fun x hx => th_any (th_lst h x hx).1 (by omega) (by have := wdL_mem hx; omega)⟩
  | k, n, .tup xs, h, hn, hw => by
    rw [wd_tup h hn] at hw
    have hl := len_wdL xs
    cases k with
    | zero => exact (show xs.length ≤ 16000000 by omega)
    | succ k => exact ⟨by omega, fun x hx => th_any (th_tup h x hx).1 (by omega) (by have := wdL_mem hx; omega)⟩
  | k, n, .dic _, h, _, _ => by cases n <;> exact h.elim
  | k, n, .dct _ _, h, _, _ => by cases n <;> exact h.elim
  | k, n, .ins _ _, h, _, _ => by cases n <;> exact h.elim
  | k, n, .obx _ _, h, _, _ => by cases n <;> exact h.elim
  | k, n, .ty _, h, _, _ => by cases n <;> exact h.elim
  | k, n, .exc _ _ _, h, _, _ => by cases n <;> exact h.elim
def KdsOk (w : World) (B n : Nat) (kds : List (D × D)) : Prop := (kds.map fun p => keyM p.1).Nodup ∧ ∀ p ∈ kds, keyOk p.1 = true ∧ Th w B n p.1 ∧ Th w B n p.2
theorem mAt_mem {kds : List (D × D)} {k v : D} (h : mAt kds k = some v) : ∃ p ∈ kds, p.2 = v ∧ keyM p.1 = keyM k := by
  unfold mAt at h
  cases hf : kds.find? (fun p => decide (keyM p.1 = keyM k)) with
  | none => rw [hf] at h; cases h
  | some p =>
    rw [hf] at h
    have := List.find?_some hf
    exact ⟨p, List.mem_of_find?_eq_some hf, Option.some.inj h, of_decide_eq_true this⟩
theorem mAt_some {kds : List (D × D)} {p : D × D} (h : p ∈ kds) : ∃ v, mAt kds p.1 = some v := by
  unfold mAt
  cases hf : kds.find? (fun q => decide (keyM q.1 = keyM p.1)) with
  | none =>
    have := List.find?_eq_none.mp hf p h
    simp at this
  | some q => exact ⟨q.2, rfl⟩
theorem wdK_sub' {kds l : List (D × D)} (s : l.Sublist kds) : wdK l ≤ wdK kds := sum_sub _ s
theorem wdK_app (a b : List (D × D)) : wdK (a ++ b) = wdK a + wdK b := by unfold wdK; rw [List.map_append, List.sum_append]
theorem wdK_cons (p : D × D) (a : List (D × D)) : wdK (p :: a) = wd 60 p.1 + 2 + wd 60 p.2 + 2 + wdK a := rfl
theorem wdK_mem {p : D × D} {kds : List (D × D)} (h : p ∈ kds) : wd 60 p.1 + 2 + wd 60 p.2 + 2 ≤ wdK kds := by
  induction h with
  | head => rw [wdK_cons]; omega
  | tail _ _ ih => rw [wdK_cons]; omega
theorem mSet_keys (kds : List (D × D)) (k v : D) : (kds.map (mSet k v)).map (fun p => keyM p.1) = kds.map fun p => keyM p.1 := by
  rw [List.map_map]
  refine List.map_congr_left fun p _ => ?_
  show keyM (mSet k v p).1 = _
  unfold mSet
  split <;> rfl
theorem mSet_none {kds : List (D × D)} {k v : D} (h : keyM k ∉ kds.map fun p => keyM p.1) : kds.map (mSet k v) = kds := by
  refine (List.map_congr_left fun p hp => ?_).trans (List.map_id kds)
  show mSet k v p = p
  unfold mSet
  rw [if_neg]
  intro e
  exact h (List.mem_map.mpr ⟨p, hp, e⟩)
theorem mSet_wd (k v : D) : ∀ {kds : List (D × D)}, (kds.map fun p => keyM p.1).Nodup → wdK (kds.map (mSet k v)) ≤ wdK kds + wd 60 v
  | [], _ => Nat.zero_le _
  | p :: kds, nd => by
    rw [List.map_cons, List.nodup_cons] at nd
    rw [List.map_cons, wdK_cons, wdK_cons]
    by_cases h : keyM p.1 = keyM k
    · have e : mSet k v p = (p.1, v) := if_pos h
      rw [mSet_none (by rw [← h]; exact nd.1), e]
      show wd 60 p.1 + 2 + wd 60 v + 2 + _ ≤ _
      omega
    · have e : mSet k v p = p := if_neg h
      have := mSet_wd k v nd.2
      rw [e]; omega
theorem mPut_wd {kds : List (D × D)} (k v : D) (nd : (kds.map fun p => keyM p.1).Nodup) : wdK (mPut kds k v) ≤ wdK kds + (wd 60 k + wd 60 v + 4) := by
  unfold mPut
  split
  · have := mSet_wd k v nd; omega
  · rw [wdK_app, wdK_cons]
    show _ + (wd 60 k + 2 + wd 60 v + 2 + 0) ≤ _
    omega
theorem mAt_none {kds : List (D × D)} {k : D} (h : ¬ (mAt kds k).isSome = true) : keyM k ∉ kds.map fun p => keyM p.1 := by
  intro hm
  obtain ⟨p, hp, e⟩ := List.mem_map.mp hm
  obtain ⟨v, hv⟩ := mAt_some hp
  apply h
  unfold mAt at hv ⊢
  rw [e] at hv
  rw [hv]; rfl
theorem mPut_nd {kds : List (D × D)} (k v : D) (nd : (kds.map fun p => keyM p.1).Nodup) : ((mPut kds k v).map fun p => keyM p.1).Nodup := by
  unfold mPut
  split
  · rw [mSet_keys]; exact nd
  · rename_i h
    rw [List.map_append, List.nodup_append]
    refine ⟨nd, by simp, fun a ha b hb => ?_⟩
    rw [List.map_cons, List.map_nil, List.mem_singleton] at hb
    rintro rfl
    exact mAt_none h (hb ▸ ha)
theorem mPut_mem {kds : List (D × D)} {k v : D} {p : D × D} (h : p ∈ mPut kds k v) : (p.1 = k ∨ ∃ q ∈ kds, q.1 = p.1) ∧ (p.2 = v ∨ ∃ q ∈ kds, q.2 = p.2) := by
  unfold mPut at h
  split at h
  · obtain ⟨q, hq, rfl⟩ := List.mem_map.mp h
    unfold mSet
    split
    · exact ⟨.inr ⟨q, hq, rfl⟩, .inl rfl⟩
    · exact ⟨.inr ⟨q, hq, rfl⟩, .inr ⟨q, hq, rfl⟩⟩
  · rcases List.mem_append.mp h with h | h
    · exact ⟨.inr ⟨p, h, rfl⟩, .inr ⟨p, h, rfl⟩⟩
    · cases List.mem_singleton.mp h
      exact ⟨.inl rfl, .inl rfl⟩
theorem put_ok {kds : List (D × D)} {k v : D} (h : KdsOk w B n kds) (hk : keyOk k = true) (tk : Th w B n k) (tv : Th w B n v) : KdsOk w B n (mPut kds k v) :=
  ⟨mPut_nd k v h.1, fun p hp => by
    obtain ⟨a, b⟩ := mPut_mem hp
    refine ⟨?_, ?_, ?_⟩
    · rcases a with e | ⟨q, hq, e⟩
      · rw [e]; exact hk
      · rw [← e]; exact (h.2 q hq).1
    · rcases a with e | ⟨q, hq, e⟩
      · rw [e]; exact tk
      · rw [← e]; exact (h.2 q hq).2.1
    · rcases b with e | ⟨q, hq, e⟩
      · rw [e]; exact tv
      · rw [← e]; exact (h.2 q hq).2.2⟩
theorem mAt_self : ∀ {kds : List (D × D)} {p : D × D}, (kds.map fun p => keyM p.1).Nodup → p ∈ kds → mAt kds p.1 = some p.2
  | q :: kds, p, nd, hp => by
    rw [List.map_cons, List.nodup_cons] at nd
    unfold mAt
    rw [List.find?_cons]
    rcases List.mem_cons.mp hp with rfl | hp
    · rw [decide_eq_true rfl]; rfl
    · have hne : ¬ keyM q.1 = keyM p.1 := fun e => nd.1 (e ▸ List.mem_map.mpr ⟨p, hp, rfl⟩)
      rw [decide_eq_false hne]
      exact mAt_self nd.2 hp
theorem filter_wdK (f : D × D → Bool) : ∀ {kds : List (D × D)} {p : D × D}, p ∈ kds → f p = false → wdK (kds.filter f) + (wd 60 p.1 + 2 + wd 60 p.2 + 2) ≤ wdK kds
  | q :: kds, p, hp, hf => by
    rcases List.mem_cons.mp hp with rfl | hp
    · rw [List.filter_cons_of_neg (by rw [hf]; decide), wdK_cons]
      have := wdK_sub' (List.filter_sublist (p := f) (l := kds)); omega
    · have := filter_wdK f hp hf
      by_cases hq : f q = true
      · rw [List.filter_cons_of_pos hq, wdK_cons, wdK_cons]; omega
      · rw [List.filter_cons_of_neg hq, wdK_cons]; omega
theorem mPuts_new : ∀ (l kds : List (D × D)), ((kds ++ l).map fun p => keyM p.1).Nodup → mPuts kds l = kds ++ l
  | [], kds, _ => (List.append_nil kds).symm
  | p :: l, kds, nd => by
    show mPuts (mPut kds p.1 p.2) l = _
    have hn : ¬ (mAt kds p.1).isSome = true := by
      intro h
      obtain ⟨v, hv⟩ := Option.isSome_iff_exists.mp h
      obtain ⟨q, hq, _, e⟩ := mAt_mem hv
      rw [List.map_append, List.nodup_append] at nd
      exact nd.2.2 (keyM q.1) (List.mem_map.mpr ⟨q, hq, rfl⟩) (keyM p.1) (List.mem_map.mpr ⟨p, List.mem_cons_self .., rfl⟩) e
    have e : mPut kds p.1 p.2 = kds ++ [p] := by unfold mPut; rw [if_neg hn]
    rw [e, mPuts_new l (kds ++ [p]) (by rw [List.append_assoc]; exact nd), List.append_assoc]; rfl
theorem mPuts_nil {l : List (D × D)} (nd : (l.map fun p => keyM p.1).Nodup) : mPuts [] l = l := mPuts_new l [] nd
theorem pairsM_items : ∀ {l : List (D × D)}, (∀ p ∈ l, keyOk p.1 = true) → pairsM (itemsD l) = some l
  | [], _ => rfl
  | p :: l, h => by
    have h1 := h p (List.mem_cons_self ..)
    unfold keyOk at h1
    rw [Bool.and_eq_true] at h1
    show pairsM (.tup [p.1, p.2] :: itemsD l) = _
    unfold pairsM
    rw [pairsM_items fun q hq => h q (List.mem_cons_of_mem _ hq), if_pos h1.1]
    rfl
theorem KdsOk.sub {kds l : List (D × D)} (h : KdsOk w B n kds) (s : l.Sublist kds) : KdsOk w B n l := ⟨(s.map _).nodup h.1, fun p hp => h.2 p (s.mem hp)⟩
theorem KdsOk.up {kds : List (D × D)} (h : KdsOk w B n kds) (hl : n ≤ m) (hB : B ≤ B') : KdsOk w B' m kds := ⟨h.1, fun p hp => ⟨(h.2 p hp).1, (h.2 p hp).2.1.up hl hB, (h.2 p hp).2.2.up hl hB⟩⟩
theorem items_wd (l : List (D × D)) (h : ∀ p ∈ l, Th w B n p.1 ∧ Th w B n p.2) (hn : n ≤ 58) : wdL (itemsD l) ≤ wdK l + 6 * l.length := by
  induction l with
  | nil => exact Nat.le_refl _
  | cons p l ih =>
    have h1 := h p (List.mem_cons_self ..)
    have e : wd 60 (.tup [p.1, p.2]) = 4 + wdL [p.1, p.2] := wd_tup' (n := n) (by intro x hx; simp only [List.mem_cons, List.not_mem_nil, or_false] at hx; rcases hx with rfl | rfl; exact h1.1; exact h1.2) (by omega)
    have i := ih fun q hq => h q (List.mem_cons_of_mem _ hq)
    show wdL (.tup [p.1, p.2] :: itemsD l) ≤ _
    rw [wdL_cons, e, wdL_cons, wdL_cons, wdK_cons, List.length_cons]
    show _ + (_ + (_ + 0)) + _ + _ ≤ _
    omega
theorem items_th {l : List (D × D)} (h : ∀ p ∈ l, Th w B n p.1 ∧ Th w B n p.2) : Th w B (n + 2) (.lst (itemsD l)) := lst_th fun x hx => by
  obtain ⟨p, hp, rfl⟩ := List.mem_map.mp hx
  refine tup_th fun y hy => ?_
  simp only [List.mem_cons, List.not_mem_nil, or_false] at hy
  rcases hy with rfl | rfl
  · exact (h p hp).1
  · exact (h p hp).2
theorem wd60_non : wd 60 .non = 4 := rfl
theorem wd60_bl (b : Bool) : wd 60 (.bl b) = 5 := rfl
theorem wd60_int (i : Int) : wd 60 (.int i) = i.natAbs.log2 + 2 := rfl
theorem wd60_str (x : Str) : wd 60 (.str x) = 10 * x.length + 2 := rfl
theorem cutS_le (x : Str) (lo hi : Option Int) : (cutS x lo hi).length ≤ x.length := by
  have e : (cutS x lo hi).length = ((x.cps.toList.drop (HT.sIx x.length 0 lo)).take (HT.sIx x.length x.length hi - HT.sIx x.length 0 lo)).length := by
    show (cutS x lo hi).cps.size = _
    unfold cutS
    simp
  have e2 : x.length = x.cps.toList.length := Array.length_toList.symm
  rw [e, List.length_take, List.length_drop, e2]
  omega
def ascD : D → Bool
  | .str s => decide (s.length ≤ 2) && s.cps.toList.all (fun c => decide (c < 128))
  | _ => false
theorem ascD_ok {d : D} (h : ascD d = true) : ∃ s, d = .str s ∧ s.length ≤ 2 ∧ Asc s := by
  cases d with
  | str s =>
    unfold ascD at h
    rw [Bool.and_eq_true] at h
    exact ⟨s, rfl, of_decide_eq_true h.1, PySem.W.KSb.asc_of h.2⟩
  | _ => cases h
theorem th_int {i : Int} (h : i.natAbs.log2 < B) : Th w B n (.int i) := by cases n <;> exact h
theorem th_str {x : Str} (h : Asc x) : Th w B n (.str x) := by cases n <;> exact h
theorem th_bl {b : Bool} : Th w B n (.bl b) := by cases n <;> trivial
theorem th_non : Th w B n .non := by cases n <;> trivial
theorem of_int {i : Int} (h : Th w B n (.int i)) : i.natAbs.log2 < B := by cases n <;> exact h
theorem of_str {x : Str} (h : Th w B n (.str x)) : Asc x := by cases n <;> exact h
theorem log_up {a b : Nat} (h : b ≤ a + 1) : b.log2 ≤ a.log2 + 1 := by
  by_cases hb : b = 0
  · subst hb; exact Nat.zero_le _
  · by_cases ha : a = 0
    · subst ha
      have : b = 1 := by omega
      subst this; decide
    · have h1 : b < 2 ^ (a.log2 + 2) := by
        have := (Nat.log2_lt ha).mp (Nat.lt_succ_self a.log2)
        have e : 2 ^ (a.log2 + 2) = 2 * 2 ^ (a.log2 + 1) := by rw [Nat.pow_succ 2 (a.log2 + 1)]; omega
        have : a < 2 ^ (a.log2 + 1) := this
        omega
      have := (Nat.log2_lt hb).mpr h1
      omega
theorem asc_cut {x : Str} (lo hi : Option Int) (h : Asc x) : Asc (cutS x lo hi) := fun c hc => h c (by
  unfold cutS at hc
  first
    | exact List.mem_of_mem_drop (List.mem_of_mem_take hc)
    | (simp only [Str.cps] at hc; exact List.mem_of_mem_drop (List.mem_of_mem_take (by simpa using hc))))
theorem asc_upper {x : Str} (h : Asc x) : Asc (Txt.upper x) ∧ (Txt.upper x).length = x.length := by
  rw [PyProof.Rows.upper_ascii h]
  refine ⟨fun c hc => ?_, ?_⟩
  · have hc : c ∈ (x.cps.map PyProof.Rows.up1).toList := hc
    rw [Array.toList_map] at hc
    obtain ⟨d, hd, rfl⟩ := List.mem_map.mp hc
    have := h d hd
    unfold PyProof.Rows.up1
    split <;> omega
  · show (x.cps.map PyProof.Rows.up1).size = x.cps.size
    rw [Array.size_map]
theorem num_len {i : Int} (h : i.natAbs.log2 < 1900) : (Str.ofString (toString i)).length ≤ i.natAbs.log2 + 2 := by
  have h2 : i.natAbs < 10 ^ (i.natAbs.log2 + 1) := Nat.lt_of_lt_of_le Nat.lt_log2_self (Nat.pow_le_pow_left (by decide) _)
  have := int_text_length_le10 (a := i) (k := i.natAbs.log2 + 1) (by omega) h2
  rw [ofString_length]; omega
end
end QB
set_option maxHeartbeats 1000000
namespace CN.PK20
open PySem PySem.Spec L2 DL K20
local macro_rules | `(tactic| walk_at "ev") => `(tactic| try simp only [q_dispM, q_dispK, q_dnewM, q_mix, q_fiMix, q_dcmW, q_itemsM, q_dictM, q_putM, q_neDicM, q_isiQ, q_isisQ, q_tyNon, q_tyBl, q_tyInt, q_tyStr, q_tyLst, q_tyTup, q_tyDcm, q_tyObx, q_mkE, q_mkEK, q_up, q_upK, q_notQ, q_truN, q_truB, q_isN, q_isB, q_isD, q_kd_int, q_kd_bool, q_kd_str, q_kd_list, q_kd_tuple, q_kd_dict, q_tys0, q_tys1, q_tqNon, q_tqBl, q_tqInt, q_tqStr, q_tqDcm, List.contains_cons, List.contains_nil, Bool.true_or, t_fiStr, t_strI, t_inS, t_ninS, w_is_int_NoneType, w_is_int_int, w_is_int_bool, w_is_int_str, w_is_int_list, w_is_int_tuple, w_is_bool_NoneType, w_is_bool_int, w_is_bool_bool, w_is_bool_str, w_is_bool_list, w_is_bool_tuple, w_is_str_NoneType, w_is_str_int, w_is_str_bool, w_is_str_str, w_is_str_list, w_is_str_tuple, w_is_list_NoneType, w_is_list_int, w_is_list_bool, w_is_list_str, w_is_list_list, w_is_list_tuple, w_is_tuple_NoneType, w_is_tuple_int, w_is_tuple_bool, w_is_tuple_str, w_is_tuple_list, w_is_tuple_tuple, w_is_dict_NoneType, w_is_dict_int, w_is_dict_bool, w_is_dict_str, v_ret, v_fail, v_bind, v_on, v_go, v_of, v_ofN, v_ofI, v_useV, v_useO, v_useP, v_useKV, v_useKO, v_peekV, v_peekO, v_peekP, v_lookV, v_lookO, v_handV, v_handP, v_handKV, v_handKO, v_handKB, v_allN, v_allC, v_lkN, v_lkC, v_var, v_varV, v_varO, v_varB, v_c, v_bin, v_cmp, v_tst, v_bl, v_int, v_and, v_or, v_not, v_andV, v_orV, v_notV, v_if, v_nil, v_cons, v_vals, v_tup, v_lst, v_neg, v_ix, v_oN, v_oS, v_sl, v_cb, v_eS, v_next, v_sq, v_thN, v_thR, v_retS, v_rV, v_rO, v_rP, v_rKV, v_rKO, v_ifS, v_set, v_sV, v_sO, v_sP, v_sKV, v_asg, v_optS, v_gN, v_gT, v_gC, v_gNil, v_loopN, v_loopC, v_turnK, v_tuN, v_tuB, v_tuR, v_tuE, v_for, v_iW, v_wipe, v_wN, v_wR, v_iS, v_r1, v_r2, v_r1K, v_r2K, v_lcN, v_lcC, v_lcG, v_lcT, v_lcE, v_yes, v_comp, v_call, v_callF, v_callK, v_mk, v_outR, v_take, v_pubO, v_pubV, v_pubP, v_ixL, v_ixT, v_ixS, v_slL, v_slS, v_addI, v_addS, v_addL, v_sub, v_mod, v_pow, v_fdiv, v_mulI, v_mulL, v_cI, v_cNS, v_lenL, v_lenT, v_lenS, v_intI, v_intB, v_abs, v_max2, v_min2, v_listL, v_listT, v_tupleL, v_par, v_putN, v_putC, v_inT, v_ngT, v_ngF, v_inDN, v_inDC, v_flN, v_flB, v_flI, v_flS, v_flT, v_flL, v_rev, v_lstO, v_aug, v_augO, v_augR, v_augRK, v_augAK, v_augB, v_augBK, v_ppN, v_ppC, v_setIx, v_setIxS, v_setIx0, v_setIxK, v_setIx1, v_setIx2, v_chain, v_bAll, Option.isSome_some, Option.isSome_none, Option.getD_some, Option.getD_none, putD, List.foldl_cons, List.foldl_nil, List.any_cons, List.any_nil, Bool.or_false, Bool.false_or, Bool.or_true, Bool.true_or, List.find?_cons, List.find?_nil, R.val.injEq, v_itemsL, v_itemsT, gt, st, wipeD, backD, R.stay, vals?, startK, v_at0, v_at1, v_at2, v_at3, v_at4, v_at5, v_atL, T.bind_ret, T.bind_fail, T.bind_ite, T.bind_any, T.All_retE, T.All_anyE, T.All_failE, T.All_iteE, ite_ap, cEqF, okk, eqD, eqAll, ofS_inj, ofS_beq, strOk_ofS, Option.bind_some, Option.map_some, Option.map_none, Sum.inr.injEq, Sum.inl.injEq, List.length_cons, List.length_nil, if_true, if_false, ite_true, ite_false, Bool.not_true, Bool.not_false, beq_self_eq_true, beq_iff_eq, decide_true, decide_false, decide_eq_true_eq, and_self, and_true, true_and, and_false, false_and, Bool.false_eq_true, Bool.true_eq_false, reduceIte, reduceCtorEq, Nat.reduceAdd, Nat.reduceEqDiff, Nat.reduceLeDiff, Nat.reduceLT, String.reduceEq, Int.reduceNeg, Int.reduceLE, Int.reduceLT, Int.reduceEq, Int.reduceToNat, Int.reducePow, Int.reduceAdd, Int.reduceSub, Int.reduceMul, Int.reduceAbs, Int.natAbs_neg, Nat.reducePow, Bool.and_true, Bool.true_and, Bool.and_false, Bool.false_and, List.lookup, sizeLine_eq, Option.some.injEq, List.all_cons, List.all_nil, List.nil_append, List.cons_append, Bool.not_eq_true', Bool.and_eq_true, not_true_eq_false, not_false_eq_true, List.map_cons, List.map_nil, decide_not, true_implies, false_implies, implies_true, not_true, ne_eq, Bool.not_eq_eq_eq_not])
local macro_rules | `(tactic| walk_at "pl") => `(tactic| repeat (with_reducible refine T.All_bind.mpr ?_))
local macro_rules | `(tactic| walk_at "ew") => `(tactic| try simp only [q_dispM, q_dispK, q_dnewM, q_mix, q_fiMix, q_dcmW, q_itemsM, q_dictM, q_putM, q_neDicM, q_isiQ, q_isisQ, q_tyNon, q_tyBl, q_tyInt, q_tyStr, q_tyLst, q_tyTup, q_tyDcm, q_tyObx, q_mkE, q_mkEK, q_up, q_upK, q_notQ, q_truN, q_truB, q_isN, q_isB, q_isD, q_kd_int, q_kd_bool, q_kd_str, q_kd_list, q_kd_tuple, q_kd_dict, q_tys0, q_tys1, q_tqNon, q_tqBl, q_tqInt, q_tqStr, q_tqDcm, List.contains_cons, List.contains_nil, Bool.true_or, w_is_int_NoneType, w_is_int_int, w_is_int_bool, w_is_int_str, w_is_int_list, w_is_int_tuple, w_is_bool_NoneType, w_is_bool_int, w_is_bool_bool, w_is_bool_str, w_is_bool_list, w_is_bool_tuple, w_is_str_NoneType, w_is_str_int, w_is_str_bool, w_is_str_str, w_is_str_list, w_is_str_tuple, w_is_list_NoneType, w_is_list_int, w_is_list_bool, w_is_list_str, w_is_list_list, w_is_list_tuple, w_is_tuple_NoneType, w_is_tuple_int, w_is_tuple_bool, w_is_tuple_str, w_is_tuple_list, w_is_tuple_tuple, w_is_dict_NoneType, w_is_dict_int, w_is_dict_bool, w_is_dict_str, v_ret, v_fail, v_bind, v_on, v_go, v_of, v_ofN, v_ofI, v_useV, v_useO, v_useP, v_useKV, v_useKO, v_peekV, v_peekO, v_peekP, v_lookV, v_lookO, v_handV, v_handP, v_handKV, v_handKO, v_handKB, v_allN, v_allC, v_lkN, v_lkC, v_var, v_varV, v_varO, v_varB, v_c, v_bin, v_cmp, v_tst, v_bl, v_int, v_and, v_or, v_not, v_andV, v_orV, v_notV, v_if, v_nil, v_cons, v_vals, v_tup, v_lst, v_neg, v_ix, v_oN, v_oS, v_sl, v_cb, v_eS, v_next, v_sq, v_thN, v_thR, v_retS, v_rV, v_rO, v_rP, v_rKV, v_rKO, v_ifS, v_set, v_sV, v_sO, v_sP, v_sKV, v_asg, v_optS, v_gN, v_gT, v_gC, v_gNil, v_loopN, v_loopC, v_turnK, v_tuN, v_tuB, v_tuR, v_tuE, v_for, v_iW, v_wipe, v_wN, v_wR, v_iS, v_r1, v_r2, v_r1K, v_r2K, v_lcN, v_lcC, v_lcG, v_lcT, v_lcE, v_yes, v_comp, v_call, v_callF, v_callK, v_mk, v_outR, v_take, v_pubO, v_pubV, v_pubP, v_ixL, v_ixT, v_ixS, v_slL, v_slS, v_addI, v_addS, v_addL, v_sub, v_mod, v_pow, v_fdiv, v_mulI, v_mulL, v_cI, v_cNS, v_lenL, v_lenT, v_lenS, v_intI, v_intB, v_abs, v_max2, v_min2, v_listL, v_listT, v_tupleL, v_par, v_putN, v_putC, v_inT, v_ngT, v_ngF, v_inDN, v_inDC, v_flN, v_flB, v_flI, v_flS, v_flT, v_flL, v_rev, v_lstO, v_aug, v_augO, v_augR, v_augRK, v_augAK, v_augB, v_augBK, v_ppN, v_ppC, v_setIx, v_setIxS, v_setIx0, v_setIxK, v_setIx1, v_setIx2, v_chain, v_bAll, Option.isSome_some, Option.isSome_none, Option.getD_some, Option.getD_none, List.foldl_cons, List.foldl_nil, List.any_cons, List.any_nil, Bool.or_false, Bool.false_or, Bool.or_true, Bool.true_or, R.val.injEq, v_itemsL, v_itemsT, gt, st, wipeD, backD, R.stay, vals?, startK, v_at0, v_at1, v_at2, v_at3, v_at4, v_at5, v_atL, T.bind_ret, T.bind_fail, T.bind_ite, T.bind_any, T.All_retE, T.All_anyE, T.All_failE, T.All_iteE, ite_ap, cEqF, okk, eqD, eqAll, ofS_inj, ofS_beq, strOk_ofS, Option.bind_some, Option.map_some, Option.map_none, Sum.inr.injEq, Sum.inl.injEq, List.length_cons, List.length_nil, if_true, if_false, ite_true, ite_false, Bool.not_true, Bool.not_false, beq_self_eq_true, beq_iff_eq, decide_true, decide_false, decide_eq_true_eq, and_self, and_true, true_and, and_false, false_and, Bool.false_eq_true, Bool.true_eq_false, reduceIte, reduceCtorEq, Nat.reduceAdd, Nat.reduceEqDiff, Nat.reduceLeDiff, Nat.reduceLT, String.reduceEq, Int.reduceNeg, Int.reduceLE, Int.reduceLT, Int.reduceEq, Int.reduceToNat, Int.reducePow, Int.reduceAdd, Int.reduceSub, Int.reduceMul, Int.reduceAbs, Int.natAbs_neg, Nat.reducePow, Bool.and_true, Bool.true_and, Bool.and_false, Bool.false_and, List.lookup, sizeLine_eq, Option.some.injEq, List.all_cons, List.all_nil, List.nil_append, List.cons_append, Bool.not_eq_true', Bool.and_eq_true, not_true_eq_false, not_false_eq_true, List.map_cons, List.map_nil, decide_not, true_implies, false_implies, implies_true, not_true, ne_eq, Bool.not_eq_eq_eq_not])
local macro_rules | `(tactic| push_cast [$xs:simpLemma,*]) => `(tactic| simp only [q_dispM, q_dispK, q_dnewM, q_mix, q_fiMix, q_dcmW, q_itemsM, q_dictM, q_putM, q_neDicM, q_isiQ, q_isisQ, q_tyNon, q_tyBl, q_tyInt, q_tyStr, q_tyLst, q_tyTup, q_tyDcm, q_tyObx, q_mkE, q_mkEK, q_up, q_upK, q_notQ, q_truN, q_truB, q_isN, q_isB, q_isD, q_kd_int, q_kd_bool, q_kd_str, q_kd_list, q_kd_tuple, q_kd_dict, q_tys0, q_tys1, q_tqNon, q_tqBl, q_tqInt, q_tqStr, q_tqDcm, List.contains_cons, List.contains_nil, Bool.true_or, w_is_int_NoneType, w_is_int_int, w_is_int_bool, w_is_int_str, w_is_int_list, w_is_int_tuple, w_is_bool_NoneType, w_is_bool_int, w_is_bool_bool, w_is_bool_str, w_is_bool_list, w_is_bool_tuple, w_is_str_NoneType, w_is_str_int, w_is_str_bool, w_is_str_str, w_is_str_list, w_is_str_tuple, w_is_list_NoneType, w_is_list_int, w_is_list_bool, w_is_list_str, w_is_list_list, w_is_list_tuple, w_is_tuple_NoneType, w_is_tuple_int, w_is_tuple_bool, w_is_tuple_str, w_is_tuple_list, w_is_tuple_tuple, w_is_dict_NoneType, w_is_dict_int, w_is_dict_bool, w_is_dict_str, v_ret, v_fail, v_bind, v_on, v_go, v_of, v_ofN, v_ofI, v_useV, v_useO, v_useP, v_useKV, v_useKO, v_peekV, v_peekO, v_peekP, v_lookV, v_lookO, v_handV, v_handP, v_handKV, v_handKO, v_handKB, v_allN, v_allC, v_lkN, v_lkC, v_var, v_varV, v_varO, v_varB, v_c, v_bin, v_cmp, v_tst, v_bl, v_int, v_and, v_or, v_not, v_andV, v_orV, v_notV, v_if, v_nil, v_cons, v_vals, v_tup, v_lst, v_neg, v_ix, v_oN, v_oS, v_sl, v_cb, v_eS, v_next, v_sq, v_thN, v_thR, v_retS, v_rV, v_rO, v_rP, v_rKV, v_rKO, v_ifS, v_set, v_sV, v_sO, v_sP, v_sKV, v_asg, v_optS, v_gN, v_gT, v_gC, v_gNil, v_loopN, v_loopC, v_turnK, v_tuN, v_tuB, v_tuR, v_tuE, v_for, v_iW, v_wipe, v_wN, v_wR, v_iS, v_r1, v_r2, v_r1K, v_r2K, v_lcN, v_lcC, v_lcG, v_lcT, v_lcE, v_yes, v_comp, v_call, v_callF, v_callK, v_mk, v_outR, v_take, v_pubO, v_pubV, v_pubP, v_ixL, v_ixT, v_ixS, v_slL, v_slS, v_addI, v_addS, v_addL, v_sub, v_mod, v_pow, v_fdiv, v_mulI, v_mulL, v_cI, v_cNS, v_lenL, v_lenT, v_lenS, v_intI, v_intB, v_abs, v_max2, v_min2, v_listL, v_listT, v_tupleL, v_par, v_putN, v_putC, v_inT, v_ngT, v_ngF, v_inDN, v_inDC, v_flN, v_flB, v_flI, v_flS, v_flT, v_flL, v_rev, v_lstO, v_aug, v_augO, v_augR, v_augRK, v_augAK, v_augB, v_augBK, v_ppN, v_ppC, v_setIx, v_setIxS, v_setIx0, v_setIxK, v_setIx1, v_setIx2, v_chain, v_bAll, Option.isSome_some, Option.isSome_none, Option.getD_some, Option.getD_none, putD, List.foldl_cons, List.foldl_nil, List.any_cons, List.any_nil, Bool.or_false, Bool.false_or, Bool.or_true, Bool.true_or, List.find?_cons, List.find?_nil, R.val.injEq, v_itemsL, v_itemsT, gt, st, wipeD, backD, R.stay, vals?, startK, v_at0, v_at1, v_at2, v_at3, v_at4, v_at5, v_atL, T.bind_ret, T.bind_fail, T.bind_ite, T.bind_any, T.All_retE, T.All_anyE, T.All_failE, T.All_iteE, ite_ap, cEqF, okk, eqD, eqAll, ofS_inj, ofS_beq, strOk_ofS, Option.bind_some, Option.map_some, Option.map_none, Sum.inr.injEq, Sum.inl.injEq, List.length_cons, List.length_nil, if_true, if_false, ite_true, ite_false, Bool.not_true, Bool.not_false, beq_self_eq_true, beq_iff_eq, decide_true, decide_false, decide_eq_true_eq, and_self, and_true, true_and, and_false, false_and, Bool.false_eq_true, Bool.true_eq_false, reduceIte, reduceCtorEq, Nat.reduceAdd, Nat.reduceEqDiff, Nat.reduceLeDiff, Nat.reduceLT, String.reduceEq, Int.reduceNeg, Int.reduceLE, Int.reduceLT, Int.reduceEq, Int.reduceToNat, Int.reducePow, Int.reduceAdd, Int.reduceSub, Int.reduceMul, Int.reduceAbs, Int.natAbs_neg, Nat.reducePow, Bool.and_true, Bool.true_and, Bool.and_false, Bool.false_and, List.lookup, sizeLine_eq, Option.some.injEq, List.all_cons, List.all_nil, List.nil_append, List.cons_append, Bool.not_eq_true', Bool.and_eq_true, not_true_eq_false, not_false_eq_true, List.map_cons, List.map_nil, decide_not, true_implies, false_implies, implies_true, not_true, ne_eq, Bool.not_eq_eq_eq_not, $xs,*])
theorem is_integer_eq (v : Val) : m_is_integer [.val v.d] = .ret (.val (.val (.bl v.isI))) := by
  unfold m_is_integer fs_is_integer
  cases v <;> simp only [Val.d] <;> walk_at "ev" <;> rfl
set_option maxHeartbeats 1000000
set_option maxHeartbeats 1000000
theorem one_all (ds : List D) (h0 : 0 < ds.length) (h1 : ds.length < 1000000) : (m__law_one [.bag, .val (.lst ds)]).All fun o => ∃ d ∈ ds, o = .val (.val d) := by
  unfold m__law_one fs__law_one
  walk_at "ev"
  walk_at "pl"
  refine all_take (fun r r0 r1 => ?_) (by omega) (by omega)
  walk_at "ev"
  rw [atI_ok r0 r1]
  walk_at "ev"
  exact ⟨_, List.getElem_mem _, rfl⟩
theorem number_all : (m__law_number [.bag]).All fun o => ∃ n : Int, Sm n ∧ o = .val (.val (.int n)) := by
  unfold m__law_number fs__law_number
  walk_at "ev"
  walk_at "pl"
  refine all_take fun way w0 w1 => ?_
  walk_at "ev"
  refine ⟨fun h => ?_, fun h => ?_⟩
  · walk_at "pl"
    refine all_take fun r r0 r1 => ?_
    walk_at "ev"
    exact ⟨_, ⟨by omega, by omega⟩, rfl⟩
  · have hw : way = 0 ∨ way = 1 := by omega
    have fin : ∀ (x y : Int), -1000000000000 ≤ x → x ≤ 1000000000000 → (y = 1 ∨ y = -1) → mulB x y = true ∧ Sm (x * y) := fun x y x0 x1 hy => by
      have hx : Sm x := ⟨x0, x1⟩
      have hy' : Sm y := by rcases hy with rfl | rfl <;> exact ⟨by decide, by decide⟩
      refine ⟨mul_ok (e := 40) (sm_bg hx) hy' (by decide) (by decide), ?_⟩
      rcases hy with rfl | rfl
      · rw [Int.mul_one]; exact hx
      · exact ⟨by omega, by omega⟩
    walk_at "pl"
    refine all_take fun a a0 a1 => ?_
    walk_at "ev"
    walk_at "pl"
    refine all_take fun b b0 b1 => ?_
    rcases hw with rfl | rfl
    · walk_at "ev"
      walk_at "pl"
      refine all_take fun c c0 c1 => ?_
      have hc : c = 0 ∨ c = 1 := by omega
      rcases hc with rfl | rfl
      · walk_at "ev"
        obtain ⟨f1, f2⟩ := fin (1000000000000 - a) 1 (by omega) (by omega) (.inl rfl)
        exact ⟨fun _ => ⟨_, f2, rfl⟩, fun z => absurd f1 z⟩
      · walk_at "ev"
        obtain ⟨f1, f2⟩ := fin (1000000000000 - a) (-1) (by omega) (by omega) (.inr rfl)
        exact ⟨fun _ => ⟨_, f2, rfl⟩, fun z => absurd f1 z⟩
    · walk_at "ev"
      walk_at "pl"
      refine all_take fun c c0 c1 => ?_
      have hc : c = 0 ∨ c = 1 := by omega
      rcases hc with rfl | rfl
      · walk_at "ev"
        obtain ⟨f1, f2⟩ := fin b 1 (by omega) (by omega) (.inl rfl)
        exact ⟨fun _ => ⟨_, f2, rfl⟩, fun z => absurd f1 z⟩
      · walk_at "ev"
        obtain ⟨f1, f2⟩ := fin b (-1) (by omega) (by omega) (.inr rfl)
        exact ⟨fun _ => ⟨_, f2, rfl⟩, fun z => absurd f1 z⟩
theorem cut6 (xs : List D) : cut xs none (some 6) = xs.take 6 := by
  unfold cut
  rw [HT.sIx_none, List.drop_zero, Nat.sub_zero, show HT.sIx xs.length xs.length (some 6) = min 6 xs.length from HT.sIx_nat _ _ 6]
  rw [List.take_eq_take_iff]; omega
theorem keys_all (by_ : Int) (w : R) (hb : by_ = 1 ∨ by_ = 100000000007) : (fLc (fgN 5) t__law_step_c1 e__law_step_c1 [5] (rngD (-3) 7) [] [.bag, w, .val (.int by_), .no, .no, .no]).All fun p => p.2 = [.bag, w, .val (.int by_), .no, .no, .no] ∧ ∃ ks : List Int, p.1 = ks.map D.int ∧ (∀ k ∈ ks, Sm k) ∧ ks.Nodup := by
  have pos : 0 < by_ := by rcases hb with rfl | rfl <;> decide
  refine lc_all (Iv := fun ds acc => ∃ ks rest : List Int, ds = rest.map D.int ∧ acc = (ks.map (· * by_)).map D.int ∧ (ks ++ rest).Pairwise (· < ·) ∧ (∀ k ∈ ks ++ rest, -3 ≤ k ∧ k ≤ 3) ∧ ks.length + rest.length ≤ 7) ?_ ?_ _ _ ?_
  · rintro d ds acc ⟨ks, rest, e1, e2, h1, h2, h3⟩
    cases rest with
    | nil => cases e1
    | cons k rest =>
      simp only [List.map_cons, List.cons.injEq] at e1
      obtain ⟨rfl, rfl⟩ := e1
      refine ⟨_, rfl, ?_⟩
      unfold t__law_step_c1
      walk_at "ev"
      walk_at "pl"
      refine all_take fun r r0 r1 => ?_
      walk_at "ev"
      refine ⟨_, _, rfl, fun _ => ⟨?_, ?_⟩, fun _ => ⟨rfl, ks, rest, rfl, e2, ?_, ?_, ?_⟩⟩
      · subst e2; simp only [List.length_map, List.length_cons] at h3 ⊢; omega
      · have hk := h2 k (by simp)
        have hm : mulB k by_ = true := mul_ok (e := 40) (sm_bg ⟨by omega, by omega⟩) (by rcases hb with rfl | rfl <;> exact ⟨by decide, by decide⟩) (by decide) (by decide)
        unfold e__law_step_c1
        walk_at "ev"
        refine ⟨fun _ => ?_, fun z => absurd hm z⟩
        refine ⟨_, _, rfl, rfl, ks ++ [k], rest, rfl, ?_, ?_, ?_, ?_⟩
        · subst e2; simp
        · simpa using h1
        · simpa using h2
        · simp only [List.length_append, List.length_cons, List.length_nil] at h3 ⊢; omega
      · exact h1.sublist (by simp)
      · intro x hx; exact h2 x (by simp at hx ⊢; rcases hx with z | z <;> simp [z])
      · simp only [List.length_cons] at h3; omega
  · rintro acc ⟨ks, rest, e1, e2, h1, h2, h3⟩
    refine ⟨rfl, ks.map (· * by_), e2, fun k hk => ?_, ?_⟩
    · obtain ⟨x, hx, rfl⟩ := List.mem_map.mp hk
      have := h2 x (by simp [hx])
      have h9 : by_ ≤ 100000000007 := by rcases hb with rfl | rfl <;> decide
      have a1 : x * by_ ≤ 3 * by_ := Int.mul_le_mul_of_nonneg_right (by omega) (by omega)
      have a2 : (-3) * by_ ≤ x * by_ := Int.mul_le_mul_of_nonneg_right (by omega) (by omega)
      exact ⟨by omega, by omega⟩
    · have := (List.pairwise_append.mp h1).1
      refine List.Pairwise.map _ (fun a b h => ?_) this
      intro e
      have := Int.eq_of_mul_eq_mul_right (by omega) e
      omega
  · exact ⟨[], [-3, -2, -1, 0, 1, 2, 3], rfl, rfl, by decide, by decide, by decide⟩
theorem pairs_all (ks : List Int) (r1 r2 r3 : R) (hk : ∀ k ∈ ks, Sm k) (hl : ks.length ≤ 6) : (fLc (fgN 5) fYes e__law_step_c2 [5] (ks.map D.int) [] [.bag, r1, r2, r3, .no, .no]).All fun p => p.2 = [.bag, r1, r2, r3, .no, .no] ∧ ∃ ps : List (Int × Int), p.1 = ps.map prD ∧ ps.map (·.1) = ks ∧ ∀ p ∈ ps, Sm p.1 ∧ Sm p.2 := by
  refine lc_all (Iv := fun ds acc => ∃ (ps : List (Int × Int)) (rest : List Int), ds = rest.map D.int ∧ acc = ps.map prD ∧ ps.map (·.1) ++ rest = ks ∧ ∀ p ∈ ps, Sm p.1 ∧ Sm p.2) ?_ ?_ _ _ ?_
  · rintro d ds acc ⟨ps, rest, e1, e2, h1, h2⟩
    cases rest with
    | nil => cases e1
    | cons k rest =>
      simp only [List.map_cons, List.cons.injEq] at e1
      obtain ⟨rfl, rfl⟩ := e1
      refine ⟨_, rfl, ?_⟩
      walk_at "ev"
      refine ⟨_, _, rfl, fun _ => ⟨?_, ?_⟩, fun z => by cases z⟩
      · subst e2; subst h1
        simp only [List.length_append, List.length_map, List.length_cons] at hl ⊢
        omega
      · unfold e__law_step_c2
        walk_at "ev"
        walk_at "pl"
        refine T.All_mono number_all fun o ho => ?_
        obtain ⟨n, hn, rfl⟩ := ho
        walk_at "ev"
        refine ⟨_, _, rfl, rfl, ps ++ [(k, n)], rest, rfl, ?_, ?_, ?_⟩
        · subst e2; simp [prD]
        · simpa using h1
        · intro p hp
          rcases List.mem_append.mp hp with z | z
          · exact h2 p z
          · simp at z; subst z; exact ⟨hk _ (by rw [← h1]; simp), hn⟩
  · rintro acc ⟨ps, rest, e1, e2, h1, h2⟩
    cases rest with
    | cons => cases e1
    | nil => exact ⟨rfl, ps, e2, by simpa using h1, h2⟩
  · exact ⟨[], ks, rfl, rfl, rfl, by simp⟩
theorem step_all : (m__law_step [.bag]).All fun o => ∃ s : Stp, s.Ok ∧ o = .val (.val s.d) := by
  unfold m__law_step fs__law_step
  walk_at "ev"
  walk_at "pl"
  refine T.All_mono (one_all _ (by decide) (by decide)) fun o ho => ?_
  obtain ⟨d, hd, rfl⟩ := ho
  simp only [List.mem_cons, List.not_mem_nil, or_false] at hd
  rcases hd with rfl | rfl | rfl | rfl | rfl
  · walk_at "ev"
    walk_at "pl"
    refine T.All_mono number_all fun o ho => ?_
    obtain ⟨n, hn, rfl⟩ := ho
    walk_at "ev"
    exact ⟨fun _ => ⟨.plus n, hn, rfl⟩, fun _ => ⟨.plus n, hn, rfl⟩⟩
  · walk_at "ev"
    walk_at "pl"
    refine T.All_mono number_all fun o ho => ?_
    obtain ⟨n, hn, rfl⟩ := ho
    walk_at "ev"
    exact ⟨fun z => ⟨.times n, ⟨hn, by simpa using z⟩, rfl⟩, fun _ => ⟨.times 2, ⟨⟨by decide, by decide⟩, by decide⟩, rfl⟩⟩
  · walk_at "ev"
    walk_at "pl"
    refine T.All_mono number_all fun o ho => ?_
    obtain ⟨n, hn, rfl⟩ := ho
    walk_at "ev"
    refine ⟨.into (if (if n < 0 then -n else n) > 1 then (if n < 0 then -n else n) else 1), ?_, rfl⟩
    unfold Sm at hn
    show Sm _ ∧ 1 ≤ _
    unfold Sm
    split <;> split <;> omega
  · walk_at "ev"
    walk_at "pl"
    refine T.All_mono number_all fun o ho => ?_
    obtain ⟨n, hn, rfl⟩ := ho
    walk_at "ev"
    exact ⟨fun _ => ⟨.over n, hn, rfl⟩, fun _ => ⟨.over n, hn, rfl⟩⟩
  · walk_at "ev"
    walk_at "pl"
    refine all_take fun r r0 r1 => ?_
    walk_at "ev"
    have hat : ∃ by_ : Int, (by_ = 1 ∨ by_ = 100000000007) ∧ atI [D.int 1, D.int 1, D.int 1, D.int 100000000007] r = some (.int by_) := by
      have : r = 0 ∨ r = 1 ∨ r = 2 ∨ r = 3 := by omega
      rcases this with rfl | rfl | rfl | rfl
      · exact ⟨1, .inl rfl, v_at0⟩
      · exact ⟨1, .inl rfl, v_at1⟩
      · exact ⟨1, .inl rfl, v_at2⟩
      · exact ⟨_, .inr rfl, v_at3⟩
    obtain ⟨by_, hb, hat⟩ := hat
    rw [hat]
    walk_at "ev"
    walk_at "pl"
    refine T.All_mono (keys_all by_ _ hb) fun p hp => ?_
    obtain ⟨e1, ks, e2, h1, h2⟩ := hp
    obtain ⟨p1, p2⟩ := p
    simp only at e1 e2
    subst e1; subst e2
    walk_at "ev"
    rw [cut6, ← List.map_take]
    walk_at "pl"
    refine T.All_mono (pairs_all (ks.take 6) _ _ _ (fun k hk => h1 k (List.mem_of_mem_take hk)) (by simp; omega)) fun p hp => ?_
    obtain ⟨e1, ps, e2, h3, h4⟩ := hp
    obtain ⟨p1, p2⟩ := p
    simp only at e1 e2
    subst e1; subst e2
    walk_at "ev"
    refine ⟨.found ps, ⟨?_, h4, ?_⟩, rfl⟩
    · have := congrArg List.length h3
      simp at this; omega
    · rw [h3]; exact h2.sublist (List.take_sublist _ _)
theorem steps_lc (n : Nat) (hn : n ≤ 4) (r1 r2 r3 r4 : R) : (fLc (fgN 5) fYes e__law_test_c1 [5] (rngD 0 n) [] [.bag, r1, r2, r3, r4, .no]).All fun p => p.2 = [.bag, r1, r2, r3, r4, .no] ∧ ∃ ss : List Stp, p.1 = ss.map Stp.d ∧ ss.length ≤ 4 ∧ ∀ s ∈ ss, s.Ok := by
  refine lc_all (Iv := fun ds acc => ∃ ss : List Stp, acc = ss.map Stp.d ∧ ss.length + ds.length ≤ 4 ∧ ∀ s ∈ ss, s.Ok) ?_ ?_ _ _ ?_
  · rintro d ds acc ⟨ss, e, h1, h2⟩
    refine ⟨_, rfl, ?_⟩
    walk_at "ev"
    simp only [List.length_cons] at h1
    refine ⟨_, _, rfl, fun _ => ⟨by subst e; simp only [List.length_map]; omega, ?_⟩, fun z => by cases z⟩
    unfold e__law_test_c1
    walk_at "ev"
    walk_at "pl"
    refine T.All_mono step_all fun o ho => ?_
    obtain ⟨s, hs, rfl⟩ := ho
    walk_at "ev"
    refine ⟨_, _, rfl, rfl, ss ++ [s], by subst e; simp, by simp only [List.length_append, List.length_cons, List.length_nil]; omega, fun x hx => ?_⟩
    rcases List.mem_append.mp hx with z | z
    · exact h2 x z
    · simp at z; subst z; exact hs
  · rintro acc ⟨ss, e, h1, h2⟩
    exact ⟨rfl, ss, e, by simpa using h1, h2⟩
  · exact ⟨[], rfl, by simpa [rngD_len] using hn, by simp⟩
theorem sign_of {d : D} (h : d ∈ [D.str (Str.ofString "<"), .str (Str.ofString "<="), .str (Str.ofString "<>"), .str (Str.ofString "="), .str (Str.ofString ">"), .str (Str.ofString ">=")]) : ∃ g : Sg, d = .str (Str.ofString g.s) := by
  simp only [List.mem_cons, List.not_mem_nil, or_false] at h
  rcases h with rfl | rfl | rfl | rfl | rfl | rfl
  · exact ⟨.lt, rfl⟩
  · exact ⟨.le, rfl⟩
  · exact ⟨.ne, rfl⟩
  · exact ⟨.eq, rfl⟩
  · exact ⟨.gt, rfl⟩
  · exact ⟨.ge, rfl⟩
theorem test_all (ns : List String) (h0 : 0 < ns.length) (h1 : ns.length < 1000) : (m__law_test [.bag, .val (nmD ns)]).All fun o => ∃ l : Leaf, l.Ok ns ∧ l.col ≠ none ∧ o = .val (.val l.d) := by
  unfold m__law_test fs__law_test
  simp only [nmD]
  have hone := one_all (ns.map fun s => .str (Str.ofString s)) (by rw [List.length_map]; exact h0) (by rw [List.length_map]; omega)
  generalize hL : ns.map (fun s => D.str (Str.ofString s)) = L at *
  walk_at "ev"
  walk_at "pl"
  refine T.All_mono hone fun o ho => ?_
  obtain ⟨d, hd, rfl⟩ := ho
  rw [← hL] at hd
  obtain ⟨c, hc, rfl⟩ := List.mem_map.mp hd
  walk_at "ev"
  walk_at "pl"
  refine all_take fun way w0 w1 => ?_
  have fin : ∀ (ss : List Stp) (g : Sg) (k : Int), ss.length ≤ 4 → (∀ s ∈ ss, s.Ok) → 0 ≤ k → k < 9 → ∃ l : Leaf, l.Ok ns ∧ l.col ≠ none ∧ (FR.val (.val (.tup [.str (Str.ofString "asks"), .str (Str.ofString c), .tup (ss.map Stp.d), .str (Str.ofString g.s), .int (k - 4)])) : FR) = .val (.val l.d) :=
    fun ss g k hl hs k0 k1 => ⟨.ask c ss g (k - 4), ⟨hc, hl, hs, by omega, by omega⟩, (by intro z; cases z), rfl⟩
  walk_at "ev"
  refine ⟨fun hw => ?_, fun hw => ⟨fun hw4 => ?_, fun hw4 => ?_⟩⟩
  · have : way = 0 ∨ way = 1 := by omega
    rcases this with rfl | rfl
    · walk_at "ev"; exact ⟨.emp c, hc, (by intro z; cases z), rfl⟩
    · walk_at "ev"; exact ⟨.num c, hc, (by intro z; cases z), rfl⟩
  · walk_at "pl"
    refine all_take fun a a0 a1 => ?_
    walk_at "ev"
    walk_at "pl"
    refine all_take fun b b0 b1 => ?_
    walk_at "ev"
    refine ⟨fun hw7 => ?_, fun hw7 => ?_⟩
    · walk_at "pl"
      refine all_take fun e e0 e1 => ?_
      walk_at "ev"
      refine yes ⟨by omega, by omega⟩ ?_
      walk_at "pl"
      refine T.All_mono (steps_lc (1 + e).toNat (by omega) _ _ _ _) fun p hp => ?_
      obtain ⟨e1, ss, e2, h2, h3⟩ := hp
      obtain ⟨p1, p2⟩ := p
      simp only at e1 e2
      subst e1; subst e2
      walk_at "ev"
      walk_at "pl"
      refine T.All_mono (one_all _ (by decide) (by decide)) fun o ho => ?_
      obtain ⟨d, hd, rfl⟩ := ho
      obtain ⟨g, rfl⟩ := sign_of hd
      walk_at "ev"
      walk_at "pl"
      refine all_take fun k k0 k1 => ?_
      walk_at "ev"
      exact fin ss g k h2 h3 k0 k1
    · walk_at "pl"
      refine T.All_mono (one_all _ (by decide) (by decide)) fun o ho => ?_
      obtain ⟨d, hd, rfl⟩ := ho
      obtain ⟨g, rfl⟩ := sign_of hd
      walk_at "ev"
      walk_at "pl"
      refine all_take fun k k0 k1 => ?_
      walk_at "ev"
      refine fin [.plus (a - 3), .over (b - 4)] g k (by simp) (fun s hs => ?_) k0 k1
      simp only [List.mem_cons, List.not_mem_nil, or_false] at hs
      rcases hs with rfl | rfl
      · exact ⟨by omega, by omega⟩
      · exact ⟨by omega, by omega⟩
  · have hw7 : ¬ 7 < way := by omega
    simp only [hw7, false_implies, not_false_eq_true, true_implies, true_and]
    walk_at "pl"
    refine T.All_mono (one_all _ (by decide) (by decide)) fun o ho => ?_
    obtain ⟨d, hd, rfl⟩ := ho
    obtain ⟨g, rfl⟩ := sign_of hd
    walk_at "ev"
    walk_at "pl"
    refine all_take fun k k0 k1 => ?_
    walk_at "ev"
    exact fin [] g k (by decide) (by simp) k0 k1
theorem leaf_all (ns : List String) (h0 : 0 < ns.length) (h1 : ns.length < 1000) : (m__law_leaf [.bag, .val (nmD ns)]).All fun o => ∃ l : Leaf, l.Ok ns ∧ o = .val (.val l.d) := by
  have ht := test_all ns h0 h1
  unfold m__law_leaf fs__law_leaf
  generalize nmD ns = L at *
  walk_at "ev"
  walk_at "pl"
  refine all_take fun way w0 w1 => ?_
  walk_at "ev"
  refine ⟨fun _ => ?_, fun _ => ?_⟩
  · walk_at "pl"
    refine T.All_mono (one_all _ (by decide) (by decide)) fun o ho => ?_
    obtain ⟨d, hd, rfl⟩ := ho
    simp only [List.mem_cons, List.not_mem_nil, or_false] at hd
    rcases hd with rfl | rfl | rfl | rfl
    · walk_at "ev"; exact ⟨.alw .er, trivial, rfl⟩
    · walk_at "ev"; exact ⟨.alw .no, trivial, rfl⟩
    · walk_at "ev"; exact ⟨.alw .un, trivial, rfl⟩
    · walk_at "ev"; exact ⟨.alw .ye, trivial, rfl⟩
  · walk_at "pl"
    refine T.All_mono ht fun o ho => ?_
    obtain ⟨l, hl, _, rfl⟩ := ho
    walk_at "ev"
    exact ⟨l, hl, rfl⟩
theorem small_all (ns : List String) (h0 : 0 < ns.length) (h1 : ns.length < 1000) : (m__law_small [.bag, .val (nmD ns)]).All fun o => ∃ c : Cnd, Fit ns 0 c ∧ o = .val (.val c.d) := by
  have ht := leaf_all ns h0 h1
  unfold m__law_small fs__law_small
  generalize nmD ns = L at *
  walk_at "ev"
  walk_at "pl"
  refine all_take fun way w0 w1 => ?_
  walk_at "ev"
  walk_at "pl"
  refine T.All_mono ht fun o ho => ?_
  obtain ⟨l, hl, rfl⟩ := ho
  have one : ∀ p ∈ [Cnd.leaf l], ∃ l : Leaf, l.Ok ns ∧ p = .leaf l := fun p hp => ⟨l, hl, List.mem_singleton.mp hp⟩
  walk_at "ev"
  refine ⟨fun _ => ?_, fun _ => ⟨fun _ => ?_, fun _ => ?_⟩⟩
  · walk_at "pl"
    refine T.All_mono (one_all _ (by simp only [List.length_cons]; omega) (by simp only [List.length_cons, List.length_nil]; omega)) fun o ho => ?_
    obtain ⟨d, hd, rfl⟩ := ho
    simp only [List.mem_cons, List.not_mem_nil, or_false] at hd
    rcases hd with rfl | rfl | rfl | rfl | rfl
    · walk_at "ev"; exact ⟨.node .all [], fit_small trivial (by simp) (by simp), by simp only [Cnd.d, Cnd.ds, nodeD]⟩
    · walk_at "ev"; exact ⟨.node .any [], fit_small trivial (by simp) (by simp), by simp only [Cnd.d, Cnd.ds, nodeD]⟩
    · walk_at "ev"; exact ⟨.node .fst [], fit_small trivial (by simp) (by simp), by simp only [Cnd.d, Cnd.ds, nodeD]⟩
    · walk_at "ev"; exact ⟨.node .cas [.leaf l], fit_small rfl (by simp) one, by simp [Cnd.d, Cnd.ds, nodeD, pairsU, lastD]⟩
    · walk_at "ev"; exact ⟨.node .cas [.leaf l], fit_small rfl (by simp) one, by simp [Cnd.d, Cnd.ds, nodeD, pairsU, lastD]⟩
  · walk_at "pl"
    refine T.All_mono (one_all _ (by simp only [List.length_cons]; omega) (by simp only [List.length_cons, List.length_nil]; omega)) fun o ho => ?_
    obtain ⟨d, hd, rfl⟩ := ho
    simp only [List.mem_cons, List.not_mem_nil, or_false] at hd
    rcases hd with rfl | rfl | rfl | rfl | rfl
    · walk_at "ev"; exact ⟨.node .not [.leaf l], fit_small rfl (by simp) one, by simp [Cnd.d, Cnd.ds, nodeD, lastD]⟩
    · walk_at "ev"; exact ⟨.node .not [.leaf l], fit_small rfl (by simp) one, by simp [Cnd.d, Cnd.ds, nodeD, lastD]⟩
    · walk_at "ev"; exact ⟨.node .all [.leaf l], fit_small trivial (by simp) one, by simp [Cnd.d, Cnd.ds, nodeD]⟩
    · walk_at "ev"; exact ⟨.node .any [.leaf l], fit_small trivial (by simp) one, by simp [Cnd.d, Cnd.ds, nodeD]⟩
    · walk_at "ev"; exact ⟨.node .fst [.leaf l], fit_small trivial (by simp) one, by simp [Cnd.d, Cnd.ds, nodeD]⟩
  · exact ⟨.leaf l, fit_leaf hl, by simp only [Cnd.d]⟩
set_option maxHeartbeats 1000000
theorem ones (n : Nat) : (List.replicate n [D.int 1]).flatten = (List.replicate n (1 : Int)).map D.int := by
  induction n with
  | zero => rfl
  | succ n ih => simp only [List.replicate_succ, List.flatten_cons, ih, List.map_cons, List.cons_append, List.nil_append]
theorem sum_rep (n : Nat) : (List.replicate n (1 : Int)).sum = n := by
  induction n with
  | zero => rfl
  | succ n ih => rw [List.replicate_succ, List.sum_cons, ih]; omega
theorem sum_set_one : ∀ (xs : List Int) {r : Nat} (hr : r < xs.length), (xs.set r (xs[r] + 1)).sum = xs.sum + 1
  | [], _, hr => absurd hr (Nat.not_lt_zero _)
  | x :: xs, 0, hr => by simp only [List.set_cons_zero, List.sum_cons, List.getElem_cons_zero]; omega
  | x :: xs, r + 1, hr => by
    have := sum_set_one xs (r := r) (by simpa using hr)
    simp only [List.set_cons_succ, List.sum_cons, List.getElem_cons_succ]
    omega
def Fit2 (ns : List String) (deep : Nat) (many : Int) (c : Cnd) : Prop := Fit ns deep c ∧ (c.lv : Int) ≤ many
theorem lvs_app : ∀ (ps : List Cnd) (c : Cnd), Cnd.lvs (ps ++ [c]) = Cnd.lvs ps + c.lv
  | [], c => by simp [Cnd.lvs]
  | p :: ps, c => by
    simp only [List.cons_append, Cnd.lvs, lvs_app ps c]
    omega
theorem split_all (many num : Int) (h1 : 1 ≤ num) (h2 : num ≤ 5) (h3 : num ≤ many) (h4 : many ≤ 1000) : (m__law_split [.bag, .val (.int many), .val (.int num)]).All fun o => ∃ xs : List Int, o = .val (.own (.lst (xs.map D.int))) ∧ xs.length = num.toNat ∧ (∀ x ∈ xs, 1 ≤ x ∧ x ≤ many) ∧ xs.sum = many := by
  unfold m__law_split fs__law_split
  walk_at "ev"
  refine yes ⟨by omega, by omega, by omega⟩ ?_
  refine yes ⟨by omega, by omega⟩ ?_
  rw [ones]
  walk_at "pl"
  refine T.All_mono (loop_inv (P := fun o => ∃ xs : List Int, o = .nx [.bag, .val (.int many), .val (.int num), .own (.lst (xs.map D.int)), .no] ∧ xs.length = num.toNat ∧ (∀ x ∈ xs, 1 ≤ x ∧ x ≤ many) ∧ xs.sum = many) (fun ds δ => ∃ xs : List Int, δ = [.bag, .val (.int many), .val (.int num), .own (.lst (xs.map D.int)), .no] ∧ xs.length = num.toNat ∧ (∀ x ∈ xs, 1 ≤ x ∧ x + ds.length ≤ 1 + (many - num)) ∧ xs.sum + ds.length = many) ?_ ?_ _ _ ⟨List.replicate num.toNat 1, rfl, by simp, fun x hx => ?_, by rw [sum_rep, rngD_len]; omega⟩) fun o ho => ?_
  · rintro d ds δ ⟨xs, rfl, hl, hx, hsum⟩
    refine ⟨_, rfl, ?_⟩
    unfold b__law_split_1
    walk_at "ev"
    walk_at "pl"
    refine all_take (fun r r0 r1 => ?_) (by omega) (by omega)
    walk_at "ev"
    refine yes ⟨by omega, by omega⟩ ?_
    have hr : r.toNat < xs.length := by omega
    rw [List.getElem?_map, List.getElem?_eq_getElem hr]
    walk_at "ev"
    rw [List.length_map]
    refine yes hr ?_
    refine ⟨xs.set r.toNat (xs[r.toNat] + 1), by rw [List.map_set], by rw [List.length_set]; exact hl, fun x hx' => ?_, by rw [sum_set_one xs hr]; simp only [List.length_cons] at hsum; omega⟩
    simp only [List.length_cons] at hx
    rcases List.mem_or_eq_of_mem_set hx' with z | z
    · have := hx x z; omega
    · have := hx _ (List.getElem_mem hr); omega
  · rintro δ ⟨xs, rfl, hl, hx, hsum⟩
    exact ⟨xs, rfl, hl, fun x h => by have := hx x h; simp only [List.length_nil] at this; omega, by simpa using hsum⟩
  · have := List.eq_of_mem_replicate hx
    subst this
    rw [rngD_len]
    omega
  · obtain ⟨xs, rfl, hl, hx, hsum⟩ := ho
    walk_at "ev"
    exact ⟨xs, rfl, hl, hx, hsum⟩
theorem parts_lc {ns : List String} {deep : Nat} {rt : FM} {L : D} {many : Int} {r4 r5 : R} (ih : ∀ m : Int, 1 ≤ m → m ≤ many → (rt [.bag, .val L, .val (.int m), .val (.int deep)]).All fun o => ∃ c : Cnd, Fit2 ns deep m c ∧ o = .val (.val c.d)) (xs : List Int) (hx : ∀ x ∈ xs, 1 ≤ x ∧ x ≤ many) (hl : xs.length ≤ 5) :
    (fLc (fgN 7) fYes (e__law_tree_c1 rt) [7] (xs.map D.int) [] [.bag, .val L, .val (.int many), .val (.int (deep + 1)), r4, r5, .no, .no, .no]).All fun p => p.2 = [.bag, .val L, .val (.int many), .val (.int (deep + 1)), r4, r5, .no, .no, .no] ∧ ∃ ps : List Cnd, p.1 = Cnd.ds ps ∧ ps.length = xs.length ∧ (∀ p ∈ ps, Fit ns deep p) ∧ (Cnd.lvs ps : Int) ≤ xs.sum := by
  refine lc_all (Iv := fun ds acc => ∃ (ps : List Cnd) (rest : List Int), ds = rest.map D.int ∧ acc = Cnd.ds ps ∧ ps.length + rest.length = xs.length ∧ (∀ x ∈ rest, 1 ≤ x ∧ x ≤ many) ∧ (∀ p ∈ ps, Fit ns deep p) ∧ (Cnd.lvs ps : Int) + rest.sum ≤ xs.sum) ?_ ?_ _ _ ?_
  · rintro d ds acc ⟨ps, rest, e1, e2, h1, h2, h3, h4⟩
    cases rest with
    | nil => cases e1
    | cons k rest =>
      simp only [List.map_cons, List.cons.injEq] at e1
      obtain ⟨rfl, rfl⟩ := e1
      refine ⟨_, rfl, ?_⟩
      walk_at "ev"
      simp only [List.length_cons] at h1
      refine ⟨_, _, rfl, fun _ => ⟨by subst e2; rw [ds_len]; omega, ?_⟩, fun z => by cases z⟩
      unfold e__law_tree_c1
      walk_at "ev"
      rw [show (deep : Int) + 1 - 1 = deep by omega]
      walk_at "pl"
      have hk := h2 k (List.mem_cons_self ..)
      refine T.All_mono (ih k hk.1 hk.2) fun o ho => ?_
      obtain ⟨c, hc, rfl⟩ := ho
      walk_at "ev"
      refine ⟨_, _, rfl, rfl, ps ++ [c], rest, rfl, ?_, ?_, fun x hx => h2 x (List.mem_cons_of_mem _ hx), fun p hp => ?_, by rw [lvs_app]; have := hc.2; rw [List.sum_cons] at h4; omega⟩
      · subst e2; rw [ds_map, ds_map]; simp
      · simp only [List.length_append, List.length_cons, List.length_nil]; omega
      · rcases List.mem_append.mp hp with z | z
        · exact h3 p z
        · simp at z; subst z; exact hc.1
  · rintro acc ⟨ps, rest, e1, e2, h1, h2, h3, h4⟩
    cases rest with
    | cons => cases e1
    | nil => exact ⟨rfl, ps, e2, by simpa using h1, h3, by simpa using h4⟩
  · exact ⟨[], xs, rfl, by simp only [Cnd.ds], by simp, hx, by simp, by simp [Cnd.lvs]⟩
theorem tree_all (ns : List String) (h0 : 0 < ns.length) (h1 : ns.length < 1000) : ∀ (deep n : Nat), deep + 1 ≤ n → ∀ many : Int, 1 ≤ many → many ≤ 1000 → (m__law_tree n [.bag, .val (nmD ns), .val (.int many), .val (.int deep)]).All fun o => ∃ c : Cnd, Fit2 ns deep many c ∧ o = .val (.val c.d) := by
  have hsm := small_all ns h0 h1
  generalize nmD ns = L at *
  intro deep
  induction deep with
  | zero =>
    intro n hn many hm hm2
    obtain ⟨n, rfl⟩ := Nat.le.dest hn
    rw [Nat.add_comm, mS__law_tree]
    unfold fs__law_tree
    walk_at "ev"
    have fin : ∀ f : FR → T FR, (∀ c : Cnd, f (.val (.val c.d)) = .ret (.val (.val c.d))) → ((m__law_small [.bag, .val L]).bind f).All fun o => ∃ c : Cnd, Fit2 ns 0 many c ∧ o = .val (.val c.d) := fun f hf => T.All_of hsm fun o ho => by
      obtain ⟨c, hc, rfl⟩ := ho
      rw [hf c, T.All_retE]
      exact ⟨c, ⟨hc, by have := hc.2.2.1; simp only [Nat.pow_zero] at this; omega⟩, rfl⟩
    refine ⟨fun _ => ?_, fun _ => ⟨fun _ => ?_, fun z => absurd (by decide) z⟩⟩
    · walk_at "pl"
      refine T.All_mono hsm fun o ho => ?_
      obtain ⟨c, hc, rfl⟩ := ho
      walk_at "ev"
      exact ⟨c, ⟨hc, by have := hc.2.2.1; simp only [Nat.pow_zero] at this; omega⟩, rfl⟩
    · walk_at "pl"
      refine T.All_mono hsm fun o ho => ?_
      obtain ⟨c, hc, rfl⟩ := ho
      walk_at "ev"
      exact ⟨c, ⟨hc, by have := hc.2.2.1; simp only [Nat.pow_zero] at this; omega⟩, rfl⟩
  | succ deep ih =>
    intro n hn many hm hm2
    obtain ⟨n, rfl⟩ := Nat.le.dest (show 1 ≤ n by omega)
    rw [Nat.add_comm 1 n, mS__law_tree]
    have ih := fun (m : Int) (m1 : 1 ≤ m) (m2 : m ≤ many) => ih n (by omega) m m1 (by omega)
    generalize m__law_tree n = rt at ih ⊢
    rw [show ((deep + 1 : Nat) : Int) = (deep : Int) + 1 by omega]
    unfold fs__law_tree
    walk_at "ev"
    refine ⟨fun _ => ?_, fun hm' => ⟨fun z => absurd z (by omega), fun _ => ?_⟩⟩
    · walk_at "pl"
      refine T.All_mono hsm fun o ho => ?_
      obtain ⟨c, hc, rfl⟩ := ho
      walk_at "ev"
      exact ⟨c, ⟨hc.up (by omega), by have := hc.2.2.1; simp only [Nat.pow_zero] at this; omega⟩, rfl⟩
    · walk_at "pl"
      refine all_take fun way w0 w1 => ?_
      walk_at "ev"
      walk_at "pl"
      refine all_take (fun k k0 k1 => ?_) (by split <;> omega) (by split <;> omega)
      have k5 : 2 + k ≤ 5 ∧ 2 + k ≤ many := by split at k1 <;> omega
      have hway : way = 0 ∨ way = 1 ∨ 2 ≤ way := by omega
      have nodes : ∀ (w : Int) (num : Int), w ≠ 0 → (w = 1 → ¬ 2 < many) → w < 9 → 0 ≤ w → 1 ≤ num → num ≤ 5 → num ≤ many → (fSq (fSet 6 (fComp (fiSeq (fCall m__law_split (fCons (fVar 0) (fCons (fVar 2) (fCons (fVar 5) fNil))))) (fgN 7) fYes (e__law_tree_c1 rt) [7]))
  (fSq (fIfS (fAnd (fTst (fCmp (cEqF false) (fVar 4) (fC (.int 1)))) (fTst (fCmp cGt (fVar 2) (fC (.int 2))))) (fRet (fTup (fCons (fC (.str "case")) (fCons (fCB bTupleF (fCons (fComp (fiRng1 (fCons (fBin gFdivF (fVar 5) (fC (.int 2))) fNil)) (fgN 8) fYes (e__law_tree_c2 rt) [8]) fNil)) (fCons (fIx (fVar 6) (fNeg (fC (.int 1)))) fNil))))) fNext)
  (fRet (fTup (fCons (fIf (fTst (fCmp cLt (fVar 4) (fC (.int 3)))) (fC (.str "first")) (fIx (fLst (fCons (fC (.str "all")) (fCons (fC (.str "any")) fNil))) (fBin gModF (fCB bIntF (fCons (fVar 4) fNil)) (fC (.int 2))))) (fCons (fCB bTupleF (fCons (fVar 6) fNil)) fNil))))) [.bag, .val L, .val (.int many), .val (.int (deep + 1)), .val (.int w), .val (.int num), .no, .no, .no]).All fun o => ∃ c : Cnd, Fit2 ns (deep + 1) many c ∧ o = .rt (.val c.d) [] := by
        intro w num n0 n1 n9 np m1 m2 m3
        walk_at "ev"
        walk_at "pl"
        refine T.All_mono (split_all many num m1 m2 m3 hm2) fun o ho => ?_
        obtain ⟨xs, rfl, hl, hx, hsum⟩ := ho
        walk_at "ev"
        walk_at "pl"
        refine T.All_mono (parts_lc ih xs hx (by omega)) fun p hp => ?_
        obtain ⟨e1, ps, e2, h2, h3, h4⟩ := hp
        obtain ⟨p1, p2⟩ := p
        simp only at e1 e2
        subst e1; subst e2
        have fin : ∀ kk : K, kOk kk ps.length → Fit2 ns (deep + 1) many (.node kk ps) := fun kk hk => ⟨fit_node hk (by omega) h3, by simp only [Cnd.lv]; omega⟩
        walk_at "ev"
        have last : (w < 3 → ∃ c : Cnd, Fit2 ns (deep + 1) many c ∧ SO.rt (R.val (D.tup [.str (Str.ofString "first"), .tup (Cnd.ds ps)])) [] = .rt (.val c.d) []) := fun _ => ⟨.node .fst ps, fin _ trivial, by simp only [Cnd.d, nodeD]⟩
        have hmod : w.fmod 2 = 0 ∨ w.fmod 2 = 1 := by
          rw [Int.fmod_eq_emod_of_nonneg _ (by decide)]; omega
        have tail : (w < 3 → ∃ c : Cnd, Fit2 ns (deep + 1) many c ∧ SO.rt (R.val (D.tup [.str (Str.ofString "first"), .tup (Cnd.ds ps)])) [] = .rt (.val c.d) []) ∧ (¬ w < 3 → True) := ⟨last, fun _ => trivial⟩
        refine ⟨fun z => ⟨fun z2 => absurd z2 (n1 z), fun _ => ?_⟩, fun _ => ?_⟩
        · subst z
          walk_at "ev"
          exact last (by decide)
        · refine ⟨last, fun _ => ?_⟩
          rcases hmod with z | z
          · rw [z]
            walk_at "ev"
            exact ⟨.node .all ps, fin _ trivial, by simp only [Cnd.d, nodeD]⟩
          · rw [z]
            walk_at "ev"
            exact ⟨.node .any ps, fin _ trivial, by simp only [Cnd.d, nodeD]⟩
      have cases_ : ∀ (num : Int), (num = 3 ∨ num = 5) → num ≤ many → (fSq (fSet 6 (fComp (fiSeq (fCall m__law_split (fCons (fVar 0) (fCons (fVar 2) (fCons (fVar 5) fNil))))) (fgN 7) fYes (e__law_tree_c1 rt) [7]))
  (fSq (fIfS (fAnd (fTst (fCmp (cEqF false) (fVar 4) (fC (.int 1)))) (fTst (fCmp cGt (fVar 2) (fC (.int 2))))) (fRet (fTup (fCons (fC (.str "case")) (fCons (fCB bTupleF (fCons (fComp (fiRng1 (fCons (fBin gFdivF (fVar 5) (fC (.int 2))) fNil)) (fgN 8) fYes (e__law_tree_c2 rt) [8]) fNil)) (fCons (fIx (fVar 6) (fNeg (fC (.int 1)))) fNil))))) fNext)
  (fRet (fTup (fCons (fIf (fTst (fCmp cLt (fVar 4) (fC (.int 3)))) (fC (.str "first")) (fIx (fLst (fCons (fC (.str "all")) (fCons (fC (.str "any")) fNil))) (fBin gModF (fCB bIntF (fCons (fVar 4) fNil)) (fC (.int 2))))) (fCons (fCB bTupleF (fCons (fVar 6) fNil)) fNil))))) [.bag, .val L, .val (.int many), .val (.int (deep + 1)), .val (.int 1), .val (.int num), .no, .no, .no]).All fun o => ∃ c : Cnd, Fit2 ns (deep + 1) many c ∧ o = .rt (.val c.d) [] := by
        intro num hnum m3
        walk_at "ev"
        walk_at "pl"
        refine T.All_mono (split_all many num (by omega) (by omega) m3 hm2) fun o ho => ?_
        obtain ⟨xs, rfl, hl, hx, hsum⟩ := ho
        walk_at "ev"
        walk_at "pl"
        refine T.All_mono (parts_lc ih xs hx (by omega)) fun p hp => ?_
        obtain ⟨e1, ps, e2, h2, h3, h4⟩ := hp
        obtain ⟨p1, p2⟩ := p
        simp only at e1 e2
        subst e1; subst e2
        walk_at "ev"
        refine yes (by omega) ?_
        have hlog : (2 : Int).natAbs.log2 < 9000 := by decide
        have hfd : num.fdiv 2 = ((ps.length / 2 : Nat) : Int) := by
          rw [Int.fdiv_eq_ediv_of_nonneg _ (by decide)]; omega
        have hodd : ps.length % 2 = 1 := by omega
        rw [hfd]
        have hpl := pairs_lc (ds := Cnd.ds ps) (v := 8) (e := e__law_tree_c2 rt) (δ := [.bag, .val L, .val (.int many), .val (.int (deep + 1)), .val (.int 1), .val (.int num), .own (.lst (Cnd.ds ps)), .no, .no]) (fun j x y acc kk q1 q2 q3 => by
          have hj : j ≤ 100000 := by
            have := (List.getElem?_eq_some_iff.mp q1).1
            rw [ds_len] at this; omega
          have a1 := atI_dbl q1
          have a2 := atI_dbl1 q2
          have a3 := mul_two j hj
          unfold e__law_tree_c2
          walk_at "ev"
          simp only [a3, if_true]
          walk_at "ev"
          simp only [a1]
          walk_at "ev"
          simp only [a3, if_true]
          walk_at "ev"
          simp only [a2]
          walk_at "ev"
          simp only [q3, if_true]
          walk_at "ev") (Cnd.ds ps) [] [] 0 (by simp) rfl [] (by rw [ds_len]; simp only [List.length_nil]; omega)
        rw [ds_len] at hpl
        refine yes (by decide) ?_
        refine yes ⟨by omega, by omega⟩ ?_
        rw [Int.toNat_natCast]
        rw [show (((0 : Nat) : Int)) = 0 from rfl] at hpl
        rw [hpl]
        walk_at "ev"
        have hne : Cnd.ds ps ≠ [] := fun z => by have := ds_len ps; rw [z] at this; simp at this; omega
        rw [at_last hne]
        walk_at "ev"
        exact ⟨.node .cas ps, ⟨fit_node hodd (by omega) h3, by simp only [Cnd.lv]; omega⟩, by simp only [Cnd.d, nodeD]⟩
      rcases hway with rfl | rfl | hw2
      · walk_at "ev"
        rw [show (deep : Int) + 1 - 1 = deep by omega]
        walk_at "pl"
        refine T.All_mono (ih many hm (by omega)) fun o ho => ?_
        obtain ⟨c, hc, rfl⟩ := ho
        walk_at "ev"
        exact ⟨.node .not [c], ⟨fit_node rfl (by simp) (fun p hp => by rw [List.mem_singleton.mp hp]; exact hc.1), by simp only [Cnd.lv, Cnd.lvs]; have := hc.2; omega⟩, by simp [Cnd.d, Cnd.ds, nodeD, lastD]⟩
      · generalize (fSq (fSet 6 (fComp (fiSeq (fCall m__law_split (fCons (fVar 0) (fCons (fVar 2) (fCons (fVar 5) fNil))))) (fgN 7) fYes (e__law_tree_c1 rt) [7]))
  (fSq (fIfS (fAnd (fTst (fCmp (cEqF false) (fVar 4) (fC (.int 1)))) (fTst (fCmp cGt (fVar 2) (fC (.int 2))))) (fRet (fTup (fCons (fC (.str "case")) (fCons (fCB bTupleF (fCons (fComp (fiRng1 (fCons (fBin gFdivF (fVar 5) (fC (.int 2))) fNil)) (fgN 8) fYes (e__law_tree_c2 rt) [8]) fNil)) (fCons (fIx (fVar 6) (fNeg (fC (.int 1)))) fNil))))) fNext)
  (fRet (fTup (fCons (fIf (fTst (fCmp cLt (fVar 4) (fC (.int 3)))) (fC (.str "first")) (fIx (fLst (fCons (fC (.str "all")) (fCons (fC (.str "any")) fNil))) (fBin gModF (fCB bIntF (fCons (fVar 4) fNil)) (fC (.int 2))))) (fCons (fCB bTupleF (fCons (fVar 6) fNil)) fNil)))))) = tl at nodes cases_ ⊢
        walk_at "ev"
        refine ⟨fun h2m => ?_, fun h2m => ?_⟩
        · have mb : ∀ j : Int, (j = 0 ∨ j = 1) → mulB 2 j = true := fun j hj => mul_ok (e := 40) (sm_bg (k := 2) ⟨by decide, by decide⟩) ⟨by omega, by omega⟩ (by decide) (by decide)
          have go : ∀ num : Int, (num = 3 ∨ num = 5) → num ≤ many → (tl [R.bag, R.val L, R.val (D.int many), R.val (D.int (deep + 1)), R.val (D.int 1), R.val (D.int num), R.no, R.no, R.no]).All fun a => a.out.All fun o => ∃ c : Cnd, Fit2 ns (deep + 1) many c ∧ o = FR.val (R.val c.d) := fun num hn hm => T.All_mono (cases_ num hn hm) fun o ho => by
            obtain ⟨c, hc, rfl⟩ := ho
            walk_at "ev"
            exact ⟨c, hc, rfl⟩
          refine ⟨fun h4 => yes (mb _ (by split <;> simp)) (go _ (by split <;> simp) (by split <;> omega)), fun h4 => yes (mb _ (.inl rfl)) (go _ (.inl rfl) (by omega))⟩
        · walk_at "pl"
          refine T.All_mono (nodes 1 (2 + k) (by decide) (fun _ => h2m) (by decide) (by decide) (by omega) (by omega) (by omega)) fun o ho => ?_
          obtain ⟨c, hc, rfl⟩ := ho
          walk_at "ev"
          exact ⟨c, hc, rfl⟩
      · generalize (fSq (fSet 6 (fComp (fiSeq (fCall m__law_split (fCons (fVar 0) (fCons (fVar 2) (fCons (fVar 5) fNil))))) (fgN 7) fYes (e__law_tree_c1 rt) [7]))
  (fSq (fIfS (fAnd (fTst (fCmp (cEqF false) (fVar 4) (fC (.int 1)))) (fTst (fCmp cGt (fVar 2) (fC (.int 2))))) (fRet (fTup (fCons (fC (.str "case")) (fCons (fCB bTupleF (fCons (fComp (fiRng1 (fCons (fBin gFdivF (fVar 5) (fC (.int 2))) fNil)) (fgN 8) fYes (e__law_tree_c2 rt) [8]) fNil)) (fCons (fIx (fVar 6) (fNeg (fC (.int 1)))) fNil))))) fNext)
  (fRet (fTup (fCons (fIf (fTst (fCmp cLt (fVar 4) (fC (.int 3)))) (fC (.str "first")) (fIx (fLst (fCons (fC (.str "all")) (fCons (fC (.str "any")) fNil))) (fBin gModF (fCB bIntF (fCons (fVar 4) fNil)) (fC (.int 2))))) (fCons (fCB bTupleF (fCons (fVar 6) fNil)) fNil)))))) = tl at nodes cases_ ⊢
        have e0 : ¬ way = 0 := by omega
        have e1 : ¬ way = 1 := by omega
        walk_at "ev"
        simp only [e0, e1, false_implies, true_and, not_false_eq_true, true_implies]
        walk_at "pl"
        refine T.All_mono (nodes way (2 + k) e0 (fun z => absurd z e1) (by omega) (by omega) (by omega) (by omega) (by omega)) fun o ho => ?_
        obtain ⟨c, hc, rfl⟩ := ho
        walk_at "ev"
        exact ⟨c, hc, rfl⟩
set_option maxHeartbeats 1000000
def Wide (ns : List String) (c : Cnd) : Prop := c.Wf ns ∧ c.dep ≤ 1 ∧ c.lv ≤ 11 ∧ c.nd ≤ 1
theorem wide_node {ns : List String} {k : K} {ls : List Leaf} (hk : kOk k ls.length) (hl : ls.length ≤ 11) (h : ∀ l ∈ ls, l.Ok ns) : Wide ns (.node k (ls.map .leaf)) := by
  have hm : ∀ p ∈ ls.map Cnd.leaf, ∃ l ∈ ls, p = .leaf l := fun p hp => by obtain ⟨l, hl, e⟩ := List.mem_map.mp hp; exact ⟨l, hl, e.symm⟩
  refine ⟨by simp only [Cnd.Wf, List.length_map]; exact ⟨hk, wfs_iff.mpr fun c hc => by obtain ⟨l, hl, rfl⟩ := hm c hc; simpa only [Cnd.Wf] using h l hl⟩, ?_, ?_, ?_⟩
  · simp only [Cnd.dep]
    have := deps_le (n := 0) (cs := ls.map Cnd.leaf) |>.mpr fun c hc => by obtain ⟨l, hl, rfl⟩ := hm c hc; simp [Cnd.dep]
    omega
  · simp only [Cnd.lv]
    have h1 := lvs_le (n := 1) (cs := ls.map Cnd.leaf) fun c hc => by obtain ⟨l, hl, rfl⟩ := hm c hc; simp [Cnd.lv]
    rw [List.length_map] at h1
    omega
  · simp only [Cnd.nd]
    have h1 := nds_le (n := 0) (cs := ls.map Cnd.leaf) fun c hc => by obtain ⟨l, hl, rfl⟩ := hm c hc; simp [Cnd.nd]
    omega
theorem leaves_lc {ns : List String} {L : D} (hlf : (m__law_leaf [.bag, .val L]).All fun o => ∃ l : Leaf, l.Ok ns ∧ o = .val (.val l.d)) (n : Nat) (hn : n ≤ 11) (r2 r3 r4 r5 : R) : (fLc (fgN 6) fYes e__law_wide_c1 [6] (rngD 0 n) [] [.bag, .val L, r2, r3, r4, r5, .no, .no]).All fun p => p.2 = [.bag, .val L, r2, r3, r4, r5, .no, .no] ∧ ∃ ls : List Leaf, p.1 = Cnd.ds (ls.map .leaf) ∧ ls.length = n ∧ ∀ l ∈ ls, l.Ok ns := by
  refine lc_all (Iv := fun ds acc => ∃ ls : List Leaf, acc = Cnd.ds (ls.map .leaf) ∧ ls.length + ds.length = n ∧ ∀ l ∈ ls, l.Ok ns) ?_ ?_ _ _ ?_
  · rintro d ds acc ⟨ls, e, h1, h2⟩
    refine ⟨_, rfl, ?_⟩
    walk_at "ev"
    simp only [List.length_cons] at h1
    refine ⟨_, _, rfl, fun _ => ⟨by subst e; rw [ds_len, List.length_map]; omega, ?_⟩, fun z => by cases z⟩
    unfold e__law_wide_c1
    walk_at "ev"
    walk_at "pl"
    refine T.All_mono hlf fun o ho => ?_
    obtain ⟨s, hs, rfl⟩ := ho
    walk_at "ev"
    refine ⟨_, _, rfl, rfl, ls ++ [s], by subst e; rw [ds_map, ds_map]; simp [Cnd.d], by simp only [List.length_append, List.length_cons, List.length_nil]; omega, fun x hx => ?_⟩
    rcases List.mem_append.mp hx with z | z
    · exact h2 x z
    · simp at z; subst z; exact hs
  · rintro acc ⟨ls, e, h1, h2⟩
    exact ⟨rfl, ls, e, by simpa using h1, h2⟩
  · exact ⟨[], by simp only [List.map_nil, Cnd.ds], by simp [rngD_len], by simp⟩
theorem wide_all (ns : List String) (h0 : 0 < ns.length) (h1 : ns.length < 1000) (many : Int) (hm : 7 ≤ many) (hm2 : many ≤ 1000) : (m__law_wide [.bag, .val (nmD ns), .val (.int many)]).All fun o => ∃ c : Cnd, Wide ns c ∧ o = .val (.val c.d) := by
  have hlf := leaf_all ns h0 h1
  unfold m__law_wide fs__law_wide
  generalize nmD ns = L at *
  walk_at "ev"
  walk_at "pl"
  refine all_take fun way w0 w1 => ?_
  have hw : way = 0 ∨ way = 1 ∨ way = 2 ∨ way = 3 := by omega
  rcases hw with rfl | rfl | rfl | rfl
  · walk_at "ev"
    refine yes ⟨by split <;> omega, by split <;> omega⟩ ?_
    walk_at "pl"
    refine T.All_mono (leaves_lc hlf _ (by split <;> omega) _ _ _ _) fun p hp => ?_
    obtain ⟨e1, ls, e2, h2, h3⟩ := hp
    obtain ⟨p1, p2⟩ := p
    simp only at e1 e2
    subst e1; subst e2
    have hps : (ls.map Cnd.leaf).length = ls.length := List.length_map ..
    have hbig : 1 ≤ ls.length ∧ ls.length ≤ 11 := by rw [h2]; split <;> omega
    have hfd : (((Cnd.ds (ls.map Cnd.leaf)).length : Int) - 1).fdiv 2 = (((ls.length - 1) / 2 : Nat) : Int) := by
      rw [ds_len, hps, Int.fdiv_eq_ediv_of_nonneg _ (by decide)]; omega
    have hne : ls ≠ [] := fun z => by rw [z] at hbig; simp at hbig
    have hlast : lastD (Cnd.ds (ls.map Cnd.leaf)) = (ls.getLast hne).d := by
      unfold lastD
      rw [ds_map, List.map_map, List.getLast?_map, List.getLast?_eq_some_getLast hne]; rfl
    have hsplit : ls = ls.take (2 * ((ls.length - 1) / 2)) ++ ls.drop (2 * ((ls.length - 1) / 2)) := (List.take_append_drop ..).symm
    have hne2 : Cnd.ds (ls.map Cnd.leaf) ≠ [] := fun z => by have := congrArg List.length z; rw [ds_len, hps] at this; exact hne (List.length_eq_zero_iff.mp this)
    have hpl := pairs_lc (ds := Cnd.ds (ls.map Cnd.leaf)) (v := 7) (e := e__law_wide_c2) (δ := [.bag, .val L, .val (.int many), .val (.int 0), .own (.lst (Cnd.ds (ls.map Cnd.leaf))), .no, .no, .no]) (fun j x y acc kk q1 q2 q3 => by
      have hj : j ≤ 100000 := by
        have := (List.getElem?_eq_some_iff.mp q1).1
        rw [ds_len, hps] at this; omega
      have a1 := atI_dbl q1
      have a2 := atI_dbl1 q2
      have a3 := mul_two j hj
      unfold e__law_wide_c2
      walk_at "ev"
      simp only [a3, if_true]
      walk_at "ev"
      simp only [a1]
      walk_at "ev"
      simp only [a3, if_true]
      walk_at "ev"
      simp only [a2]
      walk_at "ev"
      simp only [q3, if_true]
      walk_at "ev") (Cnd.ds ((ls.take (2 * ((ls.length - 1) / 2))).map Cnd.leaf)) [] (Cnd.ds ((ls.drop (2 * ((ls.length - 1) / 2))).map Cnd.leaf)) 0 (by
        rw [ds_map, ds_map, ds_map, List.nil_append, ← List.map_append, ← List.map_append, ← hsplit]) rfl [] (by rw [ds_len, List.length_map, List.length_take]; simp only [List.length_nil]; omega)
    have hll : (Cnd.ds ((ls.take (2 * ((ls.length - 1) / 2))).map Cnd.leaf)).length = 2 * ((ls.length - 1) / 2) := by rw [ds_len, List.length_map, List.length_take]; omega
    rw [hll, show 2 * ((ls.length - 1) / 2) / 2 = (ls.length - 1) / 2 by omega, show (((0 : Nat) : Int)) = 0 from rfl] at hpl
    have hfin : D.tup [.str (Str.ofString "case"), .tup (pairsU (Cnd.ds ((ls.take (2 * ((ls.length - 1) / 2))).map Cnd.leaf))), lastD (Cnd.ds (ls.map Cnd.leaf))] = (Cnd.node .cas ((ls.take (2 * ((ls.length - 1) / 2)) ++ [ls.getLast hne]).map .leaf)).d := by
      have e : Cnd.ds ((ls.take (2 * ((ls.length - 1) / 2)) ++ [ls.getLast hne]).map .leaf) = Cnd.ds ((ls.take (2 * ((ls.length - 1) / 2))).map .leaf) ++ [(ls.getLast hne).d] := by
        rw [ds_map, ds_map, List.map_append, List.map_append]; simp [Cnd.d]
      have := pairsU_odd (xs := Cnd.ds ((ls.take (2 * ((ls.length - 1) / 2))).map .leaf)) (e := (ls.getLast hne).d) (by rw [hll]; omega)
      simp only [Cnd.d, nodeD, e, this.1, this.2, hlast]
    have hok : Wide ns (.node .cas ((ls.take (2 * ((ls.length - 1) / 2)) ++ [ls.getLast hne]).map .leaf)) := by
      refine wide_node (by show _ % 2 = 1; rw [List.length_append, List.length_take]; simp only [List.length_cons, List.length_nil]; omega) (by rw [List.length_append, List.length_take]; simp only [List.length_cons, List.length_nil]; omega) fun l hl => ?_
      rcases List.mem_append.mp hl with z | z
      · exact h3 l (List.mem_of_mem_take z)
      · rw [List.mem_singleton.mp z]; exact h3 _ (List.getLast_mem hne)
    have hal := at_last hne2
    generalize Cnd.ds (ls.map Cnd.leaf) = all at *
    walk_at "ev"
    refine yes (by decide) ?_
    rw [hfd]
    refine yes ⟨by omega, by omega⟩ ?_
    rw [Int.toNat_natCast, hpl]
    walk_at "ev"
    rw [hal]
    walk_at "ev"
    exact ⟨_, hok, by rw [hfin]⟩
  all_goals
    walk_at "ev"
    refine yes ⟨by split <;> omega, by split <;> omega⟩ ?_
    walk_at "pl"
    refine T.All_mono (leaves_lc hlf _ (by split <;> omega) _ _ _ _) fun p hp => ?_
    obtain ⟨e1, ls, e2, h2, h3⟩ := hp
    obtain ⟨p1, p2⟩ := p
    simp only at e1 e2
    subst e1; subst e2
    have hbig : ls.length ≤ 11 := by rw [h2]; split <;> omega
    walk_at "ev"
  · exact ⟨.node .fst (ls.map .leaf), wide_node trivial hbig h3, by simp only [Cnd.d, nodeD]⟩
  · exact ⟨.node .all (ls.map .leaf), wide_node trivial hbig h3, by simp only [Cnd.d, nodeD]⟩
  · exact ⟨.node .any (ls.map .leaf), wide_node trivial hbig h3, by simp only [Cnd.d, nodeD]⟩
def Grown (ns : List String) (deep : Nat) (many : Int) (c : Cnd) : Prop := Fit2 ns deep many c ∨ Wide ns c
theorem grown_all (ns : List String) (h0 : 0 < ns.length) (h1 : ns.length < 1000) (many : Int) (hm : 1 ≤ many) (hm2 : many ≤ 1000) (deep : Nat) (hd : deep ≤ 7) : (m__law_grown [.bag, .val (nmD ns), .val (.int many), .val (.int deep)]).All fun o => ∃ c : Cnd, Grown ns deep many c ∧ o = .val (.val c.d) := by
  have ht := tree_all ns h0 h1 deep 8 (by omega) many hm hm2
  have hw := wide_all ns h0 h1 many
  unfold m__law_grown fs__law_grown
  generalize nmD ns = L at *
  walk_at "ev"
  refine ⟨fun h6 => ?_, fun h6 => ?_⟩
  · walk_at "pl"
    refine all_take fun way w0 w1 => ?_
    walk_at "ev"
    refine ⟨fun _ => ?_, fun _ => ?_⟩
    · walk_at "pl"
      refine T.All_mono (hw (by omega) hm2) fun o ho => ?_
      obtain ⟨c, hc, rfl⟩ := ho
      walk_at "ev"
      exact ⟨c, .inr hc, rfl⟩
    · walk_at "pl"
      refine T.All_mono ht fun o ho => ?_
      obtain ⟨c, hc, rfl⟩ := ho
      walk_at "ev"
      exact ⟨c, .inl hc, rfl⟩
  · walk_at "pl"
    refine T.All_mono ht fun o ho => ?_
    obtain ⟨c, hc, rfl⟩ := ho
    walk_at "ev"
    exact ⟨c, .inl hc, rfl⟩
end CN.PK20
set_option maxHeartbeats 2000000
namespace QN.PK20
open PySem PySem.Spec L2 DL K20 QN
local macro_rules | `(tactic| walk_at "ev") => `(tactic| try simp only [q_dispM, q_dispK, q_dnewM, q_mix, q_fiMix, q_dcmW, q_itemsM, q_dictM, q_putM, q_neDicM, q_isiQ, q_isisQ, q_tyNon, q_tyBl, q_tyInt, q_tyStr, q_tyLst, q_tyTup, q_tyDcm, q_tyObx, q_mkE, q_mkEK, q_up, q_upK, q_notQ, q_truN, q_truB, q_isN, q_isB, q_isD, q_kd_int, q_kd_bool, q_kd_str, q_kd_list, q_kd_tuple, q_kd_dict, q_tys0, q_tys1, q_tqNon, q_tqBl, q_tqInt, q_tqStr, q_tqDcm, List.contains_cons, List.contains_nil, Bool.true_or, t_fiStr, t_strI, t_inS, t_ninS, w_is_int_NoneType, w_is_int_int, w_is_int_bool, w_is_int_str, w_is_int_list, w_is_int_tuple, w_is_bool_NoneType, w_is_bool_int, w_is_bool_bool, w_is_bool_str, w_is_bool_list, w_is_bool_tuple, w_is_str_NoneType, w_is_str_int, w_is_str_bool, w_is_str_str, w_is_str_list, w_is_str_tuple, w_is_list_NoneType, w_is_list_int, w_is_list_bool, w_is_list_str, w_is_list_list, w_is_list_tuple, w_is_tuple_NoneType, w_is_tuple_int, w_is_tuple_bool, w_is_tuple_str, w_is_tuple_list, w_is_tuple_tuple, w_is_dict_NoneType, w_is_dict_int, w_is_dict_bool, w_is_dict_str, v_ret, v_fail, v_bind, v_on, v_go, v_of, v_ofN, v_ofI, v_useV, v_useO, v_useP, v_useKV, v_useKO, v_peekV, v_peekO, v_peekP, v_lookV, v_lookO, v_handV, v_handP, v_handKV, v_handKO, v_handKB, v_allN, v_allC, v_lkN, v_lkC, v_var, v_varV, v_varO, v_varB, v_c, v_bin, v_cmp, v_tst, v_bl, v_int, v_and, v_or, v_not, v_andV, v_orV, v_notV, v_if, v_nil, v_cons, v_vals, v_tup, v_lst, v_neg, v_ix, v_oN, v_oS, v_sl, v_cb, v_eS, v_next, v_sq, v_thN, v_thR, v_retS, v_rV, v_rO, v_rP, v_rKV, v_rKO, v_ifS, v_set, v_sV, v_sO, v_sP, v_sKV, v_asg, v_optS, v_gN, v_gT, v_gC, v_gNil, v_loopN, v_loopC, v_turnK, v_tuN, v_tuB, v_tuR, v_tuE, v_for, v_iW, v_wipe, v_wN, v_wR, v_iS, v_r1, v_r2, v_r1K, v_r2K, v_lcN, v_lcC, v_lcG, v_lcT, v_lcE, v_yes, v_comp, v_call, v_callF, v_callK, v_mk, v_outR, v_take, v_pubO, v_pubV, v_pubP, v_ixL, v_ixT, v_ixS, v_slL, v_slS, v_addI, v_addS, v_addL, v_sub, v_mod, v_pow, v_fdiv, v_mulI, v_mulL, v_cI, v_cNS, v_lenL, v_lenT, v_lenS, v_intI, v_intB, v_abs, v_max2, v_min2, v_listL, v_listT, v_tupleL, v_par, v_putN, v_putC, v_inT, v_ngT, v_ngF, v_inDN, v_inDC, v_flN, v_flB, v_flI, v_flS, v_flT, v_flL, v_rev, v_lstO, v_aug, v_augO, v_augR, v_augRK, v_augAK, v_augB, v_augBK, v_ppN, v_ppC, v_setIx, v_setIxS, v_setIx0, v_setIxK, v_setIx1, v_setIx2, v_chain, v_bAll, Option.isSome_some, Option.isSome_none, Option.getD_some, Option.getD_none, putD, List.foldl_cons, List.foldl_nil, List.any_cons, List.any_nil, Bool.or_false, Bool.false_or, Bool.or_true, Bool.true_or, List.find?_cons, List.find?_nil, R.val.injEq, v_itemsL, v_itemsT, gt, st, wipeD, backD, R.stay, vals?, startK, v_at0, v_at1, v_at2, v_at3, v_at4, v_at5, v_atL, T.bind_ret, T.bind_fail, T.bind_ite, T.bind_any, T.All_retE, T.All_anyE, T.All_failE, T.All_iteE, ite_ap, cEqF, okk, eqD, eqAll, ofS_inj, ofS_beq, strOk_ofS, Option.bind_some, Option.map_some, Option.map_none, Sum.inr.injEq, Sum.inl.injEq, List.length_cons, List.length_nil, if_true, if_false, ite_true, ite_false, Bool.not_true, Bool.not_false, beq_self_eq_true, beq_iff_eq, decide_true, decide_false, decide_eq_true_eq, and_self, and_true, true_and, and_false, false_and, Bool.false_eq_true, Bool.true_eq_false, reduceIte, reduceCtorEq, Nat.reduceAdd, Nat.reduceEqDiff, Nat.reduceLeDiff, Nat.reduceLT, String.reduceEq, Int.reduceNeg, Int.reduceLE, Int.reduceLT, Int.reduceEq, Int.reduceToNat, Int.reducePow, Int.reduceAdd, Int.reduceSub, Int.reduceMul, Int.reduceAbs, Int.natAbs_neg, Nat.reducePow, Bool.and_true, Bool.true_and, Bool.and_false, Bool.false_and, List.lookup, sizeLine_eq, Option.some.injEq, List.all_cons, List.all_nil, List.nil_append, List.cons_append, Bool.not_eq_true', Bool.and_eq_true, not_true_eq_false, not_false_eq_true, List.map_cons, List.map_nil, decide_not, true_implies, false_implies, implies_true, not_true, ne_eq, Bool.not_eq_eq_eq_not])
local macro_rules | `(tactic| walk_at "pl") => `(tactic| repeat (with_reducible refine T.All_bind.mpr ?_))
local macro_rules | `(tactic| walk_at "ew") => `(tactic| try simp only [q_dispM, q_dispK, q_dnewM, q_mix, q_fiMix, q_dcmW, q_itemsM, q_dictM, q_putM, q_neDicM, q_isiQ, q_isisQ, q_tyNon, q_tyBl, q_tyInt, q_tyStr, q_tyLst, q_tyTup, q_tyDcm, q_tyObx, q_mkE, q_mkEK, q_up, q_upK, q_notQ, q_truN, q_truB, q_isN, q_isB, q_isD, q_kd_int, q_kd_bool, q_kd_str, q_kd_list, q_kd_tuple, q_kd_dict, q_tys0, q_tys1, q_tqNon, q_tqBl, q_tqInt, q_tqStr, q_tqDcm, List.contains_cons, List.contains_nil, Bool.true_or, w_is_int_NoneType, w_is_int_int, w_is_int_bool, w_is_int_str, w_is_int_list, w_is_int_tuple, w_is_bool_NoneType, w_is_bool_int, w_is_bool_bool, w_is_bool_str, w_is_bool_list, w_is_bool_tuple, w_is_str_NoneType, w_is_str_int, w_is_str_bool, w_is_str_str, w_is_str_list, w_is_str_tuple, w_is_list_NoneType, w_is_list_int, w_is_list_bool, w_is_list_str, w_is_list_list, w_is_list_tuple, w_is_tuple_NoneType, w_is_tuple_int, w_is_tuple_bool, w_is_tuple_str, w_is_tuple_list, w_is_tuple_tuple, w_is_dict_NoneType, w_is_dict_int, w_is_dict_bool, w_is_dict_str, v_ret, v_fail, v_bind, v_on, v_go, v_of, v_ofN, v_ofI, v_useV, v_useO, v_useP, v_useKV, v_useKO, v_peekV, v_peekO, v_peekP, v_lookV, v_lookO, v_handV, v_handP, v_handKV, v_handKO, v_handKB, v_allN, v_allC, v_lkN, v_lkC, v_var, v_varV, v_varO, v_varB, v_c, v_bin, v_cmp, v_tst, v_bl, v_int, v_and, v_or, v_not, v_andV, v_orV, v_notV, v_if, v_nil, v_cons, v_vals, v_tup, v_lst, v_neg, v_ix, v_oN, v_oS, v_sl, v_cb, v_eS, v_next, v_sq, v_thN, v_thR, v_retS, v_rV, v_rO, v_rP, v_rKV, v_rKO, v_ifS, v_set, v_sV, v_sO, v_sP, v_sKV, v_asg, v_optS, v_gN, v_gT, v_gC, v_gNil, v_loopN, v_loopC, v_turnK, v_tuN, v_tuB, v_tuR, v_tuE, v_for, v_iW, v_wipe, v_wN, v_wR, v_iS, v_r1, v_r2, v_r1K, v_r2K, v_lcN, v_lcC, v_lcG, v_lcT, v_lcE, v_yes, v_comp, v_call, v_callF, v_callK, v_mk, v_outR, v_take, v_pubO, v_pubV, v_pubP, v_ixL, v_ixT, v_ixS, v_slL, v_slS, v_addI, v_addS, v_addL, v_sub, v_mod, v_pow, v_fdiv, v_mulI, v_mulL, v_cI, v_cNS, v_lenL, v_lenT, v_lenS, v_intI, v_intB, v_abs, v_max2, v_min2, v_listL, v_listT, v_tupleL, v_par, v_putN, v_putC, v_inT, v_ngT, v_ngF, v_inDN, v_inDC, v_flN, v_flB, v_flI, v_flS, v_flT, v_flL, v_rev, v_lstO, v_aug, v_augO, v_augR, v_augRK, v_augAK, v_augB, v_augBK, v_ppN, v_ppC, v_setIx, v_setIxS, v_setIx0, v_setIxK, v_setIx1, v_setIx2, v_chain, v_bAll, Option.isSome_some, Option.isSome_none, Option.getD_some, Option.getD_none, List.foldl_cons, List.foldl_nil, List.any_cons, List.any_nil, Bool.or_false, Bool.false_or, Bool.or_true, Bool.true_or, R.val.injEq, v_itemsL, v_itemsT, gt, st, wipeD, backD, R.stay, vals?, startK, v_at0, v_at1, v_at2, v_at3, v_at4, v_at5, v_atL, T.bind_ret, T.bind_fail, T.bind_ite, T.bind_any, T.All_retE, T.All_anyE, T.All_failE, T.All_iteE, ite_ap, cEqF, okk, eqD, eqAll, ofS_inj, ofS_beq, strOk_ofS, Option.bind_some, Option.map_some, Option.map_none, Sum.inr.injEq, Sum.inl.injEq, List.length_cons, List.length_nil, if_true, if_false, ite_true, ite_false, Bool.not_true, Bool.not_false, beq_self_eq_true, beq_iff_eq, decide_true, decide_false, decide_eq_true_eq, and_self, and_true, true_and, and_false, false_and, Bool.false_eq_true, Bool.true_eq_false, reduceIte, reduceCtorEq, Nat.reduceAdd, Nat.reduceEqDiff, Nat.reduceLeDiff, Nat.reduceLT, String.reduceEq, Int.reduceNeg, Int.reduceLE, Int.reduceLT, Int.reduceEq, Int.reduceToNat, Int.reducePow, Int.reduceAdd, Int.reduceSub, Int.reduceMul, Int.reduceAbs, Int.natAbs_neg, Nat.reducePow, Bool.and_true, Bool.true_and, Bool.and_false, Bool.false_and, List.lookup, sizeLine_eq, Option.some.injEq, List.all_cons, List.all_nil, List.nil_append, List.cons_append, Bool.not_eq_true', Bool.and_eq_true, not_true_eq_false, not_false_eq_true, List.map_cons, List.map_nil, decide_not, true_implies, false_implies, implies_true, not_true, ne_eq, Bool.not_eq_eq_eq_not])
local macro_rules | `(tactic| push_cast [$xs:simpLemma,*]) => `(tactic| simp only [q_dispM, q_dispK, q_dnewM, q_mix, q_fiMix, q_dcmW, q_itemsM, q_dictM, q_putM, q_neDicM, q_isiQ, q_isisQ, q_tyNon, q_tyBl, q_tyInt, q_tyStr, q_tyLst, q_tyTup, q_tyDcm, q_tyObx, q_mkE, q_mkEK, q_up, q_upK, q_notQ, q_truN, q_truB, q_isN, q_isB, q_isD, q_kd_int, q_kd_bool, q_kd_str, q_kd_list, q_kd_tuple, q_kd_dict, q_tys0, q_tys1, q_tqNon, q_tqBl, q_tqInt, q_tqStr, q_tqDcm, List.contains_cons, List.contains_nil, Bool.true_or, w_is_int_NoneType, w_is_int_int, w_is_int_bool, w_is_int_str, w_is_int_list, w_is_int_tuple, w_is_bool_NoneType, w_is_bool_int, w_is_bool_bool, w_is_bool_str, w_is_bool_list, w_is_bool_tuple, w_is_str_NoneType, w_is_str_int, w_is_str_bool, w_is_str_str, w_is_str_list, w_is_str_tuple, w_is_list_NoneType, w_is_list_int, w_is_list_bool, w_is_list_str, w_is_list_list, w_is_list_tuple, w_is_tuple_NoneType, w_is_tuple_int, w_is_tuple_bool, w_is_tuple_str, w_is_tuple_list, w_is_tuple_tuple, w_is_dict_NoneType, w_is_dict_int, w_is_dict_bool, w_is_dict_str, v_ret, v_fail, v_bind, v_on, v_go, v_of, v_ofN, v_ofI, v_useV, v_useO, v_useP, v_useKV, v_useKO, v_peekV, v_peekO, v_peekP, v_lookV, v_lookO, v_handV, v_handP, v_handKV, v_handKO, v_handKB, v_allN, v_allC, v_lkN, v_lkC, v_var, v_varV, v_varO, v_varB, v_c, v_bin, v_cmp, v_tst, v_bl, v_int, v_and, v_or, v_not, v_andV, v_orV, v_notV, v_if, v_nil, v_cons, v_vals, v_tup, v_lst, v_neg, v_ix, v_oN, v_oS, v_sl, v_cb, v_eS, v_next, v_sq, v_thN, v_thR, v_retS, v_rV, v_rO, v_rP, v_rKV, v_rKO, v_ifS, v_set, v_sV, v_sO, v_sP, v_sKV, v_asg, v_optS, v_gN, v_gT, v_gC, v_gNil, v_loopN, v_loopC, v_turnK, v_tuN, v_tuB, v_tuR, v_tuE, v_for, v_iW, v_wipe, v_wN, v_wR, v_iS, v_r1, v_r2, v_r1K, v_r2K, v_lcN, v_lcC, v_lcG, v_lcT, v_lcE, v_yes, v_comp, v_call, v_callF, v_callK, v_mk, v_outR, v_take, v_pubO, v_pubV, v_pubP, v_ixL, v_ixT, v_ixS, v_slL, v_slS, v_addI, v_addS, v_addL, v_sub, v_mod, v_pow, v_fdiv, v_mulI, v_mulL, v_cI, v_cNS, v_lenL, v_lenT, v_lenS, v_intI, v_intB, v_abs, v_max2, v_min2, v_listL, v_listT, v_tupleL, v_par, v_putN, v_putC, v_inT, v_ngT, v_ngF, v_inDN, v_inDC, v_flN, v_flB, v_flI, v_flS, v_flT, v_flL, v_rev, v_lstO, v_aug, v_augO, v_augR, v_augRK, v_augAK, v_augB, v_augBK, v_ppN, v_ppC, v_setIx, v_setIxS, v_setIx0, v_setIxK, v_setIx1, v_setIx2, v_chain, v_bAll, Option.isSome_some, Option.isSome_none, Option.getD_some, Option.getD_none, putD, List.foldl_cons, List.foldl_nil, List.any_cons, List.any_nil, Bool.or_false, Bool.false_or, Bool.or_true, Bool.true_or, List.find?_cons, List.find?_nil, R.val.injEq, v_itemsL, v_itemsT, gt, st, wipeD, backD, R.stay, vals?, startK, v_at0, v_at1, v_at2, v_at3, v_at4, v_at5, v_atL, T.bind_ret, T.bind_fail, T.bind_ite, T.bind_any, T.All_retE, T.All_anyE, T.All_failE, T.All_iteE, ite_ap, cEqF, okk, eqD, eqAll, ofS_inj, ofS_beq, strOk_ofS, Option.bind_some, Option.map_some, Option.map_none, Sum.inr.injEq, Sum.inl.injEq, List.length_cons, List.length_nil, if_true, if_false, ite_true, ite_false, Bool.not_true, Bool.not_false, beq_self_eq_true, beq_iff_eq, decide_true, decide_false, decide_eq_true_eq, and_self, and_true, true_and, and_false, false_and, Bool.false_eq_true, Bool.true_eq_false, reduceIte, reduceCtorEq, Nat.reduceAdd, Nat.reduceEqDiff, Nat.reduceLeDiff, Nat.reduceLT, String.reduceEq, Int.reduceNeg, Int.reduceLE, Int.reduceLT, Int.reduceEq, Int.reduceToNat, Int.reducePow, Int.reduceAdd, Int.reduceSub, Int.reduceMul, Int.reduceAbs, Int.natAbs_neg, Nat.reducePow, Bool.and_true, Bool.true_and, Bool.and_false, Bool.false_and, List.lookup, sizeLine_eq, Option.some.injEq, List.all_cons, List.all_nil, List.nil_append, List.cons_append, Bool.not_eq_true', Bool.and_eq_true, not_true_eq_false, not_false_eq_true, List.map_cons, List.map_nil, decide_not, true_implies, false_implies, implies_true, not_true, ne_eq, Bool.not_eq_eq_eq_not, $xs,*])
theorem is_integer_eq {n : Nat} {d : D} (h : AnyN n d) : m_is_integer [.val d] = .ret (.val (.val (.bl (intB d)))) := by
  unfold m_is_integer fs_is_integer
  cases d <;> first | (cases n <;> exact h.elim) | (walk_at "ev"; done) | (walk_at "ev"; rfl)
theorem is_number_eq {n : Nat} {d : D} (h : AnyN n d) : m_is_number [.val d] = .ret (.val (.val (.bl (numB d)))) := by
  unfold m_is_number fs_is_number
  have h1 := is_integer_eq h
  cases d <;> first | (cases n <;> exact h.elim) | (simp only [intB] at h1; push_cast [h1, numB, gd_FAR]; done) | (simp only [intB] at h1; push_cast [h1, numB, gd_FAR]; split <;> simp_all <;> omega)
theorem lis_whole_eq {n : Nat} {d : D} (h : AnyN n d) : m__law_is_whole_number [.val d] = .ret (.val (.val (.bl (intB d)))) := by
  unfold m__law_is_whole_number fs__law_is_whole_number
  cases d <;> first | (cases n <;> exact h.elim) | (walk_at "ev"; done) | (walk_at "ev"; rfl)
theorem lis_near_eq {n : Nat} {d : D} (h : AnyN n d) : m__law_is_near_number [.val d] = .ret (.val (.val (.bl (numB d)))) := by
  unfold m__law_is_near_number fs__law_is_near_number
  have h1 := lis_whole_eq h
  cases d <;> first | (cases n <;> exact h.elim) | (simp only [intB] at h1; push_cast [h1, numB]; done) | (simp only [intB] at h1; push_cast [h1, numB]; split <;> simp_all <;> omega)
theorem pairs_turn (ZS : D) {d : D} (h : AnyN 1 d) : b_are_pairs_1 [.val ZS, .val d, .no] = .ret (if pairB d = true then .nx [.val ZS, .no, .no] else .rt (.val (.bl false)) []) := by
  unfold b_are_pairs_1
  cases d with
  | tup xs =>
    obtain ⟨hl, hx⟩ := h.tup
    match xs, hl, hx with
    | [], _, _ => push_cast [pairB, two0]
    | [a], _, _ => push_cast [pairB, two1]
    | [a, b], _, hx =>
      have e1 := is_number_eq (hx a (by simp))
      have e2 := is_number_eq (hx b (by simp))
      cases h1 : numB a <;> cases h2 : numB b <;> (rw [h1] at e1; rw [h2] at e2; push_cast [pairB, e1, e2, two, h1, h2])
    | a :: b :: c :: r, hl, _ =>
      have e := len_two a b c r
      generalize hxs : a :: b :: c :: r = xs at *
      have hp : pairB (.tup xs) = false := by rw [← hxs]; rfl
      push_cast [e, hp]
  | _ => first | exact h.elim | push_cast [pairB]
theorem lpairs_turn (ZS : D) {d : D} (h : AnyN 1 d) : b__law_are_pairs_1 [.val ZS, .val d, .no] = .ret (if pairB d = true then .nx [.val ZS, .no, .no] else .rt (.val (.bl false)) []) := by
  unfold b__law_are_pairs_1
  cases d with
  | tup xs =>
    obtain ⟨hl, hx⟩ := h.tup
    match xs, hl, hx with
    | [], _, _ => push_cast [pairB, two0]
    | [a], _, _ => push_cast [pairB, two1]
    | [a, b], _, hx =>
      have e1 := lis_near_eq (hx a (by simp))
      have e2 := lis_near_eq (hx b (by simp))
      cases h1 : numB a <;> cases h2 : numB b <;> (rw [h1] at e1; rw [h2] at e2; push_cast [pairB, e1, e2, two, h1, h2])
    | a :: b :: c :: r, hl, _ =>
      have e := len_two a b c r
      generalize hxs : a :: b :: c :: r = xs at *
      have hp : pairB (.tup xs) = false := by rw [← hxs]; rfl
      push_cast [e, hp]
  | _ => first | exact h.elim | push_cast [pairB]
theorem pairs_loop (ZS : D) : ∀ (zs : List D), (∀ z ∈ zs, AnyN 1 z) → fLoop (fgN 1) b_are_pairs_1 zs [.val ZS, .no, .no] = .ret (if zs.all pairB = true then .nx [.val ZS, .no, .no] else .rt (.val (.bl false)) [])
  | [], _ => by rw [v_loopN]; rfl
  | q :: zs, hz => by
    rw [v_loopC, show fgN 1 q [.val ZS, .no, .no] = some [.val ZS, .val q, .no] from rfl, v_turnK, pairs_turn ZS (hz q (List.mem_cons_self ..)), T.bind_ret, List.all_cons]
    cases h : pairB q
    · rw [if_neg (by decide), v_tuR]; rfl
    · rw [if_pos rfl, v_tuN, pairs_loop ZS zs fun z h => hz z (List.mem_cons_of_mem _ h), Bool.true_and]
theorem lpairs_loop (ZS : D) : ∀ (zs : List D), (∀ z ∈ zs, AnyN 1 z) → fLoop (fgN 1) b__law_are_pairs_1 zs [.val ZS, .no, .no] = .ret (if zs.all pairB = true then .nx [.val ZS, .no, .no] else .rt (.val (.bl false)) [])
  | [], _ => by rw [v_loopN]; rfl
  | q :: zs, hz => by
    rw [v_loopC, show fgN 1 q [.val ZS, .no, .no] = some [.val ZS, .val q, .no] from rfl, v_turnK, lpairs_turn ZS (hz q (List.mem_cons_self ..)), T.bind_ret, List.all_cons]
    cases h : pairB q
    · rw [if_neg (by decide), v_tuR]; rfl
    · rw [if_pos rfl, v_tuN, lpairs_loop ZS zs fun z h => hz z (List.mem_cons_of_mem _ h), Bool.true_and]
theorem asc_one {ps : List D} (hp : ps.all pairB = true) (r1 : R) (i : Nat) (hi : i + 1 < ps.length) (k : List D → List R → T (List D × List R)) (acc : List D) (hk : acc.length < sizeLine) : lcG fYes e_are_pairs_c2 acc [2] k (fgN 2 (.int i) [.val (.tup ps), r1, .no]) = k (acc ++ [.bl (decide (keyAt ps i < keyAt ps (i + 1)))]) [.val (.tup ps), r1, .no] := by
  obtain ⟨a1, b1, h1, e1⟩ := pair_at hp (i := i) (by omega)
  obtain ⟨a2, b2, h2, e2⟩ := pair_at hp hi
  have a1' := atI_nat h1
  have a2' := atI_nat1 h2
  rw [e1, e2]
  rw [sizeLine_eq] at hk
  unfold e_are_pairs_c2
  push_cast [a1', a2', hk]
theorem asc_one2 {ps : List D} (hp : ps.all pairB = true) (r1 : R) (i : Nat) (hi : i + 1 < ps.length) (k : List D → List R → T (List D × List R)) (acc : List D) (hk : acc.length < sizeLine) : lcG t__law_are_pairs_c2 e__law_are_pairs_c2 acc [2] k (fgN 2 (.int i) [.val (.tup ps), r1, .no]) = if keyAt ps i < keyAt ps (i + 1) then k acc [.val (.tup ps), r1, .no] else k (acc ++ [.int i]) [.val (.tup ps), r1, .no] := by
  obtain ⟨a1, b1, h1, e1⟩ := pair_at hp (i := i) (by omega)
  obtain ⟨a2, b2, h2, e2⟩ := pair_at hp hi
  have a1' := atI_nat h1
  have a2' := atI_nat1 h2
  rw [e1, e2]
  rw [sizeLine_eq] at hk
  unfold e__law_are_pairs_c2 t__law_are_pairs_c2
  by_cases h : a1 < a2
  · have h' : ¬ (a1 ≥ a2) := by omega
    push_cast [a1', a2', hk, h, h']
  · have h' : a1 ≥ a2 := by omega
    push_cast [a1', a2', hk, h, h']
theorem are_pairs_eq {d : D} (h : AnyN 2 d) : m_are_pairs [.val d] = .ret (.val (.val (.bl (pairsB d)))) := by
  unfold m_are_pairs fs_are_pairs
  cases d with
  | tup ps =>
    obtain ⟨hl, hx⟩ := h.tup
    have lp := pairs_loop (.tup ps) ps hx
    cases h : ps.all pairB
    · rw [h] at lp
      push_cast [lp, pairsB, h]
    · rw [h] at lp
      have lc := lc_map (g := fgN 2) (t := fYes) (e := e_are_pairs_c2) (vs := [2]) (δ0 := [.val (.tup ps), .no, .no]) (fun i : Nat => D.int i) (fun i => D.bl (decide (keyAt ps i < keyAt ps (i + 1)))) (List.range (ps.length - 1)) [] (fun i hi acc k hk => asc_one h .no i (by have := List.mem_range.mp hi; omega) k acc hk) (by rw [sizeLine_eq, List.length_range]; simp only [List.length_nil]; omega)
      rw [← rng0, List.nil_append] at lc
      have e1 : ((List.range (ps.length - 1)).map fun i => D.bl (decide (keyAt ps i < keyAt ps (i + 1)))) = (ascL ps).map D.bl := by unfold ascL; rw [List.map_map]; rfl
      rw [e1] at lc
      have bl := bls_all (ascL ps)
      have e2 : ((ps.length : Int) - 1).toNat = ps.length - 1 := by omega
      push_cast [lp, pairsB, h]
      rw [if_pos (by omega), e2, lc]
      push_cast [bl, ascB]
  | _ => first | exact h.elim | push_cast [pairsB]
theorem lare_pairs_eq {d : D} (h : AnyN 2 d) : m__law_are_pairs [.val d] = .ret (.val (.val (.bl (pairsB d)))) := by
  unfold m__law_are_pairs fs__law_are_pairs
  cases d with
  | tup ps =>
    obtain ⟨hl, hx⟩ := h.tup
    have lp := lpairs_loop (.tup ps) ps hx
    cases h : ps.all pairB
    · rw [h] at lp
      push_cast [lp, pairsB, h]
    · rw [h] at lp
      have lc := lc_filt (g := fgN 2) (t := t__law_are_pairs_c2) (e := e__law_are_pairs_c2) (vs := [2]) (δ0 := [.val (.tup ps), .no, .no]) (fun i : Nat => D.int i) (fun i => !decide (keyAt ps i < keyAt ps (i + 1))) (List.range (ps.length - 1)) [] (fun i hi acc k hk => by
        rw [asc_one2 h .no i (by have := List.mem_range.mp hi; omega) k acc hk]
        by_cases h : keyAt ps i < keyAt ps (i + 1)
        · rw [if_pos h, decide_eq_true h]; rfl
        · rw [if_neg h, decide_eq_false h]; rfl) (by rw [sizeLine_eq, List.length_range]; simp only [List.length_nil]; omega)
      rw [← rng0, List.nil_append] at lc
      rw [show ((List.range (ps.length - 1)).filter fun i => !decide (keyAt ps i < keyAt ps (i + 1))).map (fun i : Nat => D.int i) = offL ps from rfl] at lc
      have e2 : ((ps.length : Int) - 1).toNat = ps.length - 1 := by omega
      have ok : (offL ps).all (okk 59) = true := offL_ok ps
      have en : eqAll (eqD 59) (offL ps) [] = ascB ps := (eq_nilL (offL ps)).trans (offL_nil ps)
      push_cast [lp, pairsB, h]
      rw [if_pos (by omega), e2, lc]
      push_cast [ok, en]
  | _ => first | exact h.elim | push_cast [pairsB]
theorem is_step_eq (c : Addr) {d : D} (h : AnyN 3 d) : m_is_step c [.val d] = .ret (.val (.val (.bl (stepB okN d)))) := by
  unfold m_is_step fs_is_step
  cases d with
  | tup xs =>
    obtain ⟨hl, hx⟩ := h.tup
    match xs, hl, hx with
    | [], _, _ => push_cast [stepB, two0]
    | [a], _, _ => push_cast [stepB, two1]
    | [a, b], _, hx =>
      have ha := hx a (by simp)
      have hb := hx b (by simp)
      cases a with
      | str w =>
        have hok : PyData.strOk w = true := ha
        by_cases hw : w = Str.ofString "found"
        · have e1 := are_pairs_eq hb
          have o1 : PyData.strOk (Str.ofString "found") = true := by decide +kernel
          subst hw
          push_cast [stepB, two, e1, o1]
        · have e1 := is_number_eq hb
          have hf : (w == Str.ofString "found") = false := by simpa using hw
          cases b with
          | int k =>
            push_cast [stepB, two, e1, hf, hok, hw]
            exact okN_fin w k _ rfl
          | _ => first | exact hb.elim | (push_cast [stepB, two, e1, hf, hok, hw, numB]; split <;> rfl)
      | _ => first | exact ha.elim | push_cast [stepB, two]
    | a :: b :: c :: r, hl, _ =>
      have e := len_two a b c r
      generalize hxs : a :: b :: c :: r = xs at *
      have hp : stepB okN (.tup xs) = false := by rw [← hxs]; exact stepB_long ..
      push_cast [e, hp]
  | _ => first | exact h.elim | push_cast [stepB]
theorem lis_step_eq (c : Addr) {d : D} (h : AnyN 3 d) : m__law_is_step c [.val d] = .ret (.val (.val (.bl (stepB okN d)))) := by
  unfold m__law_is_step fs__law_is_step
  cases d with
  | tup xs =>
    obtain ⟨hl, hx⟩ := h.tup
    match xs, hl, hx with
    | [], _, _ => push_cast [stepB, two0]
    | [a], _, _ => push_cast [stepB, two1]
    | [a, b], _, hx =>
      have ha := hx a (by simp)
      have hb := hx b (by simp)
      cases a with
      | str w =>
        have hok : PyData.strOk w = true := ha
        by_cases hw : w = Str.ofString "found"
        · have e1 := lare_pairs_eq hb
          have o1 : PyData.strOk (Str.ofString "found") = true := by decide +kernel
          subst hw
          push_cast [stepB, two, e1, o1]
        · have e1 := lis_near_eq hb
          have hf : (w == Str.ofString "found") = false := by simpa using hw
          cases b with
          | int k =>
            push_cast [stepB, two, e1, hf, hok, hw]
            exact okN_fin w k _ (by first | rfl | exact decide_congr (by omega))
          | _ => first | exact hb.elim | (push_cast [stepB, two, e1, hf, hok, hw, numB]; split <;> rfl)
      | _ => first | exact ha.elim | push_cast [stepB, two]
    | a :: b :: c :: r, hl, _ =>
      have e := len_two a b c r
      generalize hxs : a :: b :: c :: r = xs at *
      have hp : stepB okN (.tup xs) = false := by rw [← hxs]; exact stepB_long ..
      push_cast [e, hp]
  | _ => first | exact h.elim | push_cast [stepB]
theorem are_steps_of (c : Addr) {ds : List D} (f : D → Bool) (h : ∀ d ∈ ds, m_is_step c [.val d] = .ret (.val (.val (.bl (f d))))) (hl : ds.length ≤ 16000000) : m_are_steps c [.val (.tup ds)] = .ret (.val (.val (.bl (ds.all f)))) := by
  have lc := lc_map (g := fgN 1) (t := fYes) (e := e_are_steps_c1 c) (vs := [1]) (δ0 := [.val (.tup ds), .no]) (fun d : D => d) (fun d => D.bl (f d)) ds [] (fun d hd acc k hk => by
    rw [sizeLine_eq] at hk
    have e := h d hd
    unfold e_are_steps_c1
    push_cast [e, hk]) (by rw [sizeLine_eq]; simp only [List.length_nil]; omega)
  rw [List.map_id', List.nil_append] at lc
  have e1 : ds.map (fun d => D.bl (f d)) = (ds.map f).map D.bl := by rw [List.map_map]; rfl
  rw [e1] at lc
  have bl := bls_all (ds.map f)
  unfold m_are_steps fs_are_steps
  push_cast [lc, bl]
  simp [List.all_map, Function.comp_def]
theorem lare_steps_of (c : Addr) {ds : List D} (f : D → Bool) (h : ∀ d ∈ ds, m__law_is_step c [.val d] = .ret (.val (.val (.bl (f d))))) (hl : ds.length ≤ 16000000) : m__law_are_steps c [.val (.tup ds)] = .ret (.val (.val (.bl (ds.all f)))) := by
  have lc := lc_filt (g := fgN 1) (t := t__law_are_steps_c1 c) (e := e__law_are_steps_c1 c) (vs := [1]) (δ0 := [.val (.tup ds), .no]) (fun d : D => d) (fun d => !f d) ds [] (fun d hd acc k hk => by
    rw [sizeLine_eq] at hk
    have e := h d hd
    unfold e__law_are_steps_c1 t__law_are_steps_c1
    cases hf : f d <;> (rw [hf] at e; push_cast [e, hk])) (by rw [sizeLine_eq]; simp only [List.length_nil]; omega)
  rw [List.map_id', List.map_id', List.nil_append] at lc
  unfold m__law_are_steps fs__law_are_steps
  push_cast [lc, k_eqNil, filt_nil]
end QN.PK20
set_option maxHeartbeats 2000000
namespace QN.PK20
open PySem PySem.Spec L2 DL K20 QN QB
local macro_rules | `(tactic| walk_at "ev") => `(tactic| try simp only [q_dispM, q_dispK, q_dnewM, q_mix, q_fiMix, q_dcmW, q_itemsM, q_dictM, q_putM, q_neDicM, q_isiQ, q_isisQ, q_tyNon, q_tyBl, q_tyInt, q_tyStr, q_tyLst, q_tyTup, q_tyDcm, q_tyObx, q_mkE, q_mkEK, q_up, q_upK, q_notQ, q_truN, q_truB, q_isN, q_isB, q_isD, q_kd_int, q_kd_bool, q_kd_str, q_kd_list, q_kd_tuple, q_kd_dict, q_tys0, q_tys1, q_tqNon, q_tqBl, q_tqInt, q_tqStr, q_tqDcm, List.contains_cons, List.contains_nil, Bool.true_or, t_fiStr, t_strI, t_inS, t_ninS, w_is_int_NoneType, w_is_int_int, w_is_int_bool, w_is_int_str, w_is_int_list, w_is_int_tuple, w_is_bool_NoneType, w_is_bool_int, w_is_bool_bool, w_is_bool_str, w_is_bool_list, w_is_bool_tuple, w_is_str_NoneType, w_is_str_int, w_is_str_bool, w_is_str_str, w_is_str_list, w_is_str_tuple, w_is_list_NoneType, w_is_list_int, w_is_list_bool, w_is_list_str, w_is_list_list, w_is_list_tuple, w_is_tuple_NoneType, w_is_tuple_int, w_is_tuple_bool, w_is_tuple_str, w_is_tuple_list, w_is_tuple_tuple, w_is_dict_NoneType, w_is_dict_int, w_is_dict_bool, w_is_dict_str, v_ret, v_fail, v_bind, v_on, v_go, v_of, v_ofN, v_ofI, v_useV, v_useO, v_useP, v_useKV, v_useKO, v_peekV, v_peekO, v_peekP, v_lookV, v_lookO, v_handV, v_handP, v_handKV, v_handKO, v_handKB, v_allN, v_allC, v_lkN, v_lkC, v_var, v_varV, v_varO, v_varB, v_c, v_bin, v_cmp, v_tst, v_bl, v_int, v_and, v_or, v_not, v_andV, v_orV, v_notV, v_if, v_nil, v_cons, v_vals, v_tup, v_lst, v_neg, v_ix, v_oN, v_oS, v_sl, v_cb, v_eS, v_next, v_sq, v_thN, v_thR, v_retS, v_rV, v_rO, v_rP, v_rKV, v_rKO, v_ifS, v_set, v_sV, v_sO, v_sP, v_sKV, v_asg, v_optS, v_gN, v_gT, v_gC, v_gNil, v_loopN, v_loopC, v_turnK, v_tuN, v_tuB, v_tuR, v_tuE, v_for, v_iW, v_wipe, v_wN, v_wR, v_iS, v_r1, v_r2, v_r1K, v_r2K, v_lcN, v_lcC, v_lcG, v_lcT, v_lcE, v_yes, v_comp, v_call, v_callF, v_callK, v_mk, v_outR, v_take, v_pubO, v_pubV, v_pubP, v_ixL, v_ixT, v_ixS, v_slL, v_slS, v_addI, v_addS, v_addL, v_sub, v_mod, v_pow, v_fdiv, v_mulI, v_mulL, v_cI, v_cNS, v_lenL, v_lenT, v_lenS, v_intI, v_intB, v_abs, v_max2, v_min2, v_listL, v_listT, v_tupleL, v_par, v_putN, v_putC, v_inT, v_ngT, v_ngF, v_inDN, v_inDC, v_flN, v_flB, v_flI, v_flS, v_flT, v_flL, v_rev, v_lstO, v_aug, v_augO, v_augR, v_augRK, v_augAK, v_augB, v_augBK, v_ppN, v_ppC, v_setIx, v_setIxS, v_setIx0, v_setIxK, v_setIx1, v_setIx2, v_chain, v_bAll, Option.isSome_some, Option.isSome_none, Option.getD_some, Option.getD_none, putD, List.foldl_cons, List.foldl_nil, List.any_cons, List.any_nil, Bool.or_false, Bool.false_or, Bool.or_true, Bool.true_or, List.find?_cons, List.find?_nil, R.val.injEq, v_itemsL, v_itemsT, gt, st, wipeD, backD, R.stay, vals?, startK, v_at0, v_at1, v_at2, v_at3, v_at4, v_at5, v_atL, T.bind_ret, T.bind_fail, T.bind_ite, T.bind_any, T.All_retE, T.All_anyE, T.All_failE, T.All_iteE, ite_ap, cEqF, okk, eqD, eqAll, ofS_inj, ofS_beq, strOk_ofS, Option.bind_some, Option.map_some, Option.map_none, Sum.inr.injEq, Sum.inl.injEq, List.length_cons, List.length_nil, if_true, if_false, ite_true, ite_false, Bool.not_true, Bool.not_false, beq_self_eq_true, beq_iff_eq, decide_true, decide_false, decide_eq_true_eq, and_self, and_true, true_and, and_false, false_and, Bool.false_eq_true, Bool.true_eq_false, reduceIte, reduceCtorEq, Nat.reduceAdd, Nat.reduceEqDiff, Nat.reduceLeDiff, Nat.reduceLT, String.reduceEq, Int.reduceNeg, Int.reduceLE, Int.reduceLT, Int.reduceEq, Int.reduceToNat, Int.reducePow, Int.reduceAdd, Int.reduceSub, Int.reduceMul, Int.reduceAbs, Int.natAbs_neg, Nat.reducePow, Bool.and_true, Bool.true_and, Bool.and_false, Bool.false_and, List.lookup, sizeLine_eq, Option.some.injEq, List.all_cons, List.all_nil, List.nil_append, List.cons_append, Bool.not_eq_true', Bool.and_eq_true, not_true_eq_false, not_false_eq_true, List.map_cons, List.map_nil, decide_not, true_implies, false_implies, implies_true, not_true, ne_eq, Bool.not_eq_eq_eq_not])
local macro_rules | `(tactic| walk_at "pl") => `(tactic| repeat (with_reducible refine T.All_bind.mpr ?_))
local macro_rules | `(tactic| walk_at "ew") => `(tactic| try simp only [q_dispM, q_dispK, q_dnewM, q_mix, q_fiMix, q_dcmW, q_itemsM, q_dictM, q_putM, q_neDicM, q_isiQ, q_isisQ, q_tyNon, q_tyBl, q_tyInt, q_tyStr, q_tyLst, q_tyTup, q_tyDcm, q_tyObx, q_mkE, q_mkEK, q_up, q_upK, q_notQ, q_truN, q_truB, q_isN, q_isB, q_isD, q_kd_int, q_kd_bool, q_kd_str, q_kd_list, q_kd_tuple, q_kd_dict, q_tys0, q_tys1, q_tqNon, q_tqBl, q_tqInt, q_tqStr, q_tqDcm, List.contains_cons, List.contains_nil, Bool.true_or, w_is_int_NoneType, w_is_int_int, w_is_int_bool, w_is_int_str, w_is_int_list, w_is_int_tuple, w_is_bool_NoneType, w_is_bool_int, w_is_bool_bool, w_is_bool_str, w_is_bool_list, w_is_bool_tuple, w_is_str_NoneType, w_is_str_int, w_is_str_bool, w_is_str_str, w_is_str_list, w_is_str_tuple, w_is_list_NoneType, w_is_list_int, w_is_list_bool, w_is_list_str, w_is_list_list, w_is_list_tuple, w_is_tuple_NoneType, w_is_tuple_int, w_is_tuple_bool, w_is_tuple_str, w_is_tuple_list, w_is_tuple_tuple, w_is_dict_NoneType, w_is_dict_int, w_is_dict_bool, w_is_dict_str, v_ret, v_fail, v_bind, v_on, v_go, v_of, v_ofN, v_ofI, v_useV, v_useO, v_useP, v_useKV, v_useKO, v_peekV, v_peekO, v_peekP, v_lookV, v_lookO, v_handV, v_handP, v_handKV, v_handKO, v_handKB, v_allN, v_allC, v_lkN, v_lkC, v_var, v_varV, v_varO, v_varB, v_c, v_bin, v_cmp, v_tst, v_bl, v_int, v_and, v_or, v_not, v_andV, v_orV, v_notV, v_if, v_nil, v_cons, v_vals, v_tup, v_lst, v_neg, v_ix, v_oN, v_oS, v_sl, v_cb, v_eS, v_next, v_sq, v_thN, v_thR, v_retS, v_rV, v_rO, v_rP, v_rKV, v_rKO, v_ifS, v_set, v_sV, v_sO, v_sP, v_sKV, v_asg, v_optS, v_gN, v_gT, v_gC, v_gNil, v_loopN, v_loopC, v_turnK, v_tuN, v_tuB, v_tuR, v_tuE, v_for, v_iW, v_wipe, v_wN, v_wR, v_iS, v_r1, v_r2, v_r1K, v_r2K, v_lcN, v_lcC, v_lcG, v_lcT, v_lcE, v_yes, v_comp, v_call, v_callF, v_callK, v_mk, v_outR, v_take, v_pubO, v_pubV, v_pubP, v_ixL, v_ixT, v_ixS, v_slL, v_slS, v_addI, v_addS, v_addL, v_sub, v_mod, v_pow, v_fdiv, v_mulI, v_mulL, v_cI, v_cNS, v_lenL, v_lenT, v_lenS, v_intI, v_intB, v_abs, v_max2, v_min2, v_listL, v_listT, v_tupleL, v_par, v_putN, v_putC, v_inT, v_ngT, v_ngF, v_inDN, v_inDC, v_flN, v_flB, v_flI, v_flS, v_flT, v_flL, v_rev, v_lstO, v_aug, v_augO, v_augR, v_augRK, v_augAK, v_augB, v_augBK, v_ppN, v_ppC, v_setIx, v_setIxS, v_setIx0, v_setIxK, v_setIx1, v_setIx2, v_chain, v_bAll, Option.isSome_some, Option.isSome_none, Option.getD_some, Option.getD_none, List.foldl_cons, List.foldl_nil, List.any_cons, List.any_nil, Bool.or_false, Bool.false_or, Bool.or_true, Bool.true_or, R.val.injEq, v_itemsL, v_itemsT, gt, st, wipeD, backD, R.stay, vals?, startK, v_at0, v_at1, v_at2, v_at3, v_at4, v_at5, v_atL, T.bind_ret, T.bind_fail, T.bind_ite, T.bind_any, T.All_retE, T.All_anyE, T.All_failE, T.All_iteE, ite_ap, cEqF, okk, eqD, eqAll, ofS_inj, ofS_beq, strOk_ofS, Option.bind_some, Option.map_some, Option.map_none, Sum.inr.injEq, Sum.inl.injEq, List.length_cons, List.length_nil, if_true, if_false, ite_true, ite_false, Bool.not_true, Bool.not_false, beq_self_eq_true, beq_iff_eq, decide_true, decide_false, decide_eq_true_eq, and_self, and_true, true_and, and_false, false_and, Bool.false_eq_true, Bool.true_eq_false, reduceIte, reduceCtorEq, Nat.reduceAdd, Nat.reduceEqDiff, Nat.reduceLeDiff, Nat.reduceLT, String.reduceEq, Int.reduceNeg, Int.reduceLE, Int.reduceLT, Int.reduceEq, Int.reduceToNat, Int.reducePow, Int.reduceAdd, Int.reduceSub, Int.reduceMul, Int.reduceAbs, Int.natAbs_neg, Nat.reducePow, Bool.and_true, Bool.true_and, Bool.and_false, Bool.false_and, List.lookup, sizeLine_eq, Option.some.injEq, List.all_cons, List.all_nil, List.nil_append, List.cons_append, Bool.not_eq_true', Bool.and_eq_true, not_true_eq_false, not_false_eq_true, List.map_cons, List.map_nil, decide_not, true_implies, false_implies, implies_true, not_true, ne_eq, Bool.not_eq_eq_eq_not])
local macro_rules | `(tactic| push_cast [$xs:simpLemma,*]) => `(tactic| simp only [q_dispM, q_dispK, q_dnewM, q_mix, q_fiMix, q_dcmW, q_itemsM, q_dictM, q_putM, q_neDicM, q_isiQ, q_isisQ, q_tyNon, q_tyBl, q_tyInt, q_tyStr, q_tyLst, q_tyTup, q_tyDcm, q_tyObx, q_mkE, q_mkEK, q_up, q_upK, q_notQ, q_truN, q_truB, q_isN, q_isB, q_isD, q_kd_int, q_kd_bool, q_kd_str, q_kd_list, q_kd_tuple, q_kd_dict, q_tys0, q_tys1, q_tqNon, q_tqBl, q_tqInt, q_tqStr, q_tqDcm, List.contains_cons, List.contains_nil, Bool.true_or, w_is_int_NoneType, w_is_int_int, w_is_int_bool, w_is_int_str, w_is_int_list, w_is_int_tuple, w_is_bool_NoneType, w_is_bool_int, w_is_bool_bool, w_is_bool_str, w_is_bool_list, w_is_bool_tuple, w_is_str_NoneType, w_is_str_int, w_is_str_bool, w_is_str_str, w_is_str_list, w_is_str_tuple, w_is_list_NoneType, w_is_list_int, w_is_list_bool, w_is_list_str, w_is_list_list, w_is_list_tuple, w_is_tuple_NoneType, w_is_tuple_int, w_is_tuple_bool, w_is_tuple_str, w_is_tuple_list, w_is_tuple_tuple, w_is_dict_NoneType, w_is_dict_int, w_is_dict_bool, w_is_dict_str, v_ret, v_fail, v_bind, v_on, v_go, v_of, v_ofN, v_ofI, v_useV, v_useO, v_useP, v_useKV, v_useKO, v_peekV, v_peekO, v_peekP, v_lookV, v_lookO, v_handV, v_handP, v_handKV, v_handKO, v_handKB, v_allN, v_allC, v_lkN, v_lkC, v_var, v_varV, v_varO, v_varB, v_c, v_bin, v_cmp, v_tst, v_bl, v_int, v_and, v_or, v_not, v_andV, v_orV, v_notV, v_if, v_nil, v_cons, v_vals, v_tup, v_lst, v_neg, v_ix, v_oN, v_oS, v_sl, v_cb, v_eS, v_next, v_sq, v_thN, v_thR, v_retS, v_rV, v_rO, v_rP, v_rKV, v_rKO, v_ifS, v_set, v_sV, v_sO, v_sP, v_sKV, v_asg, v_optS, v_gN, v_gT, v_gC, v_gNil, v_loopN, v_loopC, v_turnK, v_tuN, v_tuB, v_tuR, v_tuE, v_for, v_iW, v_wipe, v_wN, v_wR, v_iS, v_r1, v_r2, v_r1K, v_r2K, v_lcN, v_lcC, v_lcG, v_lcT, v_lcE, v_yes, v_comp, v_call, v_callF, v_callK, v_mk, v_outR, v_take, v_pubO, v_pubV, v_pubP, v_ixL, v_ixT, v_ixS, v_slL, v_slS, v_addI, v_addS, v_addL, v_sub, v_mod, v_pow, v_fdiv, v_mulI, v_mulL, v_cI, v_cNS, v_lenL, v_lenT, v_lenS, v_intI, v_intB, v_abs, v_max2, v_min2, v_listL, v_listT, v_tupleL, v_par, v_putN, v_putC, v_inT, v_ngT, v_ngF, v_inDN, v_inDC, v_flN, v_flB, v_flI, v_flS, v_flT, v_flL, v_rev, v_lstO, v_aug, v_augO, v_augR, v_augRK, v_augAK, v_augB, v_augBK, v_ppN, v_ppC, v_setIx, v_setIxS, v_setIx0, v_setIxK, v_setIx1, v_setIx2, v_chain, v_bAll, Option.isSome_some, Option.isSome_none, Option.getD_some, Option.getD_none, putD, List.foldl_cons, List.foldl_nil, List.any_cons, List.any_nil, Bool.or_false, Bool.false_or, Bool.or_true, Bool.true_or, List.find?_cons, List.find?_nil, R.val.injEq, v_itemsL, v_itemsT, gt, st, wipeD, backD, R.stay, vals?, startK, v_at0, v_at1, v_at2, v_at3, v_at4, v_at5, v_atL, T.bind_ret, T.bind_fail, T.bind_ite, T.bind_any, T.All_retE, T.All_anyE, T.All_failE, T.All_iteE, ite_ap, cEqF, okk, eqD, eqAll, ofS_inj, ofS_beq, strOk_ofS, Option.bind_some, Option.map_some, Option.map_none, Sum.inr.injEq, Sum.inl.injEq, List.length_cons, List.length_nil, if_true, if_false, ite_true, ite_false, Bool.not_true, Bool.not_false, beq_self_eq_true, beq_iff_eq, decide_true, decide_false, decide_eq_true_eq, and_self, and_true, true_and, and_false, false_and, Bool.false_eq_true, Bool.true_eq_false, reduceIte, reduceCtorEq, Nat.reduceAdd, Nat.reduceEqDiff, Nat.reduceLeDiff, Nat.reduceLT, String.reduceEq, Int.reduceNeg, Int.reduceLE, Int.reduceLT, Int.reduceEq, Int.reduceToNat, Int.reducePow, Int.reduceAdd, Int.reduceSub, Int.reduceMul, Int.reduceAbs, Int.natAbs_neg, Nat.reducePow, Bool.and_true, Bool.true_and, Bool.and_false, Bool.false_and, List.lookup, sizeLine_eq, Option.some.injEq, List.all_cons, List.all_nil, List.nil_append, List.cons_append, Bool.not_eq_true', Bool.and_eq_true, not_true_eq_false, not_false_eq_true, List.map_cons, List.map_nil, decide_not, true_implies, false_implies, implies_true, not_true, ne_eq, Bool.not_eq_eq_eq_not, $xs,*])
def Tw (d : D) : Prop := ∃ (w : World) (B n : Nat), Th w B n d ∧ n ≤ 59 ∧ wd 60 d ≤ 16000000
theorem Tw.any {d : D} (h : Tw d) (k : Nat) : AnyN k d := by
  obtain ⟨w, B, n, h, hn, hw⟩ := h
  exact th_any h hn hw
theorem Tw.tup {xs : List D} (h : Tw (.tup xs)) : xs.length ≤ 16000000 ∧ ∀ x ∈ xs, Tw x := by
  obtain ⟨w, B, n, h, hn, hw⟩ := h
  rw [wd_tup h hn] at hw
  have := len_wdL xs
  exact ⟨by omega, fun x hx => ⟨w, B, n - 1, (th_tup h x hx).1, by omega, by have := wdL_mem hx; omega⟩⟩
theorem Tw.str {x : Str} (h : Tw (.str x)) : PyData.strOk x = true ∧ x.length ≤ 16000000 := by
  obtain ⟨w, B, n, h, hn, hw⟩ := h
  rw [wd60_str] at hw
  exact ⟨asc_ok (of_str h), by omega⟩
def letters : Str := Str.ofString "abcdefghijklmnopqrstuvwxyz"
def allIn (t x : Str) : Bool := x.cps.toList.all fun c => inTx ⟨#[c]⟩ t
def isW (x : Str) : Bool := decide (1 ≤ x.length ∧ x.length ≤ 8) && allIn letters x
def wordB : D → Bool
  | .str x => isW x
  | _ => false
theorem is_name_str (c : Addr) {x : Str} (hx : x.length ≤ 16000000) : m_is_name c [.val (.str x)] = .ret (.val (.val (.bl (isW x)))) := by
  have hs : x.cps.toList.length = x.length := Array.length_toList
  have lc := lc_map (g := fgN 1) (t := fYes) (e := e_is_name_c1 c) (vs := [1]) (δ0 := [.val (.str x), .no]) (fun c : Nat => D.str ⟨#[c]⟩) (fun c => D.bl (inTx ⟨#[c]⟩ letters)) x.cps.toList [] (fun c _ acc k hk => by
    rw [sizeLine_eq] at hk
    unfold e_is_name_c1 gd_LETTERS
    walk_at "ev"
    rw [if_pos hk]; rfl) (by rw [sizeLine_eq, hs]; simp only [List.length_nil]; omega)
  rw [List.nil_append] at lc
  have bl := bls_all (x.cps.toList.map fun c => inTx ⟨#[c]⟩ letters)
  rw [List.map_map] at bl
  have bl : blsOf (x.cps.toList.map fun c => D.bl (inTx ⟨#[c]⟩ letters)) = some (x.cps.toList.map fun c => inTx ⟨#[c]⟩ letters) := bl
  have al : (x.cps.toList.map fun c => inTx ⟨#[c]⟩ letters).all id = allIn letters x := by unfold allIn; rw [List.all_map]; rfl
  rw [show (x.cps.toList.map fun c : Nat => D.str ⟨#[c]⟩) = signs x from rfl] at lc
  have z : x.length ≤ 16777216 := by omega
  unfold m_is_name fs_is_name gd_MOST_LETTERS isW
  by_cases h1 : 1 ≤ x.length ∧ x.length ≤ 8
  · have a1 : (1 : Int) ≤ x.length := by omega
    have a2 : (x.length : Int) ≤ 8 := by omega
    push_cast [z, a1, a2, lc, bl, al, h1, t_fiStr, t_strI]
  · rw [decide_eq_false h1]
    by_cases a1 : (1 : Int) ≤ x.length
    · have a2 : ¬ (x.length : Int) ≤ 8 := by omega
      push_cast [z, a1, a2]
    · push_cast [z, a1]
theorem lis_word_str (c : Addr) {x : Str} (hx : x.length ≤ 16000000) : m__law_is_word c [.val (.str x)] = .ret (.val (.val (.bl (isW x)))) := by
  have hs : x.cps.toList.length = x.length := Array.length_toList
  have lc := lc_filt (g := fgN 1) (t := t__law_is_word_c1 c) (e := e__law_is_word_c1 c) (vs := [1]) (δ0 := [.val (.str x), .no]) (fun c : Nat => D.str ⟨#[c]⟩) (fun c => !inTx ⟨#[c]⟩ letters) x.cps.toList [] (fun k _ acc q hk => by
    rw [sizeLine_eq] at hk
    unfold e__law_is_word_c1 t__law_is_word_c1 letters
    cases hb : inTx ⟨#[k]⟩ (Str.ofString "abcdefghijklmnopqrstuvwxyz") <;> push_cast [hb, hk, t_ninS]) (by rw [sizeLine_eq, hs]; simp only [List.length_nil]; omega)
  rw [List.nil_append] at lc
  rw [show (x.cps.toList.map fun c : Nat => D.str ⟨#[c]⟩) = signs x from rfl] at lc
  have fn : ((x.cps.toList.filter fun c => !inTx ⟨#[c]⟩ letters).map fun c : Nat => D.str ⟨#[c]⟩).isEmpty = allIn letters x := by rw [List.isEmpty_map]; exact filt_nil _ _
  have z : x.length ≤ 16777216 := by omega
  unfold m__law_is_word fs__law_is_word isW
  by_cases h1 : 1 ≤ x.length ∧ x.length ≤ 8
  · have a1 : (0 : Int) < x.length := by omega
    have a2 : (x.length : Int) < 9 := by omega
    push_cast [z, a1, a2, lc, k_eqNil, fn, h1, t_fiStr, t_strI]
  · rw [decide_eq_false h1]
    by_cases a1 : (0 : Int) < x.length
    · have a2 : ¬ (x.length : Int) < 9 := by omega
      push_cast [z, a1, a2]
    · push_cast [z, a1]
theorem is_name_eq (c : Addr) {d : D} (h : Tw d) : m_is_name c [.val d] = .ret (.val (.val (.bl (wordB d)))) := by
  have h0 := h.any 0
  cases d with
  | str x => exact is_name_str c h.str.2
  | _ => first | exact h0.elim | (unfold m_is_name fs_is_name; push_cast [wordB])
theorem lis_word_eq (c : Addr) {d : D} (h : Tw d) : m__law_is_word c [.val d] = .ret (.val (.val (.bl (wordB d)))) := by
  have h0 := h.any 0
  cases d with
  | str x => exact lis_word_str c h.str.2
  | _ => first | exact h0.elim | (unfold m__law_is_word fs__law_is_word; push_cast [wordB])
def two2 (w : Str) : Bool := (Str.ofString "empty" == w) || (Str.ofString "number" == w)
def signB : D → Bool
  | .str g => (Str.ofString "<" == g) || ((Str.ofString "<=" == g) || ((Str.ofString "<>" == g) || ((Str.ofString "=" == g) || ((Str.ofString ">" == g) || (Str.ofString ">=" == g)))))
  | _ => false
def testB : D → Bool
  | .tup [.str w, n] => two2 w && wordB n
  | .tup [.str w, n, s, g, k] => (w == Str.ofString "asks") && (wordB n && (stepsB okN s && (signB g && numB k)))
  | _ => false
theorem are_steps_any (c : Addr) {d : D} (h : AnyN 4 d) : m_are_steps c [.val d] = .ret (.val (.val (.bl (stepsB okN d)))) := by
  cases d with
  | tup ds => exact are_steps_of c (stepB okN) (fun x hx => is_step_eq c (h.tup.2 x hx)) h.tup.1
  | _ => first | exact h.elim | (unfold m_are_steps fs_are_steps; push_cast [stepsB])
theorem lare_steps_any (c : Addr) {d : D} (h : AnyN 4 d) : m__law_are_steps c [.val d] = .ret (.val (.val (.bl (stepsB okN d)))) := by
  cases d with
  | tup ds => exact lare_steps_of c (stepB okN) (fun x hx => lis_step_eq c (h.tup.2 x hx)) h.tup.1
  | _ => first | exact h.elim | (unfold m__law_are_steps fs__law_are_steps; push_cast [stepsB])
theorem lt22 : ¬ (((2 : Nat) : Int) < 2) := by decide
theorem lt52 : ¬ (((5 : Nat) : Int) < 2) := by decide
theorem lt02 : ((0 : Nat) : Int) < 2 := by decide
theorem lt12 : ((1 : Nat) : Int) < 2 := by decide
theorem e25 : (((2 : Nat) : Int) == 5) = false := rfl
theorem e52 : (((5 : Nat) : Int) == 2) = false := rfl
theorem e55 : (((5 : Nat) : Int) == 5) = true := rfl
theorem s22 : ((2 : Int) == ((2 : Nat) : Int)) = true := rfl
theorem s25 : ((2 : Int) == ((5 : Nat) : Int)) = false := rfl
theorem s55 : ((5 : Int) == ((5 : Nat) : Int)) = true := rfl
theorem s20 : ((2 : Int) == ((0 : Nat) : Int)) = false := rfl
theorem s50 : ((5 : Int) == ((0 : Nat) : Int)) = false := rfl
theorem s21 : ((2 : Int) == ((1 : Nat) : Int)) = false := rfl
theorem s51 : ((5 : Int) == ((1 : Nat) : Int)) = false := rfl
theorem is_test_two (c : Addr) {w : Str} {b : D} (hw : PyData.strOk w = true) (hb : Tw b) : m_is_test c [.val (.tup [.str w, b])] = .ret (.val (.val (.bl (testB (.tup [.str w, b]))))) := by
  have e1 := is_name_eq c hb
  have h2' : (Str.ofString "empty" == w || Str.ofString "number" == w) = two2 w := rfl
  unfold m_is_test fs_is_test
  cases h1 : wordB b
  · rw [h1] at e1; push_cast [e1, two, h1, testB, hw, lt22]
  · rw [h1] at e1
    cases h2 : two2 w
    · rw [h2] at h2'
      cases h3 : (w == Str.ofString "asks") <;> push_cast [e1, two, h1, h2, h2', h3, testB, hw, lt22, e25]
    · rw [h2] at h2'
      push_cast [e1, two, h1, h2, h2', testB, hw, lt22, e25]
theorem lis_test_two (c : Addr) {w : Str} {b : D} (hw : PyData.strOk w = true) (hb : Tw b) : m__law_is_test c [.val (.tup [.str w, b])] = .ret (.val (.val (.bl (testB (.tup [.str w, b]))))) := by
  have e1 := lis_word_eq c hb
  have h2' : (Str.ofString "empty" == w || Str.ofString "number" == w) = two2 w := rfl
  unfold m__law_is_test fs__law_is_test
  cases h1 : wordB b <;> (rw [h1] at e1; push_cast [e1, two, h1, testB, hw, s22, Bool.true_or, h2'])
theorem is_test_five (c : Addr) {w : Str} {b s g k : D} (hw : PyData.strOk w = true) (hb : Tw b) (hs : Tw s) (hg : Tw g) (hk : Tw k) : m_is_test c [.val (.tup [.str w, b, s, g, k])] = .ret (.val (.val (.bl (testB (.tup [.str w, b, s, g, k]))))) := by
  have e1 := is_name_eq c hb
  have e2 := are_steps_any c (hs.any 4)
  have e3 := is_number_eq (hk.any 0)
  have h2' : (Str.ofString "empty" == w || Str.ofString "number" == w) = two2 w := rfl
  unfold m_is_test fs_is_test
  cases h1 : wordB b
  · rw [h1] at e1; push_cast [e1, h1, testB, hw, lt52, Bool.false_and, Bool.and_false]
  · rw [h1] at e1
    cases h2 : two2 w
    · rw [h2] at h2'
      cases h3 : (w == Str.ofString "asks")
      · push_cast [e1, h1, h2', h3, testB, hw, lt52, e55]
      · cases h4 : stepsB okN s
        · rw [h4] at e2; push_cast [e1, e2, h1, h2', h3, h4, testB, hw, lt52, e55]
        · rw [h4] at e2
          have g0 := hg.any 0
          cases g with
          | str g =>
            have hz : PyData.strOk g = true := hg.str.1
            have gs : gl_SIGNS.all flatD = true := by decide +kernel
            have gi : inD (.str g) gl_SIGNS = signB (.str g) := by
              unfold gl_SIGNS signB
              have es : ∀ a g : Str, eqD 60 (.str a) (.str g) = (a == g) := fun _ _ => rfl
              simp only [inD, List.any_cons, List.any_nil, Bool.or_false, es]
            cases h5 : signB (.str g) <;> (rw [h5] at gi; push_cast [e1, e2, e3, h1, h2', h3, h4, h5, gs, gi, testB, hw, hz, lt52, e55, gd_SIGNS])
          | _ => first | exact g0.elim | push_cast [e1, e2, e3, h1, h2', h3, h4, signB, testB, hw, lt52, e55]
    · rw [h2] at h2'
      have h3 : (w == Str.ofString "asks") = false := by
        cases h3 : (w == Str.ofString "asks")
        · rfl
        · have e : w = Str.ofString "asks" := by simpa using h3
          subst e
          exact absurd h2 (by decide +kernel)
      push_cast [e1, h1, h2', h3, testB, hw, lt52, e52]
theorem lis_test_five (c : Addr) {w : Str} {b s g k : D} (hw : PyData.strOk w = true) (hb : Tw b) (hs : Tw s) (hg : Tw g) (hk : Tw k) : m__law_is_test c [.val (.tup [.str w, b, s, g, k])] = .ret (.val (.val (.bl (testB (.tup [.str w, b, s, g, k]))))) := by
  have e1 := lis_word_eq c hb
  have e2 := lare_steps_any c (hs.any 4)
  have e3 := lis_near_eq (hk.any 0)
  unfold m__law_is_test fs__law_is_test
  cases h1 : wordB b
  · rw [h1] at e1; push_cast [e1, h1, testB, hw, s25, s55, Bool.false_and, Bool.and_false, Bool.false_or]
  · rw [h1] at e1
    cases h3 : (w == Str.ofString "asks")
    · push_cast [e1, h1, h3, testB, hw, s25, s55, e52, Bool.false_or]
    · cases h4 : stepsB okN s
      · rw [h4] at e2; push_cast [e1, e2, h1, h3, h4, testB, hw, s25, s55, e52, Bool.false_or]
      · rw [h4] at e2
        have g0 := hg.any 0
        cases g with
        | str g =>
          have hz : PyData.strOk g = true := hg.str.1
          have gi : (Str.ofString "<" == g || (Str.ofString "<=" == g || (Str.ofString "<>" == g || (Str.ofString "=" == g || (Str.ofString ">" == g || Str.ofString ">=" == g))))) = signB (.str g) := rfl
          cases h5 : signB (.str g) <;> (rw [h5] at gi; push_cast [e1, e2, e3, h1, h3, h4, h5, gi, testB, hw, hz, s25, s55, e52, Bool.false_or])
        | _ => first | exact g0.elim | push_cast [e1, e2, e3, h1, h3, h4, signB, testB, hw, s25, s55, e52, Bool.false_or]
theorem test_ne {w : Str} {b : D} {r : List D} (h2 : (D.str w :: b :: r).length ≠ 2) (h5 : (D.str w :: b :: r).length ≠ 5) : testB (.tup (.str w :: b :: r)) = false := by
  unfold testB
  split
  · rename_i e; cases e; exact absurd rfl h2
  · rename_i e; cases e; exact absurd rfl h5
  · rfl
theorem is_test_gen (c : Addr) {w : Str} {b : D} {r : List D} (hw : PyData.strOk w = true) (hb : Tw b) (hl : (D.str w :: b :: r).length ≤ 16000000) (h2 : (D.str w :: b :: r).length ≠ 2) (h5 : (D.str w :: b :: r).length ≠ 5) : m_is_test c [.val (.tup (.str w :: b :: r))] = .ret (.val (.val (.bl false))) := by
  have e1 := is_name_eq c hb
  have a0 : atI (D.str w :: b :: r) 0 = some (.str w) := v_at0
  have a1 : atI (D.str w :: b :: r) 1 = some b := v_at1
  have hge : 2 ≤ (D.str w :: b :: r).length := by simp
  generalize D.str w :: b :: r = xs at *
  have z : xs.length ≤ 16777216 := by omega
  have lt : ¬ ((xs.length : Int) < 2) := by omega
  have n2 : ((xs.length : Int) == 2) = false := by simp only [beq_eq_false_iff_ne, ne_eq]; omega
  have n5 : ((xs.length : Int) == 5) = false := by simp only [beq_eq_false_iff_ne, ne_eq]; omega
  have h2' : (Str.ofString "empty" == w || Str.ofString "number" == w) = two2 w := rfl
  unfold m_is_test fs_is_test
  cases h1 : wordB b
  · rw [h1] at e1; push_cast [e1, a0, a1, z, lt, hw]
  · rw [h1] at e1
    cases h2 : two2 w
    · rw [h2] at h2'
      cases h3 : (w == Str.ofString "asks") <;> push_cast [e1, a0, a1, z, lt, n2, n5, h2', h3, hw]
    · rw [h2] at h2'
      push_cast [e1, a0, a1, z, lt, n2, n5, h2', hw]
theorem lis_test_gen (c : Addr) {w : Str} {b : D} {r : List D} (hl : (D.str w :: b :: r).length ≤ 16000000) (h2 : (D.str w :: b :: r).length ≠ 2) (h5 : (D.str w :: b :: r).length ≠ 5) : m__law_is_test c [.val (.tup (.str w :: b :: r))] = .ret (.val (.val (.bl false))) := by
  generalize D.str w :: b :: r = xs at *
  have z : xs.length ≤ 16777216 := by omega
  have n2 : ((2 : Int) == (xs.length : Int)) = false := by simp only [beq_eq_false_iff_ne, ne_eq]; omega
  have n5 : ((5 : Int) == (xs.length : Int)) = false := by simp only [beq_eq_false_iff_ne, ne_eq]; omega
  unfold m__law_is_test fs__law_is_test
  push_cast [z, n2, n5]
theorem test_ns {a : D} {r : List D} (h : ∀ w, a ≠ .str w) : testB (.tup (a :: r)) = false := by
  unfold testB
  split
  · rename_i e; cases e; exact absurd rfl (h _)
  · rename_i e; cases e; exact absurd rfl (h _)
  · rfl
theorem is_test_eq (c : Addr) {d : D} (h : Tw d) : m_is_test c [.val d] = .ret (.val (.val (.bl (testB d)))) := by
  have h0 := h.any 0
  cases d with
  | tup xs =>
    obtain ⟨hl, hx⟩ := h.tup
    match xs, hl, hx with
    | [], _, _ => unfold m_is_test fs_is_test; push_cast [testB, lt02]
    | [a], _, _ => unfold m_is_test fs_is_test; push_cast [testB, lt12]
    | a :: b :: r, hl, hx =>
      have ha := hx a (by simp)
      have hb := hx b (by simp)
      have a0 := ha.any 0
      cases a with
      | str w =>
        match r, hl, hx with
        | [], _, _ => exact is_test_two c ha.str.1 hb
        | [s, g, k], _, hx => exact is_test_five c ha.str.1 hb (hx s (by simp)) (hx g (by simp)) (hx k (by simp))
        | [s], hl, _ => rw [test_ne (by simp) (by simp)]; exact is_test_gen c ha.str.1 hb hl (by simp) (by simp)
        | [s, g], hl, _ => rw [test_ne (by simp) (by simp)]; exact is_test_gen c ha.str.1 hb hl (by simp) (by simp)
        | s :: g :: k :: l :: r, hl, _ => rw [test_ne (by simp) (by simp)]; exact is_test_gen c ha.str.1 hb hl (by simp) (by simp)
      | _ => first
        | exact a0.elim
        | (rw [test_ns (by intro w e; cases e)]
           have z : ∀ x : D, (x :: b :: r).length ≤ 16777216 := fun x => by simp only [List.length_cons] at hl ⊢; omega
           have lt : ∀ x : D, ¬ (((x :: b :: r).length : Int) < 2) := fun x => by simp only [List.length_cons]; omega
           unfold m_is_test fs_is_test
           push_cast [z, lt]
           split <;> rfl)
  | _ => first | exact h0.elim | (unfold m_is_test fs_is_test; push_cast [testB])
theorem lis_test_eq (c : Addr) {d : D} (h : Tw d) : m__law_is_test c [.val d] = .ret (.val (.val (.bl (testB d)))) := by
  have h0 := h.any 0
  cases d with
  | tup xs =>
    obtain ⟨hl, hx⟩ := h.tup
    match xs, hl, hx with
    | [], _, _ => unfold m__law_is_test fs__law_is_test; push_cast [testB, s20, s50]
    | [a], _, _ => unfold m__law_is_test fs__law_is_test; push_cast [testB, s21, s51]
    | a :: b :: r, hl, hx =>
      have ha := hx a (by simp)
      have hb := hx b (by simp)
      have a0 := ha.any 0
      cases a with
      | str w =>
        match r, hl, hx with
        | [], _, _ => exact lis_test_two c ha.str.1 hb
        | [s, g, k], _, hx => exact lis_test_five c ha.str.1 hb (hx s (by simp)) (hx g (by simp)) (hx k (by simp))
        | [s], hl, _ => rw [test_ne (by simp) (by simp)]; exact lis_test_gen c hl (by simp) (by simp)
        | [s, g], hl, _ => rw [test_ne (by simp) (by simp)]; exact lis_test_gen c hl (by simp) (by simp)
        | s :: g :: k :: l :: r, hl, _ => rw [test_ne (by simp) (by simp)]; exact lis_test_gen c hl (by simp) (by simp)
      | _ => first
        | exact a0.elim
        | (rw [test_ns (by intro w e; cases e)]
           have z : ∀ x : D, (x :: b :: r).length ≤ 16777216 := fun x => by simp only [List.length_cons] at hl ⊢; omega
           unfold m__law_is_test fs__law_is_test
           push_cast [z]
           done)
        | (rw [test_ns (by intro w e; cases e)]
           have z : ∀ x : D, (x :: b :: r).length ≤ 16777216 := fun x => by simp only [List.length_cons] at hl ⊢; omega
           unfold m__law_is_test fs__law_is_test
           push_cast [z]
           split <;> rfl)
  | _ => first | exact h0.elim | (unfold m__law_is_test fs__law_is_test; push_cast [testB])
set_option maxHeartbeats 2000000
def grpB (w : Str) : Bool := (Str.ofString "all" == w) || ((Str.ofString "any" == w) || (Str.ofString "first" == w))
def ansB : D → Bool
  | .str s => (Str.ofString "error" == s) || ((Str.ofString "no" == s) || ((Str.ofString "unknown" == s) || (Str.ofString "yes" == s)))
  | _ => false
def rowC (f : D → Bool) : D → Bool
  | .tup xs => xs.all f
  | _ => false
def pairC (f : D → Bool) : D → Bool
  | .tup [a, b] => f a && f b
  | _ => false
def condF (f : D → Bool) : D → Bool
  | .tup [.str w, x] => if grpB w = true then rowC f x else if w == Str.ofString "not" then f x else if w == Str.ofString "always" then ansB x else testB (.tup [.str w, x])
  | .tup [.str w, x, y] => (w == Str.ofString "case") && (rowC (pairC f) x && f y)
  | d => testB d
def TwN (n : Nat) (d : D) : Prop := ∃ (w : World) (B : Nat), Th w B n d ∧ n ≤ 59 ∧ wd 60 d ≤ 16000000
theorem TwN.tw {n : Nat} {d : D} (h : TwN n d) : Tw d := by
  obtain ⟨w, B, a, b, c⟩ := h
  exact ⟨w, B, n, a, b, c⟩
theorem TwN.tup {n : Nat} {xs : List D} (h : TwN (n + 1) (.tup xs)) : ∀ x ∈ xs, TwN n x := by
  obtain ⟨w, B, h, hn, hw⟩ := h
  rw [wd_tup h hn] at hw
  exact fun x hx => ⟨w, B, (th_tup h x hx).1, by omega, by have := wdL_mem hx; omega⟩
theorem TwN.up {n m : Nat} {d : D} (h : TwN n d) (hm : n ≤ m) (h9 : m ≤ 59) : TwN m d := by
  obtain ⟨w, B, a, b, c⟩ := h
  exact ⟨w, B, a.up hm (Nat.le_refl _), h9, c⟩
section
variable {c : Addr} {RA RC RR : FM} {f : D → Bool}
theorem cond_two {w : Str} {x : D} (hw : PyData.strOk w = true) (hx : Tw x) (hA : RA [.val x] = .ret (.val (.val (.bl (rowC f x))))) (hR : RR [.val x] = .ret (.val (.val (.bl (f x))))) : mk 1 (fs_is_condition c RA RC RR) [.val (.tup [.str w, x])] = .ret (.val (.val (.bl (condF f (.tup [.str w, x]))))) := by
  have ht := is_test_two c hw hx
  have x0 := hx.any 0
  have hg : (Str.ofString "all" == w || (Str.ofString "any" == w || Str.ofString "first" == w)) = grpB w := rfl
  have m1 : ((2 : Int) == ((2 : Nat) : Int) || ((3 : Int) == ((2 : Nat) : Int) || (5 : Int) == ((2 : Nat) : Int))) = true := rfl
  have m3 : (((2 : Nat) : Int) == 3) = false := rfl
  have ga : gl_ANSWERS.all flatD = true := by decide +kernel
  unfold fs_is_condition
  generalize m_is_test c = MT at *
  by_cases hc : w = Str.ofString "case"
  · subst hc
    have q1 : grpB (Str.ofString "case") = false := by decide +kernel
    have q2 : (Str.ofString "case" == Str.ofString "not") = false := by decide +kernel
    have q3 : (Str.ofString "case" == Str.ofString "always") = false := by decide +kernel
    have q4 : testB (.tup [.str (Str.ofString "case"), x]) = false := by
      show (two2 (Str.ofString "case") && wordB x) = false
      rw [(by decide +kernel : two2 (Str.ofString "case") = false)]; rfl
    push_cast [m1, m3, hw, condF, q1, q2, q3, q4]
  · have hc' : (w == Str.ofString "case") = false := by simpa using hc
    cases g1 : grpB w
    · rw [g1] at hg
      cases n1 : (w == Str.ofString "not")
      · cases a1 : (w == Str.ofString "always")
        · push_cast [m1, m3, hw, hc', hg, condF, g1, n1, a1, ht]
        · cases x with
          | str s =>
            have hz := hx.str.1
            have gi : inD (.str s) gl_ANSWERS = ansB (.str s) := by
              unfold gl_ANSWERS ansB
              have es : ∀ a g : Str, eqD 60 (.str a) (.str g) = (a == g) := fun _ _ => rfl
              simp only [inD, List.any_cons, List.any_nil, Bool.or_false, es]
            push_cast [m1, m3, hw, hc', hg, condF, g1, n1, a1, hz, ga, gi, two, gd_ANSWERS]
          | _ => first | exact x0.elim | push_cast [m1, m3, hw, hc', hg, condF, g1, n1, a1, ansB, two]
      · push_cast [m1, m3, hw, hc', hg, condF, g1, n1, hR, two]
    · rw [g1] at hg
      push_cast [m1, m3, hw, hc', hg, condF, g1, hA, two]
end
set_option maxHeartbeats 2000000
section
theorem rows_eq {d : D} (h : Tw d) (hR : ∀ xs, d = .tup xs → ∀ x ∈ xs, RR [.val x] = .ret (.val (.val (.bl (f x))))) : mk 2 (fs_are_conditions c RA RC RR) [.val d] = .ret (.val (.val (.bl (rowC f d)))) := by
  have h0 := h.any 0
  cases d with
  | tup ds =>
    have hl := h.tup.1
    have lc := lc_map (g := fgN 1) (t := fYes) (e := e_are_conditions_c1 c RA RC RR) (vs := [1]) (δ0 := [.val (.tup ds), .no]) (fun d : D => d) (fun d => D.bl (f d)) ds [] (fun d hd acc k hk => by
      rw [sizeLine_eq] at hk
      have e := hR ds rfl d hd
      unfold e_are_conditions_c1
      push_cast [e, hk]) (by rw [sizeLine_eq]; simp only [List.length_nil]; omega)
    rw [List.map_id', List.nil_append] at lc
    have e1 : ds.map (fun d => D.bl (f d)) = (ds.map f).map D.bl := by rw [List.map_map]; rfl
    rw [e1] at lc
    have bl := bls_all (ds.map f)
    have al : (ds.map f).all id = ds.all f := by rw [List.all_map]; rfl
    unfold fs_are_conditions
    push_cast [lc, bl, al, rowC]
  | _ => first | exact h0.elim | (unfold fs_are_conditions; push_cast [rowC])
theorem lrows_eq {d : D} (h : Tw d) (hR : ∀ xs, d = .tup xs → ∀ x ∈ xs, RR [.val x] = .ret (.val (.val (.bl (f x))))) : mk 2 (fs__law_are_conditions c RA RR) [.val d] = .ret (.val (.val (.bl (rowC f d)))) := by
  have h0 := h.any 0
  cases d with
  | tup ds =>
    have hl := h.tup.1
    have lc := lc_filt (g := fgN 1) (t := t__law_are_conditions_c1 c RA RR) (e := e__law_are_conditions_c1 c RA RR) (vs := [1]) (δ0 := [.val (.tup ds), .no]) (fun d : D => d) (fun d => !f d) ds [] (fun d hd acc k hk => by
      rw [sizeLine_eq] at hk
      have e := hR ds rfl d hd
      unfold e__law_are_conditions_c1 t__law_are_conditions_c1
      cases hf : f d <;> (rw [hf] at e; push_cast [e, hk])) (by rw [sizeLine_eq]; simp only [List.length_nil]; omega)
    rw [List.map_id', List.map_id', List.nil_append] at lc
    unfold fs__law_are_conditions
    push_cast [lc, k_eqNil, filt_nil, rowC]
  | _ => first | exact h0.elim | (unfold fs__law_are_conditions; push_cast [rowC])
def is2 : D → Bool
  | .tup xs => (xs.length : Int) == 2
  | _ => false
theorem pair_of {d : D} (h : is2 d = true) : pairC f d = rowC f d := by
  cases d with
  | tup xs =>
    match xs, h with
    | [a, b], _ => show (f a && f b) = (f a && (f b && true)); rw [Bool.and_true]
    | [], h => cases h
    | [a], h => cases h
    | a :: b :: e :: r, h =>
      have h2 : (((a :: b :: e :: r).length : Int) == 2) = true := h
      rw [len_two] at h2; cases h2
  | _ => cases h
theorem pair_no {d : D} (h : is2 d = false) : pairC f d = false := by
  unfold pairC
  split
  · cases h
  · rfl
theorem pairs_all : ∀ (ps : List D), ps.all is2 = true → ps.all (rowC f) = ps.all (pairC f)
  | [], _ => rfl
  | p :: ps, h => by
    rw [List.all_cons, Bool.and_eq_true] at h
    rw [List.all_cons, List.all_cons, pair_of h.1, pairs_all ps h.2]
theorem pairs_no : ∀ (ps : List D), ps.all is2 = false → ps.all (pairC f) = false
  | p :: ps, h => by
    rw [List.all_cons] at h ⊢
    cases h2 : is2 p
    · rw [pair_no h2]; rfl
    · rw [h2, Bool.true_and] at h
      rw [pairs_no ps h, Bool.and_false]
theorem case_eq {w : Str} {x y : D} (hx : Tw x) (hA : ∀ ps, x = .tup ps → ∀ p ∈ ps, RA [.val p] = .ret (.val (.val (.bl (rowC f p))))) (hR : RR [.val y] = .ret (.val (.val (.bl (f y))))) : mk 2 (fs_is_case c RA RC RR) [.val (.tup [.str w, x, y])] = .ret (.val (.val (.bl (rowC (pairC f) x && f y)))) := by
  have h0 := hx.any 1
  cases x with
  | tup ps =>
    have hl := hx.tup.1
    have l1 := lc_map (g := fgN 1) (t := fYes) (e := e_is_case_c1 c RA RC RR) (vs := [1]) (δ0 := [.val (.tup [.str w, .tup ps, y]), .no]) (fun d : D => d) (fun d => D.bl (is2 d)) ps [] (fun d hd acc k hk => by
      rw [sizeLine_eq] at hk
      have d0 := (hx.tup.2 d hd).any 0
      unfold e_is_case_c1
      cases d with
      | tup xs =>
        have hz : xs.length ≤ 16777216 := Nat.le_trans (show xs.length ≤ 16000000 from d0) (by decide)
        push_cast [hz, is2, hk]
      | _ => first | exact d0.elim | push_cast [is2, hk]) (by rw [sizeLine_eq]; simp only [List.length_nil]; omega)
    have l2 := lc_map (g := fgN 1) (t := fYes) (e := e_is_case_c2 c RA RC RR) (vs := [1]) (δ0 := [.val (.tup [.str w, .tup ps, y]), .no]) (fun d : D => d) (fun d => D.bl (rowC f d)) ps [] (fun d hd acc k hk => by
      rw [sizeLine_eq] at hk
      have e := hA ps rfl d hd
      unfold e_is_case_c2
      push_cast [e, hk]) (by rw [sizeLine_eq]; simp only [List.length_nil]; omega)
    rw [List.map_id', List.nil_append] at l1 l2
    have m1 : ps.map (fun d => D.bl (is2 d)) = (ps.map is2).map D.bl := by rw [List.map_map]; rfl
    have m2 : ps.map (fun d => D.bl (rowC f d)) = (ps.map (rowC f)).map D.bl := by rw [List.map_map]; rfl
    rw [m1] at l1
    rw [m2] at l2
    have b1 := bls_all (ps.map is2)
    have b2 := bls_all (ps.map (rowC f))
    have a1 : (ps.map is2).all id = ps.all is2 := by rw [List.all_map]; rfl
    have a2 : (ps.map (rowC f)).all id = ps.all (rowC f) := by rw [List.all_map]; rfl
    unfold fs_is_case
    cases q1 : ps.all is2
    · have q2 : rowC (pairC f) (.tup ps) = false := pairs_no ps q1
      push_cast [l1, b1, a1, q1, q2]
    · have q2 : rowC (pairC f) (.tup ps) = ps.all (rowC f) := (pairs_all ps q1).symm
      rw [q2]
      cases q3 : ps.all (rowC f)
      · push_cast [l1, b1, a1, q1, l2, b2, a2, q3]
      · push_cast [l1, b1, a1, q1, l2, b2, a2, q3, hR]
  | _ => first | exact h0.elim | (unfold fs_is_case; push_cast [rowC])
end
set_option maxHeartbeats 2000000
theorem c31 : ((2 : Int) == ((3 : Nat) : Int) || ((3 : Int) == ((3 : Nat) : Int) || (5 : Int) == ((3 : Nat) : Int))) = true := rfl
theorem c32 : (((3 : Nat) : Int) == 2) = false := rfl
theorem c33 : (((3 : Nat) : Int) == 3) = true := rfl
theorem c51 : ((2 : Int) == ((5 : Nat) : Int) || ((3 : Int) == ((5 : Nat) : Int) || (5 : Int) == ((5 : Nat) : Int))) = true := rfl
theorem c53 : (((5 : Nat) : Int) == 3) = false := rfl
theorem c21 : ((2 : Int) == ((2 : Nat) : Int) || ((3 : Int) == ((2 : Nat) : Int) || (5 : Int) == ((2 : Nat) : Int))) = true := rfl
theorem c23 : (((2 : Nat) : Int) == 3) = false := rfl
section
theorem cond_three {w : Str} {x y : D} (hw : PyData.strOk w = true) (hx : Tw x) (hC : RC [.val (.tup [.str w, x, y])] = .ret (.val (.val (.bl (rowC (pairC f) x && f y))))) : mk 1 (fs_is_condition c RA RC RR) [.val (.tup [.str w, x, y])] = .ret (.val (.val (.bl (condF f (.tup [.str w, x, y]))))) := by
  have ht := is_test_gen c (w := w) (b := x) (r := [y]) hw hx (by simp) (by simp) (by simp)
  have hg : (Str.ofString "all" == w || (Str.ofString "any" == w || Str.ofString "first" == w)) = grpB w := rfl
  unfold fs_is_condition
  generalize m_is_test c = MT at *
  cases h1 : (w == Str.ofString "case")
  · cases g1 : grpB w
    · rw [g1] at hg
      cases n1 : (w == Str.ofString "not")
      · cases a1 : (w == Str.ofString "always") <;> push_cast [c31, c32, c33, hw, h1, hg, n1, a1, ht, condF]
      · push_cast [c31, c32, c33, hw, h1, hg, n1, condF]
    · rw [g1] at hg
      push_cast [c31, c32, c33, hw, h1, hg, condF]
  · push_cast [c31, c32, c33, hw, h1, hC, condF]
theorem lcond_two {w : Str} {x : D} (hw : PyData.strOk w = true) (hx : Tw x) (hA : RA [.val x] = .ret (.val (.val (.bl (rowC f x))))) (hR : RR [.val x] = .ret (.val (.val (.bl (f x))))) : mk 2 (fs__law_is_condition c RA RR) [.val (.tup [.str w, x])] = .ret (.val (.val (.bl (condF f (.tup [.str w, x]))))) := by
  have ht := lis_test_two c hw hx
  have x0 := hx.any 0
  have hg : (Str.ofString "all" == w || (Str.ofString "any" == w || Str.ofString "first" == w)) = grpB w := rfl
  unfold fs__law_is_condition
  generalize m__law_is_test c = MT at *
  cases h1 : (w == Str.ofString "case")
  · cases g1 : grpB w
    · rw [g1] at hg
      cases n1 : (w == Str.ofString "not")
      · cases a1 : (w == Str.ofString "always")
        · push_cast [c21, c23, hw, h1, hg, g1, n1, a1, ht, condF, two]
        · cases x with
          | str s =>
            have hz := hx.str.1
            have gi : (Str.ofString "error" == s || (Str.ofString "no" == s || (Str.ofString "unknown" == s || Str.ofString "yes" == s))) = ansB (.str s) := rfl
            push_cast [c21, c23, hw, h1, hg, g1, n1, a1, hz, gi, condF, two]
          | _ => first | exact x0.elim | push_cast [c21, c23, hw, h1, hg, g1, n1, a1, ansB, condF, two]
      · push_cast [c21, c23, hw, h1, hg, g1, n1, hR, condF, two]
    · rw [g1] at hg
      push_cast [c21, c23, hw, h1, hg, g1, hA, condF, two]
  · have e : w = Str.ofString "case" := by simpa using h1
    subst e
    have q1 : grpB (Str.ofString "case") = false := by decide +kernel
    have q2 : (Str.ofString "case" == Str.ofString "not") = false := by decide +kernel
    have q3 : (Str.ofString "case" == Str.ofString "always") = false := by decide +kernel
    rw [q1] at hg
    push_cast [c21, c23, hw, h1, hg, q1, q2, q3, ht, condF, two]
theorem lcase_lc {w : Str} {y : D} {ps : List D} (hl : ps.length ≤ 16000000) (h : ∀ p ∈ ps, Tw p) (hA : ∀ p ∈ ps, RA [.val p] = .ret (.val (.val (.bl (rowC f p))))) : fLc (fgN 1) (t__law_is_condition_c1 c RA RR) (e__law_is_condition_c1 c RA RR) [1] ps [] [.val (.tup [.str w, .tup ps, y]), .no] = .ret (ps.filter fun d => !pairC f d, [.val (.tup [.str w, .tup ps, y]), .no]) := by
  have lc := lc_filt (g := fgN 1) (t := t__law_is_condition_c1 c RA RR) (e := e__law_is_condition_c1 c RA RR) (vs := [1]) (δ0 := [.val (.tup [.str w, .tup ps, y]), .no]) (fun d : D => d) (fun d => !pairC f d) ps [] (fun d hd acc k hk => by
    rw [sizeLine_eq] at hk
    have e := hA d hd
    have d0 := (h d hd).any 0
    unfold e__law_is_condition_c1 t__law_is_condition_c1
    cases d with
    | tup xs =>
      have hz : xs.length ≤ 16777216 := Nat.le_trans (show xs.length ≤ 16000000 from d0) (by decide)
      cases hr : rowC f (.tup xs)
      · have hp : pairC f (.tup xs) = false := by
          cases h2 : is2 (.tup xs)
          · exact pair_no h2
          · rw [pair_of h2]; exact hr
        rw [hr] at e
        push_cast [e, hk, hp]
      · rw [hr] at e
        cases h2 : is2 (.tup xs)
        · have hp : pairC f (.tup xs) = false := pair_no h2
          have h2' : ((xs.length : Int) == 2) = false := h2
          push_cast [e, hk, hp, hz, h2']
        · have hp : pairC f (.tup xs) = true := (pair_of h2).trans hr
          have h2' : ((xs.length : Int) == 2) = true := h2
          push_cast [e, hk, hp, hz, h2']
    | _ => first | exact d0.elim | (simp only [rowC] at e; push_cast [e, hk, pairC])) (by rw [sizeLine_eq]; simp only [List.length_nil]; omega)
  rw [List.map_id', List.map_id', List.nil_append] at lc
  exact lc
theorem lcond_three {w : Str} {x y : D} (hw : PyData.strOk w = true) (hx : Tw x) (hA : ∀ ps, x = .tup ps → ∀ p ∈ ps, RA [.val p] = .ret (.val (.val (.bl (rowC f p))))) (hR : RR [.val y] = .ret (.val (.val (.bl (f y))))) : mk 2 (fs__law_is_condition c RA RR) [.val (.tup [.str w, x, y])] = .ret (.val (.val (.bl (condF f (.tup [.str w, x, y]))))) := by
  have ht := lis_test_gen c (w := w) (b := x) (r := [y]) (by simp) (by simp) (by simp)
  have x0 := hx.any 0
  unfold fs__law_is_condition
  generalize m__law_is_test c = MT at *
  cases h1 : (w == Str.ofString "case")
  · push_cast [c31, c32, c33, hw, h1, ht, condF]
  · cases hy : f y
    · rw [hy] at hR
      cases x <;> first | exact x0.elim | push_cast [c31, c32, c33, hw, h1, hR, hy, condF, rowC]
    · rw [hy] at hR
      cases x with
      | tup ps =>
        have lc := lcase_lc (c := c) (RR := RR) (w := w) (y := y) hx.tup.1 hx.tup.2 (hA ps rfl)
        push_cast [c31, c32, c33, hw, h1, hR, hy, lc, k_eqNil, filt_nil, condF, rowC]
      | _ => first | exact x0.elim | push_cast [c31, c32, c33, hw, h1, hR, hy, condF, rowC]
end
set_option maxHeartbeats 2000000
section
theorem cond_five {w : Str} {b s g k : D} (hw : PyData.strOk w = true) (hb : Tw b) (hs : Tw s) (hg0 : Tw g) (hk : Tw k) : mk 1 (fs_is_condition c RA RC RR) [.val (.tup [.str w, b, s, g, k])] = .ret (.val (.val (.bl (testB (.tup [.str w, b, s, g, k]))))) := by
  have ht := is_test_five c hw hb hs hg0 hk
  have hg : (Str.ofString "all" == w || (Str.ofString "any" == w || Str.ofString "first" == w)) = grpB w := rfl
  unfold fs_is_condition
  generalize m_is_test c = MT at *
  cases ha : (w == Str.ofString "asks")
  · have ht2 : testB (.tup [.str w, b, s, g, k]) = false := by
      show ((w == Str.ofString "asks") && _) = false
      rw [ha]; rfl
    rw [ht2] at ht ⊢
    cases h1 : (w == Str.ofString "case")
    · cases g1 : grpB w
      · rw [g1] at hg
        cases n1 : (w == Str.ofString "not")
        · cases a1 : (w == Str.ofString "always") <;> push_cast [c51, c53, e52, hw, h1, hg, n1, a1, ht]
        · push_cast [c51, c53, e52, hw, h1, hg, n1]
      · rw [g1] at hg
        push_cast [c51, c53, e52, hw, h1, hg]
    · push_cast [c51, c53, e52, hw, h1]
  · have e : w = Str.ofString "asks" := by simpa using ha
    subst e
    have q0 : (Str.ofString "asks" == Str.ofString "case") = false := by decide +kernel
    have q1 : grpB (Str.ofString "asks") = false := by decide +kernel
    have q2 : (Str.ofString "asks" == Str.ofString "not") = false := by decide +kernel
    have q3 : (Str.ofString "asks" == Str.ofString "always") = false := by decide +kernel
    rw [q1] at hg
    generalize testB (.tup [.str (Str.ofString "asks"), b, s, g, k]) = TB at *
    push_cast [c51, c53, e52, hw, hg, q0, q2, q3, ht]
theorem lcond_five {w : Str} {b s g k : D} (hw : PyData.strOk w = true) (hb : Tw b) (hs : Tw s) (hg0 : Tw g) (hk : Tw k) : mk 2 (fs__law_is_condition c RA RR) [.val (.tup [.str w, b, s, g, k])] = .ret (.val (.val (.bl (testB (.tup [.str w, b, s, g, k]))))) := by
  have ht := lis_test_five c hw hb hs hg0 hk
  unfold fs__law_is_condition
  generalize m__law_is_test c = MT at *
  generalize testB (.tup [.str w, b, s, g, k]) = TB at *
  cases h1 : (w == Str.ofString "case") <;> push_cast [c51, c53, e52, hw, h1, ht]
theorem cond_far {xs : List D} (hl : xs.length ≤ 16000000) (h : xs.length ≠ 2 ∧ xs.length ≠ 3 ∧ xs.length ≠ 5) : mk 1 (fs_is_condition c RA RC RR) [.val (.tup xs)] = .ret (.val (.val (.bl false))) ∧ mk 2 (fs__law_is_condition c RA RR) [.val (.tup xs)] = .ret (.val (.val (.bl false))) := by
  have z : xs.length ≤ 16777216 := by omega
  have n2 : ((2 : Int) == (xs.length : Int)) = false := by simp only [beq_eq_false_iff_ne, ne_eq]; omega
  have n3 : ((3 : Int) == (xs.length : Int)) = false := by simp only [beq_eq_false_iff_ne, ne_eq]; omega
  have n5 : ((5 : Int) == (xs.length : Int)) = false := by simp only [beq_eq_false_iff_ne, ne_eq]; omega
  constructor
  · unfold fs_is_condition
    push_cast [z, n2, n3, n5]
  · unfold fs__law_is_condition
    push_cast [z, n2, n3, n5]
theorem cond_ns {a : D} {r : List D} (h : ∀ w, a ≠ .str w) (ha : Tw a) (hl : (a :: r).length ≤ 16000000) : mk 1 (fs_is_condition c RA RC RR) [.val (.tup (a :: r))] = .ret (.val (.val (.bl false))) ∧ mk 2 (fs__law_is_condition c RA RR) [.val (.tup (a :: r))] = .ret (.val (.val (.bl false))) := by
  have a0 := ha.any 0
  have z : ∀ x : D, (x :: r).length ≤ 16777216 := fun x => by simp only [List.length_cons] at hl ⊢; omega
  cases a with
  | str w => exact absurd rfl (h w)
  | _ => first
    | exact a0.elim
    | (constructor
       · unfold fs_is_condition
         push_cast [z]
         split <;> rfl
       · unfold fs__law_is_condition
         push_cast [z]
         split <;> rfl)
theorem cond_nt {d : D} (h : Tw d) (hd : ∀ xs, d ≠ .tup xs) : mk 1 (fs_is_condition c RA RC RR) [.val d] = .ret (.val (.val (.bl (testB d)))) ∧ mk 2 (fs__law_is_condition c RA RR) [.val d] = .ret (.val (.val (.bl (testB d)))) := by
  have h0 := h.any 0
  cases d with
  | tup xs => exact absurd rfl (hd xs)
  | _ => first
    | exact h0.elim
    | (constructor
       · unfold fs_is_condition
         push_cast [testB]
       · unfold fs__law_is_condition
         push_cast [testB])
theorem test_far {xs : List D} (h : xs.length ≠ 2 ∧ xs.length ≠ 3 ∧ xs.length ≠ 5) : condF f (.tup xs) = false := by
  have t : testB (.tup xs) = false := by
    unfold testB
    split
    · rename_i e; cases e; exact absurd rfl h.1
    · rename_i e; cases e; exact absurd rfl h.2.2
    · rfl
  unfold condF
  split
  · rename_i e; cases e; exact absurd rfl h.1
  · rename_i e; cases e; exact absurd rfl h.2.1
  · exact t
theorem test_nsC {a : D} {r : List D} (h : ∀ w, a ≠ .str w) : condF f (.tup (a :: r)) = false := by
  unfold condF
  split
  · rename_i e; cases e; exact absurd rfl (h _)
  · rename_i e; cases e; exact absurd rfl (h _)
  · exact test_ns h
theorem test_ntC {d : D} (hd : ∀ xs, d ≠ .tup xs) : condF f d = testB d := by
  cases d with
  | tup xs => exact absurd rfl (hd xs)
  | _ => rfl
end
set_option maxHeartbeats 2000000
theorem TwN.kids {n : Nat} {xs : List D} (h : TwN n (.tup xs)) : ∀ x ∈ xs, TwN n x := by
  obtain ⟨w, B, h, hn, hw⟩ := h
  rw [wd_tup h hn] at hw
  exact fun x hx => ⟨w, B, (th_tup h x hx).1.up (by omega) (Nat.le_refl _), hn, by have := wdL_mem hx; omega⟩
section
theorem cond_step {n : Nat} {d : D} (h : TwN (n + 1) d) (hA : ∀ x, TwN n x → RA [.val x] = .ret (.val (.val (.bl (rowC f x))))) (hC : ∀ w x y, TwN n x → TwN n y → RC [.val (.tup [.str w, x, y])] = .ret (.val (.val (.bl (rowC (pairC f) x && f y))))) (hR : ∀ x, TwN n x → RR [.val x] = .ret (.val (.val (.bl (f x))))) : mk 1 (fs_is_condition c RA RC RR) [.val d] = .ret (.val (.val (.bl (condF f d)))) := by
  by_cases ht : ∃ xs, d = .tup xs
  · obtain ⟨xs, rfl⟩ := ht
    have hl := h.tw.tup.1
    have hk := h.tup
    have h0 := h.tw.any 1
    match xs, hl, hk with
    | [], hl, _ => rw [test_far (by simp)]; exact (cond_far (c := c) hl (by simp)).1
    | a :: r, hl, hk =>
      by_cases hs : ∃ w, a = .str w
      · obtain ⟨w, rfl⟩ := hs
        have hw : PyData.strOk w = true := (hk _ (List.mem_cons_self ..)).tw.str.1
        match r, hl, hk with
        | [], hl, _ => rw [test_far (by simp)]; exact (cond_far (c := c) hl (by simp)).1
        | [x], _, hk => exact cond_two hw (hk x (by simp)).tw (hA x (hk x (by simp))) (hR x (hk x (by simp)))
        | [x, y], _, hk => exact cond_three hw (hk x (by simp)).tw (hC w x y (hk x (by simp)) (hk y (by simp)))
        | [b, s, g, k], _, hk => exact cond_five hw (hk b (by simp)).tw (hk s (by simp)).tw (hk g (by simp)).tw (hk k (by simp)).tw
        | [b, s, g], hl, _ => rw [test_far (by simp)]; exact (cond_far (c := c) hl (by simp)).1
        | b :: s :: g :: k :: l :: r, hl, _ => rw [test_far (by simp)]; exact (cond_far (c := c) hl (by simp)).1
      · have hs' : ∀ w, a ≠ .str w := fun w e => hs ⟨w, e⟩
        rw [test_nsC hs']
        exact (cond_ns hs' (hk a (List.mem_cons_self ..)).tw hl).1
  · have ht' : ∀ xs, d ≠ .tup xs := fun xs e => ht ⟨xs, e⟩
    rw [test_ntC ht']
    exact (cond_nt h.tw ht').1
theorem lcond_step {n : Nat} {d : D} (h : TwN (n + 1) d) (hA : ∀ x, TwN n x → RA [.val x] = .ret (.val (.val (.bl (rowC f x))))) (hR : ∀ x, TwN n x → RR [.val x] = .ret (.val (.val (.bl (f x))))) : mk 2 (fs__law_is_condition c RA RR) [.val d] = .ret (.val (.val (.bl (condF f d)))) := by
  by_cases ht : ∃ xs, d = .tup xs
  · obtain ⟨xs, rfl⟩ := ht
    have hl := h.tw.tup.1
    have hk := h.tup
    match xs, hl, hk with
    | [], hl, _ => rw [test_far (by simp)]; exact (cond_far (c := c) (RC := RA) hl (by simp)).2
    | a :: r, hl, hk =>
      by_cases hs : ∃ w, a = .str w
      · obtain ⟨w, rfl⟩ := hs
        have hw : PyData.strOk w = true := (hk _ (List.mem_cons_self ..)).tw.str.1
        match r, hl, hk with
        | [], hl, _ => rw [test_far (by simp)]; exact (cond_far (c := c) (RC := RA) hl (by simp)).2
        | [x], _, hk => exact lcond_two hw (hk x (by simp)).tw (hA x (hk x (by simp))) (hR x (hk x (by simp)))
        | [x, y], _, hk => exact lcond_three hw (hk x (by simp)).tw (fun ps e p hp => by
            subst e
            exact hA p ((hk _ (by simp)).kids p hp)) (hR y (hk y (by simp)))
        | [b, s, g, k], _, hk => exact lcond_five hw (hk b (by simp)).tw (hk s (by simp)).tw (hk g (by simp)).tw (hk k (by simp)).tw
        | [b, s, g], hl, _ => rw [test_far (by simp)]; exact (cond_far (c := c) (RC := RA) hl (by simp)).2
        | b :: s :: g :: k :: l :: r, hl, _ => rw [test_far (by simp)]; exact (cond_far (c := c) (RC := RA) hl (by simp)).2
      · have hs' : ∀ w, a ≠ .str w := fun w e => hs ⟨w, e⟩
        rw [test_nsC hs']
        exact (cond_ns (RC := RA) hs' (hk a (List.mem_cons_self ..)).tw hl).2
  · have ht' : ∀ xs, d ≠ .tup xs := fun xs e => ht ⟨xs, e⟩
    rw [test_ntC ht']
    exact (cond_nt (RC := RA) h.tw ht').2
theorem flat_case {d : D} (h : TwN 0 d) : (∀ xs, d ≠ .tup xs) ∨ d = .tup [] := by
  cases d with
  | tup xs =>
    obtain ⟨w, B, h, _, _⟩ := h
    cases xs with
    | nil => exact .inr rfl
    | cons x xs => exact absurd (th_tup h x (List.mem_cons_self ..)).2 (by omega)
  | _ => exact .inl fun xs e => by cases e
end
def condB : Nat → D → Bool
  | 0 => condF fun _ => false
  | n + 1 => condF (condB n)
theorem cond_ind (c : Addr) : ∀ (n F : Nat) (d : D), 3 * n + 3 ≤ F → TwN n d → m_is_condition c F [.val d] = .ret (.val (.val (.bl (condB n d))))
  | 0, F, d, hF, h => by
    obtain ⟨G, rfl⟩ : ∃ G, F = G + 1 := ⟨F - 1, by omega⟩
    rw [mS_is_condition]
    rcases flat_case h with hd | rfl
    · show _ = T.ret (FR.val (R.val (D.bl (condF (fun _ => false) d))))
      rw [test_ntC hd]
      exact (cond_nt h.tw hd).1
    · exact (cond_far (xs := []) (by simp) (by simp)).1
  | n + 1, F, d, hF, h => by
    obtain ⟨G, rfl⟩ : ∃ G, F = G + 3 := ⟨F - 3, by omega⟩
    have ih := cond_ind c n
    rw [mS_is_condition]
    refine cond_step (f := condB n) h (fun x hx => ?_) (fun w x y hx hy => ?_) fun x hx => ih (G + 2) x (by omega) hx
    · rw [mS_are_conditions]
      exact rows_eq hx.tw fun xs e y hy => ih (G + 1) y (by omega) (by subst e; exact hx.kids y hy)
    · rw [mS_is_case]
      refine case_eq hx.tw (fun ps e p hp => ?_) (ih (G + 1) y (by omega) hy)
      subst e
      have hp' := hx.kids p hp
      rw [mS_are_conditions]
      exact rows_eq hp'.tw fun xs e y hy => ih G y (by omega) (by subst e; exact hp'.kids y hy)
theorem lcond_ind (c : Addr) : ∀ (n F : Nat) (d : D), 3 * n + 3 ≤ F → TwN n d → m__law_is_condition c F [.val d] = .ret (.val (.val (.bl (condB n d))))
  | 0, F, d, hF, h => by
    obtain ⟨G, rfl⟩ : ∃ G, F = G + 1 := ⟨F - 1, by omega⟩
    rw [mS__law_is_condition]
    rcases flat_case h with hd | rfl
    · show _ = T.ret (FR.val (R.val (D.bl (condF (fun _ => false) d))))
      rw [test_ntC hd]
      exact (cond_nt (RC := m__law_are_conditions c G) h.tw hd).2
    · exact (cond_far (xs := []) (RC := m__law_are_conditions c G) (by simp) (by simp)).2
  | n + 1, F, d, hF, h => by
    obtain ⟨G, rfl⟩ : ∃ G, F = G + 3 := ⟨F - 3, by omega⟩
    have ih := lcond_ind c n
    rw [mS__law_is_condition]
    refine lcond_step (f := condB n) h (fun x hx => ?_) fun x hx => ih (G + 2) x (by omega) hx
    rw [mS__law_are_conditions]
    exact lrows_eq hx.tw fun xs e y hy => ih (G + 1) y (by omega) (by subst e; exact hx.kids y hy)
set_option maxHeartbeats 2000000
theorem one_all (ds : List D) (h0 : 0 < ds.length) (h1 : ds.length < 17000000) : (m__law_one [.bag, .val (.lst ds)]).All fun o => ∃ d ∈ ds, o = .val (.val d) := by
  unfold m__law_one fs__law_one
  walk_at "ev"
  walk_at "pl"
  refine all_take (fun r r0 r1 => ?_) (by omega) (by omega)
  walk_at "ev"
  rw [atI_ok r0 r1]
  walk_at "ev"
  exact ⟨_, List.getElem_mem _, rfl⟩
theorem an_nil {w : World} {B n : Nat} : ∀ x ∈ ([] : List D), Th w B n x := fun x h => nomatch h
theorem an_cons {w : World} {B n : Nat} {x : D} {xs : List D} (h : Th w B n x) (t : ∀ y ∈ xs, Th w B n y) : ∀ y ∈ x :: xs, Th w B n y := fun y hy => (List.mem_cons.mp hy).elim (fun e => e ▸ h) (t y)
theorem odd_turn (w : World) {d : D} {k : Nat} {r : R} (z : Int) (hr : r = .val d ∨ r = .own d) (h : Th w 200 k d) (hk : k ≤ 50) : (b__law_odd_1 w [.bag, r, .val (.int z), .no]).All fun o => ∃ d' r', o = .nx [.bag, r', .no, .no] ∧ (r' = .val d' ∨ r' = .own d') ∧ Th w 200 (k + 1) d' ∧ wd 60 d' = wd 60 d + 6 := by
  have tl : Th w 200 (k + 1) (.lst [d]) := lst_th (an_cons h an_nil)
  have tt : Th w 200 (k + 1) (.tup [d]) := tup_th (an_cons h an_nil)
  have wl : wd 60 (.lst [d]) = wd 60 d + 6 := by rw [wd_lst tl (by omega), wdL_cons]; show _ + (_ + 2 + 0) = _; omega
  have wt : wd 60 (.tup [d]) = wd 60 d + 6 := by rw [wd_tup tt (by omega), wdL_cons]; show _ + (_ + 2 + 0) = _; omega
  unfold b__law_odd_1
  rcases hr with rfl | rfl
  · walk_at "ev"
    walk_at "pl"
    refine all_take (fun r r0 r1 => ?_) (by omega) (by omega)
    push_cast []
    exact ⟨fun _ => ⟨_, _, rfl, .inr rfl, tl, wl⟩, fun _ => ⟨_, _, rfl, .inl rfl, tt, wt⟩⟩
  · walk_at "ev"
    walk_at "pl"
    refine all_take (fun r r0 r1 => ?_) (by omega) (by omega)
    push_cast []
    exact ⟨fun _ => ⟨_, _, rfl, .inr rfl, tl, wl⟩, fun _ => ⟨_, _, rfl, .inl rfl, tt, wt⟩⟩
theorem odd_deep (w : World) {d : D} {r : R} (hr : r = .val d ∨ r = .own d) (h : Th w 200 0 d) (hw : wd 60 d ≤ 20) : (fLoop (fgN 2) (b__law_odd_1 w) (rngD 0 4) [.bag, r, .no, .no]).All fun o => ∃ d' r', o = .nx [.bag, r', .no, .no] ∧ (r' = .val d' ∨ r' = .own d') ∧ Th w 200 4 d' ∧ wd 60 d' ≤ 44 := by
  refine loop_inv (P := fun o => ∃ d' r', o = .nx [.bag, r', .no, .no] ∧ (r' = .val d' ∨ r' = .own d') ∧ Th w 200 4 d' ∧ wd 60 d' ≤ 44) (fun ds δ => ∃ (zs : List Int) (k : Nat) (d : D) (r : R), ds = zs.map D.int ∧ δ = [.bag, r, .no, .no] ∧ zs.length + k = 4 ∧ (r = .val d ∨ r = .own d) ∧ Th w 200 k d ∧ wd 60 d ≤ 20 + 6 * k) ?_ ?_ _ _ ⟨[0, 1, 2, 3], 0, d, r, rfl, rfl, rfl, hr, h, hw⟩
  · rintro x ds δ ⟨zs, k, d, r, e, rfl, hk, hr, h, hw⟩
    cases zs with
    | nil => cases e
    | cons z zs =>
      simp only [List.map_cons, List.cons.injEq] at e
      obtain ⟨rfl, rfl⟩ := e
      simp only [List.length_cons] at hk
      refine ⟨_, rfl, T.All_mono (odd_turn w z hr h (by omega)) ?_⟩
      rintro o ⟨d', r', rfl, hr', h', hw'⟩
      exact ⟨zs, k + 1, d', r', rfl, rfl, by omega, hr', h', by omega⟩
  · rintro δ ⟨zs, k, d, r, e, rfl, hk, hr, h, hw⟩
    cases zs with
    | nil =>
      have : k = 4 := by simpa using hk
      subst this
      exact ⟨d, r, rfl, hr, h, hw⟩
    | cons => cases e
theorem ka_a : keysAllM [(.str (Str.ofString "a"), .int 0)] = true := by decide +kernel
theorem ka_0 : keysAllM [(.int 0, .str (Str.ofString "a"))] = true := by decide +kernel
theorem ka_ab : keysAllM [(.str (Str.ofString "a"), .non), (.str (Str.ofString "b"), .str (Str.ofString "ten"))] = true := by decide +kernel
theorem mp_a : mPuts [] [(.str (Str.ofString "a"), .int 0)] = [(.str (Str.ofString "a"), .int 0)] := rfl
theorem mp_0 : mPuts [] [(.int 0, .str (Str.ofString "a"))] = [(.int 0, .str (Str.ofString "a"))] := rfl
theorem nd_ab : ([(.str (Str.ofString "a"), .non), (.str (Str.ofString "b"), .str (Str.ofString "ten"))].map fun (p : D × D) => keyM p.1).Nodup := by
  have : (Str.ofString "a") ≠ Str.ofString "b" := by decide +kernel
  simp only [List.map_cons, List.map_nil, List.nodup_cons, List.mem_singleton, List.not_mem_nil, not_false_eq_true, List.nodup_nil, and_true]
  intro h
  apply this
  have h : some (NestedKey.text (Str.ofString "a")) = some (NestedKey.text (Str.ofString "b")) := h
  injection h with h
  injection h
theorem mp_ab : mPuts [] [(.str (Str.ofString "a"), .non), (.str (Str.ofString "b"), .str (Str.ofString "ten"))] = [(.str (Str.ofString "a"), .non), (.str (Str.ofString "b"), .str (Str.ofString "ten"))] := mPuts_nil nd_ab
theorem an_rep {w : World} {B n k : Nat} {x : D} (h : Th w B n x) : Th w B (n + 1) (.lst (List.replicate k [x]).flatten) := lst_th fun y hy => by
  obtain ⟨l, hl, hy⟩ := List.mem_flatten.mp hy
  rw [(List.mem_replicate.mp hl).2] at hy
  rw [List.mem_singleton.mp hy]; exact h
theorem ak_nil {w : World} {B n : Nat} : ∀ p ∈ ([] : List (D × D)), keyOk p.1 = true ∧ Th w B n p.1 ∧ Th w B n p.2 := fun x h => nomatch h
theorem ak_cons {w : World} {B n : Nat} {k v : D} {xs : List (D × D)} (hk : keyOk k = true) (h : Th w B n k) (h2 : Th w B n v) (t : ∀ p ∈ xs, keyOk p.1 = true ∧ Th w B n p.1 ∧ Th w B n p.2) : ∀ p ∈ (k, v) :: xs, keyOk p.1 = true ∧ Th w B n p.1 ∧ Th w B n p.2 := fun y hy => (List.mem_cons.mp hy).elim (fun e => e ▸ ⟨hk, h, h2⟩) (t y)
theorem nd_one (p : D × D) : (([p] : List (D × D)).map fun p => keyM p.1).Nodup := List.nodup_cons.mpr ⟨List.not_mem_nil, List.nodup_nil⟩
theorem ao_nil {T : Nat → D → Prop} : ∀ x : D, x ∈ ([] : List D) → T 4 x ∧ wd 60 x ≤ 3000 := fun x h => nomatch h
theorem ao_cons {T : Nat → D → Prop} {x : D} {xs : List D} (h1 : T 4 x) (h2 : wd 60 x ≤ 3000) (t : ∀ y : D, y ∈ xs → T 4 y ∧ wd 60 y ≤ 3000) : ∀ y : D, y ∈ x :: xs → T 4 y ∧ wd 60 y ≤ 3000 := fun y hy => (List.mem_cons.mp hy).elim (fun e => e ▸ ⟨h1, h2⟩) (t y)
theorem wd60_dcm {w : World} {kds : List (D × D)} : wd 60 (.dcm w kds) = 4 + (kds.map fun p => wd 59 p.1 + 2 + wd 59 p.2 + 2).sum := rfl
theorem odd_start (w : World) (d : D) (hd : d ∈ [D.lst [], .dcm w [], .tup [], .str (Str.ofString "a")]) : Th w 200 0 d ∧ wd 60 d ≤ 20 := by
  simp only [List.mem_cons, List.not_mem_nil, or_false] at hd
  rcases hd with rfl | rfl | rfl | rfl
  · exact ⟨(fun x h => nomatch h), by decide⟩
  · exact ⟨⟨rfl, List.nodup_nil, (fun x h => nomatch h)⟩, Nat.le_of_ble_eq_true rfl⟩
  · exact ⟨(fun x h => nomatch h), by decide⟩
  · exact ⟨th_str (PySem.W.KSb.asc_of (by decide +kernel)), by decide +kernel⟩
theorem odd_all (w : World) : (m__law_odd w [.bag]).All fun o => ∃ d, o = .val (.val d) ∧ Th w 200 4 d ∧ wd 60 d ≤ 3000 := by
  unfold m__law_odd fs__law_odd
  have o0 := one_all
  have o1 := o0 [.lst [], .dcm w [], .tup [], .str (Str.ofString "a")] (by simp) (by simp)
  generalize m__law_one = F1 at *
  walk_at "ev"
  walk_at "pl"
  refine T.All_mono o1 ?_
  rintro o ⟨d, hd, rfl⟩
  have hd0 := odd_start w d hd
  walk_at "ev"
  walk_at "pl"
  refine T.All_mono (odd_deep w (.inl rfl) hd0.1 hd0.2) ?_
  rintro o ⟨d', r', rfl, hr, h, hw⟩
  rcases hr with rfl | rfl
  all_goals
    push_cast [mp_a, mp_0, mp_ab, ka_a, ka_0, ka_ab]
    refine ⟨fun _ => ?_, fun z => absurd (by decide) z⟩
    walk_at "pl"
    refine T.All_mono (o0 _ (Nat.zero_lt_succ _) (by simp only [List.length_cons, List.length_nil]; omega)) ?_
    rintro o ⟨x, hx, rfl⟩
    walk_at "ev"
    refine ⟨_, rfl, ?_⟩
    revert x
    clear o0 o1
    have rb : ∀ n b, Th w 200 n (.bl b) := fun _ _ => th_bl
    have rn : ∀ n, Th w 200 n .non := fun _ => th_non
    have ri : ∀ n i, i.natAbs.log2 < 200 → Th w 200 n (.int i) := fun _ _ h => th_int h
    have rs : ∀ n s, s.cps.toList.all (fun c => decide (c < 128)) = true → Th w 200 n (.str s) := fun _ _ h => th_str (PySem.W.KSb.asc_of h)
    have rt : ∀ n xs, (∀ x ∈ xs, Th w 200 n x) → Th w 200 (n + 1) (.tup xs) := fun _ _ h => tup_th h
    have rl : ∀ n xs, (∀ x ∈ xs, Th w 200 n x) → Th w 200 (n + 1) (.lst xs) := fun _ _ h => lst_th h
    have rr : ∀ n k x, Th w 200 n x → Th w 200 (n + 1) (.lst (List.replicate k [x]).flatten) := fun _ _ _ h => an_rep h
    have rd0 : ∀ n, Th w 200 (n + 1) (.dcm w []) := fun _ => dcm_th List.nodup_nil ak_nil
    have rd1 : ∀ n k v, keyOk k = true → Th w 200 n k → Th w 200 n v → Th w 200 (n + 1) (.dcm w [(k, v)]) := fun _ _ _ h1 h2 h3 => dcm_th (nd_one _) (ak_cons h1 h2 h3 ak_nil)
    have rd2 : ∀ n, Th w 200 (n + 1) (.dcm w [(.str (Str.ofString "a"), .non), (.str (Str.ofString "b"), .str (Str.ofString "ten"))]) := fun n => dcm_th nd_ab (ak_cons (by decide +kernel) (rs n _ (by decide +kernel)) (rn n) (ak_cons (by decide +kernel) (rs n _ (by decide +kernel)) (rs n _ (by decide +kernel)) ak_nil))
    have ran : ∀ n, ∀ x ∈ ([] : List D), Th w 200 n x := fun _ => an_nil
    have rac : ∀ n x xs, Th w 200 n x → (∀ y ∈ xs, Th w 200 n y) → ∀ y ∈ x :: xs, Th w 200 n y := fun _ _ _ h1 h2 => an_cons h1 h2
    generalize Th w 200 = T at *
    repeat (refine ao_cons ?_ ?_ ?_; (· (repeat' (first | exact h | exact rb _ _ | exact rn _ | exact ri _ _ (by decide +kernel) | exact rs _ _ (by decide +kernel) | exact ran _ | exact rd0 _ | exact rd2 _ | (refine rd1 _ _ _ (by decide +kernel) ?_ ?_) | (refine rr _ _ _ ?_) | (refine rt _ _ ?_) | (refine rl _ _ ?_) | (refine rac _ _ _ ?_ ?_)))); (· first | decide +kernel | omega | (rw [wd60_dcm]; decide +kernel)))
    exact ao_nil
set_option maxHeartbeats 2000000
def BentOk (w : World) (B n W : Nat) (o : FR) : Prop := ∃ d r, o = .val r ∧ (r = .val d ∨ r = .own d) ∧ Th w B n d ∧ wd 60 d ≤ W
theorem bo_odd {w : World} {B n W : Nat} {d : D} (h : Th w 200 4 d) (hw : wd 60 d ≤ 3000) (hB : 200 ≤ B) (hn : 4 ≤ n) (hW : 3000 ≤ W) : BentOk w B n W (.val (.val d)) := ⟨d, _, rfl, .inl rfl, h.up hn hB, by omega⟩
theorem cut_take {α : Type} (xs : List α) (k : Nat) (hk : k ≤ xs.length) : cut xs none (some (k : Int)) = xs.take k := by
  unfold cut
  simp only [HT.sIx_none, HT.sIx_nat, Nat.sub_zero, List.drop_zero, Nat.min_eq_left hk]
theorem sIx_end (n : Nat) : HT.sIx n n none = n := rfl
theorem cut_drop {α : Type} (xs : List α) (k : Nat) (hk : k ≤ xs.length) : cut xs (some (k : Int)) none = xs.drop k := by
  unfold cut
  simp only [sIx_end, HT.sIx_nat, Nat.min_eq_left hk]
  rw [← List.length_drop, List.take_length]
theorem cut_drop1 {α : Type} (xs : List α) (k : Nat) (hk : k ≤ xs.length) : cut xs (some ((k : Int) + 1)) none = xs.drop (k + 1) := by
  by_cases h : k + 1 ≤ xs.length
  · rw [show (k : Int) + 1 = ((k + 1 : Nat) : Int) by omega, cut_drop _ _ h]
  · have e : k = xs.length := by omega
    unfold cut
    rw [show (k : Int) + 1 = ((k + 1 : Nat) : Int) by omega]
    simp only [sIx_end, HT.sIx_nat]
    rw [List.drop_eq_nil_of_le (by omega), List.drop_eq_nil_of_le (by omega), List.take_nil]
theorem skip_sub {α : Type} (xs : List α) (k : Nat) : (xs.take k ++ xs.drop (k + 1)).Sublist xs := by
  conv => rhs; rw [← List.take_append_drop k xs]
  refine List.Sublist.append (List.Sublist.refl _) ?_
  rw [← List.drop_drop]
  exact List.drop_sublist _ _
theorem bo_lst {w : World} {B n W : Nat} {ys : List D} (h : ∀ x ∈ ys, Th w B n x) (hn : n ≤ 58) (hw : 4 + wdL ys ≤ W) : BentOk w B (n + 1) W (.val (.own (.lst ys))) := ⟨_, _, rfl, .inr rfl, lst_th h, by rw [wd_lst' h (by omega)]; exact hw⟩
theorem bo_tup {w : World} {B n W : Nat} {ys : List D} (h : ∀ x ∈ ys, Th w B n x) (hn : n ≤ 58) (hw : 4 + wdL ys ≤ W) : BentOk w B (n + 1) W (.val (.val (.tup ys))) := ⟨_, _, rfl, .inl rfl, tup_th h, by rw [wd_tup' h (by omega)]; exact hw⟩
section
variable {w : World} {B n : Nat} {xs : List D} {r1 r2 r3 : FM}
theorem ins_ok {d : D} (k : Nat) (h : ∀ x ∈ xs, Th w B n x) (hd : Th w B n d) : (∀ x ∈ xs.take k ++ [d] ++ xs.drop k, Th w B n x) ∧ wdL (xs.take k ++ [d] ++ xs.drop k) = wdL xs + (wd 60 d + 2) := by
  constructor
  · intro x hx
    rcases List.mem_append.mp hx with hx | hx
    · rcases List.mem_append.mp hx with hx | hx
      · exact h x (List.mem_of_mem_take hx)
      · rw [List.mem_singleton.mp hx]; exact hd
    · exact h x (List.mem_of_mem_drop hx)
  · have e := congrArg wdL (List.take_append_drop k xs)
    rw [wdL_app] at e
    rw [wdL_app, wdL_app, wdL_cons, ← e]
    show _ + (_ + 2 + 0) + _ = _
    omega
theorem set_ok {d : D} {m : Nat} (hm : m < xs.length) (h : ∀ x ∈ xs, Th w B n x) (hd : Th w B n d) (hw : wd 60 d ≤ 3 * wd 60 xs[m] + 3000) : (∀ x ∈ xs.set m d, Th w B n x) ∧ wdL (xs.set m d) ≤ 3 * wdL xs + 3000 := by
  have e := wdL_set d (List.getElem?_eq_getElem hm)
  have f := wdL_mem (List.getElem_mem hm)
  exact ⟨fun x hx => (List.mem_or_eq_of_mem_set hx).elim (h x) (fun e => e ▸ hd), by omega⟩
theorem row_lst (way : Int) (h1 : 1 ≤ way) (h7 : way < 7) (hB : 200 ≤ B) (hn : n ≤ 50) (h : ∀ x ∈ xs, Th w B n x) (hW : wdL xs ≤ 5000000) (ih : ∀ x ∈ xs, (r1 [.bag, .val x]).All (BentOk w (B + 1) (n + 6) (3 * wd 60 x + 3000))) : (mk 6 (fs__law_bent_row w r1 r2 r3) [.bag, .val (.lst xs), .val (.int way)]).All (BentOk w (B + 1) (n + 7) (3 * (4 + wdL xs) + 3000)) := by
  have ll := len_wdL xs
  have oo := odd_all w
  have zl : xs.length ≤ 16777216 := by omega
  have h' : ∀ x ∈ xs, Th w (B + 1) (n + 6) x := fun x hx => (h x hx).up (by omega) (by omega)
  unfold fs__law_bent_row
  generalize m__law_odd w = F1 at *
  push_cast [zl]
  walk_at "pl"
  refine all_take (fun at_ a0 a1 => ?_) (by omega) (by omega)
  obtain ⟨k, rfl⟩ := Int.eq_ofNat_of_zero_le a0
  have hk : k ≤ xs.length := by omega
  have c1 := cut_take xs k hk
  have c2 := cut_drop xs k hk
  have c3 := cut_drop1 xs k hk
  obtain rfl | rfl | rfl | rfl | rfl | rfl : way = 1 ∨ way = 2 ∨ way = 3 ∨ way = 4 ∨ way = 5 ∨ way = 6 := by omega
  · push_cast [zl]
    exact bo_tup h' (by omega) (by omega)
  · push_cast [zl, c1, c3]
    refine ⟨fun _ => ?_, fun z => absurd (by rw [List.length_take, List.length_drop]; omega) z⟩
    have s := skip_sub xs k
    have := wdL_sub s
    exact bo_lst (fun x hx => h' x (s.mem hx)) (by omega) (by omega)
  · push_cast [zl, c1, c2]
    walk_at "pl"
    refine T.All_mono oo ?_
    rintro o ⟨d, rfl, hd, hw⟩
    push_cast [c2]
    obtain ⟨t, u⟩ := ins_ok k h' (hd.up (by omega) (by omega))
    refine ⟨fun _ => ⟨fun _ => ?_, fun z => absurd (by rw [List.length_append, List.length_take, List.length_drop, List.length_singleton]; omega) z⟩, fun z => absurd (by rw [List.length_take]; omega) z⟩
    exact bo_lst t (by omega) (by omega)
  · push_cast [zl]
    exact bo_lst (fun x hx => h' x (List.mem_reverse.mp hx)) (by omega) (by rw [wdL_rev]; omega)
  all_goals
    by_cases hx : xs = []
    · subst hx
      push_cast [zl, z_neN]
      refine ⟨fun z => (by cases z), fun _ => ?_⟩
      exact bo_lst h' (by omega) (by omega)
    · have hp : 0 < xs.length := List.length_pos_iff.mpr hx
      have he : xs.isEmpty = false := by cases xs; exact absurd rfl hx; rfl
      obtain ⟨m, em, hm⟩ : ∃ m : Nat, (if (xs.length : Int) - 1 < (k : Int) then (xs.length : Int) - 1 else (k : Int)) = (m : Int) ∧ m < xs.length := by
        split
        · exact ⟨xs.length - 1, by omega, by omega⟩
        · exact ⟨k, rfl, by omega⟩
      have ea := atI_nat (List.getElem?_eq_getElem hm)
      have hi := ih _ (List.getElem_mem hm)
      have ix : ixN xs.length (m : Int) = some m := by unfold ixN; rw [if_pos (by omega), if_pos (by omega)]; rfl
      push_cast [zl, z_neN, he, em, ea]
      walk_at "pl"
      refine T.All_mono hi ?_
      rintro o ⟨d, r, rfl, hr, hd, hw⟩
      obtain ⟨t, u⟩ := set_ok hm h' hd hw
      rcases hr with rfl | rfl
      all_goals
        push_cast [ix]
        exact bo_lst t (by omega) (by omega)
theorem row_tup (way : Int) (h1 : 1 ≤ way) (h7 : way < 7) (hB : 200 ≤ B) (hn : n ≤ 50) (h : ∀ x ∈ xs, Th w B n x) (hW : wdL xs ≤ 5000000) (ih : ∀ x ∈ xs, (r1 [.bag, .val x]).All (BentOk w (B + 1) (n + 6) (3 * wd 60 x + 3000))) : (mk 6 (fs__law_bent_row w r1 r2 r3) [.bag, .val (.tup xs), .val (.int way)]).All (BentOk w (B + 1) (n + 7) (3 * (4 + wdL xs) + 3000)) := by
  have ll := len_wdL xs
  have oo := odd_all w
  have zl : xs.length ≤ 16777216 := by omega
  have h' : ∀ x ∈ xs, Th w (B + 1) (n + 6) x := fun x hx => (h x hx).up (by omega) (by omega)
  unfold fs__law_bent_row
  generalize m__law_odd w = F1 at *
  push_cast [zl]
  walk_at "pl"
  refine all_take (fun at_ a0 a1 => ?_) (by omega) (by omega)
  obtain ⟨k, rfl⟩ := Int.eq_ofNat_of_zero_le a0
  have hk : k ≤ xs.length := by omega
  have c1 := cut_take xs k hk
  have c2 := cut_drop xs k hk
  have c3 := cut_drop1 xs k hk
  obtain rfl | rfl | rfl | rfl | rfl | rfl : way = 1 ∨ way = 2 ∨ way = 3 ∨ way = 4 ∨ way = 5 ∨ way = 6 := by omega
  · push_cast [zl]
    exact bo_lst h' (by omega) (by omega)
  · push_cast [zl, c1, c3]
    refine ⟨fun _ => ?_, fun z => absurd (by rw [List.length_take, List.length_drop]; omega) z⟩
    have s := skip_sub xs k
    have := wdL_sub s
    exact bo_tup (fun x hx => h' x (s.mem hx)) (by omega) (by omega)
  · push_cast [zl, c1, c2]
    walk_at "pl"
    refine T.All_mono oo ?_
    rintro o ⟨d, rfl, hd, hw⟩
    push_cast [c2]
    obtain ⟨t, u⟩ := ins_ok k h' (hd.up (by omega) (by omega))
    refine ⟨fun _ => ⟨fun _ => ?_, fun z => absurd (by rw [List.length_append, List.length_take, List.length_drop, List.length_singleton]; omega) z⟩, fun z => absurd (by rw [List.length_take]; omega) z⟩
    exact bo_tup t (by omega) (by omega)
  · push_cast [zl]
    exact bo_tup (fun x hx => h' x (List.mem_reverse.mp hx)) (by omega) (by rw [wdL_rev]; omega)
  all_goals
    by_cases hx : xs = []
    · subst hx
      push_cast [zl, z_neN]
      refine ⟨fun z => (by cases z), fun _ => ?_⟩
      exact bo_tup h' (by omega) (by omega)
    · have hp : 0 < xs.length := List.length_pos_iff.mpr hx
      have he : xs.isEmpty = false := by cases xs; exact absurd rfl hx; rfl
      obtain ⟨m, em, hm⟩ : ∃ m : Nat, (if (xs.length : Int) - 1 < (k : Int) then (xs.length : Int) - 1 else (k : Int)) = (m : Int) ∧ m < xs.length := by
        split
        · exact ⟨xs.length - 1, by omega, by omega⟩
        · exact ⟨k, rfl, by omega⟩
      have ea := atI_nat (List.getElem?_eq_getElem hm)
      have hi := ih _ (List.getElem_mem hm)
      have ix : ixN xs.length (m : Int) = some m := by unfold ixN; rw [if_pos (by omega), if_pos (by omega)]; rfl
      push_cast [zl, z_neN, he, em, ea]
      walk_at "pl"
      refine T.All_mono hi ?_
      rintro o ⟨d, r, rfl, hr, hd, hw⟩
      obtain ⟨t, u⟩ := set_ok hm h' hd hw
      rcases hr with rfl | rfl
      all_goals
        push_cast [ix]
        exact bo_tup t (by omega) (by omega)
end
set_option maxHeartbeats 2000000
theorem bo_dcm {w : World} {B n W : Nat} {l : List (D × D)} (h : KdsOk w B n l) (hn : n ≤ 58) (hw : 4 + wdK l ≤ W) : BentOk w B (n + 1) W (.val (.own (.dcm w l))) := ⟨_, _, rfl, .inr rfl, dcm_th h.1 h.2, by rw [wd_dcm' w (fun p hp => (h.2 p hp).2) (by omega)]; exact hw⟩
def keepB (k : D) (d : D) : Bool := !(eqD 60 d k)
def lessK (k : D) (kds : List (D × D)) : List (D × D) := kds.filter fun p => keepB k p.1
theorem lessK_sub (k : D) (kds : List (D × D)) : (lessK k kds).Sublist kds := List.filter_sublist
theorem ok_nil {w : World} : ∀ x : D, x ∈ ([] : List D) → keyOk x = true ∧ Th w 200 4 x ∧ wd 60 x ≤ 3000 := fun x h => nomatch h
theorem ok_cons {w : World} {x : D} {xs : List D} (h0 : keyOk x = true) (h1 : Th w 200 4 x) (h2 : wd 60 x ≤ 3000) (t : ∀ y : D, y ∈ xs → keyOk y = true ∧ Th w 200 4 y ∧ wd 60 y ≤ 3000) : ∀ y : D, y ∈ x :: xs → keyOk y = true ∧ Th w 200 4 y ∧ wd 60 y ≤ 3000 := fun y hy => (List.mem_cons.mp hy).elim (fun e => e ▸ ⟨h0, h1, h2⟩) (t y)
theorem oddK_ok {w : World} : ∀ k : D, k ∈ [D.non, D.int 0, D.str (Str.ofString ""), D.str (Str.ofString "A"), D.str (Str.ofString "zz"), D.tup [], D.tup [D.int 0], D.str (Str.ofString "ninesigns"), D.bl true] → keyOk k = true ∧ Th w 200 4 k ∧ wd 60 k ≤ 3000 :=
  ok_cons (by decide +kernel) th_non (by decide +kernel) <| ok_cons (by decide +kernel) (th_int (by decide +kernel)) (by decide +kernel) <| ok_cons (by decide +kernel) (th_str (PySem.W.KSb.asc_of (by decide +kernel))) (by decide +kernel) <| ok_cons (by decide +kernel) (th_str (PySem.W.KSb.asc_of (by decide +kernel))) (by decide +kernel) <| ok_cons (by decide +kernel) (th_str (PySem.W.KSb.asc_of (by decide +kernel))) (by decide +kernel) <| ok_cons (by decide +kernel) (tup_th an_nil) (by decide +kernel) <| ok_cons (by decide +kernel) (tup_th (an_cons (th_int (by decide +kernel)) an_nil)) (by decide +kernel) <| ok_cons (by decide +kernel) (th_str (PySem.W.KSb.asc_of (by decide +kernel))) (by decide +kernel) <| ok_cons (by decide +kernel) th_bl (by decide +kernel) ok_nil
section
variable {w : World} {B n : Nat} {kds : List (D × D)} {r1 r2 r3 : FM}
theorem key_ok {k : D} (h : keyOk k = true) : (kOfM k).isSome = true ∧ okk 60 k = true := by unfold keyOk at h; rw [Bool.and_eq_true] at h; exact h
theorem dict_lc (way : R) (k : D) (r4 r5 : R) (hk : okk 60 k = true) : ∀ (l : List (D × D)) (acc : List D), (∀ p ∈ l, keyOk p.1 = true ∧ mAt kds p.1 = some p.2) → acc.length + l.length ≤ 16777216 → fLc (fgN 6) (t__law_bent_dict_c1 w r1 r2 r3) (e__law_bent_dict_c1 w r1 r2 r3) [6] (l.map (·.1)) acc [.bag, .val (.dcm w kds), way, .val k, r4, r5, .no] = .ret (acc ++ itemsD (lessK k l), [.bag, .val (.dcm w kds), way, .val k, r4, r5, .no])
  | [], acc, h, hl => by rw [List.map_nil, v_lcN]; simp [lessK, itemsD]
  | p :: l, acc, h, hl => by
    simp only [List.length_cons] at hl
    obtain ⟨h1, h2⟩ := h p (List.mem_cons_self ..)
    obtain ⟨h3, h4⟩ := key_ok h1
    have hm : mAtW w (.dcm w kds) p.1 = some p.2 := (q_mAtW h3).trans h2
    have ih := fun acc => dict_lc way k r4 r5 hk l acc fun q hq => h q (List.mem_cons_of_mem _ hq)
    have hz : acc.length < 16777216 := by omega
    rw [List.map_cons, v_lcC]
    unfold t__law_bent_dict_c1 e__law_bent_dict_c1
    unfold t__law_bent_dict_c1 e__law_bent_dict_c1 at ih
    cases he : eqD 60 p.1 k
    · have e : lessK k (p :: l) = p :: lessK k l := List.filter_cons_of_pos (by unfold keepB; rw [he]; rfl)
      push_cast [hm, hk, h4, he, hz]
      rw [ih _ (by rw [List.length_append]; simp only [List.length_cons, List.length_nil]; omega), e, List.append_assoc]
      rfl
    · have e : lessK k (p :: l) = lessK k l := List.filter_cons_of_neg (by unfold keepB; rw [he]; decide)
      push_cast [hm, hk, h4, he, hz]
      rw [ih _ (by omega), e]
theorem dict_all (way : Int) (h1 : 1 ≤ way) (h7 : way < 7) (hB : 200 ≤ B) (hn : n ≤ 50) (h : KdsOk w B n kds) (h0 : 0 < kds.length) (hW : wdK kds ≤ 5000000) (ih : ∀ p ∈ kds, (r1 [.bag, .val p.2]).All (BentOk w (B + 1) (n + 6) (3 * wd 60 p.2 + 3000))) : (mk 7 (fs__law_bent_dict w r1 r2 r3) [.bag, .val (.dcm w kds), .val (.int way)]).All (BentOk w (B + 1) (n + 7) (3 * (4 + wdK kds) + 3000)) := by
  have ll := len_wdK kds
  have oo := one_all
  have zl : kds.length ≤ 16777216 := by omega
  have zs : kds.length ≤ sizeLine := by rw [sizeLine_eq]; omega
  have lm := q_listM (w := w) zs
  unfold fs__law_bent_dict
  generalize hF : m__law_one = F1 at *
  push_cast [lm, zl]
  walk_at "pl"
  refine T.All_mono (oo _ (by rw [List.length_map]; omega) (by rw [List.length_map]; omega)) ?_
  rintro o ⟨k, hk, rfl⟩
  obtain ⟨p, hp, rfl⟩ := List.mem_map.mp hk
  obtain ⟨k1, k2⟩ := key_ok (h.2 p hp).1
  have lc := fun r4 r5 => dict_lc (w := w) (kds := kds) (r1 := r1) (r2 := r2) (r3 := r3) (.val (.int way)) p.1 r4 r5 k2 kds [] (fun q hq => ⟨(h.2 q hq).1, mAt_self h.1 hq⟩) (by simp only [List.length_nil]; omega)
  have ls := lessK_sub p.1 kds
  have lk : KdsOk w (B + 1) (n + 6) (lessK p.1 kds) := (h.sub ls).up (by omega) (by omega)
  have lw : wdK (lessK p.1 kds) + (wd 60 p.1 + 2 + wd 60 p.2 + 2) ≤ wdK kds := filter_wdK _ hp (by unfold keepB; rw [eqD_refl (okk_ok k2)]; rfl)
  have ln := ls.length_le
  have dm : bDictMF w [.lst (itemsD (lessK p.1 kds))] = some (.own (.dcm w (lessK p.1 kds))) := by
    rw [q_dictM, pairsM_items (fun q hq => (lk.2 q hq).1)]
    show some (R.own (D.dcm w (mPuts [] (lessK p.1 kds)))) = _
    rw [mPuts_nil lk.1]
  have va := (q_mAtW (w := w) k1).trans (mAt_self h.1 hp)
  have pw := wdK_mem hp
  simp only [List.nil_append] at lc
  push_cast [lc, dm]
  generalize lessK p.1 kds = L at *
  have om : ∀ (f : FS) (r0 r1 r2 r3 r5 r6 : R), ownMS w 4 f [r0, r1, r2, r3, .own (.dcm w L), r5, r6] = f [r0, r1, r2, r3, .own (.dcm w L), r5, r6] := fun f r0 r1 r2 r3 r5 r6 => q_ownMS rfl
  have pk : ∀ (k d : D), (kOfM k).isSome = true → ∀ (r0 r1 r2 r3 r5 r6 : R), putKM w 4 d k [r0, r1, r2, r3, .own (.dcm w L), r5, r6] = .ret (.nx [r0, r1, r2, r3, .own (.dcm w (mPut L k d)), r5, r6]) := fun k d hk r0 r1 r2 r3 r5 r6 => q_putKM hk rfl (by rw [sizeLine_eq]; omega)
  obtain rfl | rfl | rfl | rfl | rfl | rfl : way = 1 ∨ way = 2 ∨ way = 3 ∨ way = 4 ∨ way = 5 ∨ way = 6 := by omega
  · push_cast [lc, dm]
    exact bo_dcm lk (by omega) (by omega)
  · push_cast [lc, dm, zl]
    have z : ∀ p ∈ kds, Th w (B + 1) (n + 5) p.1 ∧ Th w (B + 1) (n + 5) p.2 := fun p hp => ⟨(h.2 p hp).2.1.up (by omega) (by omega), (h.2 p hp).2.2.up (by omega) (by omega)⟩
    have e := items_wd kds z (by omega)
    have t := items_th z
    exact ⟨_, _, rfl, .inr rfl, t, by rw [wd_lst t (by omega)]; omega⟩
  iterate 2
    · push_cast [lc, dm, zl, va, om]
      walk_at "pl"
      refine T.All_mono (oo _ (Nat.zero_lt_succ _) (by simp only [List.length_cons, List.length_nil]; omega)) ?_
      rintro o ⟨k, hk, rfl⟩
      obtain ⟨a1, a2, a3⟩ := oddK_ok (w := w) k hk
      have pm := pk k p.2 (key_ok a1).1
      push_cast [pm]
      have po := put_ok lk a1 (a2.up (by omega) (by omega)) (((h.2 p hp).2.2).up (show n ≤ n + 6 by omega) (show B ≤ B + 1 by omega))
      have pw2 := mPut_wd k p.2 lk.1
      exact bo_dcm po (by omega) (by omega)
  iterate 2
    · push_cast [lc, dm, zl, va]
      walk_at "pl"
      refine T.All_mono (ih p hp) ?_
      rintro o ⟨d, r, rfl, hr, hd, hw⟩
      have pm := pk p.1 d k1
      have po := put_ok lk (h.2 p hp).1 (((h.2 p hp).2.1).up (show n ≤ n + 6 by omega) (show B ≤ B + 1 by omega)) hd
      have pw2 := mPut_wd p.1 d lk.1
      rcases hr with rfl | rfl
      all_goals
        push_cast [om, pm]
        exact bo_dcm po (by omega) (by omega)
end
set_option maxHeartbeats 2000000
theorem not_th {w : World} {B k : Nat} {d : D} (h : Th w B k d) (e : (match d with | .dic _ => true | .ins _ _ => true | .ty _ => true | .exc _ _ _ => true | .dct _ _ => true | .obx _ _ => true | _ => false) = true) : False := by
  cases k <;> cases d <;> first | exact h | cases e
def BIh (w : World) (f B m : Nat) (x : D) : Prop := (m__law_bent w f [.bag, .val x]).All (BentOk w (B + 1) (m + 6) (3 * wd 60 x + 3000))
section
variable {w : World} {B m f : Nat} {d : D}
theorem bo_val {n W : Nat} {d : D} (h : Th w B n d) (hw : wd 60 d ≤ W) : BentOk w B n W (.val (.val d)) := ⟨_, _, rfl, .inl rfl, h, hw⟩
theorem way_of {way : Int} (h0 : 0 ≤ way) (h1 : way < 7) (hz : way ≠ 0) : way = 1 ∨ way = 2 ∨ way = 3 ∨ way = 4 ∨ way = 5 ∨ way = 6 := by omega
theorem tq_nil (w : World) : truQ (.dcm w []) = some false := by
  unfold truQ
  simp
theorem bo_0 {n W : Nat} (hB : 200 ≤ B) (hW : 3000 ≤ W) : BentOk w B n W (.val (.val (.int 0))) := bo_val (Th.up (n := n) (th_int (B := 200) (by decide +kernel)) (Nat.le_refl _) hB) (Nat.le_trans (by decide +kernel : wd 60 (.int 0) ≤ 3000) hW)
theorem bo_1 {n W : Nat} (hB : 200 ≤ B) (hW : 3000 ≤ W) : BentOk w B n W (.val (.val (.int 1))) := bo_val (Th.up (n := n) (th_int (B := 200) (by decide +kernel)) (Nat.le_refl _) hB) (Nat.le_trans (by decide +kernel : wd 60 (.int 1) ≤ 3000) hW)
theorem bent_step (hB : 200 ≤ B) (hB2 : B ≤ 400) (hm : m ≤ 50) {k : Nat} (hk : k ≤ m + 1) (ht : Th w B k d) (hW : wd 60 d ≤ 5000000)
    (hl : ∀ xs, d = .lst xs ∨ d = .tup xs → ∀ x ∈ xs, Th w B m x ∧ BIh w f B m x) (hd : ∀ kds, d = .dcm w kds → KdsOk w B m kds ∧ ∀ p ∈ kds, BIh w f B m p.2) :
    (m__law_bent w (f + 2) [.bag, .val d]).All (BentOk w (B + 1) (m + 7) (3 * wd 60 d + 3000)) := by
  have oo := odd_all w
  have rl : ∀ xs way, d = .lst xs → 1 ≤ way → way < 7 → (m__law_bent_row w (f + 1) [.bag, .val (.lst xs), .val (.int way)]).All (BentOk w (B + 1) (m + 7) (3 * wd 60 d + 3000)) := fun xs way e h1 h7 => by
    subst e
    have e := wd_lst ht (by omega)
    rw [e, mS__law_bent_row]
    exact row_lst way h1 h7 hB hm (fun x hx => (hl xs (.inl rfl) x hx).1) (by omega) fun x hx => (hl xs (.inl rfl) x hx).2
  have rt : ∀ xs way, d = .tup xs → 1 ≤ way → way < 7 → (m__law_bent_row w (f + 1) [.bag, .val (.tup xs), .val (.int way)]).All (BentOk w (B + 1) (m + 7) (3 * wd 60 d + 3000)) := fun xs way e h1 h7 => by
    subst e
    have e := wd_tup ht (by omega)
    rw [e, mS__law_bent_row]
    exact row_tup way h1 h7 hB hm (fun x hx => (hl xs (.inr rfl) x hx).1) (by omega) fun x hx => (hl xs (.inr rfl) x hx).2
  have rd : ∀ kds way, d = .dcm w kds → 0 < kds.length → 1 ≤ way → way < 7 → (m__law_bent_dict w (f + 1) [.bag, .val (.dcm w kds), .val (.int way)]).All (BentOk w (B + 1) (m + 7) (3 * wd 60 d + 3000)) := fun kds way e h0 h1 h7 => by
    subst e
    have e := wd_dcm ht (by omega)
    rw [e, mS__law_bent_dict]
    exact dict_all way h1 h7 hB hm (hd kds rfl).1 h0 (by omega) (hd kds rfl).2
  rw [mS__law_bent]
  unfold fs__law_bent
  have o2 := one_all
  generalize m__law_one = G1 at *
  generalize m__law_odd w = F1 at *
  generalize m__law_bent_row w (f + 1) = F2 at *
  generalize m__law_bent_dict w (f + 1) = F3 at *
  walk_at "ev"
  walk_at "pl"
  refine all_take (fun way w0 w1 => ?_) (by omega) (by omega)
  by_cases hz : way = 0
  · subst hz
    push_cast []
    walk_at "pl"
    refine T.All_mono oo ?_
    rintro o ⟨x, rfl, hx, hw⟩
    walk_at "ev"
    exact bo_odd hx hw (by omega) (by omega) (by omega)
  · have hz1 : (way == 0) = false := by simpa using hz
    have w1' : 1 ≤ way := by omega
    cases d with
    | lst xs =>
      push_cast [hz1]
      walk_at "pl"
      refine T.All_mono (rl xs way rfl w1' w1) ?_
      rintro o ⟨x, r, rfl, hr, h⟩
      rcases hr with rfl | rfl
      · walk_at "ev"
        exact ⟨x, _, rfl, .inl rfl, h⟩
      · walk_at "ev"
        exact ⟨x, _, rfl, .inr rfl, h⟩
    | tup xs =>
      push_cast [hz1]
      walk_at "pl"
      refine T.All_mono (rt xs way rfl w1' w1) ?_
      rintro o ⟨x, r, rfl, hr, h⟩
      rcases hr with rfl | rfl
      · walk_at "ev"
        exact ⟨x, _, rfl, .inl rfl, h⟩
      · walk_at "ev"
        exact ⟨x, _, rfl, .inr rfl, h⟩
    | dcm v kds =>
      obtain ⟨rfl, _, _⟩ := th_dcm ht
      cases he : kds.isEmpty
      · push_cast [hz1, he, q_neDicM]
        walk_at "pl"
        refine T.All_mono (rd kds way rfl (by cases kds; cases he; exact Nat.zero_lt_succ _) w1' w1) ?_
        rintro o ⟨x, r, rfl, hr, h⟩
        rcases hr with rfl | rfl
        · walk_at "ev"
          exact ⟨x, _, rfl, .inl rfl, h⟩
        · walk_at "ev"
          exact ⟨x, _, rfl, .inr rfl, h⟩
      · have hk0 : kds = [] := List.isEmpty_iff.mp he
        subst hk0
        have tq : truQ (.dcm v []) = some false := tq_nil v
        push_cast [hz1, q_neDicM, tq, List.isEmpty_nil]
        walk_at "pl"
        refine T.All_mono oo ?_
        rintro o ⟨z, rfl, hx, hw⟩
        obtain rfl | rfl | rfl | rfl | rfl | rfl := way_of w0 w1 hz
        all_goals
          push_cast []
          first
            | exact bo_odd hx hw (by omega) (by omega) (by omega)
            | exact bo_val th_non (by rw [wd60_non]; omega)
            | exact bo_val th_bl (by rw [wd60_bl]; omega)
            | exact bo_0 (by omega) (by omega)
            | exact bo_1 (by omega) (by omega)
            | exact bo_val (th_int (by omega)) (by rw [wd60_int]; omega)
            | exact bo_val (th_int (by rw [Int.natAbs_neg]; omega)) (by rw [wd60_int, Int.natAbs_neg]; omega)
            | exact bo_val (th_str (PySem.W.KSb.asc_num _)) (by rw [wd60_str]; omega)
            | exact bo_val (th_str (PySem.W.KSb.asc_of (by decide +kernel))) (by rw [wd60_str, (by decide +kernel : (Str.ofString "no").length = 2)]; omega)
            | exact bo_val (ht.up (by omega) (by omega)) (by omega)
    | str x =>
      have hx := of_str ht
      rw [wd60_str] at hW ⊢
      have z1 : x.length ≤ 16777216 := by omega
      have z2 : x.length ≤ 5592405 := by omega
      have zA : (Str.ofString "abz A0_\n").cps.size ≤ 16777216 := by decide +kernel
      push_cast [hz1, z1]
      walk_at "pl"
      refine all_take (fun at_ a0 a1 => ?_) (by omega) (by omega)
      push_cast [zA, z1, t_listS]
      walk_at "pl"
      refine T.All_mono (o2 (signs (Str.ofString "abz A0_\n")) (by decide +kernel) (by decide +kernel)) ?_
      rintro o ⟨y, hy, rfl⟩
      obtain ⟨s, rfl, sl, sa⟩ := ascD_ok (List.all_eq_true.mp (by decide +kernel : (signs (Str.ofString "abz A0_\n")).all ascD = true) y hy)
      have la := cutS_le x none (some at_)
      have lb := cutS_le x (some at_) none
      have lc := cutS_le x none (some (-1))
      have aa := asc_cut none (some at_) hx
      have ab := asc_cut (some at_) none hx
      have ac := asc_cut none (some (-1)) hx
      obtain ⟨ua, ul⟩ := asc_upper hx
      have sp : (Str.ofString " ").length = 1 := by decide +kernel
      have y1 : (cutS x none (some at_)).length + s.length ≤ 16777216 := by omega
      have y2 : (cutS x none (some at_) ++ s).length + (cutS x (some at_) none).length ≤ 16777216 := by rw [Str.length_append]; omega
      have y3 : x.length + x.length ≤ 16777216 := by omega
      have y4 : x.length + (Str.ofString " ").length ≤ 16777216 := by omega
      push_cast [y1, y2, y3, y4, z1, z2]
      walk_at "pl"
      refine T.All_mono oo ?_
      rintro o ⟨z, rfl, hx', hw⟩
      generalize cutS x none (some at_) = A at *
      generalize cutS x (some at_) none = C at *
      generalize cutS x none (some (-1)) = E at *
      generalize Txt.upper x = U at *
      obtain rfl | rfl | rfl | rfl | rfl | rfl := way_of w0 w1 hz
      · push_cast []
        exact bo_val (th_str (PySem.W.KSb.asc_app (PySem.W.KSb.asc_app aa sa) ab)) (by rw [wd60_str, Str.length_append, Str.length_append]; omega)
      · push_cast []
        exact bo_val (th_str ac) (by rw [wd60_str]; omega)
      · push_cast []
        exact bo_val (th_str ua) (by rw [wd60_str]; omega)
      · push_cast []
        exact bo_val (th_str (PySem.W.KSb.asc_app hx hx)) (by rw [wd60_str, Str.length_append]; omega)
      · push_cast []
        exact bo_val (th_str (PySem.W.KSb.asc_app hx (PySem.W.KSb.asc_of (by decide +kernel)))) (by rw [wd60_str, Str.length_append]; omega)
      · push_cast []
        exact bo_odd hx' hw (by omega) (by omega) (by omega)
    | int i =>
      have hi := of_int ht
      have b1 := log_up (a := i.natAbs) (b := (i + 1).natAbs) (by omega)
      have b2 := log_up (a := i.natAbs) (b := (i - 1).natAbs) (by omega)
      have b3 := num_len (i := i) (by omega)
      have b4 : i.natAbs.log2 < 1920 := by omega
      rw [wd60_int]
      push_cast [hz1, b4, t_strN]
      walk_at "pl"
      refine T.All_mono oo ?_
      rintro o ⟨z, rfl, hx, hw⟩
      obtain rfl | rfl | rfl | rfl | rfl | rfl := way_of w0 w1 hz
      all_goals
        push_cast []
        first
          | exact bo_odd hx hw (by omega) (by omega) (by omega)
          | exact bo_val th_non (by rw [wd60_non]; omega)
          | exact bo_val th_bl (by rw [wd60_bl]; omega)
          | exact bo_0 (by omega) (by omega)
          | exact bo_1 (by omega) (by omega)
          | exact bo_val (th_int (by omega)) (by rw [wd60_int]; omega)
          | exact bo_val (th_int (by rw [Int.natAbs_neg]; omega)) (by rw [wd60_int, Int.natAbs_neg]; omega)
          | exact bo_val (th_str (PySem.W.KSb.asc_num _)) (by rw [wd60_str]; omega)
          | exact bo_val (th_str (PySem.W.KSb.asc_of (by decide +kernel))) (by rw [wd60_str, (by decide +kernel : (Str.ofString "no").length = 2)]; omega)
          | exact bo_val (ht.up (by omega) (by omega)) (by omega)
    | bl b =>
      cases b <;> (
      push_cast [hz1]
      walk_at "pl"
      refine T.All_mono oo ?_
      rintro o ⟨z, rfl, hx, hw⟩
      obtain rfl | rfl | rfl | rfl | rfl | rfl := way_of w0 w1 hz
      all_goals
        push_cast []
        first
          | exact bo_odd hx hw (by omega) (by omega) (by omega)
          | exact bo_val th_non (by rw [wd60_non]; omega)
          | exact bo_val th_bl (by rw [wd60_bl]; omega)
          | exact bo_0 (by omega) (by omega)
          | exact bo_1 (by omega) (by omega)
          | exact bo_val (th_int (by omega)) (by rw [wd60_int]; omega)
          | exact bo_val (th_int (by rw [Int.natAbs_neg]; omega)) (by rw [wd60_int, Int.natAbs_neg]; omega)
          | exact bo_val (th_str (PySem.W.KSb.asc_num _)) (by rw [wd60_str]; omega)
          | exact bo_val (th_str (PySem.W.KSb.asc_of (by decide +kernel))) (by rw [wd60_str, (by decide +kernel : (Str.ofString "no").length = 2)]; omega)
          | exact bo_val (ht.up (by omega) (by omega)) (by omega))
    | non =>
      push_cast [hz1]
      walk_at "pl"
      refine T.All_mono oo ?_
      rintro o ⟨z, rfl, hx, hw⟩
      obtain rfl | rfl | rfl | rfl | rfl | rfl := way_of w0 w1 hz
      all_goals
        push_cast []
        first
          | exact bo_odd hx hw (by omega) (by omega) (by omega)
          | exact bo_val th_non (by rw [wd60_non]; omega)
          | exact bo_val th_bl (by rw [wd60_bl]; omega)
          | exact bo_0 (by omega) (by omega)
          | exact bo_1 (by omega) (by omega)
          | exact bo_val (th_int (by omega)) (by rw [wd60_int]; omega)
          | exact bo_val (th_int (by rw [Int.natAbs_neg]; omega)) (by rw [wd60_int, Int.natAbs_neg]; omega)
          | exact bo_val (th_str (PySem.W.KSb.asc_num _)) (by rw [wd60_str]; omega)
          | exact bo_val (th_str (PySem.W.KSb.asc_of (by decide +kernel))) (by rw [wd60_str, (by decide +kernel : (Str.ofString "no").length = 2)]; omega)
          | exact bo_val (ht.up (by omega) (by omega)) (by omega)
    | _ => exact (not_th ht rfl).elim
theorem bent_ind (w : World) (B : Nat) (hB : 200 ≤ B) (hB2 : B ≤ 400) : ∀ (n f : Nat) (d : D), n ≤ 48 → 2 * n + 2 ≤ f → Th w B n d → wd 60 d ≤ 5000000 → (m__law_bent w f [.bag, .val d]).All (BentOk w (B + 1) (n + 7) (3 * wd 60 d + 3000))
  | 0, f, d, hn, hf, ht, hW => by
    obtain ⟨g, rfl⟩ : ∃ g, f = g + 2 := ⟨f - 2, by omega⟩
    exact bent_step (m := 0) hB hB2 (by omega) (Nat.zero_le _) ht hW (fun xs e x hx => absurd (show 0 < 0 by rcases e with rfl | rfl; exact (th_lst ht x hx).2; exact (th_tup ht x hx).2) (by omega)) fun kds e => by
      subst e
      obtain ⟨_, nd, h⟩ := th_dcm ht
      exact ⟨⟨nd, fun p hp => absurd (h p hp).2.2.2 (by omega)⟩, fun p hp => absurd (h p hp).2.2.2 (by omega)⟩
  | n + 1, f, d, hn, hf, ht, hW => by
    obtain ⟨g, rfl⟩ : ∃ g, f = g + 2 := ⟨f - 2, by omega⟩
    have ih := fun x h hw => bent_ind w B hB hB2 n g x (by omega) (by omega) h hw
    refine bent_step (m := n + 1) hB hB2 (by omega) (by omega) ht hW (fun xs e x hx => ?_) fun kds e => ?_
    · rcases e with rfl | rfl
      · have e := wd_lst ht (by omega)
        have m := wdL_mem hx
        have t : Th w B n x := (th_lst ht x hx).1
        exact ⟨t.up (by omega) (Nat.le_refl _), ih x t (by omega)⟩
      · have e := wd_tup ht (by omega)
        have m := wdL_mem hx
        have t : Th w B n x := (th_tup ht x hx).1
        exact ⟨t.up (by omega) (Nat.le_refl _), ih x t (by omega)⟩
    · subst e
      obtain ⟨_, nd, h⟩ := th_dcm ht
      have e := wd_dcm ht (by omega)
      refine ⟨⟨nd, fun p hp => ⟨(h p hp).1, (h p hp).2.1.up (by omega) (Nat.le_refl _), (h p hp).2.2.1.up (by omega) (Nat.le_refl _)⟩⟩, fun p hp => ?_⟩
      have m := wdK_mem hp
      exact ih p.2 (h p hp).2.2.1 (by omega)
end
set_option maxHeartbeats 2000000
theorem lit_th {w : World} {n : Nat} {s : Str} (h : s.cps.toList.all (fun c => decide (c < 128)) = true) : Th w 200 n (.str s) := th_str (PySem.W.KSb.asc_of h)
theorem sm_log {k : Int} (h : CN.Sm k) : k.natAbs.log2 < 41 := by
  by_cases z : k.natAbs = 0
  · rw [z]; decide
  · exact (Nat.log2_lt z).mpr (by have := h.1; have := h.2; omega)
theorem sm_th {w : World} {n : Nat} {k : Int} (h : CN.Sm k) : Th w 200 n (.int k) ∧ wd 60 (.int k) ≤ 42 := by
  have := sm_log h
  exact ⟨th_int (by omega), by rw [wd60_int]; omega⟩
theorem two_ok {w : World} {n : Nat} {a b : D} (ha : Th w 200 n a) (hb : Th w 200 n b) (hn : n ≤ 50) : Th w 200 (n + 1) (.tup [a, b]) ∧ wd 60 (.tup [a, b]) = wd 60 a + wd 60 b + 8 := by
  have t := tup_th (an_cons ha (an_cons hb an_nil))
  refine ⟨t, ?_⟩
  rw [wd_tup t (by omega), wdL_cons, wdL_cons]
  show _ + (_ + 2 + (_ + 2 + 0)) = _
  omega
theorem stp_th (w : World) (s : CN.Stp) (h : s.Ok) : Th w 200 3 s.d ∧ wd 60 s.d ≤ 1000 := by
  have num : ∀ (x : Str) (k : Int), CN.Sm k → x.cps.toList.all (fun c => decide (c < 128)) = true → x.length ≤ 5 → Th w 200 3 (.tup [.str x, .int k]) ∧ wd 60 (.tup [.str x, .int k]) ≤ 1000 := fun x k hk hx hl => by
    obtain ⟨a, b⟩ := two_ok (n := 2) (w := w) (lit_th hx) (sm_th hk).1 (by omega)
    refine ⟨a, ?_⟩
    rw [b, wd60_str]
    have := (sm_th (w := w) (n := 2) hk).2
    omega
  cases s with
  | plus k => exact num _ k h (by decide +kernel) (by decide +kernel)
  | times k => exact num _ k h.1 (by decide +kernel) (by decide +kernel)
  | into k => exact num _ k h.1 (by decide +kernel) (by decide +kernel)
  | over k => exact num _ k h (by decide +kernel) (by decide +kernel)
  | found ps =>
    obtain ⟨hl, hp, nd⟩ := h
    clear nd
    have one : ∀ p ∈ ps, Th w 200 1 (CN.prD p) ∧ wd 60 (CN.prD p) ≤ 92 := fun p hq => by
      obtain ⟨a, b⟩ := two_ok (n := 0) (w := w) (sm_th (hp p hq).1).1 (sm_th (hp p hq).2).1 (by omega)
      refine ⟨a, ?_⟩
      have := (sm_th (w := w) (n := 0) (hp p hq).1).2
      have := (sm_th (w := w) (n := 0) (hp p hq).2).2
      show wd 60 (.tup [.int p.1, .int p.2]) ≤ 92
      rw [b]; omega
    have t : Th w 200 2 (.tup (ps.map CN.prD)) := tup_th fun x hx => by
      obtain ⟨p, hq, rfl⟩ := List.mem_map.mp hx
      exact (one p hq).1
    have wl : wdL (ps.map CN.prD) ≤ 94 * ps.length := by
      clear t hl hp
      induction ps with
      | nil => exact Nat.le_refl _
      | cons p ps ih =>
        have := (one p (List.mem_cons_self ..)).2
        have := ih fun q hq => one q (List.mem_cons_of_mem _ hq)
        rw [List.map_cons, wdL_cons, List.length_cons]; omega
    have w1 := wd_tup t (by omega)
    obtain ⟨a, b⟩ := two_ok (n := 2) (w := w) (lit_th (s := Str.ofString "found") (by decide +kernel)) t (by omega)
    refine ⟨a, ?_⟩
    show wd 60 (.tup [.str (Str.ofString "found"), .tup (ps.map CN.prD)]) ≤ 1000
    rw [b, w1, wd60_str, (by decide +kernel : (Str.ofString "found").length = 5)]
    omega
theorem stps_th (w : World) (ss : List CN.Stp) (h : ∀ s ∈ ss, s.Ok) (hl : ss.length ≤ 4) : Th w 200 4 (.tup (ss.map CN.Stp.d)) ∧ wd 60 (.tup (ss.map CN.Stp.d)) ≤ 5000 := by
  have t : Th w 200 4 (.tup (ss.map CN.Stp.d)) := tup_th fun x hx => by
    obtain ⟨p, hq, rfl⟩ := List.mem_map.mp hx
    exact (stp_th w p (h p hq)).1
  refine ⟨t, ?_⟩
  have wl : wdL (ss.map CN.Stp.d) ≤ 1002 * ss.length := by
    clear t hl
    induction ss with
    | nil => exact Nat.le_refl _
    | cons p ps ih =>
      have := (stp_th w p (h p (List.mem_cons_self ..))).2
      have := ih fun q hq => h q (List.mem_cons_of_mem _ hq)
      rw [List.map_cons, wdL_cons, List.length_cons]; omega
  rw [wd_tup t (by omega)]; omega
def NmOk (ns : List String) : Prop := ∀ s ∈ ns, (Str.ofString s).cps.toList.all (fun c => decide (c < 128)) = true ∧ (Str.ofString s).length ≤ 8
theorem leaf_th (w : World) {ns : List String} (hn : NmOk ns) (l : CN.Leaf) (h : l.Ok ns) : Th w 200 5 l.d ∧ wd 60 l.d ≤ 6000 := by
  have nm : ∀ (x : Str) (s : String), s ∈ ns → x.cps.toList.all (fun c => decide (c < 128)) = true → x.length ≤ 8 → Th w 200 5 (.tup [.str x, .str (Str.ofString s)]) ∧ wd 60 (.tup [.str x, .str (Str.ofString s)]) ≤ 6000 := fun x s hs hx hl => by
    obtain ⟨a, b⟩ := two_ok (n := 0) (w := w) (lit_th hx) (lit_th (hn s hs).1) (by omega)
    have := (hn s hs).2
    exact ⟨a.up (by omega) (Nat.le_refl _), by rw [b, wd60_str, wd60_str]; omega⟩
  cases l with
  | emp c => exact nm _ c h (by decide +kernel) (by decide +kernel)
  | num c => exact nm _ c h (by decide +kernel) (by decide +kernel)
  | alw a =>
    obtain ⟨x, y⟩ := two_ok (n := 0) (w := w) (a := .str (Str.ofString "always")) (b := .str a.s) (lit_th (by decide +kernel)) (lit_th (by cases a <;> decide +kernel)) (by omega)
    refine ⟨x.up (by omega) (Nat.le_refl _), ?_⟩
    show wd 60 (.tup [.str (Str.ofString "always"), .str a.s]) ≤ 6000
    rw [y]
    cases a <;> decide +kernel
  | ask c ss g n =>
    obtain ⟨hc, hl, hs, hm⟩ := h
    obtain ⟨s1, s2⟩ := stps_th w ss hs hl
    have hc2 := (hn c hc).2
    have gt : Th w 200 4 (.str g.s) := lit_th (by cases g <;> decide +kernel)
    have gw : wd 60 (.str g.s) ≤ 40 := by cases g <;> decide +kernel
    have nt := sm_th (w := w) (n := 4) hm
    have t : Th w 200 5 (.tup [.str (Str.ofString "asks"), .str (Str.ofString c), .tup (ss.map CN.Stp.d), .str g.s, .int n]) := tup_th (an_cons (lit_th (by decide +kernel)) (an_cons (lit_th (hn c hc).1) (an_cons s1 (an_cons gt (an_cons nt.1 an_nil)))))
    refine ⟨t, ?_⟩
    show wd 60 (.tup [.str (Str.ofString "asks"), .str (Str.ofString c), .tup (ss.map CN.Stp.d), .str g.s, .int n]) ≤ 6000
    have e : wdL [.str (Str.ofString "asks"), .str (Str.ofString c), .tup (ss.map CN.Stp.d), .str g.s, .int n] = wd 60 (.str (Str.ofString "asks")) + 2 + (wd 60 (.str (Str.ofString c)) + 2 + (wd 60 (.tup (ss.map CN.Stp.d)) + 2 + (wd 60 (.str g.s) + 2 + (wd 60 (.int n) + 2 + 0)))) := rfl
    rw [wd_tup t (by omega), e, wd60_str, wd60_str, (by decide +kernel : (Str.ofString "asks").length = 4)]
    have := nt.2
    omega
set_option maxHeartbeats 2000000
theorem pairsU_wd (w : World) {n : Nat} (hn : n ≤ 50) : ∀ (k : Nat) (ds : List D), ds.length ≤ k → (∀ d ∈ ds, Th w 200 n d) → (∀ p ∈ CN.pairsU ds, Th w 200 (n + 1) p) ∧ wdL (CN.pairsU ds) ≤ (ds.map fun d => wd 60 d + 8).sum
  | 0, ds, hk, _ => by
    have : ds = [] := List.length_eq_zero_iff.mp (by omega)
    subst this
    exact ⟨fun p hp => (nomatch hp), Nat.le_refl _⟩
  | k + 1, [], _, _ => ⟨fun p hp => (nomatch hp), Nat.le_refl _⟩
  | k + 1, [a], _, _ => ⟨fun p hp => (nomatch hp), Nat.zero_le _⟩
  | k + 1, a :: b :: r, hk, h => by
    obtain ⟨i1, i2⟩ := pairsU_wd w hn k r (by simp only [List.length_cons] at hk; omega) fun d hd => h d (List.mem_cons_of_mem _ (List.mem_cons_of_mem _ hd))
    obtain ⟨t, e⟩ := two_ok (w := w) (h a (by simp)) (h b (by simp)) hn
    refine ⟨fun p hp => ?_, ?_⟩
    · rcases List.mem_cons.mp hp with rfl | hp
      · exact t
      · exact i1 p hp
    · show wdL (.tup [a, b] :: CN.pairsU r) ≤ _
      rw [wdL_cons, e]
      simp only [List.map_cons, List.sum_cons]
      omega
theorem pairsU_last (w : World) {n : Nat} (hn : n ≤ 50) : ∀ (k : Nat) (ds : List D), ds.length ≤ k → ds.length % 2 = 1 → (∀ d ∈ ds, Th w 200 n d) → wdL (CN.pairsU ds) + (wd 60 (CN.lastD ds) + 8) ≤ (ds.map fun d => wd 60 d + 8).sum ∧ CN.lastD ds ∈ ds
  | 0, ds, hk, ho, _ => by omega
  | k + 1, [], _, ho, _ => by simp at ho
  | k + 1, [a], _, _, _ => ⟨by show 0 + (wd 60 a + 8) ≤ wd 60 a + 8 + 0; omega, by simp [CN.lastD]⟩
  | k + 1, [a, b], _, ho, _ => by simp at ho
  | k + 1, a :: b :: e :: r, hk, ho, h => by
    obtain ⟨i1, i2⟩ := pairsU_last w hn k (e :: r) (by simp only [List.length_cons] at hk ⊢; omega) (by simp only [List.length_cons] at ho ⊢; omega) fun d hd => h d (List.mem_cons_of_mem _ (List.mem_cons_of_mem _ hd))
    obtain ⟨t, q⟩ := two_ok (w := w) (h a (by simp)) (h b (by simp)) hn
    have el : CN.lastD (a :: b :: e :: r) = CN.lastD (e :: r) := by simp [CN.lastD]
    rw [el]
    refine ⟨?_, List.mem_cons_of_mem _ (List.mem_cons_of_mem _ i2)⟩
    show wdL (.tup [a, b] :: CN.pairsU (e :: r)) + _ ≤ _
    rw [wdL_cons, q]
    simp only [List.map_cons, List.sum_cons] at i1 ⊢
    omega
theorem kids_wd {f g : CN.Cnd → Nat} : ∀ (ps : List CN.Cnd), (∀ c ∈ ps, wd 60 c.d + 20 ≤ 6100 * c.lv + 200 * c.nd) → ((ps.map CN.Cnd.d).map fun d => wd 60 d + 8).sum ≤ 6100 * CN.Cnd.lvs ps + 200 * CN.Cnd.nds ps
  | [], _ => Nat.zero_le _
  | c :: ps, h => by
    have := h c (List.mem_cons_self ..)
    have := kids_wd (f := f) (g := g) ps fun d hd => h d (List.mem_cons_of_mem _ hd)
    simp only [List.map_cons, List.sum_cons, CN.Cnd.lvs, CN.Cnd.nds]
    omega
theorem wdL_8 (ds : List D) : wdL ds ≤ (ds.map fun d => wd 60 d + 8).sum := sum_le_map ds fun d _ => by omega
set_option maxHeartbeats 2000000
theorem one_wd {w : World} {n : Nat} {s : Str} {x : D} (hs : s.cps.toList.all (fun c => decide (c < 128)) = true) (hl : s.length ≤ 5) (hx : Th w 200 n x) (hn : n ≤ 50) : Th w 200 (n + 1) (.tup [.str s, x]) ∧ wd 60 (.tup [.str s, x]) ≤ wd 60 x + 60 := by
  obtain ⟨a, b⟩ := two_ok (n := n) (w := w) (lit_th hs) hx hn
  exact ⟨a, by rw [b, wd60_str]; omega⟩
theorem cnd_th (w : World) {ns : List String} (hn : NmOk ns) : ∀ c : CN.Cnd, c.Wf ns → c.dep ≤ 14 → Th w 200 (5 + 3 * c.dep) c.d ∧ wd 60 c.d + 20 ≤ 6100 * c.lv + 200 * c.nd
  | .leaf l, h, _ => by
    obtain ⟨a, b⟩ := leaf_th w hn l h
    refine ⟨a, ?_⟩
    show wd 60 l.d + 20 ≤ 6100 * 1 + 200 * 0
    omega
  | .node k ps, h, hd => by
    obtain ⟨hk, hw⟩ : CN.kOk k ps.length ∧ CN.Cnd.Wfs ns ps := h
    have hw := CN.wfs_iff.mp hw
    have hd : CN.Cnd.deps ps + 1 ≤ 14 := hd
    have hdp := CN.deps_le.mp (Nat.le_refl (CN.Cnd.deps ps))
    have ih : ∀ c ∈ ps, Th w 200 (5 + 3 * c.dep) c.d ∧ wd 60 c.d + 20 ≤ 6100 * c.lv + 200 * c.nd := fun c hc => cnd_th w hn c (hw c hc) (by have := hdp c hc; omega)
    have sm := kids_wd (f := fun _ => 0) (g := fun _ => 0) ps fun c hc => (ih c hc).2
    have t : ∀ d ∈ ps.map CN.Cnd.d, Th w 200 (5 + 3 * CN.Cnd.deps ps) d := fun d hd => by
      obtain ⟨c, hc, rfl⟩ := List.mem_map.mp hd
      exact (ih c hc).1.up (by have := hdp c hc; omega) (Nat.le_refl _)
    have len : (ps.map CN.Cnd.d).length = ps.length := List.length_map ..
    have w8 := wdL_8 (ps.map CN.Cnd.d)
    have e : (CN.Cnd.node k ps).d = CN.nodeD k (ps.map CN.Cnd.d) := by rw [← CN.ds_map]; rfl
    have el : (CN.Cnd.node k ps).lv = CN.Cnd.lvs ps := rfl
    have en : (CN.Cnd.node k ps).nd = CN.Cnd.nds ps + 1 := rfl
    have ed : (CN.Cnd.node k ps).dep = CN.Cnd.deps ps + 1 := rfl
    rw [e, el, en, ed]
    generalize ps.map CN.Cnd.d = ds at *
    generalize CN.Cnd.deps ps = m at *
    have tt : Th w 200 (5 + 3 * m + 1) (.tup ds) := tup_th t
    have tw := wd_tup tt (by omega)
    have grp : ∀ s : Str, s.cps.toList.all (fun c => decide (c < 128)) = true → s.length ≤ 5 → Th w 200 (5 + 3 * (m + 1)) (.tup [.str s, .tup ds]) ∧ wd 60 (.tup [.str s, .tup ds]) + 20 ≤ 6100 * CN.Cnd.lvs ps + 200 * (CN.Cnd.nds ps + 1) := fun s h1 h2 => by
      obtain ⟨a, b⟩ := one_wd h1 h2 tt (by omega)
      exact ⟨a.up (by omega) (Nat.le_refl _), by omega⟩
    cases k with
    | all => exact grp _ (by decide +kernel) (by decide +kernel)
    | any => exact grp _ (by decide +kernel) (by decide +kernel)
    | fst => exact grp _ (by decide +kernel) (by decide +kernel)
    | not =>
      have h1 : ds.length = 1 := len.trans hk
      match ds, h1, t, sm with
      | [x], _, t, sm =>
        obtain ⟨a, b⟩ := one_wd (w := w) (s := Str.ofString "not") (by decide +kernel) (by decide +kernel) (t x (by simp)) (by omega)
        have sm : wd 60 x + 8 + 0 ≤ _ := sm
        exact ⟨a.up (by omega) (Nat.le_refl _), by show wd 60 (.tup [.str (Str.ofString "not"), x]) + 20 ≤ _; omega⟩
    | cas =>
      have ho : ds.length % 2 = 1 := by rw [len]; exact hk
      obtain ⟨p1, p2⟩ := pairsU_wd w (n := 5 + 3 * m) (by omega) ds.length ds (Nat.le_refl _) t
      obtain ⟨q1, q2⟩ := pairsU_last w (n := 5 + 3 * m) (by omega) ds.length ds (Nat.le_refl _) ho t
      have tp : Th w 200 (5 + 3 * m + 2) (.tup (CN.pairsU ds)) := tup_th p1
      have wp := wd_tup tp (by omega)
      have tl : Th w 200 (5 + 3 * m + 2) (CN.lastD ds) := (t _ q2).up (by omega) (Nat.le_refl _)
      have tc : Th w 200 (5 + 3 * (m + 1)) (.tup [.str (Str.ofString "case"), .tup (CN.pairsU ds), CN.lastD ds]) := tup_th (an_cons (lit_th (by decide +kernel)) (an_cons tp (an_cons tl an_nil)))
      refine ⟨tc, ?_⟩
      have ec : wdL [.str (Str.ofString "case"), .tup (CN.pairsU ds), CN.lastD ds] = wd 60 (.str (Str.ofString "case")) + 2 + (wd 60 (.tup (CN.pairsU ds)) + 2 + (wd 60 (CN.lastD ds) + 2 + 0)) := rfl
      show wd 60 (.tup [.str (Str.ofString "case"), .tup (CN.pairsU ds), CN.lastD ds]) + 20 ≤ _
      rw [wd_tup tc (by omega), ec, wp, wd60_str, (by decide +kernel : (Str.ofString "case").length = 4)]
      omega
termination_by c => sizeOf c
decreasing_by
  have := List.sizeOf_lt_of_mem hc
  simp only [CN.Cnd.node.sizeOf_spec]
  omega
set_option maxHeartbeats 2000000
theorem nm1 : NmOk ["n", "m", "all"] := fun s hs => by
  simp only [List.mem_cons, List.not_mem_nil, or_false] at hs
  rcases hs with rfl | rfl | rfl <;> exact ⟨by decide +kernel, by decide +kernel⟩
theorem nm2 : NmOk ["n", "empty", "abcdefgh"] := fun s hs => by
  simp only [List.mem_cons, List.not_mem_nil, or_false] at hs
  rcases hs with rfl | rfl | rfl <;> exact ⟨by decide +kernel, by decide +kernel⟩
def Drn (w : World) (d : D) : Prop := Th w 200 20 d ∧ wd 60 d ≤ 400000
theorem nd4 : CN.ndB 4 = 781 := rfl
theorem grown_dr (w : World) {many : Int} {c : CN.Cnd} (hm : many ≤ 11) (h : CN.PK20.Grown ["n", "m", "all"] 4 many c) : Drn w c.d := by
  have q : c.Wf ["n", "m", "all"] ∧ c.dep ≤ 5 ∧ c.lv ≤ 11 ∧ c.nd ≤ 781 := by
    rcases h with ⟨⟨h1, h2, h3, h4⟩, h5⟩ | ⟨h1, h2, h3, h4⟩
    · rw [nd4] at h4
      exact ⟨h1, h2, by omega, h4⟩
    · exact ⟨h1, by omega, h3, by omega⟩
  obtain ⟨q1, q2, q3, q4⟩ := q
  obtain ⟨a, b⟩ := cnd_th w nm1 c q1 (by omega)
  exact ⟨a.up (by omega) (Nat.le_refl _), by omega⟩
theorem leaf_dr (w : World) {l : CN.Leaf} (h : l.Ok ["n", "empty", "abcdefgh"]) : Drn w l.d := by
  obtain ⟨a, b⟩ := leaf_th w nm2 l h
  exact ⟨a.up (by omega) (Nat.le_refl _), by omega⟩
theorem alike_eq (d : D) (h : d.FitsD 16000000) (ok : okk 60 d = true) (er : eqD 60 d d = true) : m__law_alike [.val d, .val d] = .ret (.val (.val (.bl true))) := by
  unfold m__law_alike fs__law_alike
  simp only [v_mk, startK, v_retS, v_andV, v_cmp, v_var, gt, v_varV, T.bind_ret, v_on, v_bind, v_peekP, v_lookV, cEqF, ok, and_self, if_true, er, v_of, v_ret, Bool.false_eq_true, if_false, v_peekV, v_bl, v_cb, v_cons, v_nil, v_lkC, v_lkN, R.pub, bReprXF, h, cEqSF, decide_true, v_go, v_rV, v_outR]
theorem alike_b (a : Bool) : m__law_alike [.val (.bl a), .val (.bl a)] = .ret (.val (.val (.bl true))) := by
  cases a <;> exact alike_eq _ (by decide +kernel) (by decide +kernel) (by decide +kernel)
theorem alike_bb (a b : Bool) : m__law_alike [.val (.lst [.bl a, .bl b]), .val (.lst [.bl a, .bl b])] = .ret (.val (.val (.bl true))) := by
  cases a <;> cases b <;> exact alike_eq _ (by decide +kernel) (by decide +kernel) (by decide +kernel)
theorem alike_s {x : Str} (h : (D.str x).FitsD 16000000) (ok : PyData.strOk x = true) : m__law_alike [.val (.str x), .val (.str x)] = .ret (.val (.val (.bl true))) :=
  alike_eq _ h ok (by show (x == x) = true; simp)
theorem th_tw {w : World} {B n : Nat} {d : D} (h : Th w B n d) (hn : n ≤ 34) (hw : wd 60 d ≤ 16000000) : TwN 34 d := ⟨w, B, h.up hn (Nat.le_refl _), by omega, hw⟩
theorem say_t (c : Addr) {d : D} (h : TwN 34 d) : m_is_test c [.val d] = .ret (.val (.val (.bl (testB d)))) := is_test_eq c h.tw
theorem say_lt (c : Addr) {d : D} (h : TwN 34 d) : m__law_is_test c [.val d] = .ret (.val (.val (.bl (testB d)))) := lis_test_eq c h.tw
theorem say_c (c : Addr) {d : D} (h : TwN 34 d) : m_is_condition c 120 [.val d] = .ret (.val (.val (.bl (condB 34 d)))) := cond_ind c 34 120 d (by omega) h
theorem say_lc (c : Addr) {d : D} (h : TwN 34 d) : m__law_is_condition c 120 [.val d] = .ret (.val (.val (.bl (condB 34 d)))) := lcond_ind c 34 120 d (by omega) h
theorem test_tup {d : D} (h : testB d = true) : ∃ a x r, d = .tup (a :: .str x :: r) := by
  have wrd : ∀ n, wordB n = true → ∃ x, n = .str x := fun n e => by
    cases n <;> first | exact ⟨_, rfl⟩ | cases e
  unfold testB at h
  split at h
  · rename_i w n
    rw [Bool.and_eq_true] at h
    obtain ⟨x, rfl⟩ := wrd n h.2
    exact ⟨_, _, _, rfl⟩
  · rename_i w n s g k
    rw [Bool.and_eq_true, Bool.and_eq_true] at h
    obtain ⟨x, rfl⟩ := wrd n h.2.1
    exact ⟨_, _, _, rfl⟩
  · cases h
section
variable {c a : Addr}
theorem is_name_x : m_is_name c [.val (.obx c a)] = .ret (.val (.val (.bl false))) := by
  unfold m_is_name fs_is_name
  push_cast []
theorem lis_word_x : m__law_is_word c [.val (.obx c a)] = .ret (.val (.val (.bl false))) := by
  unfold m__law_is_word fs__law_is_word
  push_cast []
theorem is_test_x : m_is_test c [.val (.obx c a)] = .ret (.val (.val (.bl false))) := by
  unfold m_is_test fs_is_test
  push_cast []
theorem lis_test_x : m__law_is_test c [.val (.obx c a)] = .ret (.val (.val (.bl false))) := by
  unfold m__law_is_test fs__law_is_test
  push_cast []
theorem notOk : PyData.strOk (Str.ofString "not") = true := by decide +kernel
theorem is_test_nx : m_is_test c [.val (.tup [.str (Str.ofString "not"), .obx c a])] = .ret (.val (.val (.bl false))) := by
  have e := is_name_x (c := c) (a := a)
  unfold m_is_test fs_is_test
  generalize m_is_name c = F1 at *
  push_cast [e, lt22, two]
theorem lis_test_nx : m__law_is_test c [.val (.tup [.str (Str.ofString "not"), .obx c a])] = .ret (.val (.val (.bl false))) := by
  have e := lis_word_x (c := c) (a := a)
  unfold m__law_is_test fs__law_is_test
  generalize m__law_is_word c = F1 at *
  push_cast [e, s22, Bool.true_or]
theorem is_cond_x (F : Nat) : m_is_condition c (F + 1) [.val (.obx c a)] = .ret (.val (.val (.bl false))) := by
  rw [mS_is_condition]
  unfold fs_is_condition
  push_cast []
theorem lis_cond_x (F : Nat) : m__law_is_condition c (F + 1) [.val (.obx c a)] = .ret (.val (.val (.bl false))) := by
  rw [mS__law_is_condition]
  unfold fs__law_is_condition
  push_cast []
theorem not1 : (Str.ofString "not" == Str.ofString "case") = false := by decide +kernel
theorem not2 : grpB (Str.ofString "not") = false := by decide +kernel
theorem is_cond_nx (F : Nat) : m_is_condition c (F + 2) [.val (.tup [.str (Str.ofString "not"), .obx c a])] = .ret (.val (.val (.bl false))) := by
  have e := is_cond_x (c := c) (a := a) F
  have hg : (Str.ofString "all" == Str.ofString "not" || (Str.ofString "any" == Str.ofString "not" || Str.ofString "first" == Str.ofString "not")) = false := not2
  rw [mS_is_condition]
  unfold fs_is_condition
  generalize m_is_condition c (F + 1) = F1 at *
  generalize m_is_test c = F2 at *
  have hw := notOk
  have n1 := not1
  have n2 : (Str.ofString "not" == Str.ofString "not") = true := by decide +kernel
  push_cast [c21, c23, hw, n1, n2, hg, e, two]
theorem lis_cond_nx (F : Nat) : m__law_is_condition c (F + 2) [.val (.tup [.str (Str.ofString "not"), .obx c a])] = .ret (.val (.val (.bl false))) := by
  have e := lis_cond_x (c := c) (a := a) F
  have hg : (Str.ofString "all" == Str.ofString "not" || (Str.ofString "any" == Str.ofString "not" || Str.ofString "first" == Str.ofString "not")) = false := not2
  rw [mS__law_is_condition]
  unfold fs__law_is_condition
  generalize m__law_is_condition c (F + 1) = F1 at *
  generalize m__law_is_test c = F2 at *
  have hw := notOk
  have n1 := not1
  have n2 : (Str.ofString "not" == Str.ofString "not") = true := by decide +kernel
  push_cast [c21, c23, hw, n1, n2, hg, e, two]
end
def thB : Nat → D → Bool
  | _, .non => true
  | _, .bl _ => true
  | _, .int i => decide (i.natAbs.log2 < 200)
  | _, .str x => x.cps.toList.all (fun c => decide (c < 128))
  | n + 1, .lst xs => xs.all (thB n)
  | n + 1, .tup xs => xs.all (thB n)
  | _, _ => false
theorem thB_ok {w : World} : ∀ {n : Nat} {d : D}, thB n d = true → Th w 200 n d
  | n, .non, _ => th_non
  | n, .bl _, _ => th_bl
  | n, .int _, h => th_int (of_decide_eq_true (by cases n <;> exact h))
  | n, .str x, h => th_str (PySem.W.KSb.asc_of (by cases n <;> exact h))
  | n + 1, .lst xs, h => fun x hx => thB_ok (List.all_eq_true.mp h x hx)
  | n + 1, .tup xs, h => fun x hx => thB_ok (List.all_eq_true.mp h x hx)
  | 0, .lst _, h => by cases h
  | 0, .tup _, h => by cases h
  | n, .dcm _ _, h => by cases n <;> cases h
  | n, .dic _, h => by cases n <;> cases h
  | n, .dct _ _, h => by cases n <;> cases h
  | n, .ins _ _, h => by cases n <;> cases h
  | n, .obx _ _, h => by cases n <;> cases h
  | n, .ty _, h => by cases n <;> cases h
  | n, .exc _ _ _, h => by cases n <;> cases h
theorem closed (w : World) {d : D} (h : thB 34 d = true) (hw : wd 60 d ≤ 16000000) : TwN 34 d := th_tw (thB_ok (w := w) h) (by omega) hw
set_option maxHeartbeats 2000000
theorem turn1 (w : World) (c : Addr) (d z : D) : b_law_1 w c [.no, .bag, .val d, .val z, .no, .no, .no, .no, .no, .no, .no, .no] = .ret (.nx [.no, .bag, .val (.tup [.str (Str.ofString "not"), d]), .no, .no, .no, .no, .no, .no, .no, .no, .no]) := by
  unfold b_law_1
  push_cast []
theorem turn2 (w : World) (c : Addr) {z : D} {a b : Bool} (h1 : m_is_test c [.val z] = .ret (.val (.val (.bl a)))) (h2 : m_is_condition c 120 [.val z] = .ret (.val (.val (.bl b)))) (h3 : m__law_is_test c [.val z] = .ret (.val (.val (.bl a)))) (h4 : m__law_is_condition c 120 [.val z] = .ret (.val (.val (.bl b)))) :
    b_law_2 w c [.no, .bag, .no, .no, .no, .no, .val z, .no, .no, .no, .no, .no] = .ret (.nx [.no, .bag, .no, .no, .no, .no, .no, .no, .no, .no, .no, .no]) := by
  have al := alike_bb a b
  unfold b_law_2
  push_cast [h1, h2, h3, h4, al]
theorem turn2_tw (w : World) (c : Addr) {z : D} (h : TwN 34 z) : b_law_2 w c [.no, .bag, .no, .no, .no, .no, .val z, .no, .no, .no, .no, .no] = .ret (.nx [.no, .bag, .no, .no, .no, .no, .no, .no, .no, .no, .no, .no]) :=
  turn2 w c (say_t c h) (say_c c h) (say_lt c h) (say_lc c h)
def BdS (w : World) (s : D) (j : Nat) (δ : List R) : Prop := ∃ d r, δ = [.no, .bag, .no, .no, .no, .no, r, .no, .val s, .no, .no, .no] ∧ (r = .val d ∨ r = .own d) ∧ Th w (200 + j) (20 + 7 * j) d ∧ wd 60 d ≤ 400000 * 4 ^ j
theorem bend_turn (w : World) (c : Addr) {d s : D} {r : R} {j : Nat} (z : D) (hr : r = .val d ∨ r = .own d) (hj : j ≤ 1) (h : Th w (200 + j) (20 + 7 * j) d) (hw : wd 60 d ≤ 400000 * 4 ^ j) : (b_law_3 w c [.no, .bag, .no, .no, .no, .no, r, .no, .val s, .val z, .no, .no]).All fun o => ∃ δ, o = .nx δ ∧ BdS w s (j + 1) δ := by
  have hp : 4 ^ j ≤ 4 ^ 1 := Nat.pow_le_pow_right (by decide) hj
  have hp1 : 0 < 4 ^ j := Nat.pow_pos (by decide)
  have hp2 : 4 ^ (j + 1) = 4 * 4 ^ j := by rw [Nat.pow_succ]; omega
  have b := bent_ind w (200 + j) (by omega) (by omega) (20 + 7 * j) 60 d (by omega) (by omega) h (by omega)
  unfold b_law_3
  generalize m__law_bent w 60 = F1 at *
  rcases hr with rfl | rfl
  all_goals
    walk_at "ev"
    walk_at "pl"
    refine T.All_mono b ?_
    rintro o ⟨d', r', rfl, hr', h', hw'⟩
    rcases hr' with rfl | rfl
    · push_cast []
      exact ⟨_, rfl, _, _, rfl, .inl rfl, h'.up (by omega) (by omega), by omega⟩
    · push_cast []
      exact ⟨_, rfl, _, _, rfl, .inr rfl, h'.up (by omega) (by omega), by omega⟩
theorem bends (w : World) (c : Addr) {d s : D} {r : R} (k : Nat) (hk : k ≤ 2) (hr : r = .val d ∨ r = .own d) (h : Drn w d) : (fLoop (fgN 9) (b_law_3 w c) (rngD 0 k) [.no, .bag, .no, .no, .no, .no, r, .no, .val s, .no, .no, .no]).All fun o => ∃ δ, o = .nx δ ∧ BdS w s k δ := by
  refine loop_inv (P := fun o => ∃ δ, o = .nx δ ∧ BdS w s k δ) (fun ds δ => ∃ j, ds.length + j = k ∧ BdS w s j δ) ?_ ?_ _ _ ⟨0, by rw [rngD_len]; rfl, d, r, rfl, hr, h.1, by have := h.2; omega⟩
  · rintro x ds δ ⟨j, hj, d, r, rfl, hr, h, hw⟩
    simp only [List.length_cons] at hj
    refine ⟨_, rfl, T.All_mono (bend_turn w c x hr (by omega) h hw) ?_⟩
    rintro o ⟨δ, rfl, hb⟩
    exact ⟨j + 1, by omega, hb⟩
  · rintro δ ⟨j, hj, hb⟩
    simp only [List.length_nil, Nat.zero_add] at hj
    subst hj
    exact ⟨δ, rfl, hb⟩
def dueD (d : D) : D := .lst [.bl (testB d), .bl (condB 34 d)]
theorem same_turn (w : World) (c : Addr) {d s : D} {r : R} (hr : r = .val d ∨ r = .own d) (hf : d.FitsD 16000000) (h : TwN 34 d) (z : D) {q : R} (hq : q = .val (dueD d) ∨ q = .own (dueD d)) :
    b_law_4 w c [.no, .bag, .no, .no, .no, .no, r, .no, .val s, .val z, .val (.str (D.pyd 60 d).shown), q] = .ret (.nx [.no, .bag, .no, .no, .no, .no, .val d, .no, .val s, .no, .val (.str (D.pyd 60 d).shown), .val (dueD d)]) := by
  have e1 := say_t c h
  have e2 := say_c c h
  have al := alike_bb (testB d) (condB 34 d)
  unfold dueD at *
  generalize testB d = b1 at *
  generalize condB 34 d = b2 at *
  unfold b_law_4
  rcases hr with rfl | rfl <;> rcases hq with rfl | rfl <;> push_cast [e1, e2, al, bReprXF, hf]
def SmS (s d : D) (δ : List R) : Prop := ∃ r q, δ = [.no, .bag, .no, .no, .no, .no, r, .no, .val s, .no, .val (.str (D.pyd 60 d).shown), q] ∧ (r = .val d ∨ r = .own d) ∧ (q = .val (dueD d) ∨ q = .own (dueD d))
theorem sames (w : World) (c : Addr) {s d : D} (ds : List D) (hf : d.FitsD 16000000) (h : TwN 34 d) (δ : List R) (hs : SmS s d δ) : (fLoop (fgN 9) (b_law_4 w c) ds δ).All fun o => ∃ δ, o = .nx δ ∧ SmS s d δ := by
  refine loop_inv (P := fun o => ∃ δ, o = .nx δ ∧ SmS s d δ) (fun ds δ => SmS s d δ) ?_ ?_ _ _ hs
  · rintro x ds δ ⟨r, q, rfl, hr, hq⟩
    refine ⟨_, rfl, T.All_mono (eq_ret (same_turn w c hr hf h x hq)) ?_⟩
    rintro o rfl
    exact ⟨_, _, rfl, .inl rfl, .inl rfl⟩
  · intro δ h
    exact ⟨δ, rfl, h⟩
noncomputable def tail3 (c_WORLD : World) (c_Wrong : Addr) : FS := (fSq (fIfS (fAnd (fTst (fIx (fVar 11) (fC (.int 0)))) (fNot (fTst (fCall m__law_alike (fCons (fCall m_column_of (fCons (fVar 6) fNil)) (fCons (fIx (fVar 6) (fC (.int 1))) fNil)))))) (fRet (fC (.bl false))) fNext)
  (fIfS (fNot (fTst (fCall m__law_alike (fCons (fCall (m_is_condition c_Wrong 120) (fCons (fVar 8) fNil)) (fCons (fCall (m__law_is_condition c_Wrong 120) (fCons (fVar 8) fNil)) fNil))))) (fRet (fC (.bl false))) fNext))
noncomputable def tail2 (c_WORLD : World) (c_Wrong : Addr) : FS := (fSq (fPar [10, 11] (fCons (fCB bReprXF (fCons (fVar 6) fNil)) (fCons (fLst (fCons (fCall (m__law_is_test c_Wrong) (fCons (fVar 6) fNil)) (fCons (fCall (m__law_is_condition c_Wrong 120) (fCons (fVar 6) fNil)) fNil))) fNil)))
  (fSq (fWipe [2, 3, 4, 5, 7, 9, 10] (fFor (fiWipe [2, 3, 4, 5, 7, 9] (fiRng1 (fCons (fC (.int 2)) fNil))) (fgN 9) (b_law_4 c_WORLD c_Wrong))) (tail3 c_WORLD c_Wrong)))
noncomputable def tail1 (c_WORLD : World) (c_Wrong : Addr) : FS := (fSq (fSet 8 (fVar 6))
  (fSq (fIfS (fNot (fTst (fCall m__law_alike (fCons (fLst (fCons (fCall (m_is_test c_Wrong) (fCons (fVar 6) fNil)) (fCons (fCall (m_is_condition c_Wrong 120) (fCons (fVar 6) fNil)) fNil))) (fCons (fLst (fCons (fCall (m__law_is_test c_Wrong) (fCons (fVar 6) fNil)) (fCons (fCall (m__law_is_condition c_Wrong 120) (fCons (fVar 6) fNil)) fNil))) fNil))))) (fRet (fC (.bl false))) fNext)
  (fSq (fWipe [2, 3, 4, 5, 7, 9, 10, 11] (fFor (fiWipe [2, 3, 4, 5, 7, 9, 10, 11] (fiRng1 (fCons (fIx (fLst (fCons (fC (.int 0)) (fCons (fC (.int 1)) (fCons (fC (.int 1)) (fCons (fC (.int 2)) fNil))))) (fCall m__law_take (fCons (fVar 1) (fCons (fC (.int 4)) fNil)))) fNil))) (fgN 9) (b_law_3 c_WORLD c_Wrong))) (tail2 c_WORLD c_Wrong))))
theorem b5_eq (c_WORLD : World) (c_Wrong : Addr) : b_law_5 c_WORLD c_Wrong = fWipe [2, 3, 4, 5, 6, 7, 8, 9, 10, 11] (fSq (fSet 6 (fCall m__law_grown (fCons (fVar 1) (fCons (fLst (fCons (fC (.str "n")) (fCons (fC (.str "m")) (fCons (fC (.str "all")) fNil)))) (fCons (fBin gAddF (fC (.int 1)) (fCall m__law_take (fCons (fVar 1) (fCons (fC (.int 11)) fNil)))) (fCons (fC (.int 4)) fNil))))))
  (fSq (fIfS (fTst (fCmp (cEqF false) (fCall m__law_take (fCons (fVar 1) (fCons (fC (.int 2)) fNil))) (fC (.int 0)))) (fSet 6 (fCall m__law_test (fCons (fVar 1) (fCons (fLst (fCons (fC (.str "n")) (fCons (fC (.str "empty")) (fCons (fC (.str "abcdefgh")) fNil)))) fNil)))) fNext) (tail1 c_WORLD c_Wrong))) := (rfl)
theorem tail3_eq (w : World) (c : Addr) {s d : D} {r q : R} (hf : d.FitsD 16000000) (h : TwN 34 d) (hs : TwN 34 s) (hr : r = .val d ∨ r = .own d) (hq : q = .val (dueD d) ∨ q = .own (dueD d)) :
    (tail3 w c [.no, .bag, .no, .no, .no, .no, r, .no, .val s, .no, .no, q]).All fun o => ∃ r' q', o = .nx [.no, .bag, .no, .no, .no, .no, r', .no, .val s, .no, .no, q'] := by
  have e1 := say_c c hs
  have e2 := say_lc c hs
  have al := alike_b (condB 34 s)
  unfold tail3
  generalize m_is_condition c 120 = F1 at *
  generalize m__law_is_condition c 120 = F2 at *
  generalize condB 34 s = b1 at *
  cases ht : testB d
  · unfold dueD at hq
    rw [ht] at hq
    rcases hr with rfl | rfl <;> rcases hq with rfl | rfl <;> (push_cast [e1, e2, al]; exact ⟨_, _, rfl⟩)
  · obtain ⟨a, x, rs, rfl⟩ := test_tup ht
    have hx : Tw (.str x) := h.tw.tup.2 _ (by simp)
    have fx : (D.str x).FitsD 16000000 := by
      obtain ⟨v, B, n, t, hn, hw⟩ := hx
      exact th_fits (w := v) (Th.up (n := 0) (B := 0) (th_str (of_str t)) (Nat.zero_le 59) (Nat.zero_le 200)) (by omega) (by omega) hw
    have ax := alike_s fx hx.str.1
    unfold dueD at hq
    rw [ht] at hq
    have ec : m_column_of [.val (.tup (a :: .str x :: rs))] = .ret (.val (.val (.str x))) := by
      unfold m_column_of fs_column_of
      push_cast []
    generalize m_column_of = F3 at *
    rcases hr with rfl | rfl <;> rcases hq with rfl | rfl <;> (push_cast [e1, e2, al, ec, ax]; exact ⟨_, _, rfl⟩)
theorem tail2_all (w : World) (c : Addr) {s d : D} {r : R} (hf : d.FitsD 16000000) (h : TwN 34 d) (hs : TwN 34 s) (hr : r = .val d ∨ r = .own d) :
    (tail2 w c [.no, .bag, .no, .no, .no, .no, r, .no, .val s, .no, .no, .no]).All fun o => ∃ r' q', o = .nx [.no, .bag, .no, .no, .no, .no, r', .no, .val s, .no, .no, q'] := by
  have e1 := say_lt c h
  have e2 := say_lc c h
  have ss := @sames w c s d
  have t3 := fun r q hr hq => tail3_eq (r := r) (q := q) w c hf h hs hr hq
  have r2 : rngD 0 2 = rngD 0 2 := rfl
  have due : D.lst [.bl (testB d), .bl (condB 34 d)] = dueD d := rfl
  generalize hdue : dueD d = DU at *
  unfold tail2
  generalize b_law_4 w c = B4 at *
  generalize tail3 w c = T3 at *
  rcases hr with rfl | rfl
  all_goals
    push_cast [bReprXF, hf, e1, e2, due]
    walk_at "pl"
    refine T.All_mono (ss _ hf h _ ⟨_, _, rfl, .inl rfl, by first | exact .inl (by rw [hdue]) | exact .inr (by rw [hdue])⟩) ?_
    rintro o ⟨δ, rfl, r1, q1, rfl, hr1, hq1⟩
    walk_at "ev"
    exact t3 r1 q1 hr1 (hdue ▸ hq1)
theorem tail1_all (w : World) (c : Addr) {s : D} (z : D) (h : Drn w s) :
    (tail1 w c [.no, .bag, .no, .no, .no, .no, .val s, .val z, .no, .no, .no, .no]).All fun o => ∃ r' q', o = .nx [.no, .bag, .no, .no, .no, .no, r', .no, .val s, .no, .no, q'] := by
  have hs : TwN 34 s := th_tw h.1 (by omega) (by have := h.2; omega)
  have e1 := say_t c hs
  have e2 := say_c c hs
  have e3 := say_lt c hs
  have e4 := say_lc c hs
  have al := alike_bb (testB s) (condB 34 s)
  have bb := fun k hk => bends (s := s) (r := .val s) w c k hk (.inl rfl) h
  have t2 := fun d r hf h hr => tail2_all (d := d) (r := r) w c hf h hs hr
  unfold tail1
  generalize b_law_3 w c = B3 at *
  generalize tail2 w c = T2 at *
  generalize testB s = b1 at *
  generalize condB 34 s = b2 at *
  push_cast [e1, e2, e3, e4, al]
  walk_at "pl"
  refine all_take (fun k k0 k1 => ?_) (by omega) (by omega)
  obtain ⟨n, en, hn⟩ : ∃ n : Nat, atI [D.int 0, D.int 1, D.int 1, D.int 2] k = some (.int n) ∧ n ≤ 2 := by
    obtain rfl | rfl | rfl | rfl : k = 0 ∨ k = 1 ∨ k = 2 ∨ k = 3 := by omega
    · exact ⟨0, rfl, by omega⟩
    · exact ⟨1, rfl, by omega⟩
    · exact ⟨1, rfl, by omega⟩
    · exact ⟨2, rfl, by omega⟩
  push_cast [en]
  refine yes ⟨by omega, by omega⟩ ?_
  walk_at "pl"
  refine T.All_mono (bb n hn) ?_
  rintro o ⟨δ, rfl, d', r, rfl, hr, hd', hw'⟩
  have hp : 4 ^ n ≤ 4 ^ 2 := Nat.pow_le_pow_right (by decide) hn
  have hf := th_fits hd' (by omega) (by omega) (by omega)
  have ht := th_tw hd' (by omega) (by omega)
  walk_at "ev"
  exact t2 d' r hf ht hr
set_option maxHeartbeats 2000000
theorem turn5 (w : World) (c : Addr) (z : D) : (b_law_5 w c [.no, .bag, .no, .no, .no, .no, .no, .val z, .no, .no, .no, .no]).All fun o => o = .nx [.no, .bag, .no, .no, .no, .no, .no, .no, .no, .no, .no, .no] := by
  have hgr := fun many hm hm2 => CN.PK20.grown_all ["n", "m", "all"] (by decide) (by decide) many hm hm2 4 (by decide)
  have htt := CN.PK20.test_all ["n", "empty", "abcdefgh"] (by decide) (by decide)
  simp only [CN.nmD, List.map_cons, List.map_nil] at hgr htt
  have t1 := fun s h => tail1_all w c (s := s) z h
  rw [b5_eq]
  generalize tail1 w c = T1 at *
  walk_at "ev"
  walk_at "pl"
  refine all_take (fun n n0 n1 => ?_) (by omega) (by omega)
  walk_at "ev"
  walk_at "pl"
  refine T.All_mono (hgr (1 + n) (by omega) (by omega)) ?_
  rintro o ⟨g, hg, rfl⟩
  have dg := grown_dr w (by omega) hg
  walk_at "ev"
  walk_at "pl"
  refine all_take (fun k k0 k1 => ?_) (by omega) (by omega)
  obtain rfl | rfl : k = 0 ∨ k = 1 := by omega
  · push_cast []
    walk_at "pl"
    refine T.All_mono htt ?_
    rintro o ⟨l, hl, _, rfl⟩
    walk_at "ev"
    walk_at "pl"
    refine T.All_mono (t1 _ (leaf_dr w hl)) ?_
    rintro o ⟨r, q, rfl⟩
    walk_at "ev"
  · push_cast []
    walk_at "pl"
    refine T.All_mono (t1 _ dg) ?_
    rintro o ⟨r, q, rfl⟩
    walk_at "ev"
set_option maxHeartbeats 4000000
def deepD : Nat → D → D
  | 0, d => d
  | n + 1, d => deepD n (.lst [d])
theorem deep_turn (d z : D) : b__law_deepest_1 [.own d, .val z] = .ret (.nx [.own (.lst [d]), .no]) := by
  unfold b__law_deepest_1
  push_cast []
theorem deep_loop : ∀ (ds : List D) (d : D), fLoop (fgN 1) b__law_deepest_1 ds [.own d, .no] = .ret (.nx [.own (deepD ds.length d), .no])
  | [], d => by rw [v_loopN]; rfl
  | z :: ds, d => by
    rw [v_loopC, show fgN 1 z [.own d, .no] = some [.own d, .val z] from rfl, v_turnK, deep_turn, T.bind_ret, v_tuN, deep_loop ds]; rfl
theorem deepest_eq : m__law_deepest [] = .ret (.val (.own (deepD 29 (.lst [])))) := by
  have l := deep_loop (rngD 0 29) (.lst [])
  rw [show (rngD 0 29).length = 29 from rfl] at l
  unfold m__law_deepest fs__law_deepest
  generalize b__law_deepest_1 = B at *
  generalize deepD 29 (.lst []) = X at *
  push_cast [l]
def notD : Nat → D → D
  | 0, d => d
  | n + 1, d => notD n (.tup [.str (Str.ofString "not"), d])
theorem not_loop (w : World) (c : Addr) : ∀ (ds : List D) (d : D), fLoop (fgN 3) (b_law_1 w c) ds [.no, .bag, .val d, .no, .no, .no, .no, .no, .no, .no, .no, .no] = .ret (.nx [.no, .bag, .val (notD ds.length d), .no, .no, .no, .no, .no, .no, .no, .no, .no])
  | [], d => by rw [v_loopN]; rfl
  | z :: ds, d => by
    rw [v_loopC, show fgN 3 z [.no, .bag, .val d, .no, .no, .no, .no, .no, .no, .no, .no, .no] = some [.no, .bag, .val d, .val z, .no, .no, .no, .no, .no, .no, .no, .no] from rfl, v_turnK, turn1, T.bind_ret, v_tuN, not_loop w c ds]; rfl
theorem loop5 (w : World) (c : Addr) (k : Nat) : (fLoop (fgN 7) (b_law_5 w c) (rngD 0 k) [.no, .bag, .no, .no, .no, .no, .no, .no, .no, .no, .no, .no]).All fun o => o = .nx [.no, .bag, .no, .no, .no, .no, .no, .no, .no, .no, .no, .no] :=
  loop_same fun d h => ⟨_, rfl, turn5 w c d⟩
theorem c_all (w : World) (c : Addr) : m_is_condition c 120 [.val (.tup [.str (Str.ofString "all"), .tup []])] = .ret (.val (.val (.bl true))) :=
  (say_c c (closed w (by decide +kernel) (by decide +kernel))).trans (by rw [(by decide +kernel : condB 34 (.tup [.str (Str.ofString "all"), .tup []]) = true)])
theorem c_case (w : World) (c : Addr) : m_is_condition c 120 [.val (.tup [.str (Str.ofString "case"), .tup [], .tup [.str (Str.ofString "empty"), .str (Str.ofString "n")]])] = .ret (.val (.val (.bl true))) :=
  (say_c c (closed w (by decide +kernel) (by decide +kernel))).trans (by rw [(by decide +kernel : condB 34 (.tup [.str (Str.ofString "case"), .tup [], .tup [.str (Str.ofString "empty"), .str (Str.ofString "n")]]) = true)])
theorem law_all (w : World) (c : Addr) : (m_law w c [.no, .bag]).All fun o => o = .val (.val (.bl true)) := by
  have g0 := fun a => turn2 w c (is_test_x (c := c) (a := a)) (is_cond_x (c := c) (a := a) 119) (lis_test_x (c := c) (a := a)) (lis_cond_x (c := c) (a := a) 119)
  have g1 := fun a => turn2 w c (is_test_nx (c := c) (a := a)) (is_cond_nx (c := c) (a := a) 118) (lis_test_nx (c := c) (a := a)) (lis_cond_nx (c := c) (a := a) 118)
  have g2 := fun z (h : thB 34 z = true) (hw : wd 60 z ≤ 16000000) => turn2_tw w c (closed w h hw)
  have l5 := loop5 w c 24
  have hD := g2 (deepD 29 (.lst [])) (by decide +kernel) (by decide +kernel)
  have hN := g2 (notD 27 (.tup [.str (Str.ofString "always"), .str (Str.ofString "no")])) (by decide +kernel) (by decide +kernel)
  have c1 := g2 (D.lst (List.replicate 4900 [D.int 0]).flatten) (by decide +kernel) (by decide +kernel)
  have c2 := g2 (D.tup [D.str (Str.ofString "all"), D.tup (List.replicate 900 [D.tup [D.str (Str.ofString "empty"), D.str (Str.ofString "n")]]).flatten]) (by decide +kernel) (by decide +kernel)
  have c3 := g2 (D.tup [D.str (Str.ofString "asks"), D.str (Str.ofString "n"), D.tup (List.replicate 5 [D.tup [D.str (Str.ofString "plus"), D.int 1]]).flatten, D.str (Str.ofString "<"), D.int 0]) (by decide +kernel) (by decide +kernel)
  have de := deepest_eq
  have ln := not_loop w c (rngD 0 27) (.tup [.str (Str.ofString "always"), .str (Str.ofString "no")])
  rw [show (rngD 0 27).length = 27 from rfl] at ln
  have f1 := c_all w c
  have f2 := c_case w c
  clear g2
  unfold m_law fs_law
  generalize b_law_1 w c = B1 at *
  generalize b_law_2 w c = B2 at *
  generalize b_law_5 w c = B5 at *
  generalize m_is_condition c 120 = MC at *
  generalize deepD 29 (.lst []) = DD at *
  generalize notD 27 (.tup [.str (Str.ofString "always"), .str (Str.ofString "no")]) = DN at *
  walk_at "ev"
  walk_at "pl"
  push_cast [ln, de, g0, g1, hD, hN, c1, c2, c3, q_mulT, f1, f2]
  refine ⟨fun _ => ?_, fun z => absurd rfl z⟩
  intro a _ a1 _
  refine ⟨fun _ => ⟨fun _ => ?_, fun z => absurd rfl z⟩, fun z => absurd (by decide) z⟩
  walk_at "pl"
  refine T.All_mono l5 ?_
  rintro o rfl
  push_cast [f1, f2, cIsBF]
end QN.PK20
open PySem PySem.Spec L2 DL in
theorem K20.law_all (w : World) (c : Addr) : (K20.m_law w c [.no, .bag]).All fun o => o = .val (.val (.bl true)) := QN.PK20.law_all w c
set_option maxHeartbeats 4000000
namespace K20
open PySem PySem.Spec L2 DL
variable {P : Program} {w : World} {K : PySem.W.Frag} {mg : Str → Option Value} {base : Heap} [TabsC]
abbrev nTake : List Str := ["_law_bag_here", "_law_many", "_law_cell", "_law_mixed", "_law_drawn", "_law_begin", "_law_second"]
theorem scTake : FnScope nTake ["_law_bag_here", "_law_many"] (defScope sTake) := ⟨rfl, rfl, rfl, by decide +kernel, rfl, by decide +kernel, by decide +kernel⟩
theorem scBag : FnScope ["_law_script", "_law_cell"] ["_law_script"] (defScope sBag) := ⟨rfl, rfl, rfl, by decide +kernel, rfl, by decide +kernel, by decide +kernel⟩
theorem upd_self {H : Hp} {b : Addr} {o : HO} (h : H b = some o) : upd H b o = H := by
  funext a; unfold upd; split
  · rename_i e; subst e; exact h.symm
  · rfl
theorem mod_le {i j : Int} (h : 0 < j) : 0 ≤ i % j ∧ i % j < j := ⟨Int.emod_nonneg i (by omega), Int.emod_lt_of_pos i h⟩
theorem take_log {n : Int} (n0 : 0 < n) (n1 : n < 1461501637330902918203684832716283019655932542976) : n.natAbs.log2 < 9000 := by
  have h : n.natAbs.log2 < 160 := (Nat.log2_lt (by omega)).mpr (by
    have : (2 : Nat) ^ 160 = 1461501637330902918203684832716283019655932542976 := by decide
    omega)
  omega
theorem ok_take {f : Addr} {fd : FuncData} {k : Nat} (F : Fun K "_law_take" "_law_take" sTake f fd) (ml : mg "len" = none) (mi : mg "int" = none) : FnOk P w K mg base CX0 (k + 1) f fd ["_law_bag_here", "_law_many"] (spOf K takeS) := by
  refine F.ok scTake (fun vs H Q E h => ?_) (fun cdv A outer s H vs Q E hr h => ?_)
  · obtain ⟨bo, mo, G, rs, P, Xc, _, _, _, ha, ⟨n, rfl, _⟩, _⟩ := h
    rw [ha.1]; rfl
  · obtain ⟨bo, mo, G, rs, P, Xc, hg, hbg, hmo, ha, ⟨n, rfl, n0, n1, hp⟩, hq, _⟩ := h
    obtain ⟨v0, r0, rfl, a0, ha⟩ := ha.cons_right
    obtain ⟨v1, r1, rfl, a1, ha⟩ := ha.cons_right
    rw [ha.nil_right]
    obtain ⟨b, rfl, rfl⟩ := a0
    have a1 : Den K G v1 (.int n) := a1
    obtain rfl := a1.of_int
    obtain ⟨gb, x, y, z, c, ns, hHb, hGc, b1, b2, b3, b4, b5⟩ := hbg.of b rfl
    have hHc := hg _ _ hGc
    have ncb : c ≠ b := by rintro rfl; rw [gb] at hGc; cases hGc
    have nd := scTake.nd
    refine ⟨_, Evl.pss_cut (ps_if (pt_cmpR op_eq (pe_ix ix_list (pv 0) pe_int (fun _ _ => rfl)) pe_int (nomark _))
      (pss_cons (ps_set (i := 2) nd rfl (.inl rfl) pe_int)
      (Evl.pss_cut (ps_if (pt_cmpR op_lt (pe_ix ix_list (pv 0) pe_int (fun _ _ => rfl)) (pe_callB call_len_seq (by rfl) ml PySem.boot_len (pa_cons (pe_ix ix_list (pv 0) pe_int (fun _ _ => rfl)) pa_nil)) (nomark _))
        (pss_one (ps_set (i := 2) nd rfl (.inl rfl) (pe_ix ix_list (pe_ix ix_list (pv 0) pe_int (fun _ _ => rfl)) (pe_ix ix_list (pv 0) pe_int (fun _ _ => rfl)) (fun _ _ => rfl)))) pss_nil)
      (pss_cons (ps_augS (pv 0) pe_int get_listG pe_int ip_add set_list)
      (Evl.pss_cut (ps_if (pt_cmpR op_ge (pv 2) (pe_op op_pow pe_int pe_int) (nomark _)) (pss_one (ps_asg (pv 2) (pg_sub (pv 0) pe_int set_list))) pss_nil)
      (pss_cons (ps_set (i := 3) nd rfl (.inl rfl) (pe_op op_add (pe_op op_add (pe_op op_mul (pe_ix ix_list (pv 0) pe_int (fun _ _ => rfl)) pe_int) (pe_op op_mod (pe_callTy call_int1 (by rfl) mi (by decide +kernel) (pa_cons (pv 2) pa_nil)) pe_int)) (pe_op op_mul pe_int (pe_ix ix_list (pv 0) pe_int (fun _ _ => rfl)))))
      (pss_one (ps_asg (pe_op op_mod (pe_callTy call_int1 (by rfl) mi (by decide +kernel) (pa_cons (pv 3) pa_nil)) pe_int) (pg_sub (pv 0) pe_int set_list)))))))) pss_nil)
      (pss_cons (ps_if (pt_cmpR op_gt (pe_ix ix_list (pv 0) pe_int (fun _ _ => rfl)) pe_int (nomark _))
        (pss_cons (ps_set (i := 4) nd rfl (.inl rfl) (pe_op op_mod (pe_callTy call_int1 (by rfl) mi (by decide +kernel) (pa_cons (pe_ix ix_list (pv 0) pe_int (fun _ _ => rfl)) pa_nil)) (pv 1)))
        (pss_cons (ps_asg (pe_op op_fdivA (pe_ix ix_list (pv 0) pe_int (fun _ _ => rfl)) (pv 1)) (pg_sub (pv 0) pe_int set_list))
        (pss_one (ps_ret (pv 4))))) pss_nil)
      (pss_cons (ps_set (i := 5) nd rfl (.inl rfl) (pe_op op_mod (pe_callTy call_int1 (by rfl) mi (by decide +kernel) (pa_cons (pe_op op_mul (pe_op op_add (pe_ix ix_list (pv 0) pe_int (fun _ _ => rfl)) pe_int) pe_int) pa_nil)) pe_int))
      (pss_cons (ps_set (i := 6) nd rfl (.inl rfl) (pe_op op_mod (pe_callTy call_int1 (by rfl) mi (by decide +kernel) (pa_cons (pe_op op_mul (pe_op op_mod (pe_callTy call_int1 (by rfl) mi (by decide +kernel) (pa_cons (pe_op op_mul (pv 5) (pv 5)) pa_nil)) pe_int) pe_int) pa_nil)) pe_int))
      (pss_one (ps_ret (pe_op op_mod (pe_callTy call_int1 (by rfl) mi (by decide +kernel) (pa_cons (pe_op op_fdiv (pv 6) pe_int) pa_nil)) (pv 1))))))), ?_⟩
    rw [← upd_self hHb]
    have gB : ∀ (x y z : Int), (upd H b (.lst [.int x, .int y, .int z, .ref c])) c = some (.lst (ns.map V.int)) := fun x y z => by rw [upd_ne ncb]; exact hHc
    have sq : ∀ (x y z : Int), SqL K (upd H b (.lst [.int x, .int y, .int z, .ref c])) b [.int x, .int y, .int z, .ref c] := fun x y z => .of upd_same
    refine ⟨fun σ H1 => ∃ (x' y' z' : Int) (s2 s3 : Option V), σ = [some (.ref b), some (.int n), s2, s3, none, none, none] ∧ H1 = upd H b (.lst [.int x', .int y', .int z', .ref c]) ∧ 0 ≤ x' ∧ 0 ≤ y' ∧ y' < 2147483647 ∧ 0 ≤ z', ?_, ?_⟩
    · -- the first if
      refine ⟨.ref b, rfl, b, _, 0, _, rfl, rfl, sq x y z, atI_nat (j := 0) rfl, rfl, _, rfl, ite2 (fun e => ?_) (fun e => ?_)⟩
      · -- cell = 0
        refine ⟨fun σ H1 => ∃ (cell : Int), σ = [some (.ref b), some (.int n), some (.int cell), none, none, none, none] ∧ H1 = upd H b (.lst [.int x, .int y, .int z, .ref c]) ∧ 0 ≤ cell, ?_, ?_⟩
        · refine ⟨.ref b, rfl, b, _, 2, _, rfl, rfl, sq x y z, atI_nat (j := 2) rfl, .ref b, rfl, b, _, 3, _, rfl, rfl, sq x y z, atI_nat (j := 3) rfl, c, _, rfl, .inl (.of (gB x y z)), z, _, rfl, rfl, _, rfl, ite2 (fun e => ?_) (fun e => ?_)⟩
          · have hz : z.toNat < ns.length := by
              have := of_decide_eq_true e
              rw [List.length_map] at this
              omega
            have hc : (ns.map V.int)[z.toNat]? = some (.int ns[z.toNat]) := by rw [List.getElem?_map, List.getElem?_eq_getElem hz]; rfl
            refine ⟨.ref b, rfl, b, _, 3, _, rfl, rfl, sq x y z, atI_nat (j := 3) rfl, .ref b, rfl, b, _, 2, _, rfl, rfl, sq x y z, atI_nat (j := 2) rfl, c, _, z, _, rfl, rfl, .of (gB x y z), ?_, _, rfl, rfl, b5 _ (List.getElem_mem hz)⟩
            have := atI_nat hc
            rwa [Int.toNat_of_nonneg b4] at this
          · exact ⟨0, rfl, rfl, Int.le_refl 0⟩
        · rintro σ H1 ⟨cell, rfl, rfl, hcell⟩
          -- bag[2] += 1
          refine ⟨.ref b, rfl, b, _, 2, _, rfl, rfl, sq x y z, rfl, by decide, z, 1, rfl, rfl, b, _, 2, 2, rfl, rfl, upd_same, rfl, ?_⟩
          rw [upd_upd]
          refine ⟨fun σ H1 => ∃ (x' : Int), σ = [some (.ref b), some (.int n), some (.int cell), none, none, none, none] ∧ H1 = upd H b (.lst [.int x', .int y, .int (z + 1), .ref c]) ∧ 0 ≤ x', ?_, ?_⟩
          · refine ⟨_, rfl, 10, 18, rfl, rfl, ⟨by decide, by decide, by decide⟩, cell, _, rfl, rfl, _, rfl, ite2 (fun e => ?_) (fun e => ?_)⟩
            · refine ⟨_, rfl, .ref b, rfl, b, _, 0, 0, rfl, rfl, upd_same, rfl, cell, rfl, ?_, hcell⟩
              rw [upd_upd]; rfl
            · exact ⟨x, rfl, rfl, b1⟩
          · rintro σ H1 ⟨x', rfl, rfl, hx'⟩
            refine ⟨.ref b, rfl, b, _, 1, _, rfl, rfl, sq x' y (z + 1), atI_nat (j := 1) rfl, y, 48271, rfl, rfl, .inr ⟨by decide, by decide⟩, _, rfl, .inl ⟨cell, rfl, cell, 2147483647, rfl, rfl, (show (0 : Int) < 2147483647 by decide), _, _, rfl, rfl, .ref b, rfl, b, _, 2, _, rfl, rfl, sq x' y (z + 1), atI_nat (j := 2) rfl, 7919, z + 1, rfl, rfl, .inl ⟨by decide, by decide⟩, _, _, rfl, rfl, ?_⟩⟩
            refine ⟨_, rfl, .inl ⟨_, rfl, _, 2147483647, rfl, rfl, (show (0 : Int) < 2147483647 by decide), .ref b, rfl, b, _, 1, 1, rfl, rfl, upd_same, rfl, x', (y * 48271 + cell % 2147483647 + 7919 * (z + 1)) % 2147483647, z + 1, _, _, rfl, ?_, hx', (mod_le (by decide)).1, (mod_le (by decide)).2, by omega⟩⟩
            rw [upd_upd]; rfl
      · exact ⟨x, y, z, none, none, rfl, rfl, b1, b2, b3, b4⟩
    · rintro σ H1 ⟨x', y', z', s2, s3, rfl, rfl, c1, c2, c3, c4⟩
      refine ⟨.ref b, rfl, b, _, 0, _, rfl, rfl, sq x' y' z', atI_nat (j := 0) rfl, x', 0, rfl, rfl, _, rfl, ite2 (fun e => ?_) (fun e => ?_)⟩
      · refine ⟨.ref b, rfl, b, _, 0, _, rfl, rfl, sq x' y' z', atI_nat (j := 0) rfl, .inl ⟨x', rfl, _, rfl, x', n, rfl, rfl, n0, ?_⟩⟩
        refine ⟨.ref b, rfl, b, _, 0, _, rfl, rfl, sq x' y' z', atI_nat (j := 0) rfl, _, rfl, x', n, rfl, rfl, ⟨by omega, take_log n0 n1⟩, .ref b, rfl, b, _, 0, 0, rfl, rfl, upd_same, rfl, _, rfl, ?_⟩
        rw [upd_upd]
        exact hq _ _ _ G _ (hp _ (mod_le n0).1 (mod_le n0).2) (take_fin (x := x'.fdiv n) (y := y') (z := z') hmo hbg ⟨_, _, _, hHb⟩ rfl hg gb hGc (by rw [Int.fdiv_eq_ediv_of_nonneg _ (Int.le_of_lt n0)]; exact Int.ediv_nonneg c1 (by omega)) c2 c3 c4 b5) (Den.int _) (fun _ z => by cases z)
      · refine ⟨.ref b, rfl, b, _, 1, _, rfl, rfl, sq x' y' z', atI_nat (j := 1) rfl, y', 1, rfl, rfl, _, 39373, rfl, rfl, .inr ⟨by decide, by decide⟩, .inl ⟨_, rfl, _, 1000000007, rfl, rfl, (show (0 : Int) < 1000000007 by decide), ?_⟩⟩
        have hb := mod_le (i := (y' + 1) * 39373) (j := 1000000007) (by decide)
        refine ⟨_, rfl, _, rfl, (y' + 1) * 39373 % 1000000007, (y' + 1) * 39373 % 1000000007, rfl, rfl, .inl ⟨by omega, by omega⟩, .inl ⟨_, rfl, _, 998244353, rfl, rfl, (show (0 : Int) < 998244353 by decide), _, 30011, rfl, rfl, .inr ⟨by decide, by decide⟩, .inl ⟨_, rfl, _, 998244353, rfl, rfl, (show (0 : Int) < 998244353 by decide), ?_⟩⟩⟩
        refine ⟨_, rfl, _, 7, rfl, rfl, ⟨by decide, by decide⟩, .inl ⟨_, rfl, _, rfl, _, n, rfl, rfl, n0, ?_⟩⟩
        exact hq _ _ _ G _ (hp _ (mod_le n0).1 (mod_le n0).2) (take_fin (x := x') (y := y') (z := z') hmo hbg ⟨_, _, _, hHb⟩ rfl hg gb hGc c1 c2 c3 c4 b5) (Den.int _) (fun _ z => by cases z)
theorem ok_bag {f : Addr} {fd : FuncData} {k : Nat} (F : Fun K "_law_bag" "_law_bag" sBag f fd) (ma : mg "abs" = none) : FnOk P w K mg base CX0 (k + 1) f fd ["_law_script"] (spBag K) := by
  refine F.ok scBag (fun vs H Q E h => ?_) (fun cdv A outer s H vs Q E hr h => ?_)
  · obtain ⟨a, ns, rfl, _⟩ := h; rfl
  · obtain ⟨a, ns, rfl, sq, l, q⟩ := h
    have nd := scBag.nd
    refine ⟨_, pss_one (ps_ret (pe_lst (pa_cons pe_int (pa_cons pe_int (pa_cons pe_int (pa_cons (pe_lc (own := [("_law_cell", 1)]) (g := gName 1) (tt := tYes) rfl nd (pi_list (pe_slice sl_list (pv 0) po_none (po_some pe_int)))
      (blkOk_by (own := [("_law_cell", 1)]) (N := ["_law_script", "_law_cell"]) (sc := defScope sBag) (by decide +kernel)) (fun _ _ _ _ _ => pg_name (i := 1) nd rfl (.inl rfl)) (fun _ _ _ _ _ => pts_nil)
      (fun _ _ _ _ _ => pe_callB call_abs (by rfl) ma (by decide +kernel) (pa_cons (pv 1) pa_nil))) pa_nil)))))), ?_⟩
    refine ⟨.ref a, rfl, 63, rfl, a, _, rfl, sq, fun b hb => ?_⟩
    have eb : (upd H b (.lst (cutV (ns.map V.int) none (some 63)))) b = some (.lst (cutV (ns.map V.int) none (some 63))) := upd_same
    have ec : cutV (ns.map V.int) none (some 63) = ((ns.take 63).map V.int) := by
      unfold cutV
      rw [HT.sIx_none, List.drop_zero, Nat.sub_zero, show HT.sIx (ns.map V.int).length (ns.map V.int).length (some 63) = min 63 (ns.map V.int).length from HT.sIx_nat _ _ 63, List.length_map, List.map_take]
      rw [Nat.min_eq_right l, List.take_of_length_le (by rw [List.length_map]; exact Nat.le_refl _), List.take_of_length_le (by rw [List.length_map]; exact l)]
    rw [ec] at eb ⊢
    have lm : (ns.take 63).length ≤ 63 := by rw [List.length_take]; exact Nat.min_le_left _ _
    generalize ns.take 63 = ms at eb lm ⊢
    refine ⟨b, rfl, ⟨_, .of eb⟩, fun c hc => ?_⟩
    have nbc : b ≠ c := ne_of_none eb hc
    let f : Int → Int := fun i => if i < 0 then -i else i
    refine lc_list (xs := ms.map V.int) (fun i H' => H' b = some (.lst (ms.map V.int)) ∧ H' c = some (.lst ((ms.take i).map fun n => V.int (f n))) ∧ (TabsX H → TabsX H')) ⟨by rw [upd_ne nbc]; exact eb, by rw [upd_same]; rfl, fun t => tabs_upd (tabs_upd t (fun u e => by rw [hb] at e; cases e) (flat_tbl rfl)) (fun u e => by rw [hc] at e; cases e) (flat_tbl rfl)⟩ (fun i H' _ p => .of p.1) (fun i x H' hx p => ?_) (fun H' p => ?_)
    · obtain ⟨n, hn, rfl⟩ : ∃ n, ms[i]? = some n ∧ V.int n = x := by rw [List.getElem?_map] at hx; exact Option.map_eq_some_iff.mp hx
      refine ⟨rfl, _, rfl, n, rfl, _, p.2.1, ?_, by rw [upd_ne nbc]; exact p.1, ?_, fun t => tabs_upd (p.2.2 t) (fun u e => by rw [p.2.1] at e; cases e; rfl) (flat_tbl rfl)⟩
      · rw [List.length_map, List.length_take]
        exact Nat.lt_of_le_of_lt (Nat.min_le_right _ _) (Nat.lt_of_le_of_lt lm (by decide))
      · rw [upd_same, List.take_add_one, hn, List.map_append]; rfl
    · refine ⟨by show 4 ≤ sizeLine; decide, fun p' hp' => ?_⟩
      have np : c ≠ p' := ne_of_none p.2.1 hp'
      refine q p' c (ms.map f) _ np.symm (fun t => tabs_upd (p.2.2 t) (fun u e => by rw [hp'] at e; cases e) (flat_tbl rfl)) upd_same (by rw [upd_ne np, p.2.1, List.length_map, List.take_length, List.map_map]; rfl) fun m hm => ?_
      obtain ⟨n, _, rfl⟩ := List.mem_map.mp hm
      show 0 ≤ (if n < 0 then -n else n)
      split <;> omega
theorem sci_Wrong : FnScope ["self", "place"] ["self", "place"] (defScope i_Wrong) := ⟨rfl, rfl, rfl, by decide +kernel, rfl, by decide +kernel, by decide +kernel⟩
omit [TabsC] in
theorem facts {P : Program} {w : World} {K : PySem.W.Frag} {h : Heap} {mg : Str → Option Value} {f : Addr} (X : K.In h) (G : h.Ns mainGlobals mg) (hfa : mg ("law" : Str) = some (.ref f)) (cF : SaysF D_fn D_ex D_ts w K) :
    ∃ fd : FuncData, (∀ (s : Shared) (v : Value), BindsTo s fd ⟨[v], []⟩ [("_law_script", v)]) ∧ ∀ base : Heap, K.In base → base.Ns mainGlobals mg → FnG P w K mg base CX0 128 f fd ["_law_script"] (@spLaw noTabs K) := by
  have c := cF.e
  obtain ⟨d__law_take, D__law_take⟩ := c.d.def_ 0 (d := ⟨("_law_take", none), "_law_take", "_law_take", defArgs sTake, defBody sTake, defScope sTake, [], []⟩) rfl
  obtain ⟨d__law_bag, D__law_bag⟩ := c.d.def_ 1 (d := ⟨("_law_bag", none), "_law_bag", "_law_bag", defArgs sBag, defBody sBag, defScope sBag, [], []⟩) rfl
  obtain ⟨d_is_integer, D_is_integer⟩ := c.d.def_ 2 (d := ⟨("is_integer", none), "is_integer", "is_integer", defArgs s_is_integer, defBody s_is_integer, defScope s_is_integer, [], []⟩) rfl
  obtain ⟨d_is_number, D_is_number⟩ := c.d.def_ 3 (d := ⟨("is_number", none), "is_number", "is_number", defArgs s_is_number, defBody s_is_number, defScope s_is_number, [], []⟩) rfl
  obtain ⟨d_is_name, D_is_name⟩ := c.d.def_ 4 (d := ⟨("is_name", none), "is_name", "is_name", defArgs s_is_name, defBody s_is_name, defScope s_is_name, [], []⟩) rfl
  obtain ⟨d_are_pairs, D_are_pairs⟩ := c.d.def_ 5 (d := ⟨("are_pairs", none), "are_pairs", "are_pairs", defArgs s_are_pairs, defBody s_are_pairs, defScope s_are_pairs, [], []⟩) rfl
  obtain ⟨d_is_step, D_is_step⟩ := c.d.def_ 6 (d := ⟨("is_step", none), "is_step", "is_step", defArgs s_is_step, defBody s_is_step, defScope s_is_step, [], []⟩) rfl
  obtain ⟨d_are_steps, D_are_steps⟩ := c.d.def_ 7 (d := ⟨("are_steps", none), "are_steps", "are_steps", defArgs s_are_steps, defBody s_are_steps, defScope s_are_steps, [], []⟩) rfl
  obtain ⟨d_is_test, D_is_test⟩ := c.d.def_ 8 (d := ⟨("is_test", none), "is_test", "is_test", defArgs s_is_test, defBody s_is_test, defScope s_is_test, [], []⟩) rfl
  obtain ⟨d_column_of, D_column_of⟩ := c.d.def_ 9 (d := ⟨("column_of", none), "column_of", "column_of", defArgs s_column_of, defBody s_column_of, defScope s_column_of, [], []⟩) rfl
  obtain ⟨d_are_conditions, D_are_conditions⟩ := c.d.def_ 10 (d := ⟨("are_conditions", none), "are_conditions", "are_conditions", defArgs s_are_conditions, defBody s_are_conditions, defScope s_are_conditions, [], []⟩) rfl
  obtain ⟨d_is_case, D_is_case⟩ := c.d.def_ 11 (d := ⟨("is_case", none), "is_case", "is_case", defArgs s_is_case, defBody s_is_case, defScope s_is_case, [], []⟩) rfl
  obtain ⟨d_is_condition, D_is_condition⟩ := c.d.def_ 12 (d := ⟨("is_condition", none), "is_condition", "is_condition", defArgs s_is_condition, defBody s_is_condition, defScope s_is_condition, [], []⟩) rfl
  obtain ⟨d__law_alike, D__law_alike⟩ := c.d.def_ 13 (d := ⟨("_law_alike", none), "_law_alike", "_law_alike", defArgs s__law_alike, defBody s__law_alike, defScope s__law_alike, [], []⟩) rfl
  obtain ⟨d__law_one, D__law_one⟩ := c.d.def_ 14 (d := ⟨("_law_one", none), "_law_one", "_law_one", defArgs s__law_one, defBody s__law_one, defScope s__law_one, [], []⟩) rfl
  obtain ⟨d__law_number, D__law_number⟩ := c.d.def_ 15 (d := ⟨("_law_number", none), "_law_number", "_law_number", defArgs s__law_number, defBody s__law_number, defScope s__law_number, [], []⟩) rfl
  obtain ⟨d__law_step, D__law_step⟩ := c.d.def_ 16 (d := ⟨("_law_step", none), "_law_step", "_law_step", defArgs s__law_step, defBody s__law_step, defScope s__law_step, [], []⟩) rfl
  obtain ⟨d__law_test, D__law_test⟩ := c.d.def_ 17 (d := ⟨("_law_test", none), "_law_test", "_law_test", defArgs s__law_test, defBody s__law_test, defScope s__law_test, [], []⟩) rfl
  obtain ⟨d__law_leaf, D__law_leaf⟩ := c.d.def_ 18 (d := ⟨("_law_leaf", none), "_law_leaf", "_law_leaf", defArgs s__law_leaf, defBody s__law_leaf, defScope s__law_leaf, [], []⟩) rfl
  obtain ⟨d__law_small, D__law_small⟩ := c.d.def_ 19 (d := ⟨("_law_small", none), "_law_small", "_law_small", defArgs s__law_small, defBody s__law_small, defScope s__law_small, [], []⟩) rfl
  obtain ⟨d__law_split, D__law_split⟩ := c.d.def_ 20 (d := ⟨("_law_split", none), "_law_split", "_law_split", defArgs s__law_split, defBody s__law_split, defScope s__law_split, [], []⟩) rfl
  obtain ⟨d__law_tree, D__law_tree⟩ := c.d.def_ 21 (d := ⟨("_law_tree", none), "_law_tree", "_law_tree", defArgs s__law_tree, defBody s__law_tree, defScope s__law_tree, [], []⟩) rfl
  obtain ⟨d__law_deepest, D__law_deepest⟩ := c.d.def_ 22 (d := ⟨("_law_deepest", none), "_law_deepest", "_law_deepest", defArgs s__law_deepest, defBody s__law_deepest, defScope s__law_deepest, [], []⟩) rfl
  obtain ⟨d__law_odd, D__law_odd⟩ := c.d.def_ 23 (d := ⟨("_law_odd", none), "_law_odd", "_law_odd", defArgs s__law_odd, defBody s__law_odd, defScope s__law_odd, [], []⟩) rfl
  obtain ⟨d__law_bent, D__law_bent⟩ := c.d.def_ 24 (d := ⟨("_law_bent", none), "_law_bent", "_law_bent", defArgs s__law_bent, defBody s__law_bent, defScope s__law_bent, [], []⟩) rfl
  obtain ⟨d__law_bent_row, D__law_bent_row⟩ := c.d.def_ 25 (d := ⟨("_law_bent_row", none), "_law_bent_row", "_law_bent_row", defArgs s__law_bent_row, defBody s__law_bent_row, defScope s__law_bent_row, [], []⟩) rfl
  obtain ⟨d__law_bent_dict, D__law_bent_dict⟩ := c.d.def_ 26 (d := ⟨("_law_bent_dict", none), "_law_bent_dict", "_law_bent_dict", defArgs s__law_bent_dict, defBody s__law_bent_dict, defScope s__law_bent_dict, [], []⟩) rfl
  obtain ⟨d__law_is_whole_number, D__law_is_whole_number⟩ := c.d.def_ 27 (d := ⟨("_law_is_whole_number", none), "_law_is_whole_number", "_law_is_whole_number", defArgs s__law_is_whole_number, defBody s__law_is_whole_number, defScope s__law_is_whole_number, [], []⟩) rfl
  obtain ⟨d__law_is_near_number, D__law_is_near_number⟩ := c.d.def_ 28 (d := ⟨("_law_is_near_number", none), "_law_is_near_number", "_law_is_near_number", defArgs s__law_is_near_number, defBody s__law_is_near_number, defScope s__law_is_near_number, [], []⟩) rfl
  obtain ⟨d__law_is_word, D__law_is_word⟩ := c.d.def_ 29 (d := ⟨("_law_is_word", none), "_law_is_word", "_law_is_word", defArgs s__law_is_word, defBody s__law_is_word, defScope s__law_is_word, [], []⟩) rfl
  obtain ⟨d__law_are_pairs, D__law_are_pairs⟩ := c.d.def_ 30 (d := ⟨("_law_are_pairs", none), "_law_are_pairs", "_law_are_pairs", defArgs s__law_are_pairs, defBody s__law_are_pairs, defScope s__law_are_pairs, [], []⟩) rfl
  obtain ⟨d__law_is_step, D__law_is_step⟩ := c.d.def_ 31 (d := ⟨("_law_is_step", none), "_law_is_step", "_law_is_step", defArgs s__law_is_step, defBody s__law_is_step, defScope s__law_is_step, [], []⟩) rfl
  obtain ⟨d__law_are_steps, D__law_are_steps⟩ := c.d.def_ 32 (d := ⟨("_law_are_steps", none), "_law_are_steps", "_law_are_steps", defArgs s__law_are_steps, defBody s__law_are_steps, defScope s__law_are_steps, [], []⟩) rfl
  obtain ⟨d__law_is_test, D__law_is_test⟩ := c.d.def_ 33 (d := ⟨("_law_is_test", none), "_law_is_test", "_law_is_test", defArgs s__law_is_test, defBody s__law_is_test, defScope s__law_is_test, [], []⟩) rfl
  obtain ⟨d__law_are_conditions, D__law_are_conditions⟩ := c.d.def_ 34 (d := ⟨("_law_are_conditions", none), "_law_are_conditions", "_law_are_conditions", defArgs s__law_are_conditions, defBody s__law_are_conditions, defScope s__law_are_conditions, [], []⟩) rfl
  obtain ⟨d__law_is_condition, D__law_is_condition⟩ := c.d.def_ 35 (d := ⟨("_law_is_condition", none), "_law_is_condition", "_law_is_condition", defArgs s__law_is_condition, defBody s__law_is_condition, defScope s__law_is_condition, [], []⟩) rfl
  obtain ⟨d__law_wide, D__law_wide⟩ := c.d.def_ 36 (d := ⟨("_law_wide", none), "_law_wide", "_law_wide", defArgs s__law_wide, defBody s__law_wide, defScope s__law_wide, [], []⟩) rfl
  obtain ⟨d__law_grown, D__law_grown⟩ := c.d.def_ 37 (d := ⟨("_law_grown", none), "_law_grown", "_law_grown", defArgs s__law_grown, defBody s__law_grown, defScope s__law_grown, [], []⟩) rfl
  obtain ⟨d_law, D_law⟩ := c.d.def_ 38 (d := ⟨("law", none), "law", "law", defArgs s_law, defBody s_law, defScope s_law, [], []⟩) rfl
  obtain ⟨d_Wrong, D_Wrong⟩ := c.d.def_ 39 (d := ⟨("Wrong", some "__init__"), "__init__", "Wrong.__init__", defArgs i_Wrong, defBody i_Wrong, defScope i_Wrong, [], []⟩) rfl
  have U__law_take : Fun K "_law_take" "_law_take" sTake _ _ := fun_of D__law_take
  have U__law_bag : Fun K "_law_bag" "_law_bag" sBag _ _ := fun_of D__law_bag
  have U_is_integer : Fun K "is_integer" "is_integer" s_is_integer _ _ := fun_of D_is_integer
  have U_is_number : Fun K "is_number" "is_number" s_is_number _ _ := fun_of D_is_number
  have U_is_name : Fun K "is_name" "is_name" s_is_name _ _ := fun_of D_is_name
  have U_are_pairs : Fun K "are_pairs" "are_pairs" s_are_pairs _ _ := fun_of D_are_pairs
  have U_is_step : Fun K "is_step" "is_step" s_is_step _ _ := fun_of D_is_step
  have U_are_steps : Fun K "are_steps" "are_steps" s_are_steps _ _ := fun_of D_are_steps
  have U_is_test : Fun K "is_test" "is_test" s_is_test _ _ := fun_of D_is_test
  have U_column_of : Fun K "column_of" "column_of" s_column_of _ _ := fun_of D_column_of
  have U_are_conditions : Fun K "are_conditions" "are_conditions" s_are_conditions _ _ := fun_of D_are_conditions
  have U_is_case : Fun K "is_case" "is_case" s_is_case _ _ := fun_of D_is_case
  have U_is_condition : Fun K "is_condition" "is_condition" s_is_condition _ _ := fun_of D_is_condition
  have U__law_alike : Fun K "_law_alike" "_law_alike" s__law_alike _ _ := fun_of D__law_alike
  have U__law_one : Fun K "_law_one" "_law_one" s__law_one _ _ := fun_of D__law_one
  have U__law_number : Fun K "_law_number" "_law_number" s__law_number _ _ := fun_of D__law_number
  have U__law_step : Fun K "_law_step" "_law_step" s__law_step _ _ := fun_of D__law_step
  have U__law_test : Fun K "_law_test" "_law_test" s__law_test _ _ := fun_of D__law_test
  have U__law_leaf : Fun K "_law_leaf" "_law_leaf" s__law_leaf _ _ := fun_of D__law_leaf
  have U__law_small : Fun K "_law_small" "_law_small" s__law_small _ _ := fun_of D__law_small
  have U__law_split : Fun K "_law_split" "_law_split" s__law_split _ _ := fun_of D__law_split
  have U__law_tree : Fun K "_law_tree" "_law_tree" s__law_tree _ _ := fun_of D__law_tree
  have U__law_deepest : Fun K "_law_deepest" "_law_deepest" s__law_deepest _ _ := fun_of D__law_deepest
  have U__law_odd : Fun K "_law_odd" "_law_odd" s__law_odd _ _ := fun_of D__law_odd
  have U__law_bent : Fun K "_law_bent" "_law_bent" s__law_bent _ _ := fun_of D__law_bent
  have U__law_bent_row : Fun K "_law_bent_row" "_law_bent_row" s__law_bent_row _ _ := fun_of D__law_bent_row
  have U__law_bent_dict : Fun K "_law_bent_dict" "_law_bent_dict" s__law_bent_dict _ _ := fun_of D__law_bent_dict
  have U__law_is_whole_number : Fun K "_law_is_whole_number" "_law_is_whole_number" s__law_is_whole_number _ _ := fun_of D__law_is_whole_number
  have U__law_is_near_number : Fun K "_law_is_near_number" "_law_is_near_number" s__law_is_near_number _ _ := fun_of D__law_is_near_number
  have U__law_is_word : Fun K "_law_is_word" "_law_is_word" s__law_is_word _ _ := fun_of D__law_is_word
  have U__law_are_pairs : Fun K "_law_are_pairs" "_law_are_pairs" s__law_are_pairs _ _ := fun_of D__law_are_pairs
  have U__law_is_step : Fun K "_law_is_step" "_law_is_step" s__law_is_step _ _ := fun_of D__law_is_step
  have U__law_are_steps : Fun K "_law_are_steps" "_law_are_steps" s__law_are_steps _ _ := fun_of D__law_are_steps
  have U__law_is_test : Fun K "_law_is_test" "_law_is_test" s__law_is_test _ _ := fun_of D__law_is_test
  have U__law_are_conditions : Fun K "_law_are_conditions" "_law_are_conditions" s__law_are_conditions _ _ := fun_of D__law_are_conditions
  have U__law_is_condition : Fun K "_law_is_condition" "_law_is_condition" s__law_is_condition _ _ := fun_of D__law_is_condition
  have U__law_wide : Fun K "_law_wide" "_law_wide" s__law_wide _ _ := fun_of D__law_wide
  have U__law_grown : Fun K "_law_grown" "_law_grown" s__law_grown _ _ := fun_of D__law_grown
  have U_law : Fun K "law" "law" s_law _ _ := fun_of D_law
  have U_Wrong : Fun K "__init__" "Wrong.__init__" i_Wrong _ _ := fun_of D_Wrong
  have g__law_take := glo_of X G (x := "_law_take") (c.at 0)
  have g__law_bag := glo_of X G (x := "_law_bag") (c.at 1)
  have g_is_integer := glo_of X G (x := "is_integer") (c.at 2)
  have g_is_number := glo_of X G (x := "is_number") (c.at 3)
  have g_is_name := glo_of X G (x := "is_name") (c.at 4)
  have g_are_pairs := glo_of X G (x := "are_pairs") (c.at 5)
  have g_is_step := glo_of X G (x := "is_step") (c.at 6)
  have g_are_steps := glo_of X G (x := "are_steps") (c.at 7)
  have g_is_test := glo_of X G (x := "is_test") (c.at 8)
  have g_column_of := glo_of X G (x := "column_of") (c.at 9)
  have g_are_conditions := glo_of X G (x := "are_conditions") (c.at 10)
  have g_is_case := glo_of X G (x := "is_case") (c.at 11)
  have g_is_condition := glo_of X G (x := "is_condition") (c.at 12)
  have g__law_alike := glo_of X G (x := "_law_alike") (c.at 13)
  have g__law_one := glo_of X G (x := "_law_one") (c.at 14)
  have g__law_number := glo_of X G (x := "_law_number") (c.at 15)
  have g__law_step := glo_of X G (x := "_law_step") (c.at 16)
  have g__law_test := glo_of X G (x := "_law_test") (c.at 17)
  have g__law_leaf := glo_of X G (x := "_law_leaf") (c.at 18)
  have g__law_small := glo_of X G (x := "_law_small") (c.at 19)
  have g__law_split := glo_of X G (x := "_law_split") (c.at 20)
  have g__law_tree := glo_of X G (x := "_law_tree") (c.at 21)
  have g__law_deepest := glo_of X G (x := "_law_deepest") (c.at 22)
  have g__law_odd := glo_of X G (x := "_law_odd") (c.at 23)
  have g__law_bent := glo_of X G (x := "_law_bent") (c.at 24)
  have g__law_bent_row := glo_of X G (x := "_law_bent_row") (c.at 25)
  have g__law_bent_dict := glo_of X G (x := "_law_bent_dict") (c.at 26)
  have g__law_is_whole_number := glo_of X G (x := "_law_is_whole_number") (c.at 27)
  have g__law_is_near_number := glo_of X G (x := "_law_is_near_number") (c.at 28)
  have g__law_is_word := glo_of X G (x := "_law_is_word") (c.at 29)
  have g__law_are_pairs := glo_of X G (x := "_law_are_pairs") (c.at 30)
  have g__law_is_step := glo_of X G (x := "_law_is_step") (c.at 31)
  have g__law_are_steps := glo_of X G (x := "_law_are_steps") (c.at 32)
  have g__law_is_test := glo_of X G (x := "_law_is_test") (c.at 33)
  have g__law_are_conditions := glo_of X G (x := "_law_are_conditions") (c.at 34)
  have g__law_is_condition := glo_of X G (x := "_law_is_condition") (c.at 35)
  have g__law_wide := glo_of X G (x := "_law_wide") (c.at 36)
  have g__law_grown := glo_of X G (x := "_law_grown") (c.at 37)
  have g_law := glo_of X G (x := "law") (c.at 38)
  have m_abs := free_of X G (x := "abs") (c.at 39)
  have m_all := free_of X G (x := "all") (c.at 40)
  have m_bool := free_of X G (x := "bool") (c.at 41)
  have m_dict := free_of X G (x := "dict") (c.at 42)
  have m_int := free_of X G (x := "int") (c.at 43)
  have m_isinstance := free_of X G (x := "isinstance") (c.at 44)
  have m_len := free_of X G (x := "len") (c.at 45)
  have m_list := free_of X G (x := "list") (c.at 46)
  have m_max := free_of X G (x := "max") (c.at 47)
  have m_min := free_of X G (x := "min") (c.at 48)
  have m_range := free_of X G (x := "range") (c.at 49)
  have m_repr := And.intro (free_of X G (x := "repr") (c.at 50)) (c.at 62)
  have m_str := free_of X G (x := "str") (c.at 51)
  have m_tuple := free_of X G (x := "tuple") (c.at 52)
  have GM_Wrong := glo_of X G (x := "Wrong") (c.at 54)
  have GK_ANSWERS := gk_of X G (x := "ANSWERS") (d := gd_ANSWERS) (c.at 55)
  have GT_ANSWERS := gkt_of X G (x := "ANSWERS") (ds := gl_ANSWERS) (c.at 55)
  have GK_FAR := gk_of X G (x := "FAR") (d := gd_FAR) (c.at 56)
  have GK_LETTERS := gk_of X G (x := "LETTERS") (d := gd_LETTERS) (c.at 57)
  have GK_MOST_LETTERS := gk_of X G (x := "MOST_LETTERS") (d := gd_MOST_LETTERS) (c.at 58)
  have GK_SIGNS := gk_of X G (x := "SIGNS") (d := gd_SIGNS) (c.at 59)
  have GT_SIGNS := gkt_of X G (x := "SIGNS") (ds := gl_SIGNS) (c.at 59)
  have XN_Wrong_str := xn_of (c.at 60)
  have XN_Wrong_tuple := xn_of (c.at 61)
  have e := hfa.symm.trans g_law
  cases e
  have b := FunD.bindsA (ps := ["_law_script"]) D_law (fun _ _ _ _ _ _ us hl => match us, hl with | [_], _ => rfl)
  refine ⟨d_law, fun s v => b s [v] rfl, fun base _ _ => ?_⟩
  letI : TabsC := noTabs
  have F_take0 : FnOk P w K mg base CX0 1 _ _ ["_law_bag_here", "_law_many"] (spOf K takeS) := ok_take (k := 0) U__law_take m_len m_int
  have F__law_take := take_fc (x := "_law_take") F_take0 g__law_take U__law_take.kp (U__law_take.binds (ps := ["_law_bag_here", "_law_many"]) (fun _ _ _ _ _ _ us hl => match us, hl with | [_, _], _ => rfl))
  have B : ∃ (fb : Addr) (fdb : FuncData), FnOk P w K mg base CX0 1 fb fdb ["_law_script"] (spBag K) ∧ mg "_law_bag" = some (.ref fb) ∧ PySem.W.keepIn K (.ref fb) = true ∧ Binds K fdb ["_law_script"] [] := ⟨_, _, ok_bag (k := 0) U__law_bag m_abs, g__law_bag, U__law_bag.kp, U__law_bag.binds (ps := ["_law_script"]) (fun _ _ _ _ _ _ us hl => match us, hl with | [_], _ => rfl)⟩
  have T_Wrong : ErrC P w K mg base "Wrong" (He.ga K "Wrong") "place" := errC_of (g := "place") X G (c.at 53) U_Wrong sci_Wrong rfl (U_Wrong.binds (ps := ["self", "place"]) (fun _ _ _ _ _ _ us hl => match us, hl with | [_, _], _ => rfl)) (fun cdv A outer s H E => pss_one (ps_ost (pv 0) (pv 1)))
  have F_is_integer := fc_is_integer (P := P) (w := w) (base := base) ⟨_, _, U_is_integer, g_is_integer⟩ m_bool m_int m_isinstance
  have F_is_number := fc_is_number (P := P) (w := w) (base := base) ⟨_, _, U_is_number, g_is_number⟩ F_is_integer GK_FAR
  have F_is_name := fc_is_name (P := P) (w := w) (base := base) ⟨_, _, U_is_name, g_is_name⟩ XN_Wrong_str GK_LETTERS GK_MOST_LETTERS m_all m_isinstance m_len m_str
  have F_are_pairs := fc_are_pairs (P := P) (w := w) (base := base) ⟨_, _, U_are_pairs, g_are_pairs⟩ F_is_number m_all m_isinstance m_len m_range m_tuple
  have F_is_step := fc_is_step (P := P) (w := w) (base := base) ⟨_, _, U_is_step, g_is_step⟩ F_are_pairs F_is_number XN_Wrong_str XN_Wrong_tuple m_isinstance m_len m_str m_tuple
  have F_are_steps := fc_are_steps (P := P) (w := w) (base := base) ⟨_, _, U_are_steps, g_are_steps⟩ F_is_step XN_Wrong_tuple m_all m_isinstance m_tuple
  have F_is_test := fc_is_test (P := P) (w := w) (base := base) ⟨_, _, U_is_test, g_is_test⟩ F_are_steps F_is_name F_is_number XN_Wrong_str XN_Wrong_tuple GK_SIGNS m_isinstance m_len m_str m_tuple
  have F_column_of := fc_column_of (P := P) (w := w) (base := base) ⟨_, _, U_column_of, g_column_of⟩
  have R_are_conditions := rec_are_conditions (P := P) (w := w) (base := base) ⟨_, _, U_are_conditions, g_are_conditions⟩ ⟨_, _, U_is_case, g_is_case⟩ ⟨_, _, U_is_condition, g_is_condition⟩ F_is_test XN_Wrong_str XN_Wrong_tuple GK_ANSWERS m_all m_isinstance m_len m_str m_tuple 120
  obtain ⟨F_are_conditions, F_is_case, F_is_condition⟩ := R_are_conditions
  have F__law_alike := fc__law_alike (P := P) (w := w) (base := base) ⟨_, _, U__law_alike, g__law_alike⟩ m_repr
  have F__law_one := fc__law_one (P := P) (w := w) (base := base) ⟨_, _, U__law_one, g__law_one⟩ F__law_take m_len
  have F__law_number := fc__law_number (P := P) (w := w) (base := base) ⟨_, _, U__law_number, g__law_number⟩ F__law_take
  have F__law_step := fc__law_step (P := P) (w := w) (base := base) ⟨_, _, U__law_step, g__law_step⟩ F__law_number F__law_one F__law_take m_abs m_max m_range m_tuple
  have F__law_test := fc__law_test (P := P) (w := w) (base := base) ⟨_, _, U__law_test, g__law_test⟩ F__law_one F__law_step F__law_take m_range m_tuple
  have F__law_leaf := fc__law_leaf (P := P) (w := w) (base := base) ⟨_, _, U__law_leaf, g__law_leaf⟩ F__law_one F__law_take F__law_test
  have F__law_small := fc__law_small (P := P) (w := w) (base := base) ⟨_, _, U__law_small, g__law_small⟩ F__law_leaf F__law_one F__law_take
  have F__law_split := fc__law_split (P := P) (w := w) (base := base) ⟨_, _, U__law_split, g__law_split⟩ F__law_take m_range
  have R__law_tree := rec__law_tree (P := P) (w := w) (base := base) ⟨_, _, U__law_tree, g__law_tree⟩ F__law_small F__law_split F__law_take m_int m_min m_range m_tuple 8
  have F__law_tree := R__law_tree
  have F__law_deepest := fc__law_deepest (P := P) (w := w) (base := base) ⟨_, _, U__law_deepest, g__law_deepest⟩ m_range
  have F__law_odd := fc__law_odd (P := P) (w := w) (base := base) ⟨_, _, U__law_odd, g__law_odd⟩ F__law_one F__law_take m_range
  have R__law_bent := rec__law_bent (P := P) (w := w) (base := base) ⟨_, _, U__law_bent, g__law_bent⟩ ⟨_, _, U__law_bent_row, g__law_bent_row⟩ ⟨_, _, U__law_bent_dict, g__law_bent_dict⟩ F__law_odd F__law_one F__law_take m_bool m_dict m_int m_isinstance m_len m_list m_min m_str m_tuple 60
  obtain ⟨F__law_bent, F__law_bent_row, F__law_bent_dict⟩ := R__law_bent
  have F__law_is_whole_number := fc__law_is_whole_number (P := P) (w := w) (base := base) ⟨_, _, U__law_is_whole_number, g__law_is_whole_number⟩ m_bool m_int m_isinstance
  have F__law_is_near_number := fc__law_is_near_number (P := P) (w := w) (base := base) ⟨_, _, U__law_is_near_number, g__law_is_near_number⟩ F__law_is_whole_number
  have F__law_is_word := fc__law_is_word (P := P) (w := w) (base := base) ⟨_, _, U__law_is_word, g__law_is_word⟩ XN_Wrong_str m_isinstance m_len m_str
  have F__law_are_pairs := fc__law_are_pairs (P := P) (w := w) (base := base) ⟨_, _, U__law_are_pairs, g__law_are_pairs⟩ F__law_is_near_number m_isinstance m_len m_range m_tuple
  have F__law_is_step := fc__law_is_step (P := P) (w := w) (base := base) ⟨_, _, U__law_is_step, g__law_is_step⟩ F__law_are_pairs F__law_is_near_number XN_Wrong_str XN_Wrong_tuple m_isinstance m_len m_str m_tuple
  have F__law_are_steps := fc__law_are_steps (P := P) (w := w) (base := base) ⟨_, _, U__law_are_steps, g__law_are_steps⟩ F__law_is_step XN_Wrong_tuple m_isinstance m_tuple
  have F__law_is_test := fc__law_is_test (P := P) (w := w) (base := base) ⟨_, _, U__law_is_test, g__law_is_test⟩ F__law_are_steps F__law_is_near_number F__law_is_word XN_Wrong_str XN_Wrong_tuple m_isinstance m_len m_str m_tuple
  have R__law_are_conditions := rec__law_are_conditions (P := P) (w := w) (base := base) ⟨_, _, U__law_are_conditions, g__law_are_conditions⟩ ⟨_, _, U__law_is_condition, g__law_is_condition⟩ F__law_is_test XN_Wrong_str XN_Wrong_tuple m_isinstance m_len m_str m_tuple 120
  obtain ⟨F__law_are_conditions, F__law_is_condition⟩ := R__law_are_conditions
  have F__law_wide := fc__law_wide (P := P) (w := w) (base := base) ⟨_, _, U__law_wide, g__law_wide⟩ F__law_leaf F__law_take m_len m_min m_range m_tuple
  have F__law_grown := fc__law_grown (P := P) (w := w) (base := base) ⟨_, _, U__law_grown, g__law_grown⟩ F__law_take F__law_tree F__law_wide
  exact fn_law_here U_law B F__law_alike F__law_bent F__law_deepest F__law_grown F__law_is_condition F__law_is_test F__law_take F__law_test F_column_of F_is_condition F_is_test T_Wrong m_range m_repr (law_all w (He.ga K "Wrong"))
end K20
open PySem PySem.W PySem.Calls PyProof.Rows
set_option maxHeartbeats 0 in
theorem PySem.Challenge.cw_refusedahead_k20_tests_known_holds : PySem.Challenge.rw_refusedahead_k20_tests_known.Holds := by
  w_on; o_law
  refine HandSHeadRun.head_any (r := OpenLaw.row PySem.Challenge.rw_refusedahead_k20_tests_known) (q := view (OpenLaw.row PySem.Challenge.rw_refusedahead_k20_tests_known).prog [51]) (H := K20.Hk) (ob := K20.Ob) (M := 4000) (loose := K20.Loose) (d := HandSHeadRun.topDef (OpenLaw.row PySem.Challenge.rw_refusedahead_k20_tests_known).prog 51) (kwd := []) K20.Ob_eq
    (by kernel_rfl) (fun s => by kernel_rfl) K20.Run (by kernel_rfl) (by kernel_rfl) (by kernel_rfl) (by rfl) (by first | assumption | decide +kernel) (by decide +kernel) ⟨rfl, rfl, rfl, rfl, rfl, by decide +kernel⟩ ?hw ?hc
  case hw => w_witness2
  case hc =>
    refine DL.law_quiet (l := PySem.Challenge.rw_refusedahead_k20_tests_known) (n := 63) (k := 128) (x := "_law_script") rfl (by decide) (by kernel_rfl) ⟨rfl, by decide, by decide⟩ ?F
    intro w mg fa h Y G hmg0
    obtain ⟨K, KX, c⟩ := Y
    have hmg : mg ("law" : PySem.Str) = some (.ref fa) := by
      have e : (HandSHeadRun.topDef (OpenLaw.row PySem.Challenge.rw_refusedahead_k20_tests_known).prog 51).name = ("law" : PySem.Str) := by kernel_rfl
      rw [← e]
      exact hmg0
    obtain ⟨fd, hb, hF⟩ := K20.facts (P := (PySem.Challenge.rw_refusedahead_k20_tests_known).prog) (w := w) KX G hmg c
    exact ⟨K, fd, @DL.spLaw DL.noTabs K, KX, hb, fun H a ns hl on hS => ⟨a, ns, rfl, hS, hl, DL.tabsX_none on, fun _ => rfl⟩, hF⟩