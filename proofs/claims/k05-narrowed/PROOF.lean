import PyProof.Rows.All
import Wide.All
import OpenK.AllK
import Wide.FinOn
import KE.KeyNested
import KE.KDictWalk
import PyProof.DictRoadsH
import PyProof.DictDisplay
import PyProof.DictTable
import HandS.ForMost
import HandS.Exc
import HandS.ExcOwn
import HandS.TryOnly
import HandS.WordsExc
import HandS.Head2
import HandS.HeadHook1
import HandS.Words
import HandS.Wide
import HandS.Style
import HandS.Flow
import HandS.ExcCtx
import PyProof.P3Eq
import HandS.RevRange
import HandS.Rev
import HandS.CallSlots
import HandS.Property
import HandS.IsInst
import HandS.ExcInit
import HandS.ExcField
import HandS.ExcIs
import HandS.HotCalls
import KE.KExcIs
import KE.KDictZip
import HandS.OwnIter
import PyProof.StrBlock2
import HandS.SlotsOwn
import KE.KOpsOwn
import HandS.Replace
import HandS.ExcInitHot
import HandS.IterNext
import HandS.IterVal
import KE.KOwnIter
import KE.KCallOwn
import KE.KRevSl
import KE.KSuper
import HandS.NestedK
import HandS.ClsMeth
import HandS.MakeKwOnly
import HandS.Star
import HandS.HeadEnd
import HandS.Steps
import HandS.Zip
import KE.GoesMore
import PyProof.StrLawsIn
import PySem.Challenge.RW_siltmeet_k05_core_narrowed
set_option Elab.async false
set_option linter.all false
set_option maxRecDepth 100000
/-! Y0: dicts whose keys are None, whole numbers and tuples, together. -/
namespace PySem
open Sem (wp)
open SeqAt
def notText : NestedKey → Bool
  | .text _ => false
  | _ => true
/-- the value is the key -/
def KeyIs (h : Heap) (k : NestedKey) (v : Value) : Prop := NestedIs h k v ∧ k.depth ≤ 8 ∧ notText k = true
def entV (w : World) (x : NestedKey × Value × Value) : DictEntry := ⟨x.1.hash w, x.2.1, x.2.2⟩
theorem KeyIs.not_str {h : Heap} {k : NestedKey} {v : Value} (x : KeyIs h k v) : ∀ a t, v ≠ .str a t := fun a t e => by
  subst e
  obtain ⟨h1, _, h3⟩ := x
  cases h1
  cases h3
theorem KeyIs.at {h h' : Heap} {k : NestedKey} {v : Value} (hk : ∀ a o vs n, h.get? a = some o → o.data = .seq vs n → h'.get? a = some o) (x : KeyIs h k v) : KeyIs h' k v := ⟨NestedIs.at hk _ _ x.1, x.2⟩
section
variable {prog : Program} {w : World} {A : Around} {E : Value → Shared → Prop} {s : Shared} {d : Addr} {o : Obj} {es : Array DictEntry} {ep : Nat} {xs : List (NestedKey × Value × Value)} {k : NestedKey} {key : Value}

theorem tableMayTell_v {stored : List Value} {Q : Bool → Shared → Prop} (hkey : KeyIs s.heap k key)
    (hst : ∀ v ∈ stored, ∃ k', KeyIs s.heap k' v) (h : Q false s) : wpAny (model prog w) A (tableMayTell key stored) Q E s := by
  unfold tableMayTell
  split
  · exact wpAny_pure h
  · refine wpAny_bind (quiet_key _ _ 8 s hkey.1 hkey.2.1 A E _ ?_)
    simp only [Bool.not_true, Bool.false_eq_true, if_false]
    refine wpAny_bind ?_
    refine wpAny_forIn_list _ (fun rest r s' => s' = s ∧ r = (none, ()) ∧ ∀ v ∈ rest, ∃ k', KeyIs s.heap k' v) _ ?_ ?_ _ _ ⟨rfl, rfl, hst⟩
    · rintro x rest r s' ⟨rfl, rfl, hr⟩
      obtain ⟨k', hb⟩ := hr x List.mem_cons_self
      refine wpAny_bind (quiet_key _ _ 8 _ hb.1 hb.2.1 A E _ ?_)
      simp only [Bool.not_true, Bool.false_eq_true, if_false]
      exact wpAny_pure ⟨rfl, rfl, fun v hv => hr v (List.mem_cons_of_mem _ hv)⟩
    · rintro r s' ⟨rfl, rfl, _⟩
      exact wpAny_pure h

theorem entV_at (he : es.toList = xs.map (entV w)) (j : Nat) : es[j]? = (xs[j]?).map (entV w) := by
  rw [← Array.getElem?_toList, he, List.getElem?_map]
theorem entV_size (he : es.toList = xs.map (entV w)) : es.size = xs.length := by
  rw [← Array.length_toList, he, List.length_map]
theorem idxV_unique (hn : (xs.map (·.1)).Nodup) : ∀ {i j : Nat} {k : NestedKey} {p q : Value × Value}, xs[i]? = some (k, p) → xs[j]? = some (k, q) → i = j := by
  intro i j k p q hi hj
  have hi' : (xs.map (·.1))[i]? = some k := by rw [List.getElem?_map, hi]; rfl
  have hj' : (xs.map (·.1))[j]? = some k := by rw [List.getElem?_map, hj]; rfl
  exact (List.getElem?_inj (List.getElem?_eq_some_iff.mp hi').1 hn).mp (hi'.trans hj'.symm)

theorem eqBool_v {x y : NestedKey} {a b : Value} {Q : Bool → Shared → Prop} (hu : A.units + 8 < cLine) (hx : KeyIs s.heap x a) (hy : KeyIs s.heap y b) (h : Q (decide (x = y)) s) : wpAny (model prog w) A (PySem.eqBool a b) Q E s :=
  eqAt_key x y A s _ _ hx.1 hy.1 (by have := hx.2.1; have := hy.2.1; omega) _ _ _ _ (by rw [← NestedKey.decide_eq]; exact h)

theorem walkPlain_v {Q : Option Nat → Shared → Prop} (hu : A.units + 8 < cLine) (hkey : KeyIs s.heap k key)
    (ho : s.heap.get? d = some o) (hd : o.data = .dict es ep) (he : es.toList = xs.map (entV w)) (his : ∀ x ∈ xs, KeyIs s.heap x.1 x.2.1) (hn : (xs.map (·.1)).Nodup)
    (hnone : (∀ (j : Nat) (p : Value × Value), xs[j]? ≠ some (k, p)) → Q none s) (hsome : ∀ (j : Nat) (p : Value × Value), xs[j]? = some (k, p) → Q (some j) s) :
    wpAny (model prog w) A (dictWalkPlain d key (k.hash w) es (placesWithHash es.size (fun i => es[i]?.map (·.hash)) (k.hash w))) Q E s := by
  have hsz : es.size = xs.length := entV_size he
  have haskey : ∀ (j : Nat) (p : Value × Value), xs[j]? = some (k, p) → ((es[j]?.map (·.hash)) == some (k.hash w)) = true := by
    intro j p hj
    rw [entV_at he j, hj]
    simp [entV]
  unfold dictWalkPlain
  refine wpAny_bind ?_
  refine wpAny_forIn_list _
    (fun rest b s' => s' = s ∧ ∃ i, b = (none, ()) ∧ rest = (List.range' i (es.size - i)).filter (fun i => (es[i]?.map (·.hash)) == some (k.hash w)) ∧ i ≤ es.size ∧ (∀ j p, j < i → xs[j]? ≠ some (k, p))) _ ?_ ?_ _ _
    ⟨rfl, 0, rfl, by rw [placesWithHash, List.range_eq_range', Nat.sub_zero], Nat.zero_le _, fun _ _ h => absurd h (Nat.not_lt_zero _)⟩
  · rintro x rest b s' ⟨rfl, i, rfl, hr, hi, hH⟩
    obtain ⟨hix, hxn, hpx, hskip, hrest⟩ := filter_range'_cons _ _ _ _ _ hr.symm
    have hlt : x < es.size := by omega
    have hrest' : rest = (List.range' (x + 1) (es.size - (x + 1))).filter (fun i => (es[i]?.map (·.hash)) == some (k.hash w)) := by rw [hrest]; congr 2; omega
    obtain ⟨⟨k', b, v'⟩, hkv⟩ : ∃ y, xs[x]? = some y := ⟨xs[x]'(by rw [← hsz]; exact hlt), List.getElem?_eq_getElem _⟩
    have hib : KeyIs s'.heap k' b := his _ (List.mem_of_getElem? hkv)
    have hex : es[x]? = some ⟨k'.hash w, b, v'⟩ := by rw [entV_at he x, hkv]; rfl
    have hHx : ∀ j p, j < x → xs[j]? ≠ some (k, p) := by
      intro j p hjx hj
      rcases Nat.lt_or_ge j i with h | h
      · exact hH j p h hj
      · have := hskip j h hjx
        rw [haskey j p hj] at this
        exact absurd this (by decide)
    have hstay : ¬ k' = k → ∀ j p, j < x + 1 → xs[j]? ≠ some (k, p) := by
      intro hne j p hjx hj
      rcases Nat.lt_or_ge j x with h | h
      · exact hHx j p h hj
      · have hjx' : j = x := by omega
        subst hjx'
        rw [hkv] at hj
        injection hj with hj
        injection hj with hj
        exact hne hj
    rw [hex]
    dsimp only
    by_cases hh : (k'.hash w == k.hash w) = true
    · rw [if_pos hh]
      refine wpAny_bind (wpAny_dictEpoch ho hd (wpAny_bind (eqBool_v (x := k') (y := k) hu hib hkey (wpAny_bind (wpAny_dictEpoch ho hd ?_)))))
      rw [if_neg (by simp)]
      by_cases hkk : k' = k
      · rw [decide_eq_true hkk]
        subst hkk
        simp only [if_true]
        refine wpAny_bind (wpAny_rule ?_)
        exact wpAny_pure (wpAny_pure (hsome x _ hkv))
      · rw [decide_eq_false hkk]
        simp only [Bool.false_eq_true, if_false]
        refine wpAny_bind (wpAny_rule ?_)
        exact wpAny_pure ⟨rfl, x + 1, rfl, hrest', hlt, hstay hkk⟩
    · rw [if_neg hh]
      refine wpAny_pure ⟨rfl, x + 1, rfl, hrest', hlt, hstay ?_⟩
      intro hkk
      rw [hkk] at hh; simp at hh
  · rintro b s' ⟨rfl, i, rfl, hr, hi, hH⟩
    have hall : ∀ j, i ≤ j → j < es.size → ((es[j]?.map (·.hash)) == some (k.hash w)) = false := by
      intro j h1 h2
      have := List.filter_eq_nil_iff.mp hr.symm j (List.mem_range'_1.mpr ⟨h1, by omega⟩)
      simpa using this
    refine wpAny_pure (hnone fun j p hj => ?_)
    rcases Nat.lt_or_ge j i with h | h
    · exact hH j p h hj
    · have hjl : j < es.size := by
        rw [hsz]
        rcases Nat.lt_or_ge j xs.length with h' | h'
        · exact h'
        · rw [List.getElem?_eq_none h'] at hj; exact nomatch hj
      have := hall j h hjl
      rw [haskey j p hj] at this
      exact absurd this (by decide)

theorem ite_wp {α : Type} {c : Prop} [Decidable c] {m n : Sem α} {Q : α → Shared → Prop} (h1 : c → wpAny (model prog w) A m Q E s) (h2 : ¬ c → wpAny (model prog w) A n Q E s) : wpAny (model prog w) A (if c then m else n) Q E s := by
  by_cases h : c
  · rw [if_pos h]; exact h1 h
  · rw [if_neg h]; exact h2 h
theorem dictFind_v {Q : Option Nat → Shared → Prop} (hu : A.units + 8 < cLine) (hkey : KeyIs s.heap k key)
    (ho : s.heap.get? d = some o) (hd : o.data = .dict es ep) (he : es.toList = xs.map (entV w)) (his : ∀ x ∈ xs, KeyIs s.heap x.1 x.2.1) (hn : (xs.map (·.1)).Nodup)
    (hnone : (∀ (j : Nat) (p : Value × Value), xs[j]? ≠ some (k, p)) → Q none s) (hsome : ∀ (j : Nat) (p : Value × Value), xs[j]? = some (k, p) → Q (some j) s) :
    wpAny (model prog w) A (dictFind d key (k.hash w)) Q E s := by
  have hsz : es.size = xs.length := entV_size he
  have haskey : ∀ (j : Nat) (p : Value × Value), xs[j]? = some (k, p) → ((es[j]?.map (·.hash)) == some (k.hash w)) = true := by
    intro j p hj
    rw [entV_at he j, hj]
    simp [entV]
  have hmem : ∀ e ∈ es, ∃ x ∈ xs, e = entV w x := by
    intro e hin
    have : e ∈ xs.map (entV w) := he ▸ Array.mem_toList_iff.mpr hin
    obtain ⟨x, hx, rfl⟩ := List.mem_map.mp this
    exact ⟨x, hx, rfl⟩
  have hany : ∀ a, key = .ref a → ¬ (es.any fun e => e.key == key && e.hash != k.hash w) = true := by
    intro a ea
    subst ea
    rw [← Array.any_toList, List.any_eq_true]
    rintro ⟨e, hin, hc⟩
    obtain ⟨x, hx, rfl⟩ := hmem e (Array.mem_toList_iff.mp hin)
    simp only [entV, Bool.and_eq_true, beq_iff_eq, bne_iff_ne, ne_eq] at hc
    obtain ⟨hxa, hne⟩ := hc
    have := his x hx
    rw [hxa] at this
    exact hne (by rw [NestedIs.inj _ _ _ this.1 hkey.1])
  have hst : ∀ v ∈ (placesWithHash es.size (fun i => es[i]?.map (·.hash)) (k.hash w)).filterMap (fun i => es[i]?.map (·.key)), ∃ k', KeyIs s.heap k' v := by
    intro v hv
    obtain ⟨i, _, hi⟩ := List.mem_filterMap.mp hv
    cases hei : es[i]? with
    | none => rw [hei] at hi; cases hi
    | some e =>
      rw [hei] at hi
      obtain rfl : e.key = v := by simpa using hi
      obtain ⟨x, hx, rfl⟩ := hmem e (Array.mem_of_getElem? hei)
      exact ⟨x.1, his x hx⟩
  have hgen : ∀ (tells : Bool), tells = false → wpAny (model prog w) A (do
      if tells && ((placesWithHash es.size (fun i => es[i]?.map (·.hash)) (k.hash w)).filterMap (fun i => es[i]?.map (·.key))).length ≥ 2 then unsupported "dict.find:order-among-keys-of-one-hash"
      let mut hit : Option Nat := none
      for i in placesWithHash es.size (fun i => es[i]?.map (·.hash)) (k.hash w) do
        if let some e := es[i]? then
          if e.hash == k.hash w then
            let before ← dictEpoch d (keyPart key)
            let same ← PySem.eqBool e.key key
            if (← dictEpoch d (keyPart key)) != before then unsupported "dict.changed-during-lookup"
            if same then
              if hit.isSome then unsupported "dict.find:order-among-keys-of-one-hash"
              rule "dict.find.hit"
              if ((placesWithHash es.size (fun i => es[i]?.map (·.hash)) (k.hash w)).filterMap (fun i => es[i]?.map (·.key))).length < 2 then return some i
              hit := some i
            else
              rule "dict.find.same-hash-other-key"
              if tells && !(0 ≤ k.hash w && k.hash w < 32) then unsupported "dict.find:asked-again-or-not-hangs-on-the-table"
      return hit) Q E s := by
    intro tells ht
    subst ht
    rw [if_neg (by simp)]
    refine wpAny_bind ?_
    refine wpAny_forIn_list _
      (fun rest b s' => s' = s ∧ ∃ i hit, b = (none, hit) ∧ rest = (List.range' i (es.size - i)).filter (fun i => (es[i]?.map (·.hash)) == some (k.hash w)) ∧ i ≤ es.size ∧
        ((hit = none ∧ ∀ j p, j < i → xs[j]? ≠ some (k, p)) ∨ ∃ j p, hit = some j ∧ j < i ∧ xs[j]? = some (k, p))) _ ?_ ?_ _ _
      ⟨rfl, 0, none, rfl, by rw [placesWithHash, List.range_eq_range', Nat.sub_zero], Nat.zero_le _, .inl ⟨rfl, fun _ _ h => absurd h (Nat.not_lt_zero _)⟩⟩
    · rintro x rest b s' ⟨rfl, i, hit, rfl, hr, hi, hH⟩
      obtain ⟨hix, hxn, hpx, hskip, hrest⟩ := filter_range'_cons _ _ _ _ _ hr.symm
      have hlt : x < es.size := by omega
      have hrest' : rest = (List.range' (x + 1) (es.size - (x + 1))).filter (fun i => (es[i]?.map (·.hash)) == some (k.hash w)) := by rw [hrest]; congr 2; omega
      obtain ⟨⟨k', b, v'⟩, hkv⟩ : ∃ y, xs[x]? = some y := ⟨xs[x]'(by rw [← hsz]; exact hlt), List.getElem?_eq_getElem _⟩
      have hib : KeyIs s'.heap k' b := his _ (List.mem_of_getElem? hkv)
      have hex : es[x]? = some ⟨k'.hash w, b, v'⟩ := by rw [entV_at he x, hkv]; rfl
      have hHx : (hit = none ∧ ∀ j p, j < x → xs[j]? ≠ some (k, p)) ∨ ∃ j p, hit = some j ∧ j < x ∧ xs[j]? = some (k, p) := by
        rcases hH with ⟨h0, hno⟩ | ⟨j, p, h1, hji, hj⟩
        · refine .inl ⟨h0, fun j p hjx hj => ?_⟩
          rcases Nat.lt_or_ge j i with h | h
          · exact hno j p h hj
          · have := hskip j h hjx
            rw [haskey j p hj] at this
            exact absurd this (by decide)
        · exact .inr ⟨j, p, h1, by omega, hj⟩
      have hstay : ¬ k' = k → ((hit = none ∧ ∀ j p, j < x + 1 → xs[j]? ≠ some (k, p)) ∨ ∃ j p, hit = some j ∧ j < x + 1 ∧ xs[j]? = some (k, p)) := by
        intro hne
        rcases hHx with ⟨h0, hno⟩ | ⟨j, p, h1, hjx, hj⟩
        · refine .inl ⟨h0, fun j p hjx hj => ?_⟩
          rcases Nat.lt_or_ge j x with h | h
          · exact hno j p h hj
          · have hjx' : j = x := by omega
            subst hjx'
            rw [hkv] at hj
            injection hj with hj
            injection hj with hj
            exact hne hj
        · exact .inr ⟨j, p, h1, by omega, hj⟩
      rw [hex]
      dsimp only
      by_cases hh : (k'.hash w == k.hash w) = true
      · rw [if_pos hh]
        refine wpAny_bind (wpAny_dictEpoch ho hd (wpAny_bind (eqBool_v (x := k') (y := k) hu hib hkey (wpAny_bind (wpAny_dictEpoch ho hd ?_)))))
        rw [if_neg (by simp)]
        by_cases hkk : k' = k
        · rw [decide_eq_true hkk]
          subst hkk
          rcases hHx with ⟨rfl, _⟩ | ⟨j, p, _, hjx, hj⟩
          · first | rw [if_pos rfl] | skip
            simp only [Option.isSome_none, Bool.false_eq_true, if_false]
            first | refine wpAny_bind (wpAny_pure ?_) | skip
            refine wpAny_bind (wpAny_rule ?_)
            split
            · exact wpAny_pure (wpAny_pure (hsome x _ hkv))
            · exact wpAny_pure ⟨rfl, x + 1, some x, rfl, hrest', hlt, .inr ⟨x, _, rfl, Nat.lt_succ_self x, hkv⟩⟩
          · exact absurd (idxV_unique hn hj hkv) (by omega)
        · rw [decide_eq_false hkk]
          simp only [Bool.false_eq_true, if_false]
          refine wpAny_bind (wpAny_rule ?_)
          first | rw [if_neg (by simp)] | skip
          first
            | exact wpAny_pure ⟨rfl, x + 1, hit, rfl, hrest', hlt, hstay hkk⟩
            | exact wpAny_bind (wpAny_pure (wpAny_pure ⟨rfl, x + 1, hit, rfl, hrest', hlt, hstay hkk⟩))
      · rw [if_neg hh]
        refine wpAny_pure ⟨rfl, x + 1, hit, rfl, hrest', hlt, hstay ?_⟩
        intro hkk
        rw [hkk] at hh; simp at hh
    · rintro b s' ⟨rfl, i, hit, rfl, hr, hi, hH⟩
      have hall : ∀ j, i ≤ j → j < es.size → ((es[j]?.map (·.hash)) == some (k.hash w)) = false := by
        intro j h1 h2
        have := List.filter_eq_nil_iff.mp hr.symm j (List.mem_range'_1.mpr ⟨h1, by omega⟩)
        simpa using this
      rcases hH with ⟨rfl, hno⟩ | ⟨j, p, rfl, _, hj⟩
      · refine wpAny_pure (hnone fun j p hj => ?_)
        rcases Nat.lt_or_ge j i with h | h
        · exact hno j p h hj
        · have hjl : j < es.size := by
            rw [hsz]
            rcases Nat.lt_or_ge j xs.length with h' | h'
            · exact h'
            · rw [List.getElem?_eq_none h'] at hj; exact nomatch hj
          have := hall j h hjl
          rw [haskey j p hj] at this
          exact absurd this (by decide)
      · exact wpAny_pure (hsome j p hj)
  have hgen2 : wpAny (model prog w) A (do
      let tells ← if ((placesWithHash es.size (fun i => es[i]?.map (·.hash)) (k.hash w)).filterMap (fun i => es[i]?.map (·.key))) == [key] then pure false else tableMayTell key ((placesWithHash es.size (fun i => es[i]?.map (·.hash)) (k.hash w)).filterMap (fun i => es[i]?.map (·.key)))
      if tells && ((placesWithHash es.size (fun i => es[i]?.map (·.hash)) (k.hash w)).filterMap (fun i => es[i]?.map (·.key))).length ≥ 2 then unsupported "dict.find:order-among-keys-of-one-hash"
      let mut hit : Option Nat := none
      for i in placesWithHash es.size (fun i => es[i]?.map (·.hash)) (k.hash w) do
        if let some e := es[i]? then
          if e.hash == k.hash w then
            let before ← dictEpoch d (keyPart key)
            let same ← PySem.eqBool e.key key
            if (← dictEpoch d (keyPart key)) != before then unsupported "dict.changed-during-lookup"
            if same then
              if hit.isSome then unsupported "dict.find:order-among-keys-of-one-hash"
              rule "dict.find.hit"
              if ((placesWithHash es.size (fun i => es[i]?.map (·.hash)) (k.hash w)).filterMap (fun i => es[i]?.map (·.key))).length < 2 then return some i
              hit := some i
            else
              rule "dict.find.same-hash-other-key"
              if tells && !(0 ≤ k.hash w && k.hash w < 32) then unsupported "dict.find:asked-again-or-not-hangs-on-the-table"
      return hit) Q E s := by
    by_cases hone : (((placesWithHash es.size (fun i => es[i]?.map (·.hash)) (k.hash w)).filterMap (fun i => es[i]?.map (·.key))) == [key]) = true
    · rw [if_pos hone]
      exact wpAny_bind (wpAny_pure (hgen false rfl))
    · rw [if_neg hone]
      exact wpAny_bind (tableMayTell_v hkey hst (hgen false rfl))
  have hns := hkey.not_str
  unfold dictFind
  try with_reducible refine wpAny_holding ?_
  refine wpAny_bind (wpAny_dictEntries ho hd ?_)
  cases key with
  | str a t => exact absurd rfl (hns a t)
  | ref a =>
    dsimp only
    rw [if_neg (show ¬ ((Value.ref a :: (placesWithHash es.size (fun i => es[i]?.map (·.hash)) (k.hash w)).filterMap (fun i => es[i]?.map (·.key))).all carriedByValue) = true by simp [carriedByValue])]
    rw [if_neg (hany a rfl)]
    exact hgen2
  | _ =>
    dsimp only
    refine ite_wp (fun _ => walkPlain_v hu hkey ho hd he his hn hnone hsome) (fun _ => hgen2)

def atV (xs : List (NestedKey × Value × Value)) (k : NestedKey) : Option Value := (xs.find? fun x => decide (x.1 = k)).map (·.2.2)
def putV (k : NestedKey) (v : Value) (x : NestedKey × Value × Value) : NestedKey × Value × Value := if x.1 = k then (x.1, x.2.1, v) else x
def storedV (xs : List (NestedKey × Value × Value)) (k : NestedKey) (a v : Value) : List (NestedKey × Value × Value) :=
  if (atV xs k).isSome then xs.map (putV k v) else xs ++ [(k, a, v)]
def DictV (w : World) (h : Heap) (d : Addr) (xs : List (NestedKey × Value × Value)) : Prop :=
  ∃ o es ep, h.get? d = some o ∧ o.ExactDict ∧ o.data = .dict es ep ∧ es.toList = xs.map (entV w) ∧ (∀ x ∈ xs, KeyIs h x.1 x.2.1) ∧ (xs.map (·.1)).Nodup
theorem atV_of_get (hn : (xs.map (·.1)).Nodup) {i : Nat} {k : NestedKey} {p : Value × Value} (hx : xs[i]? = some (k, p)) : atV xs k = some p.2 := by
  induction xs generalizing i with
  | nil => simp at hx
  | cons x rest ih =>
    rw [List.map_cons, List.nodup_cons] at hn
    cases i with
    | zero =>
      simp only [List.getElem?_cons_zero, Option.some.injEq] at hx
      subst hx; simp [atV]
    | succ j =>
      simp only [List.getElem?_cons_succ] at hx
      have hmem : k ∈ rest.map (·.1) := List.mem_map.mpr ⟨(k, p), List.mem_of_getElem? hx, rfl⟩
      have hne : ¬ x.1 = k := fun e => hn.1 (e ▸ hmem)
      have := ih hn.2 hx
      simpa [atV, List.find?_cons, hne] using this
theorem atV_none_of_get (h : ∀ (j : Nat) (p : Value × Value), xs[j]? ≠ some (k, p)) : atV xs k = none := by
  have : (xs.find? fun x => decide (x.1 = k)) = none := by
    rw [List.find?_eq_none]
    intro x hx hk
    obtain ⟨j, hj⟩ := List.mem_iff_getElem?.mp hx
    have hk' : x.1 = k := of_decide_eq_true hk
    exact h j x.2 (by rw [hj, ← hk'])
  simp [atV, this]
theorem not_mem_keysV (h : ∀ (j : Nat) (p : Value × Value), xs[j]? ≠ some (k, p)) : k ∉ xs.map (·.1) := by
  intro hm
  obtain ⟨x, hx, rfl⟩ := List.mem_map.mp hm
  obtain ⟨j, hj⟩ := List.mem_iff_getElem?.mp hx
  exact h j x.2 hj
theorem map_putV_of_not_mem (xs : List (NestedKey × Value × Value)) (k : NestedKey) (v : Value) (hn : k ∉ xs.map (·.1)) : xs.map (putV k v) = xs := by
  induction xs with
  | nil => rfl
  | cons x xs ih =>
    simp only [List.map_cons, List.mem_cons, not_or] at hn ⊢
    rw [putV, if_neg (fun e => hn.1 e.symm), ih hn.2]
theorem keys_map_putV (xs : List (NestedKey × Value × Value)) (k : NestedKey) (v : Value) : (xs.map (putV k v)).map (·.1) = xs.map (·.1) := by
  induction xs with
  | nil => rfl
  | cons x xs ih =>
    simp only [List.map_cons, ih]
    by_cases hk : x.1 = k <;> simp [putV, hk]
theorem modify_map_putV (k : NestedKey) (v : Value) :
    ∀ {xs : List (NestedKey × Value × Value)} {j : Nat} {p : Value × Value}, (xs.map (·.1)).Nodup → xs[j]? = some (k, p) → (xs.map (entV w)).modify j (fun e : DictEntry => { e with val := v }) = (xs.map (putV k v)).map (entV w) := by
  intro xs
  induction xs with
  | nil => intro j p _ hj; simp at hj
  | cons x rest ih =>
    intro j p hn hj
    rw [List.map_cons, List.nodup_cons] at hn
    cases j with
    | zero =>
      simp only [List.getElem?_cons_zero, Option.some.injEq] at hj
      subst hj
      rw [List.map_cons, List.map_cons, map_putV_of_not_mem rest k v hn.1, putV, if_pos rfl, List.map_cons]
      rfl
    | succ j =>
      simp only [List.getElem?_cons_succ] at hj
      have hmem : k ∈ rest.map (·.1) := List.mem_map.mpr ⟨(k, p), List.mem_of_getElem? hj, rfl⟩
      have hne : ¬ x.1 = k := fun e => hn.1 (e ▸ hmem)
      rw [List.map_cons, List.map_cons, putV, if_neg hne, List.map_cons]
      show entV w x :: (rest.map (entV w)).modify j _ = entV w x :: (rest.map (putV k v)).map (entV w)
      rw [ih hn.2 hj]
theorem DictV.typeIs (hm : DictV w s.heap d xs) : s.TypeIs (.ref d) "dict" := let ⟨o, _, _, ho, hc, _⟩ := hm; ⟨o, ho, hc.1⟩
theorem DictV.keep {h h' : Heap} (hm : DictV w h d xs) (hk : ∀ b o, h.get? b = some o → h'.get? b = some o) : DictV w h' d xs := by
  obtain ⟨o, es, ep, ho, hc, hd, he, his, hn⟩ := hm
  exact ⟨o, es, ep, hk _ _ ho, hc, hd, he, fun x hx => (his x hx).at (fun a o _ _ e _ => hk a o e), hn⟩
theorem KeyIs.keeps {h h' : Heap} {k : NestedKey} {v : Value} (x : KeyIs h k v) (ho : h.get? d = some o) (hd : o.data = .dict es ep) (hs : Heap.SameBut d h h') : KeyIs h' k v :=
  x.at (fun b ob vs n hb hc => by
    refine (hs.2 b fun e => ?_).trans hb
    subst e
    rw [ho] at hb
    cases hb
    rw [hd] at hc
    cases hc)

theorem dictGet_v {Q : Option Value → Shared → Prop} (hu : A.units + 8 < cLine) (hkey : KeyIs s.heap k key) (hm : DictV w s.heap d xs)
    (h : Q (atV xs k) { s with toks := s.toks + k.draws }) : wpAny (model prog w) A (dictGet d key) Q E s := by
  obtain ⟨o, es, ep, ho, _, hd, he, his, hn⟩ := hm
  unfold dictGet
  try with_reducible refine wpAny_holding ?_
  refine wpAny_bind (pyHash_key _ _ _ _ _ hkey.1 (by have := hkey.2.1; omega) (wpAny_bind (dictFind_v (s := { s with toks := s.toks + k.draws }) hu hkey ho hd he his hn ?_ ?_)))
  · intro hno
    rw [atV_none_of_get hno] at h
    exact wpAny_pure h
  · intro j p hj
    rw [atV_of_get hn hj] at h
    refine wpAny_bind (wpAny_dictEntries (s := { s with toks := s.toks + k.draws }) ho hd ?_)
    rw [entV_at he j, hj]
    exact wpAny_pure h
theorem dictSet_v {v : Value} {Q : Unit → Shared → Prop} (hu : A.units + 8 < cLine) (hkey : KeyIs s.heap k key) (hm : DictV w s.heap d xs)
    (hQ : ∀ h', DictV w h' d (storedV xs k key v) → Heap.SameBut d s.heap h' → Q () { s with heap := h', toks := s.toks + k.draws })
    (hsz : xs.length ≤ sizeLine := by size_fits) :
    wpAny (model prog w) A (dictSet d key v) Q E s := by
  obtain ⟨o, es, ep, ho, hc, hd, he, his, hn⟩ := hm
  unfold dictSet
  try with_reducible refine wpAny_holding ?_
  refine wpAny_bind (pyHash_key _ _ _ _ _ hkey.1 (by have := hkey.2.1; omega) ?_)
  unfold dictSetHashed
  try with_reducible refine wpAny_holding ?_
  refine wpAny_bind (dictFind_v (s := { s with toks := s.toks + k.draws }) hu hkey ho hd he his hn ?_ ?_)
  · intro hno
    have hnot : k ∉ xs.map (·.1) := not_mem_keysV hno
    have e0 : storedV xs k key v = xs ++ [(k, key, v)] := by simp [storedV, atV_none_of_get hno]
    refine wpAny_bind (wpAny_rule (wpAny_updateDictKeys (hz := by have e := entV_size he; omega) (s := { s with toks := s.toks + k.draws }) ho hd (hQ _ ⟨_, _, ep + 1, Heap.get?_update_self _ ho (Obj.isFreed_of_dict (Obj.data_mapDictKeys hd _)),
      hc.mapDictKeys _, Obj.data_mapDictKeys hd _, ?_, ?_, ?_⟩ (Heap.SameBut.update ..))))
    · rw [e0]
      simp [he, entV]
    · rw [e0]
      intro x hx
      rcases List.mem_append.mp hx with hx | hx
      · exact (his x hx).keeps ho hd (Heap.SameBut.update ..)
      · simp only [List.mem_singleton] at hx
        subst hx
        exact hkey.keeps ho hd (Heap.SameBut.update ..)
    · rw [e0]
      rw [List.map_append, List.nodup_append]
      refine ⟨hn, by simp, ?_⟩
      intro x hx y hy
      simp only [List.map_cons, List.map_nil, List.mem_singleton] at hy
      subst hy
      exact fun e => hnot (e ▸ hx)
  · intro j p hj
    have e0 : storedV xs k key v = xs.map (putV k v) := by simp [storedV, atV_of_get hn hj]
    refine wpAny_bind (wpAny_rule (wpAny_bind (wpAny_updateDict (s := { s with toks := s.toks + k.draws }) ho hd (wpAny_point (hQ _ ⟨_, _, ep, Heap.get?_update_self _ ho (Obj.isFreed_of_dict (Obj.data_mapDict hd _)),
      hc.mapDict _, Obj.data_mapDict hd _, ?_, ?_, ?_⟩ (Heap.SameBut.update ..))))))
    · rw [e0]
      have := modify_map_putV (w := w) k v hn hj
      rw [← he] at this
      obtain ⟨l⟩ := es
      simpa using this
    · rw [e0]
      intro x hx
      obtain ⟨y, hy, rfl⟩ := List.mem_map.mp hx
      unfold putV
      split <;> exact (his y hy).keeps ho hd (Heap.SameBut.update ..)
    · rw [e0]
      rw [keys_map_putV]; exact hn
theorem contains_v {Q : Bool → Shared → Prop} (hu : A.in1.units + 8 < cLine) (hkey : KeyIs s.heap k key) (hd : (d == sysModules) = false) (hm : DictV w s.heap d xs)
    (h : Q (atV xs k).isSome { s with toks := s.toks + k.draws }) : wpAny (model prog w) A (contains (.ref d) key) Q E s := by
  refine wpAny_contains_slot hm.typeIs F.slot_dict_contains ?_
  refine call_meetsIn F.slot_dict_contains hm.typeIs F.entry_dict_contains (F.args_dict_contains_2 _ _) (S := fun A' R s' => A' = A ∧ s' = s ∧ R (.ok (.ret (.bool (atV xs k).isSome))) { s with toks := s.toks + k.draws }) (fun A' R s' hS => ?_) ⟨rfl, rfl, wpAny_truthy_bool h⟩
  obtain ⟨rfl, rfl, hq⟩ := hS
  show wpAny _ _ (dictGet d key >>= _) _ _ _
  refine wpAny_bind (dictGet_v hu hkey hm ?_)
  cases hf : atV xs k with
  | some p =>
    rw [hf] at hq
    show wpAny _ _ (ret (.bool true)) _ _ _
    exact wpAny_pure hq
  | none =>
    rw [hf] at hq
    show wpAny _ _ (Builtin.Dict.pendingKey? d key >>= _) _ _ _
    exact wpAny_bind (wpAny_pendingKey_other hd (wpAny_pure hq))
theorem in_v {Q : Value → Shared → Prop} (hu : A.in1.units + 8 < cLine) (hkey : KeyIs s.heap k key) (hd : (d == sysModules) = false) (hm : DictV w s.heap d xs)
    (h : Q (.bool (atV xs k).isSome) { s with toks := s.toks + k.draws }) : wpAny (model prog w) A (compareOp .In key (.ref d)) Q E s := by
  show wpAny _ _ (do return .bool (← contains (.ref d) key)) Q E s
  exact wpAny_bind (contains_v hu hkey hd hm (wpAny_pure h))
theorem notIn_v {Q : Value → Shared → Prop} (hu : A.in1.units + 8 < cLine) (hkey : KeyIs s.heap k key) (hd : (d == sysModules) = false) (hm : DictV w s.heap d xs)
    (h : Q (.bool (!(atV xs k).isSome)) { s with toks := s.toks + k.draws }) : wpAny (model prog w) A (compareOp .NotIn key (.ref d)) Q E s := by
  show wpAny _ _ (do return .bool (!(← contains (.ref d) key))) Q E s
  exact wpAny_bind (contains_v hu hkey hd hm (wpAny_pure h))
theorem getItem_v {v : Value} {Q : Value → Shared → Prop} (hu : A.in1.units + 8 < cLine) (hkey : KeyIs s.heap k key) (hm : DictV w s.heap d xs) (hp : atV xs k = some v)
    (h : Q v { s with toks := s.toks + k.draws }) : wpAny (model prog w) A (getItem (.ref d) key) Q E s := by
  unfold getItem
  try with_reducible refine wpAny_holding ?_
  refine wpAny_bind (wpAny_sequenceKey hm.typeIs (by decide) ?_)
  refine wpAny_bind (wpAny_callSpecial?_slot (name := Str.ofString "__getitem__") hm.typeIs slot_dict_getitem
    (wpAny_call_entry slot_dict_getitem hm.typeIs entry_dict_getitem ?_ (args_dict_getitem _ _)))
  show wpAny _ _ (dictGet d key >>= _) _ _ s
  refine wpAny_bind (dictGet_v hu hkey hm ?_)
  rw [hp]
  exact wpAny_pure ⟨v, rfl, wpAny_pure h⟩
theorem setItem_v {v : Value} {Q : Unit → Shared → Prop} (hu : A.in1.units + 8 < cLine) (hkey : KeyIs s.heap k key) (hm : DictV w s.heap d xs)
    (hQ : ∀ h', DictV w h' d (storedV xs k key v) → Heap.SameBut d s.heap h' → Q () { s with heap := h', toks := s.toks + k.draws })
    (hsz : xs.length ≤ sizeLine := by size_fits) :
    wpAny (model prog w) A (setItem (.ref d) key v) Q E s := by
  unfold setItem
  try with_reducible refine wpAny_holding ?_
  refine wpAny_bind (wpAny_sequenceKey hm.typeIs (by decide) ?_)
  refine wpAny_bind (wpAny_callSpecial?_slot (name := Str.ofString "__setitem__") hm.typeIs slot_dict_setitem
    (wpAny_call_entry slot_dict_setitem hm.typeIs entry_dict_setitem ?_ (args_dict_setitem _ _ _)))
  show wpAny _ _ (Builtin.Dict.notOrdered "__setitem__" ⟨[.ref d, key, v], []⟩ >>= _) _ _ s
  refine wpAny_bind (wpAny_notOrdered_dict hm.typeIs ?_)
  show wpAny _ _ (dictSet d key v >>= _) _ _ s
  exact wpAny_bind (dictSet_v (hsz := hsz) hu hkey hm fun h' hm' hs' => wpAny_pure ⟨.none, rfl, wpAny_pure (hQ h' hm' hs')⟩)
theorem get2_v {dflt : Value} {Q : Value → Shared → Prop} (hu : A.in1.units + 8 < cLine) (hkey : KeyIs s.heap k key) (hd : (d == sysModules) = false) (hm : DictV w s.heap d xs)
    (h : Q ((atV xs k).getD dflt) { s with toks := s.toks + k.draws }) : wpAny (model prog w) A (call (.builtin "dict.get") [.ref d, key, dflt]) Q E s := by
  refine call_meetsIn F.slot_dict_get hm.typeIs F.entry_dict_get (F.args_dict_get_3 _ _ _) (S := fun A' R s' => A' = A ∧ s' = s ∧ R (.ok (.ret ((atV xs k).getD dflt))) { s with toks := s.toks + k.draws }) (.of_wp fun A' R s' hS => ?_) ⟨rfl, rfl, h⟩
  obtain ⟨rfl, rfl, hq⟩ := hS
  show wpAny _ _ (dictGet d key >>= _) _ _ _
  refine wpAny_bind (dictGet_v hu hkey hm ?_)
  cases hf : atV xs k with
  | some v =>
    rw [hf] at hq
    exact wpAny_pure ⟨v, rfl, hq⟩
  | none =>
    rw [hf] at hq
    show wpAny _ _ (Builtin.Dict.missed d key >>= _) _ _ _
    exact wpAny_bind (wpAny_missed_other hd (wpAny_pure ⟨dflt, rfl, hq⟩))
theorem DictV.new (h : Heap) : DictV w (h.push { cls := .type "dict", data := .dict #[] }) h.objs.size [] :=
  ⟨_, #[], 0, Heap.get?_push_size _ rfl, ⟨rfl, rfl, rfl⟩, rfl, rfl, fun _ hx => by simp at hx, List.nodup_nil⟩
/-- {k: v}, one entry -/
theorem Dict1_v {env : Env} {ke ve : Expr} {pos : Pos} {Q : Value → Shared → Prop} (hu : A.units + 8 < cLine)
    (h : wpAny (model prog w) A (evalPairs (pairTrees [some ke] [ve] env pos)) (fun vs s₁ => ∃ key v k, vs = [(key, v)] ∧ KeyIs s₁.heap k key ∧ DictV w s₁.heap s.heap.objs.size [] ∧
      ∀ h' tk, DictV w h' s.heap.objs.size [(k, key, v)] → Heap.SameBut s.heap.objs.size s₁.heap h' → Q (.ref s.heap.objs.size) { s₁ with heap := h', toks := tk }) E
      { s with heap := s.heap.push { cls := .type "dict", data := .dict #[] } }) :
    wpAny (model prog w) A (eval (.Dict [some ke] [ve] pos) env) Q E s := by
  have hn := pairTrees_length [some ke] [ve] env pos rfl rfl
  have h0 : pairTrees [some ke] [ve] env pos ≠ [] := by
    intro he
    rw [he] at hn
    cases hn
  rw [arm_eval_Dict, zip_pairTrees [some ke] [ve] env pos rfl rfl, dictDisplay_pairs (pairTrees [some ke] [ve] env pos) h0 (by rw [hn]; simp)]
  refine wpAny_bind (wpAny_standAt (wpAny_bind ?_))
  unfold subDict
  refine wpAny_bind (wpAny_alloc ?_)
  refine wpAny_bind (wpAny_holding ?_)
  rw [if_pos (by rw [hn]; simp)]
  refine wpAny_bind (wpAny_mono h (fun vs s₁ h₁ => ?_) fun _ _ e => e)
  obtain ⟨key, v, k, rfl, hk, hm, hQ⟩ := h₁
  refine wpAny_holding ?_
  refine wpAny_bind ?_
  rw [List.forIn_cons]
  refine wpAny_bind (wpAny_bind (dictSet_v (hsz := by rw [List.length_nil, sizeLine_eq]; omega) hu hk hm fun h' hm' hs' => wpAny_pure ?_))
  dsimp only
  rw [List.forIn_nil]
  exact wpAny_pure (wpAny_pure (wpAny_pure (wpAny_pure (hQ h' _ hm' hs'))))
end
end PySem

set_option Elab.async false
set_option linter.all false
set_option maxRecDepth 100000
/-! Z0: a value layer over the hand layer: data as trees, own lists as cells, what a piece of syntax computes as a plain function. -/
namespace ZZ
open PySem PySem.Spec L2

inductive D where
  | non | bl (b : Bool) | int (i : Int) | str (s : Str)
  | tup (xs : List D) | lst (xs : List D)
  | ins (c : Nat) (xs : List D)
  | wl (xs : List D)
  | dct (ks vs : List D)
mutual
/-- a tree as a dict's key -/
def nk : D → Option NestedKey
  | .non => some .none
  | .bl b => some (.num (if b = true then 1 else 0))
  | .int i => some (.num i)
  | .str s => some (.text s)
  | .tup ds => (nks ds).map .tup
  | .lst _ => none
  | .ins _ _ => none
  | .wl _ => none
  | .dct _ _ => none
def nks : List D → Option (List NestedKey)
  | [] => some []
  | d :: ds => match nk d, nks ds with
    | some k, some ks => some (k :: ks)
    | _, _ => none
end

/-- a class's address; the exception that a suite holds -/
structure Zx where
  K : PySem.W.Frag
  cl : Nat → Addr
  fl : Nat → List Str
  wd : World
/-- the dict at a has these entries -/
def rawV (w : World) (a : Addr) (xs : List (NestedKey × Value × Value)) (ep : Nat) (h : Heap) : Prop := ∃ o es, h.get? a = some o ∧ o.ExactDict ∧ o.data = .dict es ep ∧ es.toList = xs.map (entV w)
/-- keys, values, entries -/
def Ent3 : List D → List V → List V → List (NestedKey × Value × Value) → Prop
  | [], [], [], [] => True
  | k :: ks, x :: kvs, y :: vvs, e :: xs => nk k = some e.1 ∧ e.1.depth ≤ 8 ∧ notText e.1 = true ∧ RelV x e.2.1 ∧ RelV y e.2.2 ∧ Ent3 ks kvs vvs xs
  | _, _, _, _ => False
/-- a dict's shape -/
def DShape (w : World) (ks : List D) (kvs vvs : List V) (a : Addr) (o : HO) : Prop := (a == sysModules) = false ∧ ks.length ≤ 16777216 ∧ ∃ xs ep, o = .ext (rawV w a xs ep) ∧ Ent3 ks kvs vvs xs ∧ (xs.map (·.1)).Nodup
structure Zy extends Zx where
  hd : Option (Addr × Nat × Option Addr)

mutual
def Rep (Z : Zx) (F : Hp) : D → V → Prop
  | .non, v => v = .non
  | .bl b, v => v = .bl b
  | .int i, v => v = .int i
  | .str s, v => v = .str s
  | .tup ds, v => ∃ a vs, v = .ref a ∧ SqT Z.K F a vs ∧ Reps Z F ds vs
  | .lst ds, v => ∃ a vs, v = .ref a ∧ F a = some (.lst vs) ∧ Reps Z F ds vs
  | .ins c ds, v => ∃ a dx fs, v = .ref a ∧ F a = some (.ins (Z.cl c) dx fs) ∧ fs.map (·.1) = Z.fl c ∧ Reps Z F ds (fs.map (·.2))
  | .wl ds, v => ∃ a vs, v = .ref a ∧ SqL Z.K F a vs ∧ Reps Z F ds vs
  | .dct ks vs, v => ∃ a o kvs vvs, v = .ref a ∧ F a = some o ∧ DShape Z.wd ks kvs vvs a o ∧ Reps Z F ks kvs ∧ Reps Z F vs vvs
def Reps (Z : Zx) (F : Hp) : List D → List V → Prop
  | [], vs => vs = []
  | d :: ds, vs => ∃ v r, vs = v :: r ∧ Rep Z F d v ∧ Reps Z F ds r
end

theorem same_seqT {K : PySem.W.Frag} {H H' : Hp} {a : Addr} {xs : List V} (e : Same H H') (h : SqT K H a xs) : SqT K H' a xs := by
  rcases h with (h | ⟨o, h⟩) | h
  · exact .inl (.inl (e _ _ h))
  · exact .inl (.inr ⟨o, e _ _ h⟩)
  · exact .inr h
section
variable {Z : Zx} {F F' : Hp}
mutual
theorem Rep.mono (e : Same F F') : ∀ {d : D} {v : V}, Rep Z F d v → Rep Z F' d v
  | .non, _, h => h
  | .bl _, _, h => h
  | .int _, _, h => h
  | .str _, _, h => h
  | .tup ds, v, h => by
    unfold Rep at h ⊢
    obtain ⟨a, vs, h1, h2, h3⟩ := h
    exact ⟨a, vs, h1, same_seqT e h2, Reps.mono e h3⟩
  | .lst ds, v, h => by
    unfold Rep at h ⊢
    obtain ⟨a, vs, h1, h2, h3⟩ := h
    exact ⟨a, vs, h1, e _ _ h2, Reps.mono e h3⟩
  | .ins c ds, v, h => by
    unfold Rep at h ⊢
    obtain ⟨a, dx, fs, h1, h2, h3, h4⟩ := h
    exact ⟨a, dx, fs, h1, e _ _ h2, h3, Reps.mono e h4⟩
  | .wl ds, v, h => by
    unfold Rep at h ⊢
    obtain ⟨a, vs, h1, h2, h3⟩ := h
    exact ⟨a, vs, h1, e.seq h2, Reps.mono e h3⟩
  | .dct ks vs, v, h => by
    unfold Rep at h ⊢
    obtain ⟨a, o, kvs, vvs, h1, h2, h3, h4, h5⟩ := h
    exact ⟨a, o, kvs, vvs, h1, e _ _ h2, h3, Reps.mono e h4, Reps.mono e h5⟩
theorem Reps.mono (e : Same F F') : ∀ {ds : List D} {vs : List V}, Reps Z F ds vs → Reps Z F' ds vs
  | [], _, h => h
  | d :: ds, vs, h => by
    unfold Reps at h ⊢
    obtain ⟨v, r, h1, h2, h3⟩ := h
    exact ⟨v, r, h1, Rep.mono e h2, Reps.mono e h3⟩
end
theorem reps_nil : Reps Z F [] [] := by unfold Reps; rfl
theorem reps_cons {d : D} {v : V} {ds : List D} {vs : List V} (h : Rep Z F d v) (h' : Reps Z F ds vs) : Reps Z F (d :: ds) (v :: vs) := by
  unfold Reps
  exact ⟨v, vs, rfl, h, h'⟩
theorem reps_cons_inv {d : D} {ds : List D} {vs : List V} (h : Reps Z F (d :: ds) vs) : ∃ v r, vs = v :: r ∧ Rep Z F d v ∧ Reps Z F ds r := by
  unfold Reps at h
  exact h
theorem reps_nil_inv {vs : List V} (h : Reps Z F [] vs) : vs = [] := by
  unfold Reps at h
  exact h
theorem Reps.length : ∀ {ds : List D} {vs : List V}, Reps Z F ds vs → ds.length = vs.length
  | [], _, h => by
    rw [reps_nil_inv h]
    rfl
  | d :: ds, vs, h => by
    obtain ⟨v, r, rfl, _, h3⟩ := reps_cons_inv h
    simp [Reps.length h3]
theorem Reps.get : ∀ {ds : List D} {vs : List V} {i : Nat} {v : V}, Reps Z F ds vs → vs[i]? = some v → ∃ d, ds[i]? = some d ∧ Rep Z F d v
  | [], _, i, v, h, e => by
    rw [reps_nil_inv h] at e
    simp at e
  | d :: ds, vs, 0, v, h, e => by
    obtain ⟨w, r, rfl, h2, h3⟩ := reps_cons_inv h
    simp at e
    subst e
    exact ⟨d, rfl, h2⟩
  | d :: ds, vs, i + 1, v, h, e => by
    obtain ⟨w, r, rfl, h2, h3⟩ := reps_cons_inv h
    obtain ⟨d', e1, e2⟩ := Reps.get (i := i) h3 (by simpa using e)
    exact ⟨d', by simpa using e1, e2⟩
theorem Reps.get' : ∀ {ds : List D} {vs : List V} {i : Nat} {d : D}, Reps Z F ds vs → ds[i]? = some d → ∃ v, vs[i]? = some v ∧ Rep Z F d v
  | [], _, i, v, h, e => by simp at e
  | d :: ds, vs, 0, v, h, e => by
    obtain ⟨w, r, rfl, h2, h3⟩ := reps_cons_inv h
    simp at e
    subst e
    exact ⟨w, rfl, h2⟩
  | d :: ds, vs, i + 1, v, h, e => by
    obtain ⟨w, r, rfl, h2, h3⟩ := reps_cons_inv h
    obtain ⟨d', e1, e2⟩ := Reps.get' (i := i) h3 (by simpa using e)
    exact ⟨d', by simpa using e1, e2⟩
theorem Reps.append : ∀ {ds es : List D} {vs ws : List V}, Reps Z F ds vs → Reps Z F es ws → Reps Z F (ds ++ es) (vs ++ ws)
  | [], es, vs, ws, h, h' => by
    rw [reps_nil_inv h]
    exact h'
  | d :: ds, es, vs, ws, h, h' => by
    obtain ⟨v, r, rfl, h2, h3⟩ := reps_cons_inv h
    exact reps_cons h2 (Reps.append h3 h')
theorem Reps.take : ∀ {ds : List D} {vs : List V} (n : Nat), Reps Z F ds vs → Reps Z F (ds.take n) (vs.take n)
  | _, _, 0, _ => by simp [reps_nil]
  | [], vs, n + 1, h => by
    rw [reps_nil_inv h]
    simp [reps_nil]
  | d :: ds, vs, n + 1, h => by
    obtain ⟨v, r, rfl, h2, h3⟩ := reps_cons_inv h
    exact reps_cons h2 (Reps.take n h3)
theorem Reps.drop : ∀ {ds : List D} {vs : List V} (n : Nat), Reps Z F ds vs → Reps Z F (ds.drop n) (vs.drop n)
  | _, _, 0, h => by simpa using h
  | [], vs, n + 1, h => by
    rw [reps_nil_inv h]
    simp [reps_nil]
  | d :: ds, vs, n + 1, h => by
    obtain ⟨v, r, rfl, h2, h3⟩ := reps_cons_inv h
    simpa using Reps.drop n h3
theorem Reps.reverse : ∀ {ds : List D} {vs : List V}, Reps Z F ds vs → Reps Z F ds.reverse vs.reverse
  | [], vs, h => by
    rw [reps_nil_inv h]
    simp [reps_nil]
  | d :: ds, vs, h => by
    obtain ⟨v, r, rfl, h2, h3⟩ := reps_cons_inv h
    rw [List.reverse_cons, List.reverse_cons]
    exact Reps.append (Reps.reverse h3) (reps_cons h2 reps_nil)
theorem Reps.set : ∀ {ds : List D} {vs : List V} {d : D} {v : V} (i : Nat), Reps Z F ds vs → Rep Z F d v → Reps Z F (ds.set i d) (vs.set i v)
  | [], vs, _, _, i, h, _ => by
    rw [reps_nil_inv h]
    simp [reps_nil]
  | d :: ds, vs, _, _, 0, h, h' => by
    obtain ⟨v, r, rfl, h2, h3⟩ := reps_cons_inv h
    exact reps_cons h' h3
  | d :: ds, vs, _, _, i + 1, h, h' => by
    obtain ⟨v, r, rfl, h2, h3⟩ := reps_cons_inv h
    exact reps_cons h2 (Reps.set i h3 h')
theorem Reps.eraseIdx : ∀ {ds : List D} {vs : List V} (i : Nat), Reps Z F ds vs → Reps Z F (ds.eraseIdx i) (vs.eraseIdx i)
  | [], vs, i, h => by
    rw [reps_nil_inv h]
    simp [reps_nil]
  | d :: ds, vs, 0, h => by
    obtain ⟨v, r, rfl, h2, h3⟩ := reps_cons_inv h
    simpa using h3
  | d :: ds, vs, i + 1, h => by
    obtain ⟨v, r, rfl, h2, h3⟩ := reps_cons_inv h
    simpa using reps_cons h2 (Reps.eraseIdx i h3)
end

/-! ### values: a tree, a cell, the exception in hand -/
inductive Val where
  | im (d : D) | cell (k : Nat) | exn (c : Nat) (ds : List D)
inductive Cell where
  | dead | lst (ds : List D) | ins (c : Nat) (ds : List D) | ptr (ks : List Nat) | dct (ks vs : List D)
def ExcOk (Z : Zx) (F : Hp) (c : Nat) (ds : List D) (dx : Option Addr) : Prop :=
  (ds = [] ∧ dx = none) ∨ ∃ d fs, dx = some d ∧ F d = some (.xd fs) ∧ fs.map (·.1) = Z.fl c ∧ Reps Z F ds (fs.map (·.2))
def VRep (Z : Zy) (A : List Addr) (F : Hp) : Val → V → Prop
  | .im d, v => Rep Z.toZx F d v
  | .cell k, v => ∃ a, A[k]? = some a ∧ v = .ref a
  | .exn c ds, v => ∃ a dx, Z.hd = some (a, c, dx) ∧ v = .ref a ∧ ExcOk Z.toZx F c ds dx
/-- the cells ks stand at bs, all below k -/
def PtrL (A : List Addr) (k : Nat) : List Nat → List Addr → Prop
  | [], bs => bs = []
  | j :: js, bs => ∃ b t, bs = b :: t ∧ j < k ∧ A[j]? = some b ∧ PtrL A k js t
def CellOk (Z : Zx) (A : List Addr) (F H : Hp) (a : Addr) : Cell → Prop
  | .dead => ∃ o, H a = some o
  | .lst ds => F a = none ∧ ∃ vs, H a = some (.lst vs) ∧ Reps Z F ds vs
  | .ins c ds => F a = none ∧ ∃ dx fs, H a = some (.ins (Z.cl c) dx fs) ∧ fs.map (·.1) = (Z.fl c).take ds.length ∧ Reps Z F ds (fs.map (·.2))
  | .ptr ks => F a = none ∧ ∃ k bs, A[k]? = some a ∧ H a = some (.lst (bs.map V.ref)) ∧ PtrL A k ks bs
  | .dct ks vs => F a = none ∧ ∃ o kvs vvs, H a = some o ∧ DShape Z.wd ks kvs vvs a o ∧ Reps Z F ks kvs ∧ Reps Z F vs vvs
/-- the store: F what never changes any more, A the cells' addresses -/
structure SO (Z : Zx) (A : List Addr) (F : Hp) (ce : List Cell) (H : Hp) : Prop where
  sub : Same F H
  len : A.length = ce.length
  nd : A.Nodup
  ok : ∀ (k : Nat) (a : Addr) (c : Cell), A[k]? = some a → ce[k]? = some c → CellOk Z A F H a c
abbrev Sl : Type := List (Option Val)
structure SL (Z : Zy) (A : List Addr) (F : Hp) (sl : Sl) (σ : St) : Prop where
  len : sl.length = σ.length
  is : ∀ (i : Nat) (v : Val), sl[i]? = some (some v) → ∃ x, σ[i]? = some (some x) ∧ VRep Z A F v x

section
variable {Z : Zx} {A A' : List Addr} {F F' H : Hp} {ce : List Cell} {sl : Sl} {σ : St}
theorem ExcOk.mono {c ds dx} (e : Same F F') (h : ExcOk Z F c ds dx) : ExcOk Z F' c ds dx := by
  rcases h with h | ⟨d, fs, h1, h2, h3, h4⟩
  · exact .inl h
  · exact .inr ⟨d, fs, h1, e _ _ h2, h3, h4.mono e⟩
theorem pre_get {k : Nat} {a : Addr} (p : A <+: A') (h : A[k]? = some a) : A'[k]? = some a := by
  obtain ⟨t, rfl⟩ := p
  have := (List.getElem?_eq_some_iff.mp h).1
  rw [List.getElem?_append_left this]
  exact h
theorem VRep.mono {Z : Zy} {v : Val} {x : V} (p : A <+: A') (e : Same F F') (h : VRep Z A F v x) : VRep Z A' F' v x := by
  cases v with
  | im d => exact Rep.mono e h
  | cell k =>
    obtain ⟨a, h1, h2⟩ := h
    exact ⟨a, pre_get p h1, h2⟩
  | exn c ds =>
    obtain ⟨a, dx, h1, h2, h3⟩ := h
    exact ⟨a, dx, h1, h2, h3.mono e⟩
theorem SL.mono {Z : Zy} (p : A <+: A') (e : Same F F') (h : SL Z A F sl σ) : SL Z A' F' sl σ :=
  ⟨h.len, fun i v q => let ⟨x, h1, h2⟩ := h.is i v q; ⟨x, h1, h2.mono p e⟩⟩
theorem SL.set {Z : Zy} {i : Nat} {v : Val} {x : V} (h : SL Z A F sl σ) (hv : VRep Z A F v x) : SL Z A F (sl.set i (some v)) (σ.set i (some x)) := by
  refine ⟨by simp [h.len], fun j w q => ?_⟩
  by_cases hj : i = j
  · subst hj
    by_cases hl : i < sl.length
    · rw [List.getElem?_set_self hl] at q
      cases q
      refine ⟨x, ?_, hv⟩
      rw [List.getElem?_set_self (by rw [← h.len]; exact hl)]
    · rw [List.getElem?_eq_none (by simpa using hl)] at q
      cases q
  · rw [List.getElem?_set_ne hj] at q
    obtain ⟨y, h1, h2⟩ := h.is j w q
    exact ⟨y, by rw [List.getElem?_set_ne hj]; exact h1, h2⟩
/-- a slot forgotten by the value layer -/
theorem SL.forget {Z : Zy} {i : Nat} (h : SL Z A F sl σ) : SL Z A F (sl.set i none) σ := by
  refine ⟨by simp [h.len], fun j w q => ?_⟩
  by_cases hj : i = j
  · subst hj
    by_cases hl : i < sl.length
    · rw [List.getElem?_set_self hl] at q
      cases q
    · rw [List.getElem?_eq_none (by simpa using hl)] at q
      cases q
  · rw [List.getElem?_set_ne hj] at q
    exact h.is j w q
theorem SL.gone {Z : Zy} {i : Nat} (h : SL Z A F sl σ) : SL Z A F (sl.set i none) (σ.set i none) := by
  refine ⟨by simp [h.len], fun j w q => ?_⟩
  by_cases hj : i = j
  · subst hj
    by_cases hl : i < sl.length
    · rw [List.getElem?_set_self hl] at q
      cases q
    · rw [List.getElem?_eq_none (by simpa using hl)] at q
      cases q
  · rw [List.getElem?_set_ne hj] at q
    rw [List.getElem?_set_ne hj]
    exact h.is j w q
theorem SO.tracked (s : SO Z A F ce H) {k : Nat} {a : Addr} (h : A[k]? = some a) : ∃ o, H a = some o := by
  have hl : k < ce.length := by rw [← s.len]; exact (List.getElem?_eq_some_iff.mp h).1
  have := s.ok k a ce[k] h (List.getElem?_eq_getElem hl)
  cases hc : ce[k] with
  | dead => rw [hc] at this; exact this
  | lst ds => rw [hc] at this; obtain ⟨_, vs, h1, _⟩ := this; exact ⟨_, h1⟩
  | ins c ds => rw [hc] at this; obtain ⟨_, dx, fs, h1, _⟩ := this; exact ⟨_, h1⟩
  | ptr ks => rw [hc] at this; obtain ⟨_, k, bs, _, h1, _⟩ := this; exact ⟨_, h1⟩
  | dct ks vs => rw [hc] at this; obtain ⟨_, o, kvs, vvs, h1, _⟩ := this; exact ⟨_, h1⟩
theorem PtrL.mono {k : Nat} (p : A <+: A') : ∀ {ks : List Nat} {bs : List Addr}, PtrL A k ks bs → PtrL A' k ks bs
  | [], bs, h => h
  | j :: js, bs, ⟨b, t, e, h1, h2, h3⟩ => ⟨b, t, e, h1, pre_get p h2, PtrL.mono p h3⟩
theorem SO.fnone (s : SO Z A F ce H) {p : Addr} (hp : H p = none) : F p = none := by
  cases e : F p with
  | none => rfl
  | some o => rw [s.sub _ _ e] at hp; cases hp
theorem same_up {p : Addr} {o : HO} (h : F p = none) : Same F (upd F p o) := fun b x e => by
  rw [upd_ne (ne_of_none e h)]
  exact e
theorem CellOk.mono {a : Addr} {c : Cell} {H' : Hp} (p : A <+: A') (e : Same F F') (h : CellOk Z A F H a c) (hH : H' a = H a) (hF : F a = none → F' a = none) : CellOk Z A' F' H' a c := by
  cases c with
  | dead => obtain ⟨o, h⟩ := h; exact ⟨o, by rw [hH]; exact h⟩
  | lst ds => obtain ⟨h0, vs, h1, h2⟩ := h; exact ⟨hF h0, vs, by rw [hH]; exact h1, h2.mono e⟩
  | ins c ds => obtain ⟨h0, dx, fs, h1, h2, h3⟩ := h; exact ⟨hF h0, dx, fs, by rw [hH]; exact h1, h2, h3.mono e⟩
  | ptr ks => obtain ⟨h0, k, bs, h1, h2, h3⟩ := h; exact ⟨hF h0, k, bs, pre_get p h1, by rw [hH]; exact h2, h3.mono p⟩
  | dct ks vs => obtain ⟨h0, o, kvs, vvs, h1, h2, h3, h4⟩ := h; exact ⟨hF h0, o, kvs, vvs, by rw [hH]; exact h1, h2, h3.mono e, h4.mono e⟩
theorem SO.new (s : SO Z A F ce H) {p : Addr} {o : HO} (hp : H p = none) : SO Z A (upd F p o) ce (upd H p o) := by
  have fp := s.fnone hp
  refine ⟨fun b x e => ?_, s.len, s.nd, fun k a c h1 h2 => ?_⟩
  · by_cases hb : b = p
    · subst hb
      rw [upd_same] at e ⊢
      exact e
    · rw [upd_ne hb] at e ⊢
      exact s.sub _ _ e
  · obtain ⟨u, hu⟩ := s.tracked h1
    have hne : a ≠ p := ne_of_none hu hp
    exact (s.ok k a c h1 h2).mono (List.prefix_refl _) (same_up fp) (upd_ne hne) (fun h => by rw [upd_ne hne]; exact h)
theorem SO.newCell (s : SO Z A F ce H) {p : Addr} {o : HO} {c : Cell} (hp : H p = none) (hc : CellOk Z (A ++ [p]) F (upd H p o) p c) : SO Z (A ++ [p]) F (ce ++ [c]) (upd H p o) := by
  refine ⟨fun b x e => ?_, by simp [s.len], ?_, fun k a d h1 h2 => ?_⟩
  · rw [upd_ne (ne_of_none (s.sub _ _ e) hp)]
    exact s.sub _ _ e
  · refine List.nodup_append.mpr ⟨s.nd, by simp, fun a ha b hb e => ?_⟩
    simp at hb
    subst hb
    subst e
    obtain ⟨k, hk⟩ := List.getElem?_of_mem ha
    obtain ⟨u, hu⟩ := s.tracked hk
    rw [hp] at hu
    cases hu
  · by_cases hk : k < A.length
    · rw [List.getElem?_append_left hk] at h1
      rw [List.getElem?_append_left (by rw [← s.len]; exact hk)] at h2
      obtain ⟨u, hu⟩ := s.tracked h1
      exact (s.ok k a d h1 h2).mono (List.prefix_append _ _) (Same.refl _) (upd_ne (ne_of_none hu hp)) id
    · rw [List.getElem?_append_right (by omega)] at h1
      rw [List.getElem?_append_right (by rw [← s.len]; omega), ← s.len] at h2
      have : k - A.length = 0 := by
        have := (List.getElem?_eq_some_iff.mp h1).1
        simp at this
        omega
      rw [this] at h1 h2
      simp at h1 h2
      subst h1 h2
      exact hc
theorem SO.write (s : SO Z A F ce H) {k : Nat} {a : Addr} {o : HO} {c : Cell} (hk : A[k]? = some a) (hf : F a = none) (hc : CellOk Z A F (upd H a o) a c) : SO Z A F (ce.set k c) (upd H a o) := by
  refine ⟨fun b x e => ?_, by simp [s.len], s.nd, fun j b d h1 h2 => ?_⟩
  · rw [upd_ne (ne_of_none e hf)]
    exact s.sub _ _ e
  · by_cases hj : k = j
    · subst hj
      rw [hk] at h1
      cases h1
      have hl : k < ce.length := by rw [← s.len]; exact (List.getElem?_eq_some_iff.mp hk).1
      rw [List.getElem?_set_self hl] at h2
      cases h2
      exact hc
    · rw [List.getElem?_set_ne hj] at h2
      have hne : b ≠ a := fun e => by
        subst e
        exact hj ((List.getElem?_inj (List.getElem?_eq_some_iff.mp hk).1 s.nd).mp (hk.trans h1.symm))
      exact (s.ok j b d h1 h2).mono (List.prefix_refl _) (Same.refl _) (upd_ne hne) id
theorem SO.freeze (s : SO Z A F ce H) {k : Nat} {a : Addr} {o : HO} (hk : A[k]? = some a) (hf : F a = none) (ho : H a = some o) : SO Z A (upd F a o) (ce.set k .dead) H := by
  refine ⟨fun b x e => ?_, by simp [s.len], s.nd, fun j b d h1 h2 => ?_⟩
  · by_cases hb : b = a
    · subst hb
      rw [upd_same] at e
      cases e
      exact ho
    · rw [upd_ne hb] at e
      exact s.sub _ _ e
  · by_cases hj : k = j
    · subst hj
      rw [hk] at h1
      cases h1
      have hl : k < ce.length := by rw [← s.len]; exact (List.getElem?_eq_some_iff.mp hk).1
      rw [List.getElem?_set_self hl] at h2
      cases h2
      exact ⟨o, ho⟩
    · rw [List.getElem?_set_ne hj] at h2
      have hne : b ≠ a := fun e => by
        subst e
        exact hj ((List.getElem?_inj (List.getElem?_eq_some_iff.mp hk).1 s.nd).mp (hk.trans h1.symm))
      exact (s.ok j b d h1 h2).mono (List.prefix_refl _) (same_up hf) rfl (fun h => by rw [upd_ne hne]; exact h)
end

/-! ### what an expression computes -/
inductive EOut where
  | ok (v : Val) (ce : List Cell) | exc (c : Nat) (ds : List D) (ce : List Cell) | stuck
abbrev DE := Sl → List Cell → EOut
def PostE (Z : Zy) (A : List Addr) (F : Hp) (W : WX) (σ : St) (Q : VK) : EOut → Prop
  | .ok v ce => ∀ A' F' H' x, A <+: A' → Same F F' → SO Z.toZx A' F' ce H' → VRep Z A' F' v x → Q x H'
  | .exc c ds ce => ∀ A' F' H' dx, A <+: A' → Same F F' → SO Z.toZx A' F' ce H' → ExcOk Z.toZx F' c ds dx → W (.ref (Z.cl c)) dx σ H'
  | .stuck => False
def tE (Z : Zy) (W : WX) (f : DE) : TE := fun σ H Q => ∃ A F sl ce, SO Z.toZx A F ce H ∧ SL Z A F sl σ ∧ PostE Z A F W σ Q (f sl ce)
def eBind (f : DE) (k : Val → DE) : DE := fun sl ce => match f sl ce with
  | .ok v ce' => k v sl ce'
  | .exc c ds ce' => .exc c ds ce'
  | .stuck => .stuck
section
variable {Z : Zy} {A A' : List Addr} {F F' H : Hp} {ce : List Cell} {sl : Sl} {σ : St} {W : WX} {Q Q' : VK}
theorem PostE.mono {r : EOut} (p : A <+: A') (e : Same F F') (h : PostE Z A F W σ Q r) : PostE Z A' F' W σ Q r := by
  cases r with
  | ok v ce => exact fun A2 F2 H2 x p2 e2 => h A2 F2 H2 x (p.trans p2) (e.trans e2)
  | exc c ds ce => exact fun A2 F2 H2 x p2 e2 => h A2 F2 H2 x (p.trans p2) (e.trans e2)
  | stuck => exact h
theorem PostE.imp {r : EOut} (hq : ∀ x H, Q x H → Q' x H) (h : PostE Z A F W σ Q r) : PostE Z A F W σ Q' r := by
  cases r with
  | ok v ce => exact fun A2 F2 H2 x p2 e2 s r => hq _ _ (h A2 F2 H2 x p2 e2 s r)
  | exc c ds ce => exact h
  | stuck => exact h
/-- the state behind: grown, with the store -/
theorem PostE.bind {f : DE} {k : Val → DE} (so : SO Z.toZx A F ce H) (hs : SL Z A F sl σ) (h : PostE Z A F W σ Q (eBind f k sl ce)) :
    PostE Z A F W σ (fun x H1 => ∃ A1 F1 ce1 v, A <+: A1 ∧ Same F F1 ∧ SO Z.toZx A1 F1 ce1 H1 ∧ VRep Z A1 F1 v x ∧ PostE Z A1 F1 W σ Q (k v sl ce1)) (f sl ce) := by
  unfold eBind at h
  cases e : f sl ce with
  | ok v ce1 =>
    rw [e] at h
    exact fun A1 F1 H1 x p1 e1 s1 r1 => ⟨A1, F1, ce1, v, p1, e1, s1, r1, PostE.mono p1 e1 h⟩
  | exc c ds ce1 =>
    rw [e] at h
    exact h
  | stuck =>
    rw [e] at h
    exact h.elim
theorem tE_imp {f : DE} (hq : ∀ x H, Q x H → Q' x H) (h : tE Z W f σ H Q) : tE Z W f σ H Q' := by
  obtain ⟨A, F, sl, ce, so, hs, p⟩ := h
  exact ⟨A, F, sl, ce, so, hs, p.imp hq⟩
/-- one operand -/
theorem tE1 {f : DE} {k : Val → DE} (h : tE Z W (eBind f k) σ H Q) :
    tE Z W f σ H fun x H1 => ∃ A F sl ce v, SO Z.toZx A F ce H1 ∧ SL Z A F sl σ ∧ VRep Z A F v x ∧ PostE Z A F W σ Q (k v sl ce) := by
  obtain ⟨A, F, sl, ce, so, hs, p⟩ := h
  refine ⟨A, F, sl, ce, so, hs, (PostE.bind so hs p).imp fun x H1 ⟨A1, F1, ce1, v, p1, e1, s1, r1, q1⟩ => ⟨A1, F1, sl, ce1, v, s1, hs.mono p1 e1, r1, q1⟩⟩
/-- two operands -/
theorem tE2 {f g : DE} {k : Val → Val → DE} (h : tE Z W (eBind f fun v => eBind g (k v)) σ H Q) :
    tE Z W f σ H fun x H1 => tE Z W g σ H1 fun y H2 => ∃ A F sl ce v u, SO Z.toZx A F ce H2 ∧ SL Z A F sl σ ∧ VRep Z A F v x ∧ VRep Z A F u y ∧ PostE Z A F W σ Q (k v u sl ce) := by
  refine tE_imp (fun x H1 ⟨A, F, sl, ce, v, so, hs, r, p⟩ => ?_) (tE1 h)
  refine ⟨A, F, sl, ce, so, hs, (PostE.bind so hs p).imp fun y H2 ⟨A1, F1, ce1, u, p1, e1, s1, r1, q1⟩ => ⟨A1, F1, sl, ce1, v, u, s1, hs.mono p1 e1, r.mono p1 e1, r1, q1⟩⟩
end
theorem _root_.L2.PE.weak {X : Cx} {e : Expr} {t t' : TE} (h : PE X e t) (hw : ∀ σ H Q, t' σ H Q → t σ H Q) : PE X e t' :=
  ⟨fun pins s σ H Q I q => h.run pins s σ H Q I (hw σ H Q q)⟩
theorem _root_.L2.PT.weak {X : Cx} {e : Expr} {t t' : TT} (h : PT X e t) (hw : ∀ σ H Q, t' σ H Q → t σ H Q) : PT X e t' :=
  ⟨fun pins s σ H Q I q => h.run pins s σ H Q I (hw σ H Q q)⟩
theorem _root_.L2.PA.weak {X : Cx} {e : List Expr} {t t' : TA} (h : PA X e t) (hw : ∀ σ H Q, t' σ H Q → t σ H Q) : PA X e t' :=
  ⟨fun pos pins s σ H Q I q => h.run pos pins s σ H Q I (hw σ H Q q)⟩
theorem _root_.L2.PS.weak {X : Cx} {e : Stmt} {t t' : TS} (h : PS X e t) (hw : ∀ D σ H, t' D σ H → t D σ H) : PS X e t' :=
  ⟨fun pins s σ H D I q => h.run pins s σ H D I (hw D σ H q)⟩
theorem _root_.L2.PSs.weak {X : Cx} {e : List Stmt} {t t' : TS} (h : PSs X e t) (hw : ∀ D σ H, t' D σ H → t D σ H) : PSs X e t' :=
  ⟨fun pins s σ H D I q => h.run pins s σ H D I (hw D σ H q)⟩
end ZZ

set_option Elab.async false
set_option linter.all false
set_option maxRecDepth 100000
/-! Y1: the head by one kernel run: what is looked at. -/
namespace ZH
open PySem PySem.Spec PyProof.Rows L2 ZZ
abbrev Fr : Type := PySem.W.Frag
theorem ba {a b : Bool} (h : (a && b) = true) : a = true ∧ b = true := Bool.and_eq_true_iff.mp h
/-! ### function objects -/
abbrev FnO : Type := Option (Str × Str × Arguments × FuncBody × Scope × Addr × List (Str × Addr) × Addr)
def fnO (K : Fr) (a : Addr) : FnO := match K.lookup a with
  | some ⟨_, _, .func fd, _⟩ => some (fd.name, fd.qualname, fd.params, fd.body, fd.scope, fd.globals, fd.closure, fd.builtins)
  | _ => none
structure DefZ where
  a : Addr
  name : Str
  qual : Str
  st : Stmt
  cda : Addr
  clo : List (Str × Addr) := []
  dfl : Option Addr := none
  kwd : Option Addr := none
def DefZ.val (d : DefZ) : FnO := some (d.name, d.qual, defArgs d.st, .stmts (defBody d.st), defScope d.st, mainGlobals, d.clo, builtinsNs)
def vO : Option Addr → Value
  | none => .none
  | some a => .ref a
def DefZ.ok (K : Fr) (d : DefZ) : Bool := PySem.W.keepIn K (.ref d.a) && (match K.lookup d.a with
  | some ⟨_, _, .func fd, _⟩ => PySem.W.codeIn K (.ref d.cda) d.qual && (decide (fd.code = .ref d.cda) && (decide (fd.defaults = vO d.dfl) && decide (fd.kwdefaults = vO d.kwd)))
  | _ => false)
/-- what a def's place holds -/
def FnAt (K : Fr) (d : DefZ) : Prop := ∃ oc od doc pm an ct osl, K.lookup d.a = some ⟨oc, od, .func { name := d.name, qualname := d.qual, params := defArgs d.st, body := .stmts (defBody d.st), scope := defScope d.st, globals := mainGlobals, closure := d.clo, defaults := vO d.dfl, kwdefaults := vO d.kwd, doc, pyModule := pm, annotations := an, code := .ref d.cda, closureTuple := ct, builtins := builtinsNs }, osl⟩ ∧ PySem.W.codeIn K (.ref d.cda) d.qual = true ∧ PySem.W.keepIn K (.ref d.a) = true
theorem fn_at {K : Fr} {d : DefZ} (e : fnO K d.a = d.val) (c : d.ok K = true) : FnAt K d := by
  obtain ⟨kp, c2⟩ := ba c
  unfold fnO at e
  cases q : K.lookup d.a with
  | none =>
    rw [q] at c2
    cases c2
  | some o =>
    obtain ⟨oc, od, dt, osl⟩ := o
    rw [q] at c2 e
    cases dt with
    | func fd =>
      obtain ⟨n1, n2, n3, n4, n5, n6, n7, n8, n9, n10, n11, n12, n13, n14, n15⟩ := fd
      have e2 : (some (n1, n2, n3, n4, n5, n6, n7, n15) : FnO) = some (d.name, d.qual, defArgs d.st, .stmts (defBody d.st), defScope d.st, mainGlobals, d.clo, builtinsNs) := e
      simp only [Option.some.injEq, Prod.mk.injEq] at e2
      obtain ⟨h1, h2, h3, h4, h5, h6, h7, h8⟩ := e2
      subst h1 h2 h3 h4 h5 h6 h7 h8
      obtain ⟨c3, c4⟩ := ba (show (PySem.W.codeIn K (.ref d.cda) d.qual && (decide (n13 = .ref d.cda) && (decide (n8 = vO d.dfl) && decide (n9 = vO d.kwd)))) = true from c2)
      obtain ⟨c5, c6⟩ := ba c4
      obtain ⟨c7, c8⟩ := ba c6
      have e5 := of_decide_eq_true c5
      have e7 := of_decide_eq_true c7
      have e8 := of_decide_eq_true c8
      subst e5 e7 e8
      exact ⟨oc, od, n10, n11, n12, n14, osl, q, c3, kp⟩
    | _ => cases c2
/-! ### dicts of the top with text keys -/
def valD : Value → Option D
  | .str s _ => some (.str s)
  | .int i _ => some (.int i)
  | .none => some .non
  | _ => none
abbrev EnO : Type := Option (Str × Int × Option D)
def enO (e : DictEntry) : EnO := match e.key with
  | .str x _ => some (x, e.hash, valD e.val)
  | _ => none
def enV (P : Params) (q : Str × D) : EnO := some (q.1, PyData.keyHash P q.1, some q.2)
def tbO (K : Fr) (a : Addr) : Option (List EnO) := match K.lookup a with
  | some ⟨.type c, none, .dict es _, sl⟩ => (match decide (c = "dict") && (sl.isEmpty && !(a == sysModules)) with
    | true => some (es.toList.map enO)
    | false => none)
  | _ => none
/-! ### the Hook -/
abbrev Tab : Type := Addr × List (Str × D)
abbrev AlZ : Type := Bool × List FnO × List (Option (List EnO))
abbrev Bs : Type := List (List (Fr → Bool))
def obsZ (bs : Bs) (fn : List DefZ) (tb : List Tab) (K : Fr) : AlZ := ((bs.all fun l => l.all fun f => f K) && fn.all fun d => d.ok K, fn.map (fun d => fnO K d.a), tb.map fun t => tbO K t.1)
def valZ (fn : List DefZ) (tb : List Tab) (w : World) : AlZ := (true, fn.map DefZ.val, tb.map fun t => some (t.2.map (enV w.params)))
def SaysZ (bs : Bs) (fn : List DefZ) (tb : List Tab) (w : World) (K : Fr) : Prop := obsZ bs fn tb K = valZ fn tb w
def obsZG (as : List Addr) (bs : Bs) (fn : List DefZ) (tb : List Tab) (g : Addr → Option Obj) : AlZ := obsZ bs fn tb (He.frG g as)
def hookZ (as : List Addr) (bs : Bs) (fn : List DefZ) (tb : List Tab) : PySem.W.Hook where
  α := AlZ
  obs := fun s => obsZG as bs fn tb s.heap.get?
  val := fun w => valZ fn tb w
  says := fun w h => ∃ K : Fr, K.In h ∧ SaysZ bs fn tb w K
  of := fun _ _ e => ⟨_, He.frG_in, e⟩
  keeps := fun _ _ _ ⟨K, hK, c⟩ k => ⟨K, PySem.W.Frag.In.keeps hK k, c⟩
theorem obsZG_eq {as : List Addr} {bs : Bs} {fn : List DefZ} {tb : List Tab} {g : Addr → Option Obj} {s : Shared} (h : ∀ a, g a = s.heap.get? a) : obsZG as bs fn tb g = (hookZ as bs fn tb).obs s := by
  have e : g = s.heap.get? := funext h
  rw [e] <;> rfl
section
variable {bs : Bs} {fn : List DefZ} {tb : List Tab} {w : World} {K : Fr}
theorem SaysZ.fact (c : SaysZ bs fn tb w K) {i j : Nat} {l : List (Fr → Bool)} {f : Fr → Bool} (h1 : bs[i]? = some l) (h2 : l[j]? = some f) : f K = true := by
  have c1 := (ba (show ((bs.all fun l => l.all fun f => f K) && fn.all fun d => d.ok K) = true from congrArg (fun z : AlZ => z.1) c)).1
  exact List.all_eq_true.mp (List.all_eq_true.mp c1 l (List.mem_of_getElem? h1)) f (List.mem_of_getElem? h2)
theorem SaysZ.dec (c : SaysZ bs fn tb w K) {i j : Nat} {l : List (Fr → Bool)} {p : Prop} [Decidable p] {f : Fr → Bool} (h1 : bs[i]? = some l) (h2 : l[j]? = some f) (e : f K = decide p) : p := of_decide_eq_true (e.symm.trans (c.fact h1 h2))
theorem SaysZ.fns (c : SaysZ bs fn tb w K) {i : Nat} {d : DefZ} (h : fn[i]? = some d) : FnAt K d := by
  have c2 := (ba (show ((bs.all fun l => l.all fun f => f K) && fn.all fun d => d.ok K) = true from congrArg (fun z : AlZ => z.1) c)).2
  have e : fn.map (fun d => fnO K d.a) = fn.map DefZ.val := congrArg (fun z : AlZ => z.2.1) c
  have e2 : (fn.map fun d => fnO K d.a)[i]? = (fn.map DefZ.val)[i]? := by rw [e]
  rw [List.getElem?_map, List.getElem?_map, h] at e2
  exact fn_at (Option.some.inj e2) (List.all_eq_true.mp c2 d (List.mem_of_getElem? h))
end
/-- defaults: a tuple of these -/
def relFB : D → Value → Bool
  | .int i, .int j _ => decide (i = j)
  | .str s, .str t _ => decide (s = t)
  | .non, .none => true
  | .bl b, .bool c => b == c
  | _, _ => false
def relFsB : List D → List Value → Bool
  | [], [] => true
  | d :: ds, u :: us => relFB d u && relFsB ds us
  | _, _ => false
/-- the tuple at a -/
def tupB (K : Fr) (a : Addr) (ds : List D) : Bool := match K.lookup a with
  | some ⟨.type c, _, .seq its _, _⟩ => decide (c = "tuple") && (decide (its.size ≤ 1000) && relFsB ds its.toList)
  | _ => false
def dflZ (K : Fr) : Option Addr → List D → Bool
  | none, [] => true
  | some a, d :: ds => tupB K a (d :: ds)
  | _, _ => false
def kwdZ (K : Fr) : Option Addr → List (Str × D) → Bool
  | _, [] => true
  | some a, q :: qs => (q :: qs).all fun q => (match PySem.W.nsIn K a q.1 with
    | some (some u) => relFB q.2 u
    | _ => false)
  | none, _ :: _ => false
/-- in a class's body, with the cell of super -/
def cellB (K : Fr) (cc D : Addr) : Bool := match K.lookup cc with
  | some ⟨_, _, .cell (some (.ref d)), _⟩ => decide (d = D)
  | _ => false
def fileB (K : Fr) (cda : Addr) (file : Str) : Bool := match K.lookup cda with
  | some ⟨_, _, .fields vs, _⟩ => (match vs[2]? with
    | some (Value.str f _) => decide (f = file)
    | _ => false)
  | _ => false
def supB (K : Fr) (d : DefZ) (cc D : Addr) (file : Str) : Bool := cellB K cc D && (fileB K d.cda file && (PySem.W.clsIn K D).isSome)
def excB (K : Fr) (C : Addr) : Bool := match K.lookup C with
  | some ⟨.type t, _, .cls cd, sl⟩ => decide (t = "type") && (cd.hasDict && (!cd.hasDel && ((match cd.mro with
    | .ref c :: bm => decide (c = C) && PySem.HandSPX.refsVE bm
    | _ => false) && (match sl.toList with
    | [_, _, _, _, some (.builtin id), _] => decide (id = "ValueError.__new__")
    | _ => false))))
  | _ => false
/-- a record's head -/
def recB (K : Fr) (p : Addr) (T : String) (v : Addr) : Bool := match PySem.W.recIn K p T with
  | some (.ref u :: _) => decide (u = v)
  | _ => false
def strB (K : Fr) (x s : Str) : Bool := match PySem.W.nsIn K mainGlobals x with
  | some (some (.str y _)) => decide (y = s)
  | _ => false
/-- a class's constant text, read off an instance -/
def conB (K : Fr) (C : Addr) (a s : Str) : Bool := match PySem.W.findIn K (.ref C) a with
  | some (some (.str y t)) => decide (y = s) && decide (PySem.W.specialIn K (.str y t) "__get__" = some none)
  | _ => false
/-- a class's constant, read off the class -/
def cvB (K : Fr) (C : Addr) (a : Str) (d : D) : Bool := match PySem.W.findCls K (.ref C) (.type "type") a with
  | some (.val u) => relFB d u
  | _ => false
/-! ### the run's equation, from its parts -/
theorem map_pair {α β γ : Type} {e : Option γ} {f : γ → α} {g : γ → β} {a : α} {b : β} (h1 : e.map f = some a) (h2 : e.map g = some b) : e.map (fun s => (f s, g s)) = some (a, b) := by
  cases e with
  | none => cases h1
  | some s => cases h1; cases h2; rfl
theorem map_trip {α β δ γ : Type} {e : Option γ} {f : γ → α} {g : γ → β} {k : γ → δ} {a : α} {b : β} {c : δ} (h1 : e.map (fun s => (f s, g s)) = some (a, b)) (h2 : e.map k = some c) : e.map (fun s => (f s, g s, k s)) = some (a, b, c) := by
  cases e with
  | none => cases h1
  | some s => cases h1; cases h2; rfl
def obB (as : List Addr) (bs : Bs) (s : PySem.W.SharedT) : Bool := bs.all fun l => l.all fun f => f (He.frG (HandSHeadRun.getT s) as)
def obF (as : List Addr) (fn : List DefZ) (tb : List Tab) (s : PySem.W.SharedT) : AlZ := obsZ [] fn tb (He.frG (HandSHeadRun.getT s) as)
theorem obs_parts {γ : Type} {e : Option γ} {K : γ → Fr} {bs cs : Bs} {fn : List DefZ} {tb : List Tab} {v : AlZ} (hb : e.map (fun s => bs.all fun l => l.all fun f => f (K s)) = some true) (hc : e.map (fun s => obsZ cs fn tb (K s)) = some (true, v.2)) :
    e.map (fun s => obsZ (bs ++ cs) fn tb (K s)) = some (true, v.2) := by
  cases e with
  | none => cases hb
  | some s =>
    have h1 : (bs.all fun l => l.all fun f => f (K s)) = true := Option.some.inj hb
    have h2 : obsZ cs fn tb (K s) = (true, v.2) := Option.some.inj hc
    have h3 := congrArg (fun z : AlZ => z.1) h2
    have h4 := congrArg (fun z : AlZ => z.2) h2
    show some (obsZ (bs ++ cs) fn tb (K s)) = _
    refine congrArg some (Prod.ext ?_ h4)
    show ((bs ++ cs).all (fun l => l.all fun f => f (K s)) && fn.all fun d => d.ok (K s)) = true
    rw [List.all_append, h1, Bool.true_and]
    exact h3
end ZH

set_option Elab.async false
set_option linter.all false
set_option maxRecDepth 100000
set_option maxHeartbeats 4000000
namespace ZZ
open PySem PySem.Spec L2
def top (i : Nat) : Stmt := PySem.Challenge.pw_siltmeet_k05_core_narrowed.main.body.getD i (.Pass ⟨0, 0, 0, 0⟩)
abbrev s_Core___iter__ : Stmt := inClass (top 20) 5
abbrev s_BadLayer___init__ : Stmt := inClass (top 4) 0
abbrev s_BadJoint___init__ : Stmt := inClass (top 5) 0
abbrev s_NoLayer___init__ : Stmt := inClass (top 6) 0
abbrev s_NoJoint___init__ : Stmt := inClass (top 7) 0
abbrev s_is_layer : Stmt := top 12
abbrev n_is_layer : List Str := ["layer", "kind", "thickness", "char"]
abbrev s_is_joint : Stmt := top 13
abbrev n_is_joint : List Str := ["joint", "least", "most"]
abbrev s_Core___init__ : Stmt := inClass (top 20) 1
abbrev n_Core___init__ : List Str := ["self", "layers", "joints", "index", "layer", "joint"]
abbrev s_Core___len__ : Stmt := inClass (top 20) 4
abbrev n_Core___len__ : List Str := ["self"]
abbrev s_Core___getitem__ : Stmt := inClass (top 20) 6
abbrev n_Core___getitem__ : List Str := ["self", "k"]
abbrev s_Core_joint : Stmt := inClass (top 20) 8
abbrev n_Core_joint : List Str := ["self", "k"]
abbrev s_Core_thickness : Stmt := inClass (top 20) 9
abbrev n_Core_thickness : List Str := ["self", "layer"]
abbrev s_Core_narrowed : Stmt := inClass (top 20) 13
abbrev n_Core_narrowed : List Str := ["self", "joint", "least", "most", "low", "high", "joints"]
abbrev s__law_mix : Stmt := top 22
abbrev n__law_mix : List Str := ["_law_cell", "_law_turn", "_law_number_here"]
abbrev s__law_pool : Stmt := top 23
abbrev n__law_pool : List Str := ["_law_script", "_law_many", "_law_pool_here", "_law_seed", "_law_k", "_law_rest", "_law_great", "_law_turn"]
abbrev s__law_draw : Stmt := top 24
abbrev n__law_draw : List Str := ["_law_pool_here", "_law_bound"]
abbrev s__law_number : Stmt := top 25
abbrev n__law_number : List Str := ["_law_pool_here", "_law_shape", "_law_number_here", "_law_turn"]
abbrev s__law_kind : Stmt := top 26
abbrev n__law_kind : List Str := ["_law_pool_here", "_law_size", "_law_place", "_law_letters", "_law_letter"]
abbrev s__law_bounds : Stmt := top 27
abbrev n__law_bounds : List Str := ["_law_pool_here", "_law_low", "_law_high"]
abbrev s__law_whole : Stmt := top 28
abbrev n__law_whole : List Str := ["_law_number_here"]
abbrev s__law_same : Stmt := top 29
abbrev n__law_same : List Str := ["_law_core", "_law_layers", "_law_joints", "_law_total", "_law_k", "_law_layer", "_law_joint"]
abbrev s__law_call : Stmt := top 30
abbrev n__law_call : List Str := ["_law_core", "_law_at", "_law_low", "_law_high", "_law_shape"]
abbrev s__law_due : Stmt := top 31
abbrev n__law_due : List Str := ["_law_joint", "_law_low", "_law_high", "_law_shape"]
abbrev s__law_near : Stmt := top 32
abbrev n__law_near : List Str := ["_law_pool_here", "_law_joint", "_law_bases", "_law_low", "_law_high"]
abbrev s__law_told : Stmt := top 33
abbrev n__law_told : List Str := ["_law_core", "_law_at", "_law_low", "_law_high", "_law_shape", "e"]
abbrev s__law_beside : Stmt := top 34
abbrev n__law_beside : List Str := ["_law_core", "_law_layers", "_law_joints", "_law_at", "_law_near_here", "_law_shape", "_law_due_here", "_law_other"]
abbrev s_law : Stmt := top 35
abbrev n_law : List Str := ["_law_script", "_law_pool_here", "_law_size", "_law_layers", "_law_joints", "_law_core", "_law_at", "_law_turn", "_law_near_here", "_law_shape", "_law_due_here", "_law_told_here", "_law_later", "_law_k"]
end ZZ

set_option Elab.async false
set_option linter.all false
set_option maxRecDepth 100000
set_option maxHeartbeats 4000000
namespace ZZ
open PySem PySem.Spec L2
open ZH PyProof.Rows
/-! ### what is told of the heap behind the top -/
abbrev dz_0 : DefZ := { a := 146, name := "is_layer", qual := "is_layer", st := s_is_layer, cda := 145, clo := [], dfl := none, kwd := none }
abbrev dz_1 : DefZ := { a := 153, name := "is_joint", qual := "is_joint", st := s_is_joint, cda := 152, clo := [], dfl := none, kwd := none }
abbrev dz_2 : DefZ := { a := 208, name := "__init__", qual := "Core.__init__", st := s_Core___init__, cda := 207, clo := [], dfl := (some 201), kwd := none }
abbrev dz_3 : DefZ := { a := 232, name := "__len__", qual := "Core.__len__", st := s_Core___len__, cda := 231, clo := [], dfl := none, kwd := none }
abbrev dz_4 : DefZ := { a := 246, name := "__getitem__", qual := "Core.__getitem__", st := s_Core___getitem__, cda := 245, clo := [], dfl := none, kwd := none }
abbrev dz_5 : DefZ := { a := 260, name := "joint", qual := "Core.joint", st := s_Core_joint, cda := 259, clo := [], dfl := none, kwd := none }
abbrev dz_6 : DefZ := { a := 265, name := "thickness", qual := "Core.thickness", st := s_Core_thickness, cda := 264, clo := [], dfl := none, kwd := none }
abbrev dz_7 : DefZ := { a := 295, name := "narrowed", qual := "Core.narrowed", st := s_Core_narrowed, cda := 294, clo := [], dfl := none, kwd := (some 288) }
abbrev dz_8 : DefZ := { a := 309, name := "_law_mix", qual := "_law_mix", st := s__law_mix, cda := 308, clo := [], dfl := none, kwd := none }
abbrev dz_9 : DefZ := { a := 316, name := "_law_pool", qual := "_law_pool", st := s__law_pool, cda := 315, clo := [], dfl := none, kwd := none }
abbrev dz_10 : DefZ := { a := 323, name := "_law_draw", qual := "_law_draw", st := s__law_draw, cda := 322, clo := [], dfl := none, kwd := none }
abbrev dz_11 : DefZ := { a := 330, name := "_law_number", qual := "_law_number", st := s__law_number, cda := 329, clo := [], dfl := none, kwd := none }
abbrev dz_12 : DefZ := { a := 337, name := "_law_kind", qual := "_law_kind", st := s__law_kind, cda := 336, clo := [], dfl := none, kwd := none }
abbrev dz_13 : DefZ := { a := 344, name := "_law_bounds", qual := "_law_bounds", st := s__law_bounds, cda := 343, clo := [], dfl := none, kwd := none }
abbrev dz_14 : DefZ := { a := 351, name := "_law_whole", qual := "_law_whole", st := s__law_whole, cda := 350, clo := [], dfl := none, kwd := none }
abbrev dz_15 : DefZ := { a := 356, name := "_law_same", qual := "_law_same", st := s__law_same, cda := 355, clo := [], dfl := none, kwd := none }
abbrev dz_16 : DefZ := { a := 363, name := "_law_call", qual := "_law_call", st := s__law_call, cda := 362, clo := [], dfl := none, kwd := none }
abbrev dz_17 : DefZ := { a := 370, name := "_law_due", qual := "_law_due", st := s__law_due, cda := 369, clo := [], dfl := none, kwd := none }
abbrev dz_18 : DefZ := { a := 377, name := "_law_near", qual := "_law_near", st := s__law_near, cda := 376, clo := [], dfl := none, kwd := none }
abbrev dz_19 : DefZ := { a := 384, name := "_law_told", qual := "_law_told", st := s__law_told, cda := 383, clo := [], dfl := none, kwd := none }
abbrev dz_20 : DefZ := { a := 391, name := "_law_beside", qual := "_law_beside", st := s__law_beside, cda := 390, clo := [], dfl := none, kwd := none }
abbrev dz_21 : DefZ := { a := 396, name := "law", qual := "law", st := s_law, cda := 395, clo := [], dfl := none, kwd := none }
abbrev dz_22 : DefZ := { a := 239, name := "__iter__", qual := "Core.__iter__", st := s_Core___iter__, cda := 238, clo := [], dfl := none, kwd := none }
abbrev dz_23 : DefZ := { a := 60, name := "__init__", qual := "BadLayer.__init__", st := s_BadLayer___init__, cda := 59, clo := [], dfl := none, kwd := none }
abbrev dz_24 : DefZ := { a := 79, name := "__init__", qual := "BadJoint.__init__", st := s_BadJoint___init__, cda := 78, clo := [], dfl := none, kwd := none }
abbrev dz_25 : DefZ := { a := 98, name := "__init__", qual := "NoLayer.__init__", st := s_NoLayer___init__, cda := 97, clo := [], dfl := none, kwd := none }
abbrev dz_26 : DefZ := { a := 117, name := "__init__", qual := "NoJoint.__init__", st := s_NoJoint___init__, cda := 116, clo := [], dfl := none, kwd := none }
abbrev dz_27 : DefZ := { a := 396, name := "law", qual := "law", st := s_law, cda := 395, clo := [], dfl := none, kwd := none }
abbrev fnl : List DefZ := [dz_0, dz_1, dz_2, dz_3, dz_4, dz_5, dz_6, dz_7, dz_8, dz_9, dz_10, dz_11, dz_12, dz_13, dz_14, dz_15, dz_16, dz_17, dz_18, dz_19, dz_20, dz_21, dz_22, dz_23, dz_24, dz_25, dz_26, dz_27]
def fb_0 : List (Fr → Bool) := [fun K => decide (PySem.W.nsIn K mainGlobals "abs" = some none),
  fun K => decide (PySem.W.nsIn K mainGlobals "all" = some none),
  fun K => decide (PySem.W.nsIn K mainGlobals "bool" = some none),
  fun K => decide (PySem.W.nsIn K mainGlobals "enumerate" = some none),
  fun K => decide (PySem.W.nsIn K mainGlobals "int" = some none),
  fun K => decide (PySem.W.nsIn K mainGlobals "isinstance" = some none),
  fun K => decide (PySem.W.nsIn K mainGlobals "len" = some none),
  fun K => decide (PySem.W.nsIn K mainGlobals "list" = some none),
  fun K => decide (PySem.W.nsIn K mainGlobals "max" = some none),
  fun K => decide (PySem.W.nsIn K mainGlobals "min" = some none),
  fun K => decide (PySem.W.nsIn K mainGlobals "range" = some none),
  fun K => decide (PySem.W.nsIn K mainGlobals "sum" = some none),
  fun K => decide (PySem.W.nsIn K mainGlobals "tuple" = some none),
  fun K => decide (PySem.W.nsIn K mainGlobals "is_layer" = some (some (.ref 146))),
  fun K => decide (PySem.W.nsIn K mainGlobals "is_joint" = some (some (.ref 153))),
  fun K => dflZ K dz_2.dfl [.non],
  fun K => decide (PySem.W.findIn K (.ref 298) "__len__" = some (some (.ref 232))),
  fun K => PySem.W.isFn K (.ref 232),
  fun K => decide (PySem.W.findIn K (.ref 298) "__getitem__" = some (some (.ref 246))),
  fun K => PySem.W.isFn K (.ref 246),
  fun K => PySem.W.keepIn K (.ref 246),
  fun K => decide (PySem.W.findIn K (.ref 298) "joint" = some (some (.ref 260))),
  fun K => PySem.W.isFn K (.ref 260),
  fun K => PySem.W.keepIn K (.ref 260),
  fun K => decide (PySem.W.findIn K (.ref 298) "thickness" = some (some (.ref 266)))]
def fb_1 : List (Fr → Bool) := [fun K => decide (PySem.W.specialIn K (.ref 266) "__get__" = some (some (.builtin "property.__get__"))),
  fun K => decide (PySem.W.takesIn K (.ref 266) = some true),
  fun K => recB K 266 "property" 265,
  fun K => kwdZ K dz_7.kwd [("least", .int 0), ("most", .non)],
  fun K => decide (PySem.W.findIn K (.ref 298) "narrowed" = some (some (.ref 295))),
  fun K => PySem.W.isFn K (.ref 295),
  fun K => PySem.W.keepIn K (.ref 295),
  fun K => decide (PySem.W.nsIn K mainGlobals "_law_mix" = some (some (.ref 309))),
  fun K => decide (PySem.W.nsIn K mainGlobals "_law_pool" = some (some (.ref 316))),
  fun K => decide (PySem.W.nsIn K mainGlobals "_law_draw" = some (some (.ref 323))),
  fun K => decide (PySem.W.nsIn K mainGlobals "_law_number" = some (some (.ref 330))),
  fun K => decide (PySem.W.nsIn K mainGlobals "_law_kind" = some (some (.ref 337))),
  fun K => decide (PySem.W.nsIn K mainGlobals "_law_bounds" = some (some (.ref 344))),
  fun K => decide (PySem.W.nsIn K mainGlobals "_law_whole" = some (some (.ref 351))),
  fun K => decide (PySem.W.nsIn K mainGlobals "_law_same" = some (some (.ref 356))),
  fun K => decide (PySem.W.nsIn K mainGlobals "_law_call" = some (some (.ref 363))),
  fun K => decide (PySem.W.nsIn K mainGlobals "_law_due" = some (some (.ref 370))),
  fun K => decide (PySem.W.nsIn K mainGlobals "_law_near" = some (some (.ref 377))),
  fun K => decide (PySem.W.nsIn K mainGlobals "_law_told" = some (some (.ref 384))),
  fun K => decide (PySem.W.nsIn K mainGlobals "_law_beside" = some (some (.ref 391))),
  fun K => decide (PySem.W.nsIn K mainGlobals "law" = some (some (.ref 396))),
  fun K => decide (PySem.W.nsIn K mainGlobals "Core" = some (some (.ref 298))),
  fun K => PySem.W.plainGet K 298 Str.empty,
  fun K => PySem.W.hasDictIn K 298,
  fun K => PySem.W.plainOver K 298]
def fb_2 : List (Fr → Bool) := [fun K => decide (PySem.W.findIn K (.ref 298) "__setattr__" = some (some (.builtin "object.__setattr__"))),
  fun K => decide (PySem.W.findIn K (.ref 298) "layers" = some none),
  fun K => decide (PySem.W.findIn K (.ref 298) "joints" = some none),
  fun K => PySem.W.makesIn K 298,
  fun K => decide (PySem.W.findIn K (.ref 298) "__init__" = some (some (.ref 208))),
  fun K => PySem.W.isFn K (.ref 208),
  fun K => PySem.W.keepIn K (.ref 298),
  fun K => decide (PySem.W.nsIn K mainGlobals "SiltError" = some (some (.ref 31))),
  fun K => strB K "LETTERS" "abcdefghijklmnopqrstuvwxyz",
  fun K => decide (PySem.W.findIn K (.ref 298) "__getitem__" = some (some (.ref 246))),
  fun K => PySem.W.isFn K (.ref 246),
  fun K => PySem.W.fnIn K 246,
  fun K => PySem.W.readsIn K 298 (.type "type"),
  fun K => decide (PySem.W.specialIn K (.ref 298) "__getattribute__" = some (some (.builtin "type.__getattribute__"))),
  fun K => cvB K 298 "MOST" (.int 20),
  fun K => decide (PySem.W.nsIn K mainGlobals "iter" = some none),
  fun K => decide (PySem.W.findIn K (.ref 298) "__iter__" = some (some (.ref 239))),
  fun K => PySem.W.isFn K (.ref 239),
  fun K => decide (PySem.W.nsIn K mainGlobals "BadCore" = some (some (.ref 44))),
  fun K => PySem.W.keepIn K (.ref 44),
  fun K => decide (PySem.W.subIn K (.ref 44) (.type "BaseException") = some true),
  fun K => decide (PySem.W.typeIn K (.ref 44) = some (.type "type")),
  fun K => PySem.W.excIn K 44 [.type "ValueError", .type "Exception", .type "BaseException", .type "object"] "ValueError.__new__",
  fun K => decide (PySem.W.nsIn K mainGlobals "BadLayer" = some (some (.ref 63))),
  fun K => PySem.W.keepIn K (.ref 63)]
def fb_3 : List (Fr → Bool) := [fun K => decide (PySem.W.subIn K (.ref 63) (.type "BaseException") = some true),
  fun K => decide (PySem.W.typeIn K (.ref 63) = some (.type "type")),
  fun K => decide (PySem.W.findIn K (.ref 63) "__setattr__" = some (some (.builtin "object.__setattr__"))),
  fun K => excB K 63,
  fun K => decide (PySem.W.findIn K (.ref 63) "__init__" = some (some (.ref 60))),
  fun K => decide (PySem.W.typeIn K (.ref 60) = some (.type "function")),
  fun K => decide (PySem.W.findIn K (.ref 63) "index" = some none),
  fun K => decide (PySem.W.nsIn K mainGlobals "BadJoint" = some (some (.ref 82))),
  fun K => PySem.W.keepIn K (.ref 82),
  fun K => decide (PySem.W.subIn K (.ref 82) (.type "BaseException") = some true),
  fun K => decide (PySem.W.typeIn K (.ref 82) = some (.type "type")),
  fun K => decide (PySem.W.findIn K (.ref 82) "__setattr__" = some (some (.builtin "object.__setattr__"))),
  fun K => excB K 82,
  fun K => decide (PySem.W.findIn K (.ref 82) "__init__" = some (some (.ref 79))),
  fun K => decide (PySem.W.typeIn K (.ref 79) = some (.type "function")),
  fun K => decide (PySem.W.findIn K (.ref 82) "index" = some none),
  fun K => decide (PySem.W.nsIn K mainGlobals "NoLayer" = some (some (.ref 101))),
  fun K => PySem.W.keepIn K (.ref 101),
  fun K => decide (PySem.W.subIn K (.ref 101) (.type "BaseException") = some true),
  fun K => decide (PySem.W.typeIn K (.ref 101) = some (.type "type")),
  fun K => decide (PySem.W.findIn K (.ref 101) "__setattr__" = some (some (.builtin "object.__setattr__"))),
  fun K => excB K 101,
  fun K => decide (PySem.W.findIn K (.ref 101) "__init__" = some (some (.ref 98))),
  fun K => decide (PySem.W.typeIn K (.ref 98) = some (.type "function")),
  fun K => decide (PySem.W.findIn K (.ref 101) "index" = some none)]
def fb_4 : List (Fr → Bool) := [fun K => decide (PySem.W.nsIn K mainGlobals "NoJoint" = some (some (.ref 120))),
  fun K => PySem.W.keepIn K (.ref 120),
  fun K => decide (PySem.W.subIn K (.ref 120) (.type "BaseException") = some true),
  fun K => decide (PySem.W.typeIn K (.ref 120) = some (.type "type")),
  fun K => decide (PySem.W.findIn K (.ref 120) "__setattr__" = some (some (.builtin "object.__setattr__"))),
  fun K => excB K 120,
  fun K => decide (PySem.W.findIn K (.ref 120) "__init__" = some (some (.ref 117))),
  fun K => decide (PySem.W.typeIn K (.ref 117) = some (.type "function")),
  fun K => decide (PySem.W.findIn K (.ref 120) "index" = some none),
  fun K => decide (PySem.W.specialIn K (.builtin "object.__class__") "__get__" = some (some (.builtin "getset_descriptor.__get__"))),
  fun K => decide (PySem.W.takesIn K (.builtin "object.__class__") = some true),
  fun K => decide (PySem.W.findIn K (.ref 44) "__getattribute__" = some (some (.builtin "BaseException.__getattribute__"))),
  fun K => decide (PySem.W.findIn K (.ref 44) "__getattr__" = some none),
  fun K => PySem.W.hasDictIn K 44,
  fun K => decide (PySem.W.findIn K (.ref 44) "__class__" = some (some (.builtin "object.__class__"))),
  fun K => decide (PySem.W.mroIn K 44 (.type "object") = some true),
  fun K => decide (PySem.W.findIn K (.ref 63) "__getattribute__" = some (some (.builtin "BaseException.__getattribute__"))),
  fun K => decide (PySem.W.findIn K (.ref 63) "__getattr__" = some none),
  fun K => PySem.W.hasDictIn K 63,
  fun K => decide (PySem.W.findIn K (.ref 63) "__class__" = some (some (.builtin "object.__class__"))),
  fun K => decide (PySem.W.mroIn K 63 (.type "object") = some true),
  fun K => decide (PySem.W.findIn K (.ref 82) "__getattribute__" = some (some (.builtin "BaseException.__getattribute__"))),
  fun K => decide (PySem.W.findIn K (.ref 82) "__getattr__" = some none),
  fun K => PySem.W.hasDictIn K 82,
  fun K => decide (PySem.W.findIn K (.ref 82) "__class__" = some (some (.builtin "object.__class__")))]
def fb_5 : List (Fr → Bool) := [fun K => decide (PySem.W.mroIn K 82 (.type "object") = some true),
  fun K => decide (PySem.W.findIn K (.ref 101) "__getattribute__" = some (some (.builtin "BaseException.__getattribute__"))),
  fun K => decide (PySem.W.findIn K (.ref 101) "__getattr__" = some none),
  fun K => PySem.W.hasDictIn K 101,
  fun K => decide (PySem.W.findIn K (.ref 101) "__class__" = some (some (.builtin "object.__class__"))),
  fun K => decide (PySem.W.mroIn K 101 (.type "object") = some true),
  fun K => decide (PySem.W.findIn K (.ref 120) "__getattribute__" = some (some (.builtin "BaseException.__getattribute__"))),
  fun K => decide (PySem.W.findIn K (.ref 120) "__getattr__" = some none),
  fun K => PySem.W.hasDictIn K 120,
  fun K => decide (PySem.W.findIn K (.ref 120) "__class__" = some (some (.builtin "object.__class__"))),
  fun K => decide (PySem.W.mroIn K 120 (.type "object") = some true),
  fun K => decide (PySem.W.exmOne K (.ref 44) (.ref 82) = some false),
  fun K => decide (PySem.W.exmOne K (.ref 63) (.ref 82) = some false),
  fun K => decide (PySem.W.exmOne K (.ref 82) (.ref 82) = some true),
  fun K => decide (PySem.W.exmOne K (.ref 101) (.ref 82) = some false),
  fun K => decide (PySem.W.exmOne K (.ref 120) (.ref 82) = some false),
  fun K => decide (PySem.W.exmOne K (.ref 44) (.ref 120) = some false),
  fun K => decide (PySem.W.exmOne K (.ref 63) (.ref 120) = some false),
  fun K => decide (PySem.W.exmOne K (.ref 82) (.ref 120) = some false),
  fun K => decide (PySem.W.exmOne K (.ref 101) (.ref 120) = some false),
  fun K => decide (PySem.W.exmOne K (.ref 120) (.ref 120) = some true),
  fun K => decide (PySem.W.kitOne K (.ref 44) (.ref 44) = some true),
  fun K => decide (PySem.W.kitOne K (.ref 63) (.ref 44) = some true),
  fun K => decide (PySem.W.kitOne K (.ref 82) (.ref 44) = some true),
  fun K => decide (PySem.W.kitOne K (.ref 101) (.ref 44) = some false)]
def fb_6 : List (Fr → Bool) := [fun K => decide (PySem.W.kitOne K (.ref 120) (.ref 44) = some false),
  fun K => decide (PySem.W.kitOne K (.ref 44) (.ref 63) = some false),
  fun K => decide (PySem.W.kitOne K (.ref 63) (.ref 63) = some true),
  fun K => decide (PySem.W.kitOne K (.ref 82) (.ref 63) = some false),
  fun K => decide (PySem.W.kitOne K (.ref 101) (.ref 63) = some false),
  fun K => decide (PySem.W.kitOne K (.ref 120) (.ref 63) = some false),
  fun K => decide (PySem.W.kitOne K (.ref 44) (.ref 101) = some false),
  fun K => decide (PySem.W.kitOne K (.ref 63) (.ref 101) = some false),
  fun K => decide (PySem.W.kitOne K (.ref 82) (.ref 101) = some false),
  fun K => decide (PySem.W.kitOne K (.ref 101) (.ref 101) = some true),
  fun K => decide (PySem.W.kitOne K (.ref 120) (.ref 101) = some false),
  fun K => decide (PySem.W.kitOne K (.type "NoneType") (.ref 298) = some false),
  fun K => decide (PySem.W.kitOne K (.type "bool") (.ref 298) = some false),
  fun K => decide (PySem.W.kitOne K (.type "int") (.ref 298) = some false),
  fun K => decide (PySem.W.kitOne K (.type "str") (.ref 298) = some false),
  fun K => decide (PySem.W.kitOne K (.type "tuple") (.ref 298) = some false),
  fun K => decide (PySem.W.kitOne K (.type "list") (.ref 298) = some false),
  fun K => decide (PySem.W.kitOne K (.ref 298) (.ref 298) = some true),
  fun K => decide (PySem.W.findIn K (.ref 298) "__class__" = some (some (.builtin "object.__class__"))),
  fun K => decide (PySem.W.mroIn K 298 (.type "object") = some true),
  fun K => decide (PySem.W.kitOne K (.ref 298) (.type "bool") = some false),
  fun K => decide (PySem.W.kitOne K (.ref 298) (.type "int") = some false),
  fun K => decide (PySem.W.kitOne K (.ref 298) (.type "tuple") = some false)]
abbrev fbp_0 : Bs := [fb_0, fb_1, fb_2, fb_3, fb_4, fb_5, fb_6]
abbrev fbs : Bs := fbp_0
abbrev tbs : List ZH.Tab := []
def as_0 : List Addr := [3, 2, 31, 44, 63, 82, 101, 120, 139, 298, 0, 1, 6, 24, 30, 37, 43, 49, 62, 68, 81, 87, 100, 106, 119, 125, 138, 196, 216, 218, 288, 297, 9, 13, 20, 21, 23, 27, 32, 33]
def as_1 : List Addr := [34, 36, 40, 45, 46, 48, 52, 59, 60, 64, 65, 67, 71, 78, 79, 83, 84, 86, 90, 97, 98, 102, 103, 105, 109, 116, 117, 121, 122, 124, 128, 135, 136, 140, 141, 145, 146, 152, 153, 157]
def as_2 : List Addr := [158, 164, 165, 171, 172, 178, 179, 185, 186, 192, 193, 195, 199, 207, 208, 214, 215, 217, 224, 225, 231, 232, 238, 239, 245, 246, 252, 253, 259, 260, 264, 265, 266, 272, 273, 279, 280, 286, 287, 294]
def as_3 : List Addr := [295, 299, 300, 301, 302, 308, 309, 315, 316, 322, 323, 329, 330, 336, 337, 343, 344, 350, 351, 355, 356, 362, 363, 369, 370, 376, 377, 383, 384, 390, 391, 395, 396, 7, 11, 15, 17, 18, 22, 25]
def as_4 : List Addr := [29, 35, 38, 42, 47, 50, 54, 56, 57, 61, 66, 69, 73, 75, 76, 80, 85, 88, 92, 94, 95, 99, 104, 107, 111, 113, 114, 118, 123, 126, 130, 132, 133, 137, 142, 147, 149, 150, 154, 159]
def as_5 : List Addr := [161, 162, 166, 168, 169, 173, 175, 176, 180, 182, 183, 187, 189, 190, 194, 197, 201, 202, 204, 205, 209, 211, 212, 219, 221, 222, 226, 228, 229, 233, 235, 236, 240, 242, 243, 247, 249, 250, 254, 256]
def as_6 : List Addr := [257, 261, 267, 269, 270, 274, 276, 277, 281, 283, 284, 289, 291, 292, 296, 303, 305, 306, 310, 312, 313, 317, 319, 320, 324, 326, 327, 331, 333, 334, 338, 340, 341, 345, 347, 348, 352, 357, 359, 360]
def as_7 : List Addr := [364, 366, 367, 371, 373, 374, 378, 380, 381, 385, 387, 388, 392]
def as_all : List Addr := as_0 ++ (as_1 ++ (as_2 ++ (as_3 ++ (as_4 ++ (as_5 ++ (as_6 ++ (as_7)))))))
def nm_0 : List PySem.Str := ["_wall", "SiltError", "BadCore", "BadLayer", "BadJoint", "NoLayer", "NoJoint", "BadText", "LETTERS", "DIGITS", "is_layer", "is_joint", "parse_number", "parse_layer", "parse_joint", "written_layer", "written_joint", "joined_joint", "Core", "_law_mix", "_law_pool", "_law_draw", "_law_number", "_law_kind", "_law_bounds", "_law_whole", "_law_same", "_law_call", "_law_due", "_law_near"]
def nm_1 : List PySem.Str := ["_law_told", "_law_beside"]
def nm_all : List PySem.Str := nm_0 ++ nm_1
abbrev RR : PySem.W.OpenRow := PySem.W.OpenLaw.row PySem.Challenge.rw_siltmeet_k05_core_narrowed
abbrev qq : Program := PySem.W.view RR.prog [35]
abbrev hkk : PySem.W.Hook := hookZ as_all fbs fnl tbs
noncomputable def obk (s : PySem.W.SharedT) : ZH.AlZ := obsZG as_all fbs fnl tbs (HandSHeadRun.getT s)
theorem obk_eq (s : PySem.W.SharedT) : obk s = hkk.obs s.abs := obsZG_eq (HandSHeadRun.getT_eq s)
/-- the run at a world -/
noncomputable abbrev rn (w : World) (os : OsState) : Option PySem.W.SharedT := HandSHeadRun.endF (HandSHeadRun.stepQ (HandSHeadRun.denQ HandSHeadRun.tabQ) RR.prog w) 30000 RR.prog w os

end ZZ

set_option Elab.async false
set_option linter.all false
set_option maxRecDepth 100000
set_option maxHeartbeats 4000000
namespace ZZ
open PySem PySem.Spec L2
open ZH
theorem ra_f (w : World) (os : OsState) : (rn (w.withFollow "special-get-raises" false) os).map (fun s => (HandSHeadRun.looksF RR.prog (PySem.W.boot_heap (w.withFollow "special-get-raises" false).params) s.abs, HandSHeadRun.seenQ qq nm_all (PySem.importedModules RR.prog.main.body) (fun s => PySem.W.xlAt qq [] s && PySem.W.recOk RR.toRowW.records s) s.abs)) = some (true, PySem.W.openGood qq nm_all) := by
  kernel_rfl

end ZZ

set_option Elab.async false
set_option linter.all false
set_option maxRecDepth 100000
set_option maxHeartbeats 4000000
namespace ZZ
open PySem PySem.Spec L2
open ZH
theorem rb_f_0 (w : World) (os : OsState) : (rn (w.withFollow "special-get-raises" false) os).map (fun s => obsZ fbp_0 fnl tbs (He.frG (HandSHeadRun.getT s) as_all)) = some (true, (valZ fnl tbs (w.withFollow "special-get-raises" false)).2) := by
  kernel_rfl

end ZZ

set_option Elab.async false
set_option linter.all false
set_option maxRecDepth 100000
set_option maxHeartbeats 4000000
namespace ZZ
open PySem PySem.Spec L2
open ZH
theorem ra_t (w : World) (os : OsState) : (rn (w.withFollow "special-get-raises" true) os).map (fun s => (HandSHeadRun.looksF RR.prog (PySem.W.boot_heap (w.withFollow "special-get-raises" true).params) s.abs, HandSHeadRun.seenQ qq nm_all (PySem.importedModules RR.prog.main.body) (fun s => PySem.W.xlAt qq [] s && PySem.W.recOk RR.toRowW.records s) s.abs)) = some (true, PySem.W.openGood qq nm_all) := by
  kernel_rfl

end ZZ

set_option Elab.async false
set_option linter.all false
set_option maxRecDepth 100000
set_option maxHeartbeats 4000000
namespace ZZ
open PySem PySem.Spec L2
open ZH
theorem rb_t_0 (w : World) (os : OsState) : (rn (w.withFollow "special-get-raises" true) os).map (fun s => obsZ fbp_0 fnl tbs (He.frG (HandSHeadRun.getT s) as_all)) = some (true, (valZ fnl tbs (w.withFollow "special-get-raises" true)).2) := by
  kernel_rfl

end ZZ

set_option Elab.async false
set_option linter.all false
set_option maxRecDepth 100000
/-! Z1: expressions. -/
namespace ZZ
open PySem PySem.Spec L2
/-- what a call lets out is wished for -/
def TW (X : Cx) (W : WX) : Prop := ∀ σ, PassesAt (L2N.CX X.prog X.w) X σ (WE W σ)
theorem tw_of {X : Cx} {W : WX} (t : L2N.Takes X W) : TW X W := fun σ => L2N.passAt t σ
abbrev WF : WX := fun _ _ _ _ => False
theorem takesN0 {X : Cx} : L2N.Takes X WF := fun _ _ x => by
  obtain ⟨_, _, _, _, _, _, _, _, _, _, _, _, _, _, _, _, z⟩ := x
  exact z.elim
theorem tw_none {X : Cx} : TW X WF := tw_of takesN0

/-! ### the D-functions -/
def eC (d : D) : DE := fun _ ce => .ok (.im d) ce
def eV (i : Nat) : DE := fun sl ce => match sl[i]? with
  | some (some v) => .ok v ce
  | _ => .stuck
def kStuck : DE := fun _ _ => .stuck
def asL (ce : List Cell) : Val → Option (List D)
  | .im (.lst ds) => some ds
  | .cell k => match ce[k]? with
    | some (.lst ds) => some ds
    | _ => none
  | _ => none
/-- a list or tuple that is only read -/
def asSq (ce : List Cell) : Val → Option (List D)
  | .im (.lst ds) => some ds
  | .im (.wl ds) => some ds
  | .im (.tup ds) => some ds
  | .cell k => match ce[k]? with
    | some (.lst ds) => some ds
    | _ => none
  | _ => none
abbrev LINE : Nat := 16777216
def kAdd (v u : Val) : DE := fun sl ce => match v, u with
  | .im (.int i), .im (.int j) => .ok (.im (.int (i + j))) ce
  | .im (.str a), .im (.str b) => if a.length + b.length ≤ LINE then .ok (.im (.str (a ++ b))) ce else .stuck
  | v, u => match asL ce v, asL ce u with
    | some xs, some ys => if xs.length + ys.length ≤ LINE then .ok (.im (.lst (xs ++ ys))) ce else .stuck
    | _, _ => .stuck
def kSub (v u : Val) : DE := fun _ ce => match v, u with
  | .im (.int i), .im (.int j) => .ok (.im (.int (i - j))) ce
  | _, _ => .stuck
/-- bits of a product -/
def mulOK (i j : Int) : Bool := decide (i.natAbs < 2 ^ 400000) && decide (j.natAbs < 2 ^ 400000) || (decide (i.natAbs < 2 ^ 64) || decide (j.natAbs < 2 ^ 64))
def kMul (v u : Val) : DE := fun _ ce => match v, u with
  | .im (.int i), .im (.int j) => if mulOK i j then .ok (.im (.int (i * j))) ce else .stuck
  | _, _ => .stuck
def kDiv (v u : Val) : DE := fun _ ce => match v, u with
  | .im (.int i), .im (.int j) => if 0 < j ∧ j < 1073741824 then .ok (.im (.int (i / j))) ce else .stuck
  | _, _ => .stuck
def kMod (v u : Val) : DE := fun _ ce => match v, u with
  | .im (.int i), .im (.int j) => if 0 < j then .ok (.im (.int (i % j))) ce else .stuck
  | _, _ => .stuck
def kPow (v u : Val) : DE := fun _ ce => match v, u with
  | .im (.int i), .im (.int j) => if 0 ≤ j ∧ j ≤ 1000000 ∧ i.natAbs < 2 ^ 64 then .ok (.im (.int (i ^ j.toNat))) ce else .stuck
  | _, _ => .stuck
def kCmp (g : Int → Int → Bool) (v u : Val) : DE := fun _ ce => match v, u with
  | .im (.int i), .im (.int j) => .ok (.im (.bl (g i j))) ce
  | _, _ => .stuck
abbrev kLt := kCmp fun i j => decide (i < j)
abbrev kLe := kCmp fun i j => decide (i ≤ j)
abbrev kGt := kCmp fun i j => decide (j < i)
abbrev kGe := kCmp fun i j => decide (j ≤ i)
mutual
def toPy : D → Option PyData
  | .non => some .none
  | .bl b => some (.bool b)
  | .int i => some (.int i)
  | .str s => some (.str s)
  | .tup ds => (toPys ds).map .tuple
  | .lst ds => (toPys ds).map .list
  | .wl ds => (toPys ds).map .list
  | .ins _ _ => none
  | .dct _ _ => none
def toPys : List D → Option (List PyData)
  | [] => some []
  | d :: ds => match toPy d, toPys ds with
    | some p, some ps => some (p :: ps)
    | _, _ => none
end
def asIm (ce : List Cell) : Val → Option D
  | .im d => some d
  | .cell k => match ce[k]? with
    | some (.lst ds) => some (.lst ds)
    | _ => none
  | _ => none
def pyEq (d e : D) : Option Bool := match toPy d, toPy e with
  | some p, some q => if SeqAt.shaped p = true ∧ SeqAt.shaped q = true then some (PyData.eqv p q) else none
  | _, _ => none
def kEqG (neg : Bool) (v u : Val) : DE := fun _ ce => match asIm ce v, asIm ce u with
  | some d, some e => match pyEq d e with
    | some b => .ok (.im (.bl (if neg then !b else b))) ce
    | none => .stuck
  | _, _ => .stuck
abbrev kEq := kEqG false
abbrev kNe := kEqG true
def D.isNon : D → Bool
  | .non => true
  | _ => false
def kIsN (neg : Bool) (v u : Val) : DE := fun _ ce => match v, u with
  | .im d, .im .non => .ok (.im (.bl (if neg then !d.isNon else d.isNon))) ce
  | _, _ => .stuck
def kIsB (neg : Bool) (v u : Val) : DE := fun _ ce => match v, u with
  | .im (.bl a), .im (.bl b) => .ok (.im (.bl (if neg then !decide (a = b) else decide (a = b)))) ce
  | _, _ => .stuck
def kIx (v u : Val) : DE := fun _ ce => match u with
  | .im (.int i) => match v with
    | .im (.str z) => if z.length ≤ LINE then (match atI z.cps.toList i with
      | some c => .ok (.im (.str ⟨#[c]⟩)) ce
      | none => .stuck) else .stuck
    | v => match asSq ce v with
      | some ds => match atI ds i with
        | some d => .ok (.im d) ce
        | none => .stuck
      | none => .stuck
  | _ => .stuck
/-- one sign in a text -/
def kInS (neg : Bool) (v u : Val) : DE := fun _ ce => match v, u with
  | .im (.str a), .im (.str z) => match a.cps.toList with
    | [c] => .ok (.im (.bl (if neg then !decide (c ∈ z.cps.toList) else decide (c ∈ z.cps.toList)))) ce
    | _ => .stuck
  | _, _ => .stuck
def eBin (k : Val → Val → DE) (f g : DE) : DE := eBind f fun v => eBind g (k v)
def eUn (k : Val → DE) (f : DE) : DE := eBind f k
def kBool (k : Bool → DE) (v : Val) : DE := match v with
  | .im (.bl b) => k b
  | _ => kStuck
def eAnd (f g : DE) : DE := eBind f (kBool fun b => if b then g else eC (.bl false))
def eOr (f g : DE) : DE := eBind f (kBool fun b => if b then eC (.bl true) else g)
def eNot (f : DE) : DE := eBind f (kBool fun b => eC (.bl (!b)))
def eIf (c f g : DE) : DE := eBind c (kBool fun b => if b then f else g)
/-- a op b op' c -/
def eChain (k k' : Val → Val → DE) (f g h : DE) : DE := eBind f fun v => eBind g fun u => eBind (k v u) (kBool fun b => if b then eBind h (k' u) else eC (.bl false))
/-- a value as a test -/
def truV (ce : List Cell) : Val → Option Bool
  | .im .non => some false
  | .im (.bl b) => some b
  | .im (.int i) => some (i != 0)
  | .im (.str y) => if y.length ≤ LINE then some ((y.length : Int) != 0) else none
  | v => (asSq ce v).map fun ds => !ds.isEmpty
def kTru (v : Val) : DE := fun _ ce => match truV ce v with
  | some b => .ok (.im (.bl b)) ce
  | none => .stuck
def eTru (f : DE) : DE := eBind f kTru

/-! ### what they ask of the values -/
section
variable {Z : Zy} {A A' : List Addr} {F F' H : Hp} {ce : List Cell} {sl : Sl} {σ : L2.St} {W : WX} {Q Q' : VK}
theorem asL_rd {v : Val} {x : V} {ds : List D} (so : SO Z.toZx A F ce H) (r : VRep Z A F v x) (e : asL ce v = some ds) : ∃ l vs, x = .ref l ∧ H l = some (.lst vs) ∧ Reps Z.toZx F ds vs := by
  unfold asL at e
  split at e
  · cases e
    unfold VRep Rep at r
    obtain ⟨a, vs, rfl, h1, h2⟩ := r
    exact ⟨a, vs, rfl, so.sub _ _ h1, h2⟩
  · rename_i k
    split at e
    · rename_i ds' hk
      cases e
      obtain ⟨a, h1, rfl⟩ := r
      obtain ⟨_, vs, h2, h3⟩ := so.ok k a _ h1 hk
      exact ⟨a, vs, rfl, h2, h3⟩
    · cases e
  · cases e
theorem asSq_rd {v : Val} {x : V} {ds : List D} (so : SO Z.toZx A F ce H) (r : VRep Z A F v x) (e : asSq ce v = some ds) : ∃ l vs, x = .ref l ∧ (SqL Z.K H l vs ∨ SqT Z.K H l vs) ∧ Reps Z.toZx F ds vs := by
  unfold asSq at e
  split at e
  · cases e
    unfold VRep Rep at r
    obtain ⟨a, vs, rfl, h1, h2⟩ := r
    exact ⟨a, vs, rfl, .inl (SqL.of (so.sub _ _ h1)), h2⟩
  · cases e
    unfold VRep Rep at r
    obtain ⟨a, vs, rfl, h1, h2⟩ := r
    exact ⟨a, vs, rfl, .inl (so.sub.seq h1), h2⟩
  · cases e
    unfold VRep Rep at r
    obtain ⟨a, vs, rfl, h1, h2⟩ := r
    exact ⟨a, vs, rfl, .inr (same_seqT so.sub h1), h2⟩
  · rename_i k
    split at e
    · rename_i ds' hk
      cases e
      obtain ⟨a, h1, rfl⟩ := r
      obtain ⟨_, vs, h2, h3⟩ := so.ok k a _ h1 hk
      exact ⟨a, vs, rfl, .inl (SqL.of h2), h3⟩
    · cases e
  · cases e
mutual
theorem dp_of (e : Same F H) : ∀ {d : D} {v : V} {p : PyData}, Rep Z.toZx F d v → toPy d = some p → Dp Z.K H v p
  | .non, v, p, r, t => by
    unfold Rep at r; unfold toPy at t; cases t; subst r; exact .non
  | .bl b, v, p, r, t => by
    unfold Rep at r; unfold toPy at t; cases t; subst r; exact .bl b
  | .int b, v, p, r, t => by
    unfold Rep at r; unfold toPy at t; cases t; subst r; exact .int b
  | .str b, v, p, r, t => by
    unfold Rep at r; unfold toPy at t; cases t; subst r; exact .str b
  | .tup ds, v, p, r, t => by
    unfold Rep at r; unfold toPy at t
    obtain ⟨a, vs, rfl, h1, h2⟩ := r
    cases q : toPys ds with
    | none => rw [q] at t; cases t
    | some ps => rw [q] at t; cases t; exact .tup (same_seqT e h1) (dps_of e h2 q)
  | .lst ds, v, p, r, t => by
    unfold Rep at r; unfold toPy at t
    obtain ⟨a, vs, rfl, h1, h2⟩ := r
    cases q : toPys ds with
    | none => rw [q] at t; cases t
    | some ps => rw [q] at t; cases t; exact .lst (SqL.of (e _ _ h1)) (dps_of e h2 q)
  | .wl ds, v, p, r, t => by
    unfold Rep at r; unfold toPy at t
    obtain ⟨a, vs, rfl, h1, h2⟩ := r
    cases q : toPys ds with
    | none => rw [q] at t; cases t
    | some ps => rw [q] at t; cases t; exact .lst (e.seq h1) (dps_of e h2 q)
  | .ins _ _, v, p, r, t => by
    unfold toPy at t; cases t
  | .dct _ _, v, p, r, t => by
    unfold toPy at t; cases t
theorem dps_of (e : Same F H) : ∀ {ds : List D} {vs : List V} {ps : List PyData}, Reps Z.toZx F ds vs → toPys ds = some ps → DpAll Z.K H vs ps
  | [], vs, ps, r, t => by
    rw [reps_nil_inv r]; unfold toPys at t; cases t; exact .nil
  | d :: ds, vs, ps, r, t => by
    obtain ⟨v, r', rfl, h1, h2⟩ := reps_cons_inv r
    unfold toPys at t
    split at t
    · rename_i p ps' q1 q2
      cases t
      exact .cons (dp_of e h1 q1) (dps_of e h2 q2)
    · cases t
end
theorem asIm_dp {v : Val} {x : V} {d : D} {p : PyData} (so : SO Z.toZx A F ce H) (r : VRep Z A F v x) (e : asIm ce v = some d) (t : toPy d = some p) : Dp Z.K H x p := by
  unfold asIm at e
  split at e
  · cases e
    exact dp_of so.sub r t
  · rename_i k
    split at e
    · rename_i ds' hk
      cases e
      obtain ⟨a, h1, rfl⟩ := r
      obtain ⟨_, vs, h2, h3⟩ := so.ok k a _ h1 hk
      unfold toPy at t
      cases q : toPys ds' with
      | none => rw [q] at t; cases t
      | some ps => rw [q] at t; cases t; exact .lst (SqL.of h2) (dps_of so.sub h3 q)
    · cases e
  · cases e
theorem truV_ok {v : Val} {x : V} {b : Bool} (so : SO Z.toZx A F ce H) (r : VRep Z A F v x) (e : truV ce v = some b) : TruV Z.K x H b := by
  unfold truV at e
  split at e
  · cases e; unfold VRep Rep at r; subst r; rfl
  · cases e; unfold VRep Rep at r; subst r; rfl
  · cases e; unfold VRep Rep at r; subst r; rfl
  · split at e
    · rename_i h
      cases e; unfold VRep Rep at r; subst r
      exact ⟨by rw [sizeLine_eq]; exact h, rfl⟩
    · cases e
  · cases q : asSq ce v with
    | none => rw [q] at e; cases e
    | some ds =>
      rw [q] at e
      cases e
      obtain ⟨l, vs, rfl, h1, h2⟩ := asSq_rd so r q
      have hv : (!ds.isEmpty) = !vs.isEmpty := by
        have := h2.length
        cases ds <;> cases vs <;> simp_all
      rcases h1 with h1 | h1
      · exact .inl ⟨vs, h1, by simpa using hv⟩
      · exact .inr (.inl ⟨vs, h1, by simpa using hv⟩)
theorem fin_flat {d : D} {x : V} (so : SO Z.toZx A F ce H) (h : PostE Z A F W σ Q (.ok (.im d) ce)) (r : Rep Z.toZx F d x) : Q x H :=
  h A F H x (List.prefix_refl _) (Same.refl _) so r
theorem fin_newL {ds : List D} {vs : List V} (so : SO Z.toZx A F ce H) (h : PostE Z A F W σ Q (.ok (.im (.lst ds)) ce)) (r : Reps Z.toZx F ds vs) {p : Addr} (hp : H p = none) : Q (.ref p) (upd H p (.lst vs)) := by
  refine h A (upd F p (.lst vs)) _ _ (List.prefix_refl _) (same_up (so.fnone hp)) (so.new hp) ?_
  unfold VRep Rep
  exact ⟨p, vs, rfl, upd_same, r.mono (same_up (so.fnone hp))⟩
theorem fin_newT {ds : List D} {vs : List V} (so : SO Z.toZx A F ce H) (h : PostE Z A F W σ Q (.ok (.im (.tup ds)) ce)) (r : Reps Z.toZx F ds vs) {p : Addr} (hp : H p = none) : Q (.ref p) (upd H p (.tup vs)) := by
  refine h A (upd F p (.tup vs)) _ _ (List.prefix_refl _) (same_up (so.fnone hp)) (so.new hp) ?_
  unfold VRep Rep
  exact ⟨p, vs, rfl, SqT.of upd_same, r.mono (same_up (so.fnone hp))⟩
theorem fin_newC {ds : List D} {vs : List V} (so : SO Z.toZx A F ce H) (h : PostE Z A F W σ Q (.ok (.cell ce.length) (ce ++ [.lst ds]))) (r : Reps Z.toZx F ds vs) {p : Addr} (hp : H p = none) : Q (.ref p) (upd H p (.lst vs)) := by
  refine h (A ++ [p]) F _ _ (List.prefix_append _ _) (Same.refl _) (so.newCell hp ⟨so.fnone hp, vs, upd_same, r⟩) ?_
  exact ⟨p, by rw [← so.len]; simp, rfl⟩
/-- what a rule on two values asks -/
def Ok2 (Z : Zy) (W : WX) (k : Val → Val → DE) (r : R2) : Prop := ∀ A F sl ce v u x y H σ Q, SO Z.toZx A F ce H → SL Z A F sl σ → VRep Z A F v x → VRep Z A F u y → PostE Z A F W σ Q (k v u sl ce) → r x y H Q
theorem rep_int {i : Int} {x : V} (r : VRep Z A F (.im (.int i)) x) : x = .int i := by unfold VRep Rep at r; exact r
theorem rep_bl {i : Bool} {x : V} (r : VRep Z A F (.im (.bl i)) x) : x = .bl i := by unfold VRep Rep at r; exact r
theorem rep_str {i : Str} {x : V} (r : VRep Z A F (.im (.str i)) x) : x = .str i := by unfold VRep Rep at r; exact r
theorem rep_non {x : V} (r : VRep Z A F (.im .non) x) : x = .non := by unfold VRep Rep at r; exact r
theorem repI {i : Int} : Rep Z.toZx F (.int i) (.int i) := by unfold Rep; rfl
theorem repB {i : Bool} : Rep Z.toZx F (.bl i) (.bl i) := by unfold Rep; rfl
theorem repS {i : Str} : Rep Z.toZx F (.str i) (.str i) := by unfold Rep; rfl
theorem repN : Rep Z.toZx F .non .non := by unfold Rep; rfl
end
section
variable {X : Cx} {Z : Zy} {W : WX} {a b c : Expr} {f g h : DE} {pos : Pos}
def rAddA : R2 := fun x y H Q => (∃ i j, x = .int i ∧ y = .int j ∧ Q (.int (i + j)) H) ∨ (∃ i j, x = .str i ∧ y = .str j ∧ i.length + j.length ≤ sizeLine ∧ Q (.str (i ++ j)) H) ∨ rCat x y H Q
theorem op_or2 {f : Value → Value → Sem Value} {r r' : R2} (h : OpR X f r) (h' : OpR X f r') : OpR X f (fun x y H Q => r x y H Q ∨ r' x y H Q) := by
  intro pins s σ H x y v u Q I rx ry q
  rcases q with q | q
  · exact h pins s σ H x y v u Q I rx ry q
  · exact h' pins s σ H x y v u Q I rx ry q
theorem op_addA : OpR X (binaryOp .Add) rAddA := op_or2 op_add (op_or2 op_add_str op_cat)
theorem ok_add : Ok2 Z W kAdd rAddA := by
  intro A F sl ce v u x y H σ Q so hs rv ru p
  unfold kAdd at p
  split at p
  · exact .inl ⟨_, _, rep_int rv, rep_int ru, fin_flat so p repI⟩
  · split at p
    · rename_i hl
      exact .inr (.inl ⟨_, _, rep_str rv, rep_str ru, by rw [sizeLine_eq]; exact hl, fin_flat so p repS⟩)
    · exact p.elim
  · split at p
    · rename_i xs ys e1 e2
      split at p
      · rename_i hl
        obtain ⟨l, vs, rfl, h1, h2⟩ := asL_rd so rv e1
        obtain ⟨l', vs', rfl, h1', h2'⟩ := asL_rd so ru e2
        exact .inr (.inr ⟨l, l', vs, vs', rfl, rfl, h1, h1', by rw [sizeLine_eq, ← h2.length, ← h2'.length]; exact hl, fun p' hp => fin_newL so p (h2.append h2') hp⟩)
      · exact p.elim
    · exact p.elim
theorem ok_int {k : Val → Val → DE} {C : Int → Int → Prop} {g : Int → Int → D} {gv : Int → Int → V} (hk : ∀ v u sl ce, (∃ i j, v = .im (.int i) ∧ u = .im (.int j) ∧ C i j ∧ k v u sl ce = .ok (.im (g i j)) ce) ∨ k v u sl ce = .stuck)
    (hg : ∀ F i j, Rep Z.toZx F (g i j) (gv i j)) : Ok2 Z W k (rI C gv) := by
  intro A F sl ce v u x y H σ Q so hs rv ru p
  rcases hk v u sl ce with ⟨i, j, rfl, rfl, hc, e⟩ | e
  · rw [e] at p
    exact ⟨i, j, rep_int rv, rep_int ru, hc, fin_flat so p (hg _ _ _)⟩
  · rw [e] at p
    exact p.elim
theorem op_rI0 {f : Value → Value → Sem Value} {g : Int → Int → V} (h : OpR X f (rI0 g)) : OpR X f (rI (fun _ _ => True) g) := by
  intro pins s σ H x y v u Q I rx ry ⟨i, j, e1, e2, _, q⟩
  exact h pins s σ H x y v u Q I rx ry ⟨i, j, e1, e2, q⟩
theorem ok_sub : Ok2 Z W kSub (rI (fun _ _ => True) fun i j => .int (i - j)) := ok_int (g := fun i j => .int (i - j)) (fun v u sl ce => by
  unfold kSub; split
  · exact .inl ⟨_, _, rfl, rfl, trivial, rfl⟩
  · exact .inr rfl) fun _ _ _ => repI
theorem ok_cmp {g : Int → Int → Bool} : Ok2 Z W (kCmp g) (rI (fun _ _ => True) fun i j => .bl (g i j)) := ok_int (g := fun i j => .bl (g i j)) (fun v u sl ce => by
  unfold kCmp; split
  · exact .inl ⟨_, _, rfl, rfl, trivial, rfl⟩
  · exact .inr rfl) fun _ _ _ => repB
def CMulA (i j : Int) : Prop := CMul i j ∨ CMulW i j
theorem op_mulA : OpR X (binaryOp .Mult) (rI CMulA fun i j => .int (i * j)) := by
  intro pins s σ H x y v u Q I rx ry ⟨i, j, e1, e2, hc, q⟩
  rcases hc with hc | hc
  · exact op_mul pins s σ H x y v u Q I rx ry ⟨i, j, e1, e2, hc, q⟩
  · exact op_mulW pins s σ H x y v u Q I rx ry ⟨i, j, e1, e2, hc, q⟩
theorem mulOK_ok {i j : Int} (h : mulOK i j = true) : CMulA i j := by
  unfold mulOK at h
  simp only [Bool.or_eq_true, Bool.and_eq_true, decide_eq_true_eq] at h
  rcases h with ⟨h1, h2⟩ | h | h
  · exact .inr (wide_mul h1 h2 (by decide) (by decide) (by decide))
  · exact .inl (.inl (by constructor <;> omega))
  · exact .inl (.inr (by constructor <;> omega))
theorem ok_mul : Ok2 Z W kMul (rI CMulA fun i j => .int (i * j)) := ok_int (g := fun i j => .int (i * j)) (fun v u sl ce => by
  unfold kMul; split
  · split
    · rename_i h
      exact .inl ⟨_, _, rfl, rfl, mulOK_ok h, rfl⟩
    · exact .inr rfl
  · exact .inr rfl) fun _ _ _ => repI
theorem ok_div : Ok2 Z W kDiv (rI CDiv fun i j => .int (i / j)) := ok_int (g := fun i j => .int (i / j)) (fun v u sl ce => by
  unfold kDiv; split
  · split
    · rename_i h
      exact .inl ⟨_, _, rfl, rfl, h, rfl⟩
    · exact .inr rfl
  · exact .inr rfl) fun _ _ _ => repI
theorem ok_mod : Ok2 Z W kMod (rI (fun _ j => 0 < j) fun i j => .int (i % j)) := ok_int (g := fun i j => .int (i % j)) (fun v u sl ce => by
  unfold kMod; split
  · split
    · rename_i h
      exact .inl ⟨_, _, rfl, rfl, h, rfl⟩
    · exact .inr rfl
  · exact .inr rfl) fun _ _ _ => repI
theorem ok_pow : Ok2 Z W kPow (rI CPow fun i j => .int (i ^ j.toNat)) := ok_int (g := fun i j => .int (i ^ j.toNat)) (fun v u sl ce => by
  unfold kPow; split
  · split
    · rename_i h
      exact .inl ⟨_, _, rfl, rfl, h, rfl⟩
    · exact .inr rfl
  · exact .inr rfl) fun _ _ _ => repI
theorem ok_eqG (neg : Bool) : Ok2 Z W (kEqG neg) (fun x y H Q => ∃ d e, Dp Z.K H x d ∧ Dp Z.K H y e ∧ SeqAt.shaped d = true ∧ SeqAt.shaped e = true ∧ Q (.bl (if neg then !PyData.eqv d e else PyData.eqv d e)) H) := by
  intro A F sl ce v u x y H σ Q so hs rv ru p
  unfold kEqG at p
  split at p
  · rename_i d e e1 e2
    unfold pyEq at p
    cases t1 : toPy d with
    | none => simp only [t1] at p; exact p.elim
    | some p1 =>
      cases t2 : toPy e with
      | none => simp only [t1, t2] at p; exact p.elim
      | some p2 =>
        simp only [t1, t2] at p
        by_cases hs : SeqAt.shaped p1 = true ∧ SeqAt.shaped p2 = true
        · rw [if_pos hs] at p
          exact ⟨p1, p2, asIm_dp so rv e1 t1, asIm_dp so ru e2 t2, hs.1, hs.2, fin_flat so p repB⟩
        · rw [if_neg hs] at p
          exact p.elim
  · exact p.elim
theorem ok_eq : Ok2 Z W kEq (rEqD Z.K) := ok_eqG false
theorem ok_ne : Ok2 Z W kNe (rNeD Z.K) := ok_eqG true
theorem rep_isNon {F : Hp} {d : D} {x : V} (r : Rep Z.toZx F d x) : decide (x = .non) = d.isNon := by
  cases d <;> unfold Rep at r <;> first | (subst r; rfl) | (obtain ⟨a, o, k, v, rfl, _⟩ := r; rfl) | (obtain ⟨a, vs, rfl, _⟩ := r; rfl) | (obtain ⟨a, dx, fs, rfl, _⟩ := r; rfl)
theorem ok_isN (neg : Bool) : Ok2 Z W (kIsN neg) (fun x y H Q => y = .non ∧ Q (.bl (if neg then !decide (x = .non) else decide (x = .non))) H) := by
  intro A F sl ce v u x y H σ Q so hs rv ru p
  unfold kIsN at p
  split at p
  · refine ⟨rep_non ru, ?_⟩
    rw [rep_isNon rv]
    exact fin_flat so p repB
  · exact p.elim
theorem ok_isB (neg : Bool) : Ok2 Z W (kIsB neg) (fun x y H Q => ∃ a b : Bool, x = .bl a ∧ y = .bl b ∧ Q (.bl (if neg then !decide (a = b) else decide (a = b))) H) := by
  intro A F sl ce v u x y H σ Q so hs rv ru p
  unfold kIsB at p
  split at p
  · exact ⟨_, _, rep_bl rv, rep_bl ru, fin_flat so p repB⟩
  · exact p.elim
theorem atI_reps {F : Hp} {ds : List D} {vs : List V} {i : Int} {d : D} (r : Reps Z.toZx F ds vs) (e : atI ds i = some d) : ∃ x, atI vs i = some x ∧ Rep Z.toZx F d x := by
  unfold atI at e ⊢
  rw [← r.length]
  cases q : ixN ds.length i with
  | none => rw [q] at e; cases e
  | some j =>
    rw [q] at e
    exact r.get' e
theorem ok_ix : Ok2 Z W kIx (rIx Z.K) := by
  intro A F sl ce v u x y H σ Q so hs rv ru p
  unfold kIx at p
  split at p
  · split at p
    · split at p
      · rename_i hl
        split at p
        · rename_i c hc
          exact .inr (.inr ⟨_, _, c, rep_str rv, rep_int ru, by rw [sizeLine_eq]; exact hl, hc, fin_flat so p repS⟩)
        · exact p.elim
      · exact p.elim
    · split at p
      · rename_i ds e1
        split at p
        · rename_i d e2
          obtain ⟨l, vs, rfl, h1, h2⟩ := asSq_rd so rv e1
          obtain ⟨x, e3, r3⟩ := atI_reps h2 e2
          rcases h1 with h1 | h1
          · exact .inl ⟨l, vs, _, x, rfl, rep_int ru, h1, e3, fin_flat so p r3⟩
          · exact .inr (.inl ⟨l, vs, _, x, rfl, rep_int ru, h1, e3, fin_flat so p r3⟩)
        · exact p.elim
      · exact p.elim
  · exact p.elim
theorem ok_inS (neg : Bool) : Ok2 Z W (kInS neg) (fun x y H Q => ∃ (c : Nat) (z : Str), x = .str ⟨#[c]⟩ ∧ y = .str z ∧ Q (.bl (if neg then !decide (c ∈ z.cps.toList) else decide (c ∈ z.cps.toList))) H) := by
  intro A F sl ce v u x y H σ Q so hs rv ru p
  unfold kInS at p
  split at p
  · rename_i a z
    split at p
    · rename_i c hc
      have ea : a = ⟨#[c]⟩ := by
        cases a with
        | mk cps =>
          congr 1
          have h2 : cps.toList = [c] := hc
          rw [← Array.toArray_toList (xs := cps), h2]
      exact ⟨c, z, by rw [rep_str rv, ea], rep_str ru, fin_flat so p repB⟩
    · exact p.elim
  · exact p.elim

/-! ### rules -/
theorem de_c {d : D} {v : V} {e : Expr} (h : PE X e (tC v)) (r : ∀ F, Rep Z.toZx F d v) : PE X e (tE Z W (eC d)) := h.weak fun σ H Q ⟨A, F, sl, ce, so, hs, p⟩ => fin_flat so p (r F)
theorem de_int {i j} : PE X (.Constant (.int i) j pos) (tE Z W (eC (.int i))) := de_c pe_int fun _ => repI
theorem de_str {i j} : PE X (.Constant (.str i) j pos) (tE Z W (eC (.str i))) := de_c pe_str fun _ => repS
theorem de_bl {i j} : PE X (.Constant (.bool i) j pos) (tE Z W (eC (.bl i))) := de_c pe_bl fun _ => repB
theorem de_non {j} : PE X (.Constant .none j pos) (tE Z W (eC .non)) := de_c pe_non fun _ => repN
theorem de_var {e : Expr} {i : Nat} (h : PE X e (tVar i)) : PE X e (tE Z W (eV i)) := h.weak fun σ H Q ⟨A, F, sl, ce, so, hs, p⟩ => by
  unfold eV at p
  split at p
  · rename_i v e
    obtain ⟨x, h1, h2⟩ := hs.is i v e
    exact ⟨x, h1, p A F H x (List.prefix_refl _) (Same.refl _) so h2⟩
  · exact p.elim
theorem dv (i : Nat) {x : Str} {pos : Pos} (hN : X.N[i]? = some x := by rfl) (hv : Vis X.env.scope x := by first | exact Or.inl rfl | exact Or.inr (Or.inl rfl) | exact Or.inr (Or.inr rfl)) (hd : (x == ("__debug__" : Str)) = false := by decide)
    (hcd : (x == ("__classdict__" : Str)) = false := by decide) : PE X (.Name x pos) (tE Z W (eV i)) := de_var (pe_var hN hv hd hcd)
theorem t2 {k : Val → Val → DE} {r : R2} (hk : Ok2 Z W k r) {σ : L2.St} {H : Hp} {Q : VK} (h : tE Z W (eBin k f g) σ H Q) : tE Z W f σ H fun x H1 => tE Z W g σ H1 fun y H2 => r x y H2 Q :=
  tE_imp (fun x H1 h1 => tE_imp (fun y H2 ⟨A, F, sl, ce, v, u, so, hs, rv, ru, p⟩ => hk A F sl ce v u x y H2 σ Q so hs rv ru p) h1) (tE2 h)
theorem de_op {op : Operator} {k : Val → Val → DE} {r : R2} (ho : OpR X (binaryOp op) r) (hk : Ok2 Z W k r) (ha : PE X a (tE Z W f)) (hb : PE X b (tE Z W g)) : PE X (.BinOp a op b pos) (tE Z W (eBin k f g)) :=
  (pe_op ho ha hb).weak fun σ H Q h => t2 hk h
theorem de_add (ha : PE X a (tE Z W f)) (hb : PE X b (tE Z W g)) : PE X (.BinOp a .Add b pos) (tE Z W (eBin kAdd f g)) := de_op op_addA ok_add ha hb
theorem de_sub (ha : PE X a (tE Z W f)) (hb : PE X b (tE Z W g)) : PE X (.BinOp a .Sub b pos) (tE Z W (eBin kSub f g)) := de_op (op_rI0 op_sub) ok_sub ha hb
theorem de_mul (ha : PE X a (tE Z W f)) (hb : PE X b (tE Z W g)) : PE X (.BinOp a .Mult b pos) (tE Z W (eBin kMul f g)) := de_op op_mulA ok_mul ha hb
theorem de_div (ha : PE X a (tE Z W f)) (hb : PE X b (tE Z W g)) : PE X (.BinOp a .FloorDiv b pos) (tE Z W (eBin kDiv f g)) := de_op op_fdiv ok_div ha hb
theorem de_mod (ha : PE X a (tE Z W f)) (hb : PE X b (tE Z W g)) : PE X (.BinOp a .Mod b pos) (tE Z W (eBin kMod f g)) := de_op op_mod ok_mod ha hb
theorem de_pow (ha : PE X a (tE Z W f)) (hb : PE X b (tE Z W g)) : PE X (.BinOp a .Pow b pos) (tE Z W (eBin kPow f g)) := de_op op_pow ok_pow ha hb
theorem de_cmp {op : CmpOp} {k : Val → Val → DE} {r : R2} (ho : OpR X (compareOp op) r) (hk : Ok2 Z W k r) (ha : PE X a (tE Z W f)) (hb : PE X b (tE Z W g)) (hm : behindInMarks op b = false) : PE X (.Compare a [op] [b] pos) (tE Z W (eBin k f g)) :=
  (pe_cmpR ho ha hb hm).weak fun σ H Q h => t2 hk h
/-- a comparison's rule: what it is on values -/
structure CmpK (X : Cx) (Z : Zy) (W : WX) (op : CmpOp) (k : Val → Val → DE) : Prop where
  ex : ∃ r, OpR X (compareOp op) r ∧ Ok2 Z W k r
theorem c_lt : CmpK X Z W .Lt kLt := ⟨_, op_rI0 op_lt, ok_cmp⟩
theorem c_le : CmpK X Z W .LtE kLe := ⟨_, op_rI0 op_le, ok_cmp⟩
theorem c_gt : CmpK X Z W .Gt kGt := ⟨_, op_rI0 op_gt, ok_cmp⟩
theorem c_ge : CmpK X Z W .GtE kGe := ⟨_, op_rI0 op_ge, ok_cmp⟩
theorem c_eq {k : Nat} (hK : X.K = Z.K) (hr : Room k X.A) : CmpK X Z W .Eq kEq := ⟨rEqD Z.K, by rw [← hK]; exact op_eqD hr.units, ok_eq⟩
theorem c_ne {k : Nat} (hK : X.K = Z.K) (hr : Room k X.A) : CmpK X Z W .NotEq kNe := ⟨rNeD Z.K, by rw [← hK]; exact op_neD hr.units, ok_ne⟩
theorem c_isN : CmpK X Z W .Is (kIsN false) := ⟨_, op_isN, ok_isN false⟩
theorem c_notN : CmpK X Z W .IsNot (kIsN true) := ⟨_, op_notN, ok_isN true⟩
theorem c_isB : CmpK X Z W .Is (kIsB false) := ⟨_, op_isBl, ok_isB false⟩
theorem c_notB : CmpK X Z W .IsNot (kIsB true) := ⟨_, op_notBl, ok_isB true⟩
theorem c_inS : CmpK X Z W .In (kInS false) := ⟨_, op_in_sign, ok_inS false⟩
theorem c_notInS : CmpK X Z W .NotIn (kInS true) := ⟨_, op_notIn_sign, ok_inS true⟩
theorem de_cmpK {op : CmpOp} {k : Val → Val → DE} (c : CmpK X Z W op k) (ha : PE X a (tE Z W f)) (hb : PE X b (tE Z W g)) (hm : behindInMarks op b = false := by first | exact nomark _ (by decide) (by decide) | rfl) : PE X (.Compare a [op] [b] pos) (tE Z W (eBin k f g)) := by
  obtain ⟨r, ho, hk⟩ := c.ex
  exact de_cmp ho hk ha hb hm
theorem de_ix (hK : X.K = Z.K) (ha : PE X a (tE Z W f)) (hb : PE X b (tE Z W g)) (hs : PlainIx b := by exact fun _ _ => rfl) : PE X (.Subscript a b pos) (tE Z W (eBin kIx f g)) :=
  (pe_ix (r := rIx Z.K) (by rw [← hK]; exact ix_seq) ha hb hs).weak fun σ H Q h => t2 ok_ix h
/-- and, or, not, if: values that are bools -/
theorem PostE.bool {A F σ Q} {k : Bool → DE} {v : Val} {x : V} {sl ce} (r : VRep Z A F v x) (p : PostE Z A F W σ Q (kBool k v sl ce)) : ∃ b, x = .bl b ∧ PostE Z A F W σ Q (k b sl ce) := by
  unfold kBool at p
  split at p
  · exact ⟨_, rep_bl r, p⟩
  · exact p.elim
theorem de_and {rest} (ha : PE X a (tE Z W f)) (hb : PE X (.BoolOp .And (b :: rest) pos) (tE Z W g)) : PE X (.BoolOp .And (a :: b :: rest) pos) (tE Z W (eAnd f g)) :=
  (pe_and ha hb).weak fun σ H Q h => tE_imp (fun x H1 ⟨A, F, sl, ce, v, so, hs, r, p⟩ => by
    obtain ⟨b, rfl, p⟩ := p.bool r
    refine ⟨b, rfl, ?_⟩
    cases b with
    | true => exact iteT ⟨A, F, sl, ce, so, hs, p⟩
    | false => exact iteF (fin_flat so p repB)) (tE1 h)
theorem de_or {rest} (ha : PE X a (tE Z W f)) (hb : PE X (.BoolOp .Or (b :: rest) pos) (tE Z W g)) : PE X (.BoolOp .Or (a :: b :: rest) pos) (tE Z W (eOr f g)) :=
  (pe_or ha hb).weak fun σ H Q h => tE_imp (fun x H1 ⟨A, F, sl, ce, v, so, hs, r, p⟩ => by
    obtain ⟨b, rfl, p⟩ := p.bool r
    refine ⟨b, rfl, ?_⟩
    cases b with
    | true => exact iteT (fin_flat so p repB)
    | false => exact iteF ⟨A, F, sl, ce, so, hs, p⟩) (tE1 h)
theorem de_one {op} (h : PE X a (tE Z W f)) : PE X (.BoolOp op [a] pos) (tE Z W f) := pe_one h
theorem de_not (ha : PE X a (tE Z W f)) : PE X (.UnaryOp .Not a pos) (tE Z W (eNot f)) :=
  (pe_not ha).weak fun σ H Q h => tE_imp (fun x H1 ⟨A, F, sl, ce, v, so, hs, r, p⟩ => by
    obtain ⟨b, rfl, p⟩ := p.bool r
    exact ⟨b, rfl, fin_flat so p repB⟩) (tE1 h)
/-- a test -/
def tT (Z : Zy) (W : WX) (f : DE) : TT := fun σ H Q => tE Z W f σ H fun x H' => ∃ b, x = .bl b ∧ Q b H'
theorem dt_val {e : Expr} (h : PE X e (tE Z W f)) (he : ∀ whole, isTrue e X.env whole = (do let v ← whole; standAt e.pos; holding [v] (truthy v)) := by intro _; rfl) : PT X e (tT Z W f) := pt_val h he
theorem dt_cmp {op : CmpOp} {k : Val → Val → DE} (c : CmpK X Z W op k) (ha : PE X a (tE Z W f)) (hb : PE X b (tE Z W g)) (hm : behindInMarks op b = false := by first | exact nomark _ (by decide) (by decide) | rfl) : PT X (.Compare a [op] [b] pos) (tT Z W (eBin k f g)) := by
  obtain ⟨r, ho, hk⟩ := c.ex
  exact (pt_cmpR ho ha hb hm).weak fun σ H Q h => t2 hk h
theorem dt_tru {e : Expr} (hK : X.K = Z.K) (h : PE X e (tE Z W f)) (he : ∀ whole, isTrue e X.env whole = (do let v ← whole; standAt e.pos; holding [v] (truthy v)) := by intro _; rfl) : PT X e (tT Z W (eTru f)) :=
  (pt_truth h he).weak fun σ H Q q => tE_imp (fun x H1 ⟨A, F, sl, ce, v, so, hs, r, p⟩ => by
    unfold kTru at p
    split at p
    · rename_i b e
      obtain ⟨k, e2, q⟩ := fin_flat so p repB
      cases e2
      exact ⟨b, by rw [hK]; exact truV_ok so r e, q⟩
    · exact p.elim) (tE1 (f := f) (k := kTru) q)
theorem tT_and {σ H Q} (h : tT Z W (eAnd f g) σ H Q) : tAnd (tT Z W f) (tT Z W g) σ H Q := tE_imp (fun x H1 ⟨A, F, sl, ce, v, so, hs, r, p⟩ => by
  obtain ⟨b, rfl, p⟩ := p.bool r
  refine ⟨b, rfl, ?_⟩
  cases b with
  | true => exact iteT ⟨A, F, sl, ce, so, hs, p⟩
  | false =>
    obtain ⟨c, e, q⟩ := fin_flat so p repB
    cases e
    exact iteF q) (tE1 h)
theorem tT_or {σ H Q} (h : tT Z W (eOr f g) σ H Q) : tOr (tT Z W f) (tT Z W g) σ H Q := tE_imp (fun x H1 ⟨A, F, sl, ce, v, so, hs, r, p⟩ => by
  obtain ⟨b, rfl, p⟩ := p.bool r
  refine ⟨b, rfl, ?_⟩
  cases b with
  | true =>
    obtain ⟨c, e, q⟩ := fin_flat so p repB
    cases e
    exact iteT q
  | false => exact iteF ⟨A, F, sl, ce, so, hs, p⟩) (tE1 h)
theorem _root_.L2.PW.weak {e : Expr} {t t' : TT} (h : PW X e t) (hw : ∀ σ H Q, t' σ H Q → t σ H Q) : PW X e t' :=
  ⟨fun w pins s σ H Q I q => h.run w pins s σ H Q I (hw σ H Q q)⟩
theorem dw_and1 (ha : PT X a (tT Z W f)) : PW X (.BoolOp .And [a] pos) (tT Z W f) := pw_and1 ha
theorem dw_or1 (ha : PT X a (tT Z W f)) : PW X (.BoolOp .Or [a] pos) (tT Z W f) := pw_or1 ha
theorem dw_and {rest} (ha : PT X a (tT Z W f)) (hb : PW X (.BoolOp .And (b :: rest) pos) (tT Z W g)) : PW X (.BoolOp .And (a :: b :: rest) pos) (tT Z W (eAnd f g)) := (pw_and ha hb).weak fun _ _ _ h => tT_and h
theorem dw_or {rest} (ha : PT X a (tT Z W f)) (hb : PW X (.BoolOp .Or (b :: rest) pos) (tT Z W g)) : PW X (.BoolOp .Or (a :: b :: rest) pos) (tT Z W (eOr f g)) := (pw_or ha hb).weak fun _ _ _ h => tT_or h
theorem dt_not (ha : PT X a (tT Z W f)) : PT X (.UnaryOp .Not a pos) (tT Z W (eNot f)) := (pt_not ha).weak fun σ H Q h => tE_imp (fun x H1 ⟨A, F, sl, ce, v, so, hs, r, p⟩ => by
  obtain ⟨b, rfl, p⟩ := p.bool r
  obtain ⟨c, e, q⟩ := fin_flat so p repB
  cases e
  exact ⟨b, rfl, q⟩) (tE1 (f := f) (k := kBool fun b => eC (.bl (!b))) h)
theorem de_if {c a b : Expr} (hc : PT X c (tT Z W f)) (ha : PE X a (tE Z W g)) (hb : PE X b (tE Z W h)) : PE X (.IfExp c a b pos) (tE Z W (eIf f g h)) := (pe_ifExp hc ha hb).weak fun σ H Q q => tE_imp (fun x H1 ⟨A, F, sl, ce, v, so, hs, r, p⟩ => by
  obtain ⟨b, rfl, p⟩ := p.bool r
  refine ⟨b, rfl, ?_⟩
  cases b with
  | true => exact iteT ⟨A, F, sl, ce, so, hs, p⟩
  | false => exact iteF ⟨A, F, sl, ce, so, hs, p⟩) (tE1 (f := f) (k := kBool fun b => if b then g else h) q)
theorem t_chain {k k' : Val → Val → DE} {r r' : R2} (hk : Ok2 Z W k r) (hk' : Ok2 Z W k' r') {σ H Q} (q : tE Z W (eChain k k' f g h) σ H Q) : tChain r r' (tE Z W f) (tE Z W g) (tE Z W h) σ H Q := by
  refine tE_imp (fun x H1 h1 => tE_imp (fun y H2 ⟨A, F, sl, ce, v, u, so, hs, rv, ru, p⟩ => ?_) h1) (tE2 (f := f) (g := g) (k := fun v u => eBind (k v u) (kBool fun b => if b then eBind h (k' u) else eC (.bl false))) q)
  refine hk A F sl ce v u x y H2 σ _ so hs rv ru ((PostE.bind so hs p).imp fun z H3 ⟨A3, F3, ce3, w3, p3, e3, so3, r3, q3⟩ => ?_)
  obtain ⟨b, rfl, q3⟩ := q3.bool r3
  refine ⟨b, rfl, ?_⟩
  cases b with
  | true =>
    refine iteT ⟨A3, F3, sl, ce3, so3, hs.mono p3 e3, (PostE.bind so3 (hs.mono p3 e3) q3).imp fun z4 H4 ⟨A4, F4, ce4, w4, p4, e4, so4, r4, q4⟩ => ?_⟩
    exact hk' A4 F4 sl ce4 u w4 y z4 H4 σ Q so4 ((hs.mono p3 e3).mono p4 e4) ((ru.mono p3 e3).mono p4 e4) r4 q4
  | false => exact iteF (fin_flat so3 q3 repB)
theorem de_chain {op op' : CmpOp} {k k' : Val → Val → DE} (ck : CmpK X Z W op k) (ck' : CmpK X Z W op' k') (ha : PE X a (tE Z W f)) (hb : PE X b (tE Z W g)) (hc : PE X c (tE Z W h))
    (hm : lastMarks [op, op'] [b, c] = false := by with_unfolding_all rfl) : PE X (.Compare a [op, op'] [b, c] pos) (tE Z W (eChain k k' f g h)) := by
  obtain ⟨r, ho, hk⟩ := ck.ex
  obtain ⟨r', ho', hk'⟩ := ck'.ex
  exact (pe_chain ho ho' ha hb hc hm).weak fun σ H Q q => t_chain hk hk' q
theorem dt_chain {op op' : CmpOp} {k k' : Val → Val → DE} (ck : CmpK X Z W op k) (ck' : CmpK X Z W op' k') (ha : PE X a (tE Z W f)) (hb : PE X b (tE Z W g)) (hc : PE X c (tE Z W h))
    (hm : lastMarks [op, op'] [b, c] = false := by with_unfolding_all rfl) : PT X (.Compare a [op, op'] [b, c] pos) (tT Z W (eChain k k' f g h)) := by
  obtain ⟨r, ho, hk⟩ := ck.ex
  obtain ⟨r', ho', hk'⟩ := ck'.ex
  exact (pt_chain ho ho' ha hb hc hm).weak fun σ H Q q => t_chain hk hk' q
end
end ZZ

set_option Elab.async false
set_option linter.all false
set_option maxRecDepth 100000
/-! Z2: arguments, displays, built-in calls, fields; statements and loops. -/
namespace ZZ
open PySem PySem.Spec L2
def eArgs : List DE → (List Val → DE) → DE
  | [], k => k []
  | f :: fs, k => eBind f fun v => eArgs fs fun vs => k (v :: vs)
def tArgs (Z : Zy) (W : WX) : List DE → TA
  | [] => tNil
  | f :: fs => tCons (tE Z W f) (tArgs Z W fs)
def VReps (Z : Zy) (A : List Addr) (F : Hp) : List Val → List V → Prop
  | [], xs => xs = []
  | v :: vs, xs => ∃ x r, xs = x :: r ∧ VRep Z A F v x ∧ VReps Z A F vs r
section
variable {Z : Zy} {A A' : List Addr} {F F' H : Hp} {ce : List Cell} {sl : Sl} {σ : L2.St} {W : WX} {Q Q' : VK}
theorem VReps.length : ∀ {vs : List Val} {xs : List V}, VReps Z A F vs xs → vs.length = xs.length
  | [], xs, h => by unfold VReps at h; subst h; rfl
  | v :: vs, xs, h => by
    obtain ⟨x, r, rfl, _, h2⟩ := h
    simp [VReps.length h2]
theorem VReps.mono (p : A <+: A') (e : Same F F') : ∀ {vs : List Val} {xs : List V}, VReps Z A F vs xs → VReps Z A' F' vs xs
  | [], xs, h => h
  | v :: vs, xs, h => by
    obtain ⟨x, r, rfl, h1, h2⟩ := h
    exact ⟨x, r, rfl, h1.mono p e, VReps.mono p e h2⟩
theorem vreps1 {v : Val} {xs : List V} (h : VReps Z A F [v] xs) : ∃ x, xs = [x] ∧ VRep Z A F v x := by
  obtain ⟨x, r, rfl, h1, h2⟩ := h
  unfold VReps at h2
  subst h2
  exact ⟨x, rfl, h1⟩
theorem vreps2 {v u : Val} {xs : List V} (h : VReps Z A F [v, u] xs) : ∃ x y, xs = [x, y] ∧ VRep Z A F v x ∧ VRep Z A F u y := by
  obtain ⟨x, r, rfl, h1, h2⟩ := h
  replace h2 := vreps1 h2; obtain ⟨y, rfl, h2⟩ := h2
  exact ⟨x, y, rfl, h1, h2⟩
theorem tArgs_imp : ∀ {fs : List DE} {σ : L2.St} {H : Hp} {Q Q' : List V → Hp → Prop}, (∀ x H, Q x H → Q' x H) → tArgs Z W fs σ H Q → tArgs Z W fs σ H Q'
  | [], _, _, _, _, h, q => h _ _ q
  | f :: fs, _, _, _, _, h, q => tE_imp (fun x H1 q1 => tArgs_imp (fun xs H2 q2 => h _ _ q2) q1) q
theorem tArgs_ok : ∀ {fs : List DE} {k : List Val → DE} {A : List Addr} {F H : Hp} {ce : List Cell}, SO Z.toZx A F ce H → SL Z A F sl σ → PostE Z A F W σ Q (eArgs fs k sl ce) →
    tArgs Z W fs σ H fun xs H1 => ∃ A1 F1 ce1 vs, A <+: A1 ∧ Same F F1 ∧ SO Z.toZx A1 F1 ce1 H1 ∧ VReps Z A1 F1 vs xs ∧ vs.length = fs.length ∧ PostE Z A1 F1 W σ Q (k vs sl ce1)
  | [], k, A, F, H, ce, so, hs, p => ⟨A, F, ce, [], List.prefix_refl _, Same.refl _, so, rfl, rfl, p⟩
  | f :: fs, k, A, F, H, ce, so, hs, p => ⟨A, F, sl, ce, so, hs, (PostE.bind so hs p).imp fun x H1 ⟨A1, F1, ce1, v, p1, e1, s1, r1, q1⟩ =>
      tArgs_imp (fun xs H2 ⟨A2, F2, ce2, vs, p2, e2, s2, r2, l2, q2⟩ => ⟨A2, F2, ce2, v :: vs, p1.trans p2, e1.trans e2, s2, ⟨x, xs, rfl, r1.mono p2 e2, r2⟩, by simp [l2], q2⟩) (tArgs_ok s1 (hs.mono p1 e1) q1)⟩
theorem tN {fs : List DE} {k : List Val → DE} (h : tE Z W (eArgs fs k) σ H Q) :
    tArgs Z W fs σ H fun xs H1 => ∃ A F sl ce vs, SO Z.toZx A F ce H1 ∧ SL Z A F sl σ ∧ VReps Z A F vs xs ∧ vs.length = fs.length ∧ PostE Z A F W σ Q (k vs sl ce) := by
  obtain ⟨A, F, sl, ce, so, hs, p⟩ := h
  exact tArgs_imp (fun xs H2 ⟨A2, F2, ce2, vs, p2, e2, s2, r2, l2, q2⟩ => ⟨A2, F2, sl, ce2, vs, s2, hs.mono p2 e2, r2, l2, q2⟩) (tArgs_ok so hs p)
/-- one value, then arguments -/
theorem tMN {f : DE} {fs : List DE} {k : Val → List Val → DE} (h : tE Z W (eBind f fun v => eArgs fs (k v)) σ H Q) :
    tE Z W f σ H fun x H0 => ∃ A0 F0 sl0 ce0 v, SO Z.toZx A0 F0 ce0 H0 ∧ SL Z A0 F0 sl0 σ ∧ VRep Z A0 F0 v x ∧ PostE Z A0 F0 W σ Q (eArgs fs (k v) sl0 ce0) ∧
      tArgs Z W fs σ H0 fun xs H1 => ∃ A F sl ce, SO Z.toZx A F ce H1 ∧ SL Z A F sl σ ∧ VRep Z A F v x ∧ ∃ vs, VReps Z A F vs xs ∧ vs.length = fs.length ∧ PostE Z A F W σ Q (k v vs sl ce) :=
  tE_imp (fun x H0 ⟨A, F, sl, ce, v, so, hs, r, p⟩ => ⟨A, F, sl, ce, v, so, hs, r, p, tArgs_imp (fun xs H2 ⟨A2, F2, ce2, vs, p2, e2, s2, r2, l2, q2⟩ => ⟨A2, F2, sl, ce2, s2, hs.mono p2 e2, r.mono p2 e2, vs, r2, l2, q2⟩) (tArgs_ok so hs p)⟩) (tE1 h)
def ims : List Val → Option (List D)
  | [] => some []
  | .im d :: vs => (ims vs).map (d :: ·)
  | _ :: _ => none
theorem ims_rd : ∀ {vs : List Val} {xs : List V} {ds : List D}, VReps Z A F vs xs → ims vs = some ds → Reps Z.toZx F ds xs
  | [], xs, ds, r, e => by
    unfold VReps at r; subst r; cases e; exact reps_nil
  | .im d :: vs, xs, ds, r, e => by
    obtain ⟨x, r', rfl, h1, h2⟩ := r
    unfold ims at e
    cases q : ims vs with
    | none => rw [q] at e; cases e
    | some es => rw [q] at e; cases e; exact reps_cons h1 (ims_rd h2 q)
  | .cell _ :: _, xs, ds, r, e => by cases e
  | .exn _ _ :: _, xs, ds, r, e => by cases e
end
def kTup (vs : List Val) : DE := fun _ ce => match ims vs with
  | some ds => if ds.length ≤ LINE then .ok (.im (.tup ds)) ce else .stuck
  | none => .stuck
def kLst (vs : List Val) : DE := fun _ ce => match ims vs with
  | some ds => if ds.length ≤ LINE then .ok (.im (.lst ds)) ce else .stuck
  | none => .stuck
def kLstC (vs : List Val) : DE := fun _ ce => match ims vs with
  | some ds => if ds.length ≤ LINE then .ok (.cell ce.length) (ce ++ [.lst ds]) else .stuck
  | none => .stuck
def OkN (Z : Zy) (W : WX) (k : List Val → DE) (r : List V → Hp → VK → Prop) : Prop := ∀ A F sl ce vs xs H σ Q, SO Z.toZx A F ce H → SL Z A F sl σ → VReps Z A F vs xs → PostE Z A F W σ Q (k vs sl ce) → r xs H Q
section
variable {X : Cx} {Z : Zy} {W : WX} {a b c : Expr} {es : List Expr} {f g h : DE} {fs : List DE} {pos : Pos}
theorem da_nil : PA X [] (tArgs Z W []) := pa_nil
theorem da_cons {e : Expr} (ha : PE X e (tE Z W f)) (hr : PA X es (tArgs Z W fs)) (hs : starEach (e :: es) X.env = (false, eval e X.env) :: starEach es X.env := by rfl) : PA X (e :: es) (tArgs Z W (f :: fs)) := pa_cons ha hr hs
theorem de_tup {n} (ha : PA X es (tArgs Z W fs)) : PE X (.Tuple es n pos) (tE Z W (eArgs fs kTup)) := (pe_tup ha).weak fun σ H Q h => tArgs_imp (fun xs H1 ⟨A, F, sl, ce, vs, so, hs, r, _, p⟩ => by
  unfold kTup at p
  split at p
  · rename_i ds e
    have rr := ims_rd (Z := Z) r e
    split at p
    · rename_i hl
      exact ⟨by rw [sizeLine_eq, ← rr.length]; exact hl, fun q hq => fin_newT so p rr hq⟩
    · exact p.elim
  · exact p.elim) (tN h)
theorem de_lst (ha : PA X es (tArgs Z W fs)) : PE X (.List es pos) (tE Z W (eArgs fs kLst)) := (pe_lst ha).weak fun σ H Q h => tArgs_imp (fun xs H1 ⟨A, F, sl, ce, vs, so, hs, r, _, p⟩ => by
  unfold kLst at p
  split at p
  · rename_i ds e
    have rr := ims_rd (Z := Z) r e
    split at p
    · rename_i hl
      exact ⟨by rw [sizeLine_eq, ← rr.length]; exact hl, fun q hq => fin_newL so p rr hq⟩
    · exact p.elim
  · exact p.elim) (tN h)
theorem de_lstC (ha : PA X es (tArgs Z W fs)) : PE X (.List es pos) (tE Z W (eArgs fs kLstC)) := (pe_lst ha).weak fun σ H Q h => tArgs_imp (fun xs H1 ⟨A, F, sl, ce, vs, so, hs, r, _, p⟩ => by
  unfold kLstC at p
  split at p
  · rename_i ds e
    have rr := ims_rd (Z := Z) r e
    split at p
    · rename_i hl
      exact ⟨by rw [sizeLine_eq, ← rr.length]; exact hl, fun q hq => fin_newC so p rr hq⟩
    · exact p.elim
  · exact p.elim) (tN h)
theorem de_callB {id : String} {x : Str} {p : Pos} {e : Expr} {k : List Val → DE} {r : List V → Hp → VK → Prop} (hc : CallR X (.builtin id) r) (hk : OkN Z W k r) (hm : X.mg x = none) (hv : bootBuiltins x = some (.builtin id)) (ha : PA X (e :: es) (tArgs Z W fs))
    (hg : Gl X x := by rfl) (hn : x ≠ "__name__" := by decide) (hdb : (x == ("__debug__" : Str)) = false := by decide)
    (he : starEach (e :: es) X.env = (false, eval e X.env) :: starEach es X.env := by rfl) (hpl : (backTo pos (starEach es X.env)).any (·.1) = false := by rfl) : PE X (.Call (.Name x p) (e :: es) [] pos) (tE Z W (eArgs fs k)) :=
  (pe_callB hc hg hm hv ha hn hdb he hpl).weak fun σ H Q h => tArgs_imp (fun xs H1 ⟨A, F, sl, ce, vs, so, hs, r, _, p⟩ => hk A F sl ce vs xs H1 σ Q so hs r p) (tN h)
theorem de_callTy {T : String} {x : Str} {p : Pos} {e : Expr} {k : List Val → DE} {r : List V → Hp → VK → Prop} (hc : CallR X (.type T) r) (hk : OkN Z W k r) (hm : X.mg x = none) (hv : bootBuiltins x = some (.type T)) (ha : PA X (e :: es) (tArgs Z W fs))
    (hg : Gl X x := by rfl) (hn : x ≠ "__name__" := by decide) (hdb : (x == ("__debug__" : Str)) = false := by decide)
    (he : starEach (e :: es) X.env = (false, eval e X.env) :: starEach es X.env := by rfl) (hpl : (backTo pos (starEach es X.env)).any (·.1) = false := by rfl) : PE X (.Call (.Name x p) (e :: es) [] pos) (tE Z W (eArgs fs k)) :=
  (pe_callTy hc hg hm hv ha hn hdb he hpl).weak fun σ H Q h => tArgs_imp (fun xs H1 ⟨A, F, sl, ce, vs, so, hs, r, _, p⟩ => hk A F sl ce vs xs H1 σ Q so hs r p) (tN h)
end
/-! ### built-ins -/
def kLen : List Val → DE
  | [v] => fun _ ce => match v with
    | .im (.str s) => if s.length ≤ LINE then .ok (.im (.int s.length)) ce else .stuck
    | v => match asSq ce v with
      | some ds => .ok (.im (.int ds.length)) ce
      | none => .stuck
  | _ => kStuck
def kAbs : List Val → DE
  | [.im (.int i)] => eC (.int (if i < 0 then -i else i))
  | _ => kStuck
def kMin : List Val → DE
  | [.im (.int i), .im (.int j)] => eC (.int (if j < i then j else i))
  | _ => kStuck
def kMax : List Val → DE
  | [.im (.int i), .im (.int j)] => eC (.int (if j > i then j else i))
  | _ => kStuck
def kInt : List Val → DE
  | [.im (.int i)] => eC (.int i)
  | [.im (.bl k)] => eC (.int (if k then 1 else 0))
  | _ => kStuck
/-- list(x), a new one that may change -/
def kListC : List Val → DE
  | [v] => fun _ ce => match asSq ce v with
    | some ds => .ok (.cell ce.length) (ce ++ [.lst ds])
    | none => .stuck
  | _ => kStuck
def kListI : List Val → DE
  | [v] => fun _ ce => match asSq ce v with
    | some ds => .ok (.im (.lst ds)) ce
    | none => .stuck
  | _ => kStuck
def asInts : List D → Option (List Int)
  | [] => some []
  | .int i :: ds => (asInts ds).map (i :: ·)
  | _ :: _ => none
def asBls : List D → Option (List Bool)
  | [] => some []
  | .bl i :: ds => (asBls ds).map (i :: ·)
  | _ :: _ => none
/-- the list's items, by an own or a settled list -/
def kSum : List Val → DE
  | [v] => fun _ ce => match asL ce v with
    | some ds => match asInts ds with
      | some ns => .ok (.im (.int ns.sum)) ce
      | none => .stuck
    | none => .stuck
  | _ => kStuck
def kAll : List Val → DE
  | [v] => fun _ ce => match asL ce v with
    | some ds => match asBls ds with
      | some bs => .ok (.im (.bl (bs.all id))) ce
      | none => .stuck
    | none => .stuck
  | _ => kStuck
section
variable {X : Cx} {Z : Zy} {W : WX} {A : List Addr} {F H : Hp} {ce : List Cell} {sl : Sl} {σ : L2.St} {Q : VK}
theorem reps_ints : ∀ {ds : List D} {vs : List V} {ns : List Int}, Reps Z.toZx F ds vs → asInts ds = some ns → vs = ns.map V.int
  | [], vs, ns, r, e => by rw [reps_nil_inv r]; cases e; rfl
  | d :: ds, vs, ns, r, e => by
    obtain ⟨v, r', rfl, h1, h2⟩ := reps_cons_inv r
    cases d with
    | int i =>
      unfold asInts at e
      cases q : asInts ds with
      | none => rw [q] at e; cases e
      | some ms =>
        rw [q] at e; cases e
        unfold Rep at h1
        rw [h1, reps_ints h2 q]; rfl
    | _ => cases e
theorem reps_bls : ∀ {ds : List D} {vs : List V} {ns : List Bool}, Reps Z.toZx F ds vs → asBls ds = some ns → vs = ns.map V.bl
  | [], vs, ns, r, e => by rw [reps_nil_inv r]; cases e; rfl
  | d :: ds, vs, ns, r, e => by
    obtain ⟨v, r', rfl, h1, h2⟩ := reps_cons_inv r
    cases d with
    | bl i =>
      unfold asBls at e
      cases q : asBls ds with
      | none => rw [q] at e; cases e
      | some ms =>
        rw [q] at e; cases e
        unfold Rep at h1
        rw [h1, reps_bls h2 q]; rfl
    | _ => cases e
theorem ok_len (hK : X.K = Z.K) : OkN Z W kLen (fun xs H Q => ∃ x n, xs = [x] ∧ LenV X.K x H n ∧ Q (.int n) H) := by
  intro A F sl ce vs xs H σ Q so hs r p
  rw [hK]
  unfold kLen at p
  split at p
  · replace r := vreps1 r; obtain ⟨x, rfl, r⟩ := r
    split at p
    · split at p
      · rename_i s hl
        rw [rep_str r]
        exact ⟨_, s.length, rfl, ⟨by rw [sizeLine_eq]; exact hl, rfl⟩, fin_flat so p repI⟩
      · exact p.elim
    · split at p
      · rename_i ds e
        obtain ⟨l, ws, rfl, h1, h2⟩ := asSq_rd so r e
        refine ⟨_, ds.length, rfl, ?_, fin_flat so p repI⟩
        rcases h1 with h1 | h1
        · exact .inl ⟨ws, h1, h2.length⟩
        · exact .inr ⟨ws, h1, h2.length⟩
      · exact p.elim
  · exact p.elim
theorem ok_abs : OkN Z W kAbs (fun xs H Q => ∃ i, xs = [.int i] ∧ Q (.int (if i < 0 then -i else i)) H) := by
  intro A F sl ce vs xs H σ Q so hs r p
  unfold kAbs at p
  split at p
  · replace r := vreps1 r; obtain ⟨x, rfl, r⟩ := r
    rw [rep_int r]
    exact ⟨_, rfl, fin_flat so p repI⟩
  · exact p.elim
theorem ok_min : OkN Z W kMin (fun xs H Q => ∃ i j, xs = [.int i, .int j] ∧ Q (.int (if j < i then j else i)) H) := by
  intro A F sl ce vs xs H σ Q so hs r p
  unfold kMin at p
  split at p
  · replace r := vreps2 r; obtain ⟨x, y, rfl, r, r'⟩ := r
    rw [rep_int r, rep_int r']
    exact ⟨_, _, rfl, fin_flat so p repI⟩
  · exact p.elim
theorem ok_max : OkN Z W kMax (fun xs H Q => ∃ i j, xs = [.int i, .int j] ∧ Q (.int (if j > i then j else i)) H) := by
  intro A F sl ce vs xs H σ Q so hs r p
  unfold kMax at p
  split at p
  · replace r := vreps2 r; obtain ⟨x, y, rfl, r, r'⟩ := r
    rw [rep_int r, rep_int r']
    exact ⟨_, _, rfl, fin_flat so p repI⟩
  · exact p.elim
theorem ok_int1 : OkN Z W kInt (fun xs H Q => (∃ i, xs = [.int i] ∧ Q (.int i) H) ∨ ∃ k, xs = [.bl k] ∧ Q (.int (if k then 1 else 0)) H) := by
  intro A F sl ce vs xs H σ Q so hs r p
  unfold kInt at p
  split at p
  · replace r := vreps1 r; obtain ⟨x, rfl, r⟩ := r
    rw [rep_int r]
    exact .inl ⟨_, rfl, fin_flat so p repI⟩
  · replace r := vreps1 r; obtain ⟨x, rfl, r⟩ := r
    rw [rep_bl r]
    exact .inr ⟨_, rfl, fin_flat so p repI⟩
  · exact p.elim
theorem ok_listC (hK : X.K = Z.K) : OkN Z W kListC (fun xs H Q => ∃ p ys, xs = [.ref p] ∧ (SqL X.K H p ys ∨ SqT X.K H p ys) ∧ ∀ l, H l = none → Q (.ref l) (upd H l (.lst ys))) := by
  intro A F sl ce vs xs H σ Q so hs r p
  rw [hK]
  unfold kListC at p
  split at p
  · replace r := vreps1 r; obtain ⟨x, rfl, r⟩ := r
    split at p
    · rename_i ds e
      obtain ⟨l, ws, rfl, h1, h2⟩ := asSq_rd so r e
      exact ⟨l, ws, rfl, h1, fun q hq => fin_newC so p h2 hq⟩
    · exact p.elim
  · exact p.elim
theorem ok_listI (hK : X.K = Z.K) : OkN Z W kListI (fun xs H Q => ∃ p ys, xs = [.ref p] ∧ (SqL X.K H p ys ∨ SqT X.K H p ys) ∧ ∀ l, H l = none → Q (.ref l) (upd H l (.lst ys))) := by
  intro A F sl ce vs xs H σ Q so hs r p
  rw [hK]
  unfold kListI at p
  split at p
  · replace r := vreps1 r; obtain ⟨x, rfl, r⟩ := r
    split at p
    · rename_i ds e
      obtain ⟨l, ws, rfl, h1, h2⟩ := asSq_rd so r e
      exact ⟨l, ws, rfl, h1, fun q hq => fin_newL so p h2 hq⟩
    · exact p.elim
  · exact p.elim
theorem ok_sum (hK : X.K = Z.K) : OkN Z W kSum (rSum X.K) := by
  intro A F sl ce vs xs H σ Q so hs r p
  rw [hK]
  unfold kSum at p
  split at p
  · replace r := vreps1 r; obtain ⟨x, rfl, r⟩ := r
    split at p
    · rename_i ds e
      split at p
      · rename_i ns e2
        obtain ⟨l, ws, rfl, h1, h2⟩ := asL_rd so r e
        have := reps_ints h2 e2
        subst this
        exact ⟨l, ns, rfl, SqL.of h1, fin_flat so p repI⟩
      · exact p.elim
    · exact p.elim
  · exact p.elim
theorem ok_all (hK : X.K = Z.K) : OkN Z W kAll (rAll X.K) := by
  intro A F sl ce vs xs H σ Q so hs r p
  rw [hK]
  unfold kAll at p
  split at p
  · replace r := vreps1 r; obtain ⟨x, rfl, r⟩ := r
    split at p
    · rename_i ds e
      split at p
      · rename_i ns e2
        obtain ⟨l, ws, rfl, h1, h2⟩ := asL_rd so r e
        have := reps_bls h2 e2
        subst this
        exact ⟨l, ns, rfl, SqL.of h1, fin_flat so p repB⟩
      · exact p.elim
    · exact p.elim
  · exact p.elim
end
/-! ### slices -/
def eOpt : Option DE → (Option Int → DE) → DE
  | none, k => k none
  | some f, k => eBind f fun v => match v with
    | .im (.int i) => k (some i)
    | _ => kStuck
def cutD (xs : List D) (lo hi : Option Int) : List D := (xs.drop (HT.sIx xs.length 0 lo)).take (HT.sIx xs.length xs.length hi - HT.sIx xs.length 0 lo)
def kSlL (v : Val) (lo hi : Option Int) : DE := fun _ ce => match v with
  | .im (.str z) => if z.length ≤ LINE then .ok (.im (.str (cutS z lo hi))) ce else .stuck
  | v => match asL ce v with
    | some ds => .ok (.im (.lst (cutD ds lo hi))) ce
    | none => .stuck
def eSlice (f : DE) (lo hi : Option DE) : DE := eBind f fun v => eOpt lo fun l => eOpt hi fun h => kSlL v l h
def rSlA (K : PySem.W.Frag) : V → Option Int → Option Int → Hp → VK → Prop := fun x lo hi H Q => rSlL K x lo hi H Q ∨ rSlS x lo hi H Q
section
variable {X : Cx} {Z : Zy} {W : WX} {a b c : Expr} {f g h : DE} {pos : Pos}
theorem sl_any : SlR X (rSlA X.K) := sl_list.or sl_str
def tOpt (Z : Zy) (W : WX) : Option DE → TO
  | none => tNoPart
  | some f => tPart (tE Z W f)
theorem dp_none : PO X none (tOpt Z W none) := po_none
theorem dp_some {e : Expr} (h : PE X e (tE Z W f)) : PO X (some e) (tOpt Z W (some f)) := po_some h
theorem opt_ok {fo : Option DE} {k : Option Int → DE} {A F sl ce H σ Q} {R : Option Int → Hp → Prop} (so : SO Z.toZx A F ce H) (hs : SL Z A F sl σ) (p : PostE Z A F W σ Q (eOpt fo k sl ce))
    (hR : ∀ A1 F1 ce1 i H1, A <+: A1 → Same F F1 → SO Z.toZx A1 F1 ce1 H1 → PostE Z A1 F1 W σ Q (k i sl ce1) → R i H1) : tOpt Z W fo σ H R := by
  cases fo with
  | none => exact hR A F ce none H (List.prefix_refl _) (Same.refl _) so p
  | some f =>
    refine ⟨A, F, sl, ce, so, hs, (PostE.bind so hs p).imp fun x H1 ⟨A1, F1, ce1, v, p1, e1, s1, r1, q1⟩ => ?_⟩
    split at q1
    · exact ⟨_, rep_int r1, hR A1 F1 ce1 _ H1 p1 e1 s1 q1⟩
    · exact q1.elim
theorem reps_cut {F : Hp} {ds : List D} {vs : List V} (lo hi : Option Int) (r : Reps Z.toZx F ds vs) : Reps Z.toZx F (cutD ds lo hi) (cutV vs lo hi) := by
  unfold cutD cutV
  rw [r.length]
  exact (r.drop _).take _
theorem de_slice {e : Expr} {lo hi : Option Expr} {fl fh : Option DE} {p2 : Pos} (hK : X.K = Z.K) (he : PE X e (tE Z W f)) (hl : PO X lo (tOpt Z W fl)) (hu : PO X hi (tOpt Z W fh)) : PE X (.Subscript e (.Slice lo hi none p2) pos) (tE Z W (eSlice f fl fh)) :=
  (pe_slice (r := rSlA Z.K) (by rw [← hK]; exact sl_any) he hl hu).weak fun σ H Q q => tE_imp (fun x H1 ⟨A, F, sl, ce, v, so, hs, r, p⟩ => by
    refine opt_ok so hs p fun A1 F1 ce1 i H2 p1 e1 so1 q1 => opt_ok so1 (hs.mono p1 e1) q1 fun A2 F2 ce2 j H3 p2 e2 so2 q2 => ?_
    have r2 := (r.mono p1 e1).mono p2 e2
    unfold kSlL at q2
    split at q2
    · split at q2
      · rename_i z hz
        exact .inr ⟨z, rep_str r2, by rw [sizeLine_eq]; exact hz, fin_flat so2 q2 repS⟩
      · exact q2.elim
    · split at q2
      · rename_i ds e
        obtain ⟨l, ws, rfl, h1, h2⟩ := asL_rd so2 r2 e
        exact .inl ⟨l, ws, rfl, SqL.of h1, fun q hq => fin_newL so2 q2 (reps_cut i j h2) hq⟩
      · exact q2.elim) (tE1 q)
end
/-! ### methods of built-in types -/
def OkM (Z : Zy) (W : WX) (K : PySem.W.Frag) (T : String) (ty : List Cell → Val → Bool) (k : Val → List Val → DE) (r : V → List V → Hp → VK → Prop) : Prop :=
  (∀ A F ce v x H, SO Z.toZx A F ce H → VRep Z A F v x → ty ce v = true → tyV K T x H) ∧
  ∀ A F sl ce v x vs xs H σ Q, SO Z.toZx A F ce H → SL Z A F sl σ → VRep Z A F v x → VReps Z A F vs xs → PostE Z A F W σ Q (k v vs sl ce) → r x xs H Q
/-- the value's type is looked at, then the arguments -/
def eMth (ty : List Cell → Val → Bool) (k : Val → List Val → DE) (f : DE) (fs : List DE) : DE := eBind f fun v sl ce => if ty ce v then eArgs fs (k v) sl ce else .stuck
def tyL (ce : List Cell) (v : Val) : Bool := (asL ce v).isSome
def tyS (_ : List Cell) : Val → Bool
  | .im (.str _) => true
  | _ => false
section
variable {X : Cx} {Z : Zy} {W : WX} {o e : Expr} {es : List Expr} {f g h : DE} {fs : List DE} {pos apos cpos : Pos} {T id : String} {name : Str} {ty : List Cell → Val → Bool} {k : Val → List Val → DE} {r : V → List V → Hp → VK → Prop}
theorem de_bm (pa : PlainAttrs T) (slot : Slot T name id) (hty : typeOf (.builtin id) = pure (.type "method_descriptor")) (hm : MtR X id r) (hk : OkM Z W X.K T ty k r) (ho : PE X o (tE Z W f)) (ha : PA X (e :: es) (tArgs Z W fs))
    (hb : attributeBase o name X.env (eval o X.env) = eval o X.env := by rfl) (hl : (apos.endLine == cpos.line) = true := by rfl) (hs : starEach (e :: es) X.env = (false, eval e X.env) :: starEach es X.env := by rfl) (hpl : (backTo cpos (starEach es X.env)).any (·.1) = false := by rfl) (hfew : ((backTo cpos (starEach (e :: es) X.env)).all (fun x => !x.1) && (backToKw cpos (keywordEach [] X.env)).all (fun x => x.1.isSome)
      && decide ((e :: es).length + ([] : List Keyword).length + (if ([] : List Keyword).isEmpty then 0 else 1) < 30)) = true := by rfl) :
    PE X (.Call (.Attribute o name apos) (e :: es) [] cpos) (tE Z W (eMth ty k f fs)) := by
  refine (pe_bm pa slot hty hm ho ha hb hfew hl hs hpl).weak fun σ H Q q => tE_imp (fun x H1 ⟨A, F, sl, ce, v, so, hs, r, p⟩ => ?_) (tE1 q)
  by_cases ht : ty ce v = true
  · rw [if_pos ht] at p
    exact ⟨hk.1 A F ce v x H1 so r ht, tArgs_imp (fun xs H2 ⟨A2, F2, ce2, vs, p2, e2, s2, r2, l2, q2⟩ => hk.2 A2 F2 sl ce2 v x vs xs H2 σ Q s2 (hs.mono p2 e2) (r.mono p2 e2) r2 q2) (tArgs_ok so hs p)⟩
  · rw [if_neg ht] at p
    exact p.elim
theorem de_bm0 (pa : PlainAttrs T) (slot : Slot T name id) (hty : typeOf (.builtin id) = pure (.type "method_descriptor")) (hm : MtR X id r) (hk : OkM Z W X.K T ty k r) (ho : PE X o (tE Z W f))
    (hb : attributeBase o name X.env (eval o X.env) = eval o X.env := by rfl) (hl : (apos.endLine == cpos.line) = true := by rfl) :
    PE X (.Call (.Attribute o name apos) [] [] cpos) (tE Z W (eMth ty k f [])) := by
  refine (pe_bm0 pa slot hty hm ho hb hl).weak fun σ H Q q => tE_imp (fun x H1 ⟨A, F, sl, ce, v, so, hs, r, p⟩ => ?_) (tE1 q)
  by_cases ht : ty ce v = true
  · rw [if_pos ht] at p
    exact ⟨hk.1 A F ce v x H1 so r ht, hk.2 A F sl ce v x [] [] H1 σ Q so hs r rfl p⟩
  · rw [if_neg ht] at p
    exact p.elim
end
section
variable {X : Cx} {Z : Zy} {W : WX}
theorem tyL_ok (hK : X.K = Z.K) : ∀ (A : List Addr) (F : Hp) (ce : List Cell) (v : Val) (x : V) (H : Hp), SO Z.toZx A F ce H → VRep Z A F v x → tyL ce v = true → tyV X.K "list" x H := by
  intro A F ce v x H so r t
  unfold tyL at t
  cases e : asL ce v with
  | none => rw [e] at t; cases t
  | some ds =>
    obtain ⟨l, ws, rfl, h1, h2⟩ := asL_rd so r e
    exact .inl ⟨rfl, ws, SqL.of h1⟩
theorem tyS_ok : ∀ (A : List Addr) (F : Hp) (ce : List Cell) (v : Val) (x : V) (H : Hp), SO Z.toZx A F ce H → VRep Z A F v x → tyS ce v = true → tyV X.K "str" x H := by
  intro A F ce v x H so r t
  unfold tyS at t
  split at t
  · rw [rep_str r]; rfl
  · cases t
end
def kAppend (v : Val) (vs : List Val) : DE := fun _ ce => match v, vs with
  | .cell n, [.im d] => match ce[n]? with
    | some (.lst ds) => if ds.length < LINE then .ok (.im .non) (ce.set n (.lst (ds ++ [d]))) else .stuck
    | _ => .stuck
  | _, _ => .stuck
/-- xs.pop(i) -/
def kPopAt (v : Val) (vs : List Val) : DE := fun _ ce => match v, vs with
  | .cell n, [.im (.int i)] => match ce[n]? with
    | some (.lst ds) => if -(2 ^ 63) ≤ i ∧ i < 2 ^ 63 then (match seqIndex? i ds.length with
      | some j => match ds[j]? with
        | some d => .ok (.im d) (ce.set n (.lst (ds.eraseIdx j)))
        | none => .stuck
      | none => .stuck) else .stuck
    | _ => .stuck
  | _, _ => .stuck
section
variable {X : Cx} {Z : Zy} {W : WX}
theorem cell_rd {A F ce H n x ds} (so : SO Z.toZx A F ce H) (r : VRep Z A F (.cell n) x) (hk : ce[n]? = some (.lst ds)) : ∃ l vs, A[n]? = some l ∧ x = .ref l ∧ F l = none ∧ H l = some (.lst vs) ∧ Reps Z.toZx F ds vs := by
  obtain ⟨a, h1, rfl⟩ := r
  obtain ⟨h0, vs, h2, h3⟩ := so.ok n a _ h1 hk
  exact ⟨a, vs, h1, rfl, h0, h2, h3⟩
theorem fin_write {A F ce H n l ds vs d x σ Q} (so : SO Z.toZx A F ce H) (hA : A[n]? = some l) (hF : F l = none) (r : Reps Z.toZx F ds vs) (rd : Rep Z.toZx F d x) (p : PostE Z A F W σ Q (.ok (.im d) (ce.set n (.lst ds)))) : Q x (upd H l (.lst vs)) :=
  p A F _ _ (List.prefix_refl _) (Same.refl _) (so.write hA hF ⟨hF, vs, upd_same, r⟩) rd
theorem okm_append (hK : X.K = Z.K) : OkM Z W X.K "list" tyL kAppend rAppend := by
  refine ⟨tyL_ok hK, fun A F sl ce v x vs xs H σ Q so hs rv rs p => ?_⟩
  unfold kAppend at p
  split at p
  · split at p
    · rename_i n d ds hk
      split at p
      · rename_i hl
        obtain ⟨l, ws, hA, rfl, hF, h2, h3⟩ := cell_rd so rv hk
        obtain ⟨y, rfl, ry⟩ := vreps1 rs
        exact ⟨l, ws, y, rfl, rfl, h2, by rw [sizeLine_eq, ← h3.length]; exact hl, fin_write so hA hF (h3.append (reps_cons ry reps_nil)) repN p⟩
      · exact p.elim
    · exact p.elim
  · exact p.elim
theorem okm_popAt (hK : X.K = Z.K) : OkM Z W X.K "list" tyL kPopAt rPopAt := by
  refine ⟨tyL_ok hK, fun A F sl ce v x vs xs H σ Q so hs rv rs p => ?_⟩
  unfold kPopAt at p
  split at p
  · split at p
    · rename_i n i _ ds hk
      split at p
      · rename_i hb
        split at p
        · rename_i j hj
          split at p
          · rename_i d hd
            obtain ⟨l, ws, hA, rfl, hF, h2, h3⟩ := cell_rd so rv hk
            obtain ⟨y, rfl, ry⟩ := vreps1 rs
            obtain ⟨y, hy, rd⟩ := h3.get' hd
            rw [rep_int ry]
            exact ⟨l, ws, i, j, y, rfl, rfl, h2, hb.1, hb.2, by rw [← h3.length]; exact hj, hy, fin_write so hA hF (h3.eraseIdx j) rd p⟩
          · exact p.elim
        · exact p.elim
      · exact p.elim
    · exact p.elim
  · exact p.elim
theorem de_append {o e : Expr} {f g : DE} {apos cpos : Pos} (hK : X.K = Z.K) (ho : PE X o (tE Z W f)) (ha : PE X e (tE Z W g))
    (hb : attributeBase o "append" X.env (eval o X.env) = eval o X.env := by rfl) (hl : (apos.endLine == cpos.line) = true := by rfl) (hs : starEach [e] X.env = (false, eval e X.env) :: starEach [] X.env := by rfl) (hfew : ((backTo cpos (starEach [e] X.env)).all (fun x => !x.1) && (backToKw cpos (keywordEach [] X.env)).all (fun x => x.1.isSome)
      && decide ([e].length + ([] : List Keyword).length + (if ([] : List Keyword).isEmpty then 0 else 1) < 30)) = true := by rfl) :
    PE X (.Call (.Attribute o "append" apos) [e] [] cpos) (tE Z W (eMth tyL kAppend f [g])) :=
  de_bm PySem.F.plainAttrs_list PySem.F.slot_list_append PySem.F.type_list_append mt_append (okm_append hK) ho (da_cons ha da_nil hs) hb hl hs rfl hfew
theorem de_popAt {o e : Expr} {f g : DE} {apos cpos : Pos} (hK : X.K = Z.K) (ho : PE X o (tE Z W f)) (ha : PE X e (tE Z W g))
    (hb : attributeBase o "pop" X.env (eval o X.env) = eval o X.env := by rfl) (hl : (apos.endLine == cpos.line) = true := by rfl) (hs : starEach [e] X.env = (false, eval e X.env) :: starEach [] X.env := by rfl) (hfew : ((backTo cpos (starEach [e] X.env)).all (fun x => !x.1) && (backToKw cpos (keywordEach [] X.env)).all (fun x => x.1.isSome)
      && decide ([e].length + ([] : List Keyword).length + (if ([] : List Keyword).isEmpty then 0 else 1) < 30)) = true := by rfl) :
    PE X (.Call (.Attribute o "pop" apos) [e] [] cpos) (tE Z W (eMth tyL kPopAt f [g])) :=
  de_bm PySem.F.plainAttrs_list PySem.F.slot_list_pop PySem.F.type_list_pop mt_popAt (okm_popAt hK) ho (da_cons ha da_nil hs) hb hl hs rfl hfew
end
end ZZ

set_option Elab.async false
set_option linter.all false
set_option maxRecDepth 100000
/-! Z3: statements and loops. -/
namespace ZZ
open PySem PySem.Spec L2
inductive Out where
  | nx (sl : Sl) (ce : List Cell) | rt (v : Val) (ce : List Cell) | bk (sl : Sl) (ce : List Cell) | ct (sl : Sl) (ce : List Cell)
  | exc (c : Nat) (ds : List D) (sl : Sl) (ce : List Cell) | stuck
abbrev DSt := Sl → List Cell → Out
def PostS (Z : Zy) (A : List Addr) (F : Hp) (W : WX) (D : Ends) : Out → Prop
  | .nx sl ce => ∀ A' F' H' σ', A <+: A' → Same F F' → SO Z.toZx A' F' ce H' → SL Z A' F' sl σ' → D.nx σ' H'
  | .bk sl ce => ∀ A' F' H' σ', A <+: A' → Same F F' → SO Z.toZx A' F' ce H' → SL Z A' F' sl σ' → D.bk σ' H'
  | .ct sl ce => ∀ A' F' H' σ', A <+: A' → Same F F' → SO Z.toZx A' F' ce H' → SL Z A' F' sl σ' → D.ct σ' H'
  | .rt v ce => ∀ A' F' H' x, A <+: A' → Same F F' → SO Z.toZx A' F' ce H' → VRep Z A' F' v x → D.rt x H'
  | .exc c ds sl ce => ∀ A' F' H' σ' dx, A <+: A' → Same F F' → SO Z.toZx A' F' ce H' → SL Z A' F' sl σ' → ExcOk Z.toZx F' c ds dx → W (.ref (Z.cl c)) dx σ' H'
  | .stuck => False
def tS (Z : Zy) (W : WX) (f : DSt) : TS := fun D σ H => ∃ A F sl ce, SO Z.toZx A F ce H ∧ SL Z A F sl σ ∧ PostS Z A F W D (f sl ce)
def sSeq (f g : DSt) : DSt := fun sl ce => match f sl ce with
  | .nx sl' ce' => g sl' ce'
  | o => o
def sNil : DSt := fun sl ce => .nx sl ce
def sExp (f : DE) (k : Val → DSt) : DSt := fun sl ce => match f sl ce with
  | .ok v ce' => k v sl ce'
  | .exc c ds ce' => .exc c ds sl ce'
  | .stuck => .stuck
def sSet (i : Nat) (f : DE) : DSt := sExp f fun v sl ce => .nx (sl.set i (some v)) ce
def sRet (f : DE) : DSt := sExp f fun v _ ce => .rt v ce
def sRetN : DSt := fun _ ce => .rt (.im .non) ce
def sDrop (f : DE) : DSt := sExp f fun _ sl ce => .nx sl ce
def sStuck : DSt := fun _ _ => .stuck
def sIf (c : DE) (f g : DSt) : DSt := sExp c fun v => match v with
  | .im (.bl b) => if b then f else g
  | _ => sStuck
def sBrk : DSt := fun sl ce => .bk sl ce
def sCnt : DSt := fun sl ce => .ct sl ce
def sNop : DSt := fun sl ce => .nx sl ce
/-- a ghost step: the cell at slot i is settled -/
def frz (i : Nat) (f : DSt) : DSt := fun sl ce => match sl[i]? with
  | some (some (.cell k)) => match ce[k]? with
    | some (.lst ds) => f (sl.set i (some (.im (.lst ds)))) (ce.set k .dead)
    | some (.dct ks vs) => f (sl.set i (some (.im (.dct ks vs)))) (ce.set k .dead)
    | _ => .stuck
  | _ => .stuck
/-- a ghost step: the slot is forgotten -/
def fgt (i : Nat) (f : DSt) : DSt := fun sl ce => f (sl.set i none) ce
section
variable {Z : Zy} {A A' : List Addr} {F F' H : Hp} {ce : List Cell} {sl : Sl} {σ : L2.St} {W : WX} {Q Q' : VK} {D D' : Ends}
theorem PostS.mono {r : Out} (p : A <+: A') (e : Same F F') (h : PostS Z A F W D r) : PostS Z A' F' W D r := by
  cases r with
  | stuck => exact h
  | exc c ds sl ce => exact fun A2 F2 H2 x dx p2 e2 => h A2 F2 H2 x dx (p.trans p2) (e.trans e2)
  | nx sl ce => exact fun A2 F2 H2 x p2 e2 => h A2 F2 H2 x (p.trans p2) (e.trans e2)
  | rt sl ce => exact fun A2 F2 H2 x p2 e2 => h A2 F2 H2 x (p.trans p2) (e.trans e2)
  | bk sl ce => exact fun A2 F2 H2 x p2 e2 => h A2 F2 H2 x (p.trans p2) (e.trans e2)
  | ct sl ce => exact fun A2 F2 H2 x p2 e2 => h A2 F2 H2 x (p.trans p2) (e.trans e2)
theorem PostS.imp {r : Out} (h1 : ∀ σ H, D.nx σ H → D'.nx σ H) (h2 : ∀ x H, D.rt x H → D'.rt x H) (h3 : ∀ σ H, D.bk σ H → D'.bk σ H) (h4 : ∀ σ H, D.ct σ H → D'.ct σ H) (h : PostS Z A F W D r) : PostS Z A F W D' r := by
  cases r with
  | nx sl ce => exact fun A2 F2 H2 x p2 e2 s l => h1 _ _ (h A2 F2 H2 x p2 e2 s l)
  | rt v ce => exact fun A2 F2 H2 x p2 e2 s l => h2 _ _ (h A2 F2 H2 x p2 e2 s l)
  | bk sl ce => exact fun A2 F2 H2 x p2 e2 s l => h3 _ _ (h A2 F2 H2 x p2 e2 s l)
  | ct sl ce => exact fun A2 F2 H2 x p2 e2 s l => h4 _ _ (h A2 F2 H2 x p2 e2 s l)
  | exc c ds sl ce => exact h
  | stuck => exact h
theorem PostS.exp {f : DE} {k : Val → DSt} (so : SO Z.toZx A F ce H) (hs : SL Z A F sl σ) (h : PostS Z A F W D (sExp f k sl ce)) :
    PostE Z A F W σ (fun x H1 => ∃ A1 F1 ce1 v, A <+: A1 ∧ Same F F1 ∧ SO Z.toZx A1 F1 ce1 H1 ∧ VRep Z A1 F1 v x ∧ PostS Z A1 F1 W D (k v sl ce1)) (f sl ce) := by
  unfold sExp at h
  cases e : f sl ce with
  | ok v ce1 =>
    rw [e] at h
    exact fun A1 F1 H1 x p1 e1 s1 r1 => ⟨A1, F1, ce1, v, p1, e1, s1, r1, h.mono p1 e1⟩
  | exc c ds ce1 =>
    rw [e] at h
    exact fun A1 F1 H1 dx p1 e1 s1 x1 => h A1 F1 H1 σ dx p1 e1 s1 (hs.mono p1 e1) x1
  | stuck =>
    rw [e] at h
    exact h.elim
theorem tS1 {f : DE} {k : Val → DSt} (h : tS Z W (sExp f k) D σ H) :
    tE Z W f σ H fun x H1 => ∃ A F sl ce v, SO Z.toZx A F ce H1 ∧ SL Z A F sl σ ∧ VRep Z A F v x ∧ PostS Z A F W D (k v sl ce) := by
  obtain ⟨A, F, sl, ce, so, hs, p⟩ := h
  exact ⟨A, F, sl, ce, so, hs, (PostS.exp so hs p).imp fun x H1 ⟨A1, F1, ce1, v, p1, e1, s1, r1, q1⟩ => ⟨A1, F1, sl, ce1, v, s1, hs.mono p1 e1, r1, q1⟩⟩
theorem nxS (so : SO Z.toZx A F ce H) (hs : SL Z A F sl σ) (p : PostS Z A F W D (.nx sl ce)) : D.nx σ H := p A F H σ (List.prefix_refl _) (Same.refl _) so hs
end
section
variable {X : Cx} {Z : Zy} {W : WX} {st : Stmt} {sts : List Stmt} {f g : DSt} {e : Expr} {fe : DE} {pos : Pos}
theorem ds_nil : PSs X [] (tS Z W sNil) := pss_nil.weak fun D σ H ⟨A, F, sl, ce, so, hs, p⟩ => nxS so hs p
theorem ds_cons (h1 : PS X st (tS Z W f)) (h2 : PSs X sts (tS Z W g)) : PSs X (st :: sts) (tS Z W (sSeq f g)) := (pss_cons h1 h2).weak fun D σ H ⟨A, F, sl, ce, so, hs, p⟩ => by
  refine ⟨A, F, sl, ce, so, hs, ?_⟩
  unfold sSeq at p
  cases e : f sl ce with
  | nx sl1 ce1 =>
    rw [e] at p
    exact fun A1 F1 H1 σ1 p1 e1 s1 l1 => ⟨A1, F1, sl1, ce1, s1, l1, p.mono p1 e1⟩
  | rt v ce => rw [e] at p; exact p
  | bk v ce => rw [e] at p; exact p
  | ct v ce => rw [e] at p; exact p
  | exc c ds sl ce => rw [e] at p; exact p
  | stuck => rw [e] at p; exact p
theorem ds_one (h1 : PS X st (tS Z W f)) : PSs X [st] (tS Z W f) := pss_one h1
theorem ds_set {i : Nat} {x : Str} {pos' : Pos} (hN : X.N.Nodup) (he : PE X e (tE Z W fe)) (hi : X.N[i]? = some x := by rfl) (hx : Loc X.env.scope x := by first | exact Or.inl rfl | exact Or.inr rfl) (hs : swapsWith e (some (.Name x pos')) pos.line X.env = pure false := by rfl)
    (hf : X.fn x = true ∨ X.env.scope.names.lookup x = some .local := by first | exact .inl rfl | exact .inr rfl) : PS X (.Assign [.Name x pos'] e pos) (tS Z W (sSet i fe)) :=
  (ps_set hN hi hx he hs hf).weak fun D σ H h => tE_imp (fun x H1 ⟨A, F, sl, ce, v, so, hs, r, p⟩ => nxS so (hs.set r) p) (tS1 h)
theorem ds_ret (he : PE X e (tE Z W fe)) : PS X (.Return (some e) pos) (tS Z W (sRet fe)) :=
  (ps_ret he).weak fun D σ H h => tE_imp (fun x H1 ⟨A, F, sl, ce, v, so, hs, r, p⟩ => p A F H1 x (List.prefix_refl _) (Same.refl _) so r) (tS1 h)
theorem ds_retN : PS X (.Return none pos) (tS Z W sRetN) :=
  ps_retN.weak fun D σ H ⟨A, F, sl, ce, so, hs, p⟩ => p A F H .non (List.prefix_refl _) (Same.refl _) so (show Rep Z.toZx F .non .non from repN)
theorem ds_expr (he : PE X e (tE Z W fe)) (hs : swapsWith e none pos.line X.env = pure false := by rfl) : PS X (.Expr e pos) (tS Z W (sDrop fe)) :=
  (ps_expr he hs).weak fun D σ H h => tE_imp (fun x H1 ⟨A, F, sl, ce, v, so, hs, r, p⟩ => nxS so hs p) (tS1 h)
theorem ds_if {c : Expr} {a b : List Stmt} (hc : PT X c (tT Z W fe)) (ha : PSs X a (tS Z W f)) (hb : PSs X b (tS Z W g)) : PS X (.If c a b pos) (tS Z W (sIf fe f g)) :=
  (ps_if hc ha hb).weak fun D σ H h => tE_imp (fun x H1 ⟨A, F, sl, ce, v, so, hs, r, p⟩ => by
    split at p
    · rename_i b
      refine ⟨b, rep_bl r, ?_⟩
      cases b with
      | true => exact iteT ⟨A, F, sl, ce, so, hs, p⟩
      | false => exact iteF ⟨A, F, sl, ce, so, hs, p⟩
    · exact p.elim) (tS1 h)
theorem ds_break : PS X (.Break pos) (tS Z W sBrk) := ps_break.weak fun D σ H ⟨A, F, sl, ce, so, hs, p⟩ => p A F H σ (List.prefix_refl _) (Same.refl _) so hs
theorem ds_continue : PS X (.Continue pos) (tS Z W sCnt) := ps_continue.weak fun D σ H ⟨A, F, sl, ce, so, hs, p⟩ => p A F H σ (List.prefix_refl _) (Same.refl _) so hs
theorem ds_pass : PS X (.Pass pos) (tS Z W sNop) := ps_pass.weak fun D σ H ⟨A, F, sl, ce, so, hs, p⟩ => nxS so hs p
theorem dss_never : PSs X sts (tS Z W sStuck) := pss_never.weak fun D σ H ⟨A, F, sl, ce, so, hs, p⟩ => p
theorem tS_frz {i : Nat} {D σ H} (h : tS Z W (frz i f) D σ H) : tS Z W f D σ H := by
  obtain ⟨A, F, sl, ce, so, hs, p⟩ := h
  unfold frz at p
  split at p
  · rename_i k e1
    split at p
    · rename_i ds e2
      obtain ⟨x, h1, a, hA, rfl⟩ := hs.is i _ e1
      obtain ⟨hF, vs, hH, r⟩ := so.ok k a _ hA e2
      have up := same_up (o := .lst vs) hF
      have hs2 : SL Z A (upd F a (.lst vs)) (sl.set i (some (.im (.lst ds)))) σ := by
        have q := (hs.mono (List.prefix_refl _) up).set (i := i) (v := .im (.lst ds)) (x := .ref a) (by unfold VRep Rep; exact ⟨a, vs, rfl, upd_same, r.mono up⟩)
        have e3 : σ.set i (some (.ref a)) = σ := List.ext_getElem? fun j => by
          by_cases hj : i = j
          · subst hj
            rw [List.getElem?_set_self (List.getElem?_eq_some_iff.mp h1).1, h1]
          · rw [List.getElem?_set_ne hj]
        rw [e3] at q
        exact q
      exact ⟨A, upd F a (.lst vs), _, _, so.freeze hA hF hH, hs2, p.mono (List.prefix_refl _) up⟩
    · rename_i ks vs e2
      obtain ⟨x, h1, a, hA, rfl⟩ := hs.is i _ e1
      obtain ⟨hF, o, kvs, vvs, hH, sh, r1, r2⟩ := so.ok k a _ hA e2
      have up := same_up (o := o) hF
      have hs2 : SL Z A (upd F a o) (sl.set i (some (.im (.dct ks vs)))) σ := by
        have q := (hs.mono (List.prefix_refl _) up).set (i := i) (v := .im (.dct ks vs)) (x := .ref a) (by unfold VRep Rep; exact ⟨a, o, kvs, vvs, rfl, upd_same, sh, r1.mono up, r2.mono up⟩)
        have e3 : σ.set i (some (.ref a)) = σ := List.ext_getElem? fun j => by
          by_cases hj : i = j
          · subst hj
            rw [List.getElem?_set_self (List.getElem?_eq_some_iff.mp h1).1, h1]
          · rw [List.getElem?_set_ne hj]
        rw [e3] at q
        exact q
      exact ⟨A, upd F a o, _, _, so.freeze hA hF hH, hs2, p.mono (List.prefix_refl _) up⟩
    · exact p.elim
  · exact p.elim
theorem ds_frz {i : Nat} (h : PS X st (tS Z W f)) : PS X st (tS Z W (frz i f)) := h.weak fun D σ H q => tS_frz q
theorem ds_fgt {i : Nat} (h : PS X st (tS Z W f)) : PS X st (tS Z W (fgt i f)) := h.weak fun D σ H ⟨A, F, sl, ce, so, hs, p⟩ => ⟨A, F, _, ce, so, hs.forget, p⟩
/-- x op= e -/
def sAug (i : Nat) (k : Val → Val → DE) (f : DE) : DSt := fun sl ce => match sl[i]? with
  | some (some v) => sSet i (eBind f (k v)) sl ce
  | _ => .stuck
theorem ds_aug {i : Nat} {x : Str} {op : Operator} {ti : TIp} {k : Val → Val → DE} {pos' : Pos} (hN : X.N.Nodup) (he : PE X e (tE Z W fe)) (ho : PIp X op ti) (hk : Ok2 Z W k ti) (hi : X.N[i]? = some x := by rfl) (hx : Loc X.env.scope x := by first | exact Or.inl rfl | exact Or.inr rfl)
    (hf : X.fn x = true ∨ X.env.scope.names.lookup x = some .local := by first | exact .inl rfl | exact .inr rfl) : PS X (.AugAssign (.Name x pos') op e pos) (tS Z W (sAug i k fe)) :=
  (ps_aug hN hi hx he ho hf).weak fun D σ H ⟨A, F, sl, ce, so, hs, p⟩ => by
    unfold sAug at p
    split at p
    · rename_i v e1
      obtain ⟨x, h1, r⟩ := hs.is i v e1
      refine ⟨x, h1, ?_⟩
      have p' := PostS.exp so hs p
      refine ⟨A, F, sl, ce, so, hs, (PostE.bind so hs p').imp fun y H1 ⟨A1, F1, ce1, u, p1, e1, s1, r1, q1⟩ => ?_⟩
      exact hk A1 F1 sl ce1 v u x y H1 σ _ s1 (hs.mono p1 e1) (r.mono p1 e1) r1 (q1.imp fun z H2 ⟨A2, F2, ce2, w, p2, e2, s2, r2, q2⟩ => nxS s2 ((hs.mono p2 e2).set r2) q2)
    · exact p.elim
theorem ip_addA : PIp X .Add (rI (fun _ _ => True) fun i j => .int (i + j)) := by
  intro pins s σ H x y v u Q I rx ry ⟨i, j, e1, e2, _, q⟩
  exact ip_add pins s σ H x y v u Q I rx ry ⟨i, j, e1, e2, q⟩
theorem ip_subA : PIp X .Sub (rI (fun _ _ => True) fun i j => .int (i - j)) := by
  intro pins s σ H x y v u Q I rx ry ⟨i, j, e1, e2, _, q⟩
  exact ip_sub pins s σ H x y v u Q I rx ry ⟨i, j, e1, e2, q⟩
def kAddI (v u : Val) : DE := fun _ ce => match v, u with
  | .im (.int i), .im (.int j) => .ok (.im (.int (i + j))) ce
  | _, _ => .stuck
theorem ok_addI : Ok2 Z W kAddI (rI (fun _ _ => True) fun i j => .int (i + j)) := ok_int (g := fun i j => .int (i + j)) (fun v u sl ce => by
  unfold kAddI; split
  · exact .inl ⟨_, _, rfl, rfl, trivial, rfl⟩
  · exact .inr rfl) fun _ _ _ => repI
end
/-! ### targets -/
abbrev GD : Type := D → Sl → Option Sl
def gN (i : Nat) : GD := fun d sl => some (sl.set i (some (.im d)))
def gL : List GD → List D → Sl → Option Sl
  | [], [], sl => some sl
  | g :: gs, d :: ds, sl => (g d sl).bind fun sl' => gL gs ds sl'
  | _, _, _ => none
def gT (gs : List GD) : GD := fun d sl => match d with
  | .tup ds => gL gs ds sl
  | _ => none
/-- the slots but those at ix are as they were -/
def Agree (ix : List Nat) (σ σ' : L2.St) : Prop := σ'.length = σ.length ∧ ∀ j : Nat, j ∉ ix → σ'[j]? = σ[j]?
def tG (Z : Zy) (ix : List Nat) (g : GD) : TG := fun v σ H Q => ∃ A F sl ce d, SO Z.toZx A F ce H ∧ SL Z A F sl σ ∧ Rep Z.toZx F d v ∧ ∃ sl', g d sl = some sl' ∧ ∀ σ', SL Z A F sl' σ' → Agree ix σ σ' → Q σ' H
def tGs (Z : Zy) (ix : List Nat) (gs : List GD) : TGs := fun vs σ H Q => ∃ A F sl ce ds, SO Z.toZx A F ce H ∧ SL Z A F sl σ ∧ Reps Z.toZx F ds vs ∧ ∃ sl', gL gs ds sl = some sl' ∧ ∀ σ', SL Z A F sl' σ' → Agree ix σ σ' → Q σ' H
section
variable {X : Cx} {Z : Zy} {W : WX} {e : Expr} {es : List Expr} {g : GD} {gs : List GD} {ix ix' : List Nat} {pos : Pos}
theorem pg_weak {t t' : TG} (h : PG X e t) (hw : ∀ v σ H Q, t' v σ H Q → t v σ H Q) : PG X e t' := ⟨fun pins s σ H v u Q I r q => h.run pins s σ H v u Q I r (hw _ _ _ _ q)⟩
theorem pgs_weak {t t' : TGs} (h : PGs X es t) (hw : ∀ v σ H Q, t' v σ H Q → t v σ H Q) : PGs X es t' := ⟨fun pins s σ H v u Q I r q => h.run pins s σ H v u Q I r (hw _ _ _ _ q)⟩
theorem dg_name {i : Nat} {x : Str} (hN : X.N.Nodup) (hi : X.N[i]? = some x := by rfl) (hx : Loc X.env.scope x := by first | exact Or.inl rfl | exact Or.inr rfl)
    (hf : X.fn x = true ∨ X.env.scope.names.lookup x = some .local := by first | exact .inl rfl | exact .inr rfl) : PG X (.Name x pos) (tG Z [i] (gN i)) :=
  pg_weak (pg_name hN hi hx hf) fun v σ H Q ⟨A, F, sl, ce, d, so, hs, r, sl', e, q⟩ => by
    cases e
    refine q _ (hs.set r) ⟨by simp, fun j hj => ?_⟩
    have : i ≠ j := fun z => hj (by simp [z])
    rw [List.getElem?_set_ne this]
theorem dgs_nil : PGs X [] (tGs Z [] []) := pgs_weak pgs_nil fun v σ H Q ⟨A, F, sl, ce, ds, so, hs, r, sl', e, q⟩ => by
  cases ds with
  | nil =>
    cases e
    exact ⟨reps_nil_inv r, q σ hs ⟨rfl, fun _ _ => rfl⟩⟩
  | cons d ds => cases e
theorem dgs_cons (h1 : PG X e (tG Z ix g)) (h2 : PGs X es (tGs Z ix' gs)) (hs : (assignEach (e :: es) X.env).map (·.2) = assign e X.env :: (assignEach es X.env).map (·.2) := by rfl) : PGs X (e :: es) (tGs Z (ix ++ ix') (g :: gs)) := pgs_weak (pgs_cons h1 h2 hs) fun vs σ H Q ⟨A, F, sl, ce, ds, so, hs, r, sl', e, q⟩ => by
  cases ds with
  | nil => cases e
  | cons d ds =>
    obtain ⟨v, r', rfl, h1, h2⟩ := reps_cons_inv r
    refine ⟨v, r', rfl, A, F, sl, ce, d, so, hs, h1, ?_⟩
    unfold gL at e
    cases e1 : g d sl with
    | none => rw [e1] at e; cases e
    | some sl1 =>
      rw [e1] at e
      exact ⟨sl1, rfl, fun σ1 l1 a1 => ⟨A, F, sl1, ce, ds, so, l1, h2, sl', e, fun σ2 l2 a2 => q σ2 l2 ⟨a2.1.trans a1.1, fun j hj => (a2.2 j fun z => hj (by simp [z])).trans (a1.2 j fun z => hj (by simp [z]))⟩⟩⟩
theorem gL_len : ∀ {gs : List GD} {ds : List D} {sl sl' : Sl}, gL gs ds sl = some sl' → ds.length = gs.length
  | [], [], _, _, _ => rfl
  | [], _ :: _, _, _, h => by cases h
  | _ :: _, [], _, _, h => by cases h
  | g :: gs, d :: ds, sl, sl', h => by
    unfold gL at h
    cases e1 : g d sl with
    | none => rw [e1] at h; cases h
    | some sl1 => rw [e1] at h; simp [gL_len (show gL gs ds sl1 = some sl' from h)]
theorem dg_tup {k : Nat} (hK : X.K = Z.K) (hc : X.calm = true) (h : PGs X es (tGs Z ix gs)) (hl : (assignEach es X.env).length = gs.length := by rfl) (hst : (assignEach es X.env).findIdx? (·.1) = none := by rfl) : PG X (.Tuple es k pos) (tG Z ix (gT gs)) := pg_weak (pg_tup hc h hl hst) fun v σ H Q ⟨A, F, sl, ce, d, so, hs, r, sl', e, q⟩ => by
  unfold gT at e
  split at e
  · rename_i ds
    unfold Rep at r
    obtain ⟨a, vs, rfl, h1, h2⟩ := r
    exact ⟨a, vs, rfl, by rw [hK]; exact same_seqT so.sub h1, by rw [← h2.length, gL_len e], A, F, sl, ce, ds, so, hs, h2, sl', e, q⟩
  · cases e
/-- a, b = e -/
def sAsg (g : GD) (f : DE) : DSt := sExp f fun v sl ce => match v with
  | .im d => match g d sl with
    | some sl' => .nx sl' ce
    | none => .stuck
  | _ => .stuck
theorem ds_asg {tg : Expr} {fe : DE} (he : PE X e (tE Z W fe)) (hg : PG X tg (tG Z ix g)) (hs : swapsWithSole [tg] e pos.line X.env = pure false := by rfl) (hw : swappedStores [tg] e X.env = pure none := by rfl) (h1 : (assignEach [tg] X.env).map (·.2) = [assign tg X.env] := by rfl) : PS X (.Assign [tg] e pos) (tS Z W (sAsg g fe)) :=
  (ps_asg he hg hs hw h1).weak fun D σ H h => tE_imp (fun x H1 ⟨A, F, sl, ce, v, so, hs, r, p⟩ => by
    split at p
    · rename_i d
      split at p
      · rename_i sl' e1
        exact ⟨A, F, sl, ce, d, so, hs, r, sl', e1, fun σ' l' _ => nxS so l' p⟩
      · exact p.elim
    · exact p.elim) (tS1 h)
end
/-! ### what a for walks -/
inductive IOut where
  | ok (ds : List D) (ce : List Cell) | exc (c : Nat) (ds : List D) (ce : List Cell) | stuck
abbrev DI := Sl → List Cell → IOut
def JOk (Z : Zx) (F : Hp) (J : It) (ds : List D) : Prop := ∀ F1 H i, Same F F1 → Same F1 H → (i = ds.length → J.stop i H) ∧
  ∀ d, ds[i]? = some d → J.go i H ∧ ∀ x H', J.yld i H x H' → (Rep Z F1 d x ∧ H' = H) ∨ ∃ p o, H p = none ∧ H' = upd H p o ∧ Rep Z (upd F1 p o) d x
def tI (Z : Zy) (W : WX) (f : DI) : TI := fun σ H R => ∃ A F sl ce, SO Z.toZx A F ce H ∧ SL Z A F sl σ ∧ match f sl ce with
  | .ok ds ce' => ∀ A' F' H' J, A <+: A' → Same F F' → SO Z.toZx A' F' ce' H' → JOk Z.toZx F' J ds → R J H'
  | .exc c ds ce' => ∀ A' F' H' dx, A <+: A' → Same F F' → SO Z.toZx A' F' ce' H' → ExcOk Z.toZx F' c ds dx → W (.ref (Z.cl c)) dx σ H'
  | .stuck => False
def iExp (f : DE) (k : Val → Option (List D)) : DI := fun sl ce => match f sl ce with
  | .ok v ce' => match k v with
    | some ds => .ok ds ce'
    | none => .stuck
  | .exc c ds ce' => .exc c ds ce'
  | .stuck => .stuck
def itL : Val → Option (List D)
  | .im (.lst ds) => some ds
  | .im (.wl ds) => some ds
  | _ => none
def itT : Val → Option (List D)
  | .im (.tup ds) => some ds
  | _ => none
def signs (z : Str) : List D := z.cps.toList.map fun c => .str ⟨#[c]⟩
def itS : Val → Option (List D)
  | .im (.str z) => some (signs z)
  | _ => none
section
variable {X : Cx} {Z : Zy} {W : WX} {tg e : Expr} {f : DE} {k : Val → Option (List D)} {pos : Pos}
theorem tI1 {σ H R} (h : tI Z W (iExp f k) σ H R) : tE Z W f σ H fun x H1 => ∃ A F ce v ds, SO Z.toZx A F ce H1 ∧ VRep Z A F v x ∧ k v = some ds ∧ ∀ J, JOk Z.toZx F J ds → R J H1 := by
  obtain ⟨A, F, sl, ce, so, hs, p⟩ := h
  refine ⟨A, F, sl, ce, so, hs, ?_⟩
  unfold iExp at p
  cases e : f sl ce with
  | ok v ce1 =>
    simp only [e] at p
    cases e2 : k v with
    | none => simp only [e2] at p
    | some ds =>
      simp only [e2] at p
      exact fun A1 F1 H1 x p1 e1 s1 r1 => ⟨A1, F1, ce1, v, ds, s1, r1, e2, fun J hJ => p A1 F1 H1 J p1 e1 s1 hJ⟩
  | exc c ds ce1 => simp only [e] at p; exact p
  | stuck => simp only [e] at p
theorem _root_.L2.PI.weak {t t' : TI} (h : PI X tg e t) (hw : ∀ σ H R, t' σ H R → t σ H R) : PI X tg e t' := ⟨fun pins s σ H R I q => h.run pins s σ H R I (hw _ _ _ q)⟩
theorem jok_l {Z : Zx} {F : Hp} {K : PySem.W.Frag} {a : Addr} {vs : List V} {ds : List D} (hl : SqL K F a vs) (hu : ∀ H xs, Same F H → SqL K H a xs → xs = vs) (r : Reps Z F ds vs) : JOk Z F (Itl K a) ds := by
  intro F1 H i e1 e2
  have hl' := e2.seq (e1.seq hl)
  refine ⟨fun h => ⟨vs, hl', by rw [h, r.length]; exact Nat.le_refl _⟩, fun d hd => ?_⟩
  obtain ⟨v, hv, rv⟩ := r.get' hd
  refine ⟨⟨vs, v, hl', hv⟩, fun x H' ⟨eH, hx⟩ => .inl ⟨?_, eH⟩⟩
  have := hx vs hl'
  rw [hv] at this
  cases this
  exact rv.mono e1
theorem di_list (hK : X.K = Z.K) (he : PE X e (tE Z W f)) : PI X tg e (tI Z W (iExp f itL)) := (pi_list he).weak fun σ H R h => tE_imp (fun x H1 ⟨A, F, ce, v, ds, so, r, e, q⟩ => by
  unfold itL at e
  have key : ∀ a vs, SqL Z.K F a vs → Reps Z.toZx F ds vs → x = .ref a → ∃ a, x = .ref a ∧ (∃ xs, SqL X.K H1 a xs) ∧ R (Itl X.K a) H1 := fun a vs hl rr ex => by
    rw [hK]
    refine ⟨a, ex, ⟨vs, so.sub.seq hl⟩, q _ fun F1 H i e1 e2 => ?_⟩
    have hl' := e2.seq (e1.seq hl)
    refine ⟨fun h => ⟨vs, hl', by rw [h, rr.length]; exact Nat.le_refl _⟩, fun d hd => ?_⟩
    obtain ⟨v, hv, rv⟩ := rr.get' hd
    refine ⟨⟨vs, v, hl', hv⟩, fun x H' ⟨eH, hx⟩ => .inl ⟨?_, eH⟩⟩
    have := hx vs hl'
    rw [hv] at this
    cases this
    exact rv.mono e1
  split at e
  · cases e
    unfold VRep Rep at r
    obtain ⟨a, vs, ex, h1, h2⟩ := r
    exact key a vs (SqL.of h1) h2 ex
  · cases e
    unfold VRep Rep at r
    obtain ⟨a, vs, ex, h1, h2⟩ := r
    exact key a vs h1 h2 ex
  · cases e) (tI1 h)
theorem di_tup (hK : X.K = Z.K) (he : PE X e (tE Z W f)) : PI X tg e (tI Z W (iExp f itT)) := (pi_tup he).weak fun σ H R h => tE_imp (fun x H1 ⟨A, F, ce, v, ds, so, r, e, q⟩ => by
  unfold itT at e
  split at e
  · cases e
    unfold VRep Rep at r
    obtain ⟨a, vs, ex, hl, rr⟩ := r
    rw [hK]
    refine ⟨a, ex, ⟨vs, same_seqT so.sub hl⟩, q _ fun F1 H i e1 e2 => ?_⟩
    have hl' := same_seqT e2 (same_seqT e1 hl)
    refine ⟨fun h => ⟨vs, hl', by rw [h, rr.length]; exact Nat.le_refl _⟩, fun d hd => ?_⟩
    obtain ⟨v, hv, rv⟩ := rr.get' hd
    refine ⟨⟨vs, v, hl', hv⟩, fun x H' ⟨eH, hx⟩ => .inl ⟨?_, eH⟩⟩
    have := hx vs hl'
    rw [hv] at this
    cases this
    exact rv.mono e1
  · cases e) (tI1 h)
theorem jok_s {F : Hp} (z : Str) : JOk Z.toZx F (Its z) (signs z) := by
  intro F1 H i e1 e2
  have hsz : (signs z).length = z.cps.size := by simp [signs]
  refine ⟨fun h => by show z.cps.size ≤ i; omega, fun d hd => ?_⟩
  have hi : i < z.cps.size := by rw [← hsz]; exact (List.getElem?_eq_some_iff.mp hd).1
  refine ⟨hi, fun x H' ⟨eH, c, hc, ex⟩ => .inl ⟨?_, eH⟩⟩
  have : d = .str ⟨#[c]⟩ := by
    unfold signs at hd
    rw [List.getElem?_map, Array.getElem?_toList, hc] at hd
    cases hd
    rfl
  rw [this, ex]
  exact repS
theorem di_str (he : PE X e (tE Z W f)) : PI X tg e (tI Z W (iExp f itS)) := (pi_str he).weak fun σ H R h => tE_imp (fun x H1 ⟨A, F, ce, v, ds, so, r, e, q⟩ => by
  unfold itS at e
  split at e
  · rename_i z
    cases e
    exact ⟨z, rep_str r, q _ (jok_s z)⟩
  · cases e) (tI1 h)
theorem di_or {w1 w2 : TI} (h1 : PI X tg e w1) (h2 : PI X tg e w2) : PI X tg e (fun σ H R => w1 σ H R ∨ w2 σ H R) := ⟨fun pins s σ H R I q => q.elim (h1.run pins s σ H R I) (h2.run pins s σ H R I)⟩
end
/-! ### for -/
def forD (g : GD) (body : DSt) : List D → DSt
  | [], sl, ce => .nx sl ce
  | d :: ds, sl, ce => match g d sl with
    | none => .stuck
    | some sl1 => match body sl1 ce with
      | .nx sl2 ce2 => forD g body ds sl2 ce2
      | .ct sl2 ce2 => forD g body ds sl2 ce2
      | .bk sl2 ce2 => .nx sl2 ce2
      | o => o
def sFor (fi : DI) (g : GD) (body : DSt) : DSt := fun sl ce => match fi sl ce with
  | .ok ds ce' => forD g body ds sl ce'
  | .exc c ds ce' => .exc c ds sl ce'
  | .stuck => .stuck
section
variable {X : Cx} {Z : Zy} {W : WX} {tg iter : Expr} {fi : DI} {ix : List Nat} {g : GD} {fb : DSt} {body : List Stmt} {pos : Pos}
theorem ds_for (hp : PassesOwn (model X.prog X.w) X.A X.env X.xe) (hi : PI X tg iter (tI Z W fi)) (hg : PG X tg (tG Z ix g)) (hb : PSs X body (tS Z W fb)) (hc : X.calm = true := by rfl)
    (hs : ∀ x, foldedSetIterable iter X.env x = pure x := by intro _; rfl) : PS X (.For tg iter body [] pos) (tS Z W (sFor fi g fb)) := by
  refine (ps_for hp hc hi hg hb hs).weak fun D σ H ⟨A, F, sl, ce, so, hs, p⟩ => ⟨A, F, sl, ce, so, hs, ?_⟩
  unfold sFor at p
  cases e : fi sl ce with
  | stuck => rw [e] at p; exact p.elim
  | exc c ds ce1 =>
    rw [e] at p
    exact fun A1 F1 H1 dx p1 e1 s1 x1 => p A1 F1 H1 σ dx p1 e1 s1 (hs.mono p1 e1) x1
  | ok ds ce1 =>
    rw [e] at p
    intro A1 F1 H1 J p1 e1 so1 hJ
    refine ⟨fun i m σ H => m = ds.length - i ∧ i ≤ ds.length ∧ ∃ A F sl ce, Same F1 F ∧ SO Z.toZx A F ce H ∧ SL Z A F sl σ ∧ PostS Z A F W D (forD g fb (ds.drop i) sl ce),
      ⟨ds.length, rfl, Nat.zero_le _, A1, F1, sl, ce1, Same.refl _, so1, hs.mono p1 e1, p.mono p1 e1⟩, ?_⟩
    rintro i m σ H ⟨rfl, hi, A, F, sl, ce, eF, so, hs, p⟩
    obtain ⟨j1, j2⟩ := hJ F H i eF so.sub
    by_cases hlt : i < ds.length
    · have hd : ds[i]? = some ds[i] := List.getElem?_eq_getElem hlt
      obtain ⟨go, yl⟩ := j2 _ hd
      refine .inr ⟨go, fun σ H => i + 1 ≤ ds.length ∧ ∃ A F sl ce, Same F1 F ∧ SO Z.toZx A F ce H ∧ SL Z A F sl σ ∧ PostS Z A F W D (forD g fb (ds.drop (i + 1)) sl ce), fun σ' H' q => ⟨ds.length - (i + 1), by omega, rfl, q⟩, fun x H' hy => ?_⟩
      rw [List.drop_eq_getElem_cons hlt] at p
      have fin : ∀ F2 H2, Same F F2 → SO Z.toZx A F2 ce H2 → Rep Z.toZx F2 ds[i] x → tG Z ix g x σ H2 fun σ2 H3 => tS Z W fb { D with nx := fun σ H => i + 1 ≤ ds.length ∧ ∃ A F sl ce, Same F1 F ∧ SO Z.toZx A F ce H ∧ SL Z A F sl σ ∧ PostS Z A F W D (forD g fb (ds.drop (i + 1)) sl ce), ct := fun σ H => i + 1 ≤ ds.length ∧ ∃ A F sl ce, Same F1 F ∧ SO Z.toZx A F ce H ∧ SL Z A F sl σ ∧ PostS Z A F W D (forD g fb (ds.drop (i + 1)) sl ce), bk := D.nx } σ2 H3 := by
        intro F2 H2 e2 so2 r2
        refine ⟨A, F2, sl, ce, ds[i], so2, hs.mono (List.prefix_refl _) e2, r2, ?_⟩
        unfold forD at p
        cases eg : g ds[i] sl with
        | none => rw [eg] at p; exact p.elim
        | some sl1 =>
          rw [eg] at p
          refine ⟨sl1, rfl, fun σ' hs' _ => ⟨A, F2, sl1, ce, so2, hs', ?_⟩⟩
          simp only at p
          cases eb : fb sl1 ce with
          | nx sl2 ce2 => rw [eb] at p; exact fun A3 F3 H3 σ3 p3 e3 so3 hs3 => ⟨hlt, A3, F3, sl2, ce2, (eF.trans e2).trans e3, so3, hs3, p.mono p3 (e2.trans e3)⟩
          | ct sl2 ce2 => rw [eb] at p; exact fun A3 F3 H3 σ3 p3 e3 so3 hs3 => ⟨hlt, A3, F3, sl2, ce2, (eF.trans e2).trans e3, so3, hs3, p.mono p3 (e2.trans e3)⟩
          | bk sl2 ce2 => rw [eb] at p; exact fun A3 F3 H3 σ3 p3 e3 so3 hs3 => p A3 F3 H3 σ3 p3 (e2.trans e3) so3 hs3
          | rt v ce2 => rw [eb] at p; exact fun A3 F3 H3 x3 p3 e3 so3 hs3 => p A3 F3 H3 x3 p3 (e2.trans e3) so3 hs3
          | exc c es sl2 ce2 => rw [eb] at p; exact fun A3 F3 H3 σ3 dx p3 e3 so3 hs3 => p A3 F3 H3 σ3 dx p3 (e2.trans e3) so3 hs3
          | stuck => rw [eb] at p; exact p.elim
      rcases yl x H' hy with ⟨rx, rfl⟩ | ⟨q, o, hq, rfl, rx⟩
      · exact fin F _ (Same.refl _) so rx
      · exact fin _ _ (same_up (so.fnone hq)) (so.new hq) rx
    · have ei : i = ds.length := by omega
      refine .inl ⟨j1 ei, ?_⟩
      rw [ei, List.drop_length] at p
      exact nxS so hs p
end
end ZZ

set_option Elab.async false
set_option linter.all false
set_option maxRecDepth 100000
/-! Z4: what a for walks, comprehensions. -/
namespace L2
open PySem PySem.Spec PyProof.Rows
/-! ### enumerate of a text -/
def ItEz (x : Str) : It := ⟨fun i _ => i < x.cps.size, fun i H v H' => ∃ T c, v = .ref T ∧ H T = none ∧ H' = upd H T (.tup [.int (i : Nat), .str ⟨#[c]⟩]) ∧ x.cps[i]? = some c, fun i _ => i = x.cps.size⟩
theorem strIter_cases (x : Str) : strIterType x = "str_ascii_iterator" ∨ strIterType x = "str_iterator" := by
  unfold strIterType
  split
  · exact .inl rfl
  · exact .inr rfl
theorem draws_str {prog : Program} {w : World} {A : Around} (hh : A.handled = none) (it : Addr) (x : Str) (t : Tok) :
    ∃ P : Nat → Value → Prop, Draws prog w A it [it] x.cps.size P (fun i h => h.IsStrIter it (strIterType x) x t i) ∧ ∀ i v, P i v → ∃ c u, x.cps[i]? = some c ∧ v = .str ⟨#[c]⟩ u := by
  rcases strIter_cases x with e | e
  · rw [e]
    exact ⟨_, Draws.strAscii hh it x t, fun i v h => h⟩
  · rw [e]
    exact ⟨_, Draws.strWide hh it x t, fun i v h => h⟩
theorem turn_enumS {P : Program} {w : World} {K : PySem.W.Frag} {elts : List Expr} {kk : Nat} {tpos : Pos} (x : Str) (t : Tok) (e it : Addr) :
    Turn P w K (.Tuple elts kk tpos) (ItEz x) [e, it] e (fun i h => (∃ old, IsEnum h e it ((i : Nat) : Int) old) ∧ h.IsStrIter it (strIterType x) x t i ∧ e ≠ it) where
  mem := by simp
  obj := fun i h st b hb => by
    obtain ⟨⟨old, he⟩, ⟨o, ho, hc, hd⟩, _⟩ := st
    have e' : b = e ∨ b = it := by simpa using hb
    rcases e' with z | z
    · rw [z]; exact ⟨_, he, fun v q => nomatch q⟩
    · rw [z]; exact ⟨o, ho, fun v q => by rw [hd] at q; cases q⟩
  keep := fun i h h' st k => let ⟨⟨old, he⟩, hi, hne⟩ := st; ⟨⟨old, k e (by simp) _ he⟩, (let ⟨o, ho, r⟩ := hi; ⟨o, k it (by simp) o ho, r⟩), hne⟩
  item := by
    intro X hP hw hK hc i pins s σ H E I hf st hg
    subst hP hw hK
    obtain ⟨⟨old, he⟩, hit, hne⟩ := st
    have hel : e < s.heap.objs.size := Heap.lt_size he
    have hil : it < s.heap.objs.size := by obtain ⟨_, q, _⟩ := hit; exact Heap.lt_size q
    obtain ⟨PP, DD, hPP⟩ := draws_str (prog := X.prog) (w := X.w) (A := X.A.in1) (I.ok.hd hc) it x t
    refine wpAny_pyNext_enum_itemD DD he hit hg hne (by simp [hne]) fun v h' tk hv ho hit' hT hsz hk => ?_
    obtain ⟨c, u, hcx, rfl⟩ := hPP i v hv
    refine ⟨_, rfl, wpAny_letOwnedTupleGo_enum (s := { s with heap := h', toks := tk + 1 }) ho fun h'' he' sb => ?_⟩
    have hT2 : h''.get? s.heap.objs.size = some { cls := .type "tuple", data := .seq #[.int i tk, .str ⟨#[c]⟩ u] } := (sb.2 _ (Nat.ne_of_gt hel)).trans hT
    have new : ObjOk X.prog X.w (upd H s.heap.objs.size (.tup [.int (i : Nat), .str ⟨#[c]⟩])) h'' s.heap.objs.size (.tup [.int (i : Nat), .str ⟨#[c]⟩]) :=
      ⟨by show 2 ≤ sizeLine; decide, [.int i tk, .str ⟨#[c]⟩ u], .cons ⟨_, rfl⟩ (.cons ⟨_, rfl⟩ .nil), ⟨_, hT2, rfl, _, rfl⟩⟩
    have I1 : Inv X pins σ (upd H s.heap.objs.size (.tup [.int (i : Nat), .str ⟨#[c]⟩])) { s with heap := h'', toks := tk + 1 } :=
      I.turnedNew (ch := [e, it]) (fun b ob hb q => (sb.2 b (fun z => hb (by simp [z]))).trans (hk b ob (fun z => hb (by simp [z])) (fun z => hb (by simp [z])) q)) hf (Nat.le_refl _) new
    refine ⟨.ref s.heap.objs.size, _, I1, rfl, ⟨_, c, rfl, I.hok.fresh (Nat.le_refl _), rfl, hcx⟩, ⟨⟨.str ⟨#[c]⟩ u, ?_⟩, (let ⟨o, ho, r⟩ := hit'; ⟨o, (sb.2 it (Ne.symm hne)).trans ho, r⟩), hne⟩, fun b hb => ?_⟩
    · have e1 : ((i + 1 : Nat) : Int) = (i : Int) + 1 := by omega
      rw [e1]; exact he'
    · have hb' : b < s.heap.objs.size := by
        have e' : b = e ∨ b = it := by simpa using hb
        rcases e' with z | z
        · rw [z]; exact hel
        · rw [z]; exact hil
      rw [upd_ne (Nat.ne_of_lt hb')]
      exact (hf b hb).1
  done := by
    intro X hP hw hK hc i pins s σ H E I hf st hg
    subst hP hw hK
    obtain ⟨⟨old, he⟩, hit, hne⟩ := st
    obtain ⟨f0, f1, f2, f3, f4, f5⟩ := hf it (by simp)
    obtain ⟨PP, DD, hPP⟩ := draws_str (prog := X.prog) (w := X.w) (A := X.A.in1) (I.ok.hd hc) it x t
    have hg' : i = x.cps.size := hg
    subst hg'
    exact wpAny_pyNext_enum_endD DD he hit fun h' eb => ⟨rfl, I.turned (t' := s.toks) (fun b o hb q => eb b o hb q) f0 f1 f3 f4 f5⟩
  self := fun A i s Q E st h => let ⟨⟨_, he⟩, _⟩ := st; wpAny_pyIter_enum he h
def iEnumS (ta : TA) : TI := fun σ H R => ta σ H fun vs H1 => ∃ x, vs = [.str x] ∧ R (ItEz x) H1
theorem pi_enumS {X : Cx} {e : Expr} {ta : TA} {p pos tpos : Pos} {elts : List Expr} {kk : Nat} (hg : Gl X "enumerate") (hm : X.mg "enumerate" = none) (ha : PA X [e] ta) (hs : starEach [e] X.env = [(false, eval e X.env)] := by rfl) :
    PI X (.Tuple elts kk tpos) (.Call (.Name "enumerate" p) [e] [] pos) (iEnumS ta) := by
  refine ⟨fun pins s σ H R I h => ?_⟩
  refine Call_ (ld_blt I hg hm boot_enumerate (PyProof.Rows.callWith_type1 (thn (ha.run pos pins s σ H _ I h) fun us s1 ⟨vs, H1, I1, r1, q1⟩ => ?_) hs rfl))
  obtain ⟨x, ex, q⟩ := q1
  subst ex
  cases r1 with
  | cons r rr =>
    cases rr
    obtain ⟨t, rfl⟩ := r
    refine call_enumerate_str fun h' he hit hsz hk => wpAny_pyIter_enum he ?_
    have I2 : Inv X pins σ H1 { s1 with heap := h' } := I1.kept (t' := s1.toks) hk
    refine ⟨s1.heap.objs.size + 1, [s1.heap.objs.size + 1, s1.heap.objs.size], _, _, H1, rfl, I2, turn_enumS x t (s1.heap.objs.size + 1) s1.heap.objs.size, ⟨⟨.none, he⟩, hit, Nat.succ_ne_self _⟩, fun b hb => ?_, q⟩
    have e' : b = s1.heap.objs.size + 1 ∨ b = s1.heap.objs.size := by simpa using hb
    have hle : s1.heap.objs.size ≤ b := by
      rcases e' with z | z
      · rw [z]; exact Nat.le_add_right _ _
      · rw [z]; exact Nat.le_refl _
    exact I1.fpOk hle (I1.hok.fresh hle)
end L2

namespace ZZ
open PySem PySem.Spec L2
def rangeD (lo c : Int) (n : Nat) : List D := (List.range n).map fun (i : Nat) => D.int (lo + (i : Int) * c)
def enumD (ds : List D) : List D := (List.range ds.length).filterMap fun (i : Nat) => ds[i]?.map fun d => D.tup [.int (i : Int), d]
def zipD (xs ys : List D) : List D := (List.zip xs ys).map fun p => D.tup [p.1, p.2]
/-- the walk of a call with arguments -/
def iArgs (fs : List DE) (k : List Val → Option (List D)) : DI := iExp (eArgs fs fun vs _ ce => match k vs with
  | some ds => .ok (.im (.lst ds)) ce
  | none => .stuck) itL
def isz (i : Int) : Bool := Nat.ble i.natAbs 4611686018427387903
theorem isz_of {i : Int} (h : -(2 ^ 62) < i ∧ i < 2 ^ 62) : isz i = true := by
  unfold isz
  rw [Nat.ble_eq]
  omega
def kRng1 : List Val → Option (List D)
  | [.im (.int j)] => if isz j then some (rangeD 0 1 j.toNat) else none
  | _ => none
def kRng2 : List Val → Option (List D)
  | [.im (.int i), .im (.int j)] => if isz i && isz j then some (rangeD i 1 (j - i).toNat) else none
  | _ => none
/-- range(i, j, -1) -/
def kRngB : List Val → Option (List D)
  | [.im (.int i), .im (.int j), .im (.int c)] => if isz i && isz j && decide (c = -1) then some (rangeD i (-1) (i - j).toNat) else none
  | _ => none
def kEnum : List Val → Option (List D)
  | [.im (.lst ds)] => some (enumD ds)
  | [.im (.wl ds)] => some (enumD ds)
  | _ => none
def kEnumS : List Val → Option (List D)
  | [.im (.str z)] => some (enumD (signs z))
  | _ => none
def wlst : Val → Option (List D)
  | .im (.lst ds) => some ds
  | .im (.wl ds) => some ds
  | _ => none
def kZip : List Val → Option (List D)
  | [v, u] => match wlst v, wlst u with
    | some xs, some ys => some (zipD xs ys)
    | _, _ => none
  | _ => none
def kRevL : List Val → Option (List D)
  | [v] => (wlst v).map List.reverse
  | _ => none
section
variable {X : Cx} {Z : Zy} {W : WX} {tg e : Expr} {fs : List DE} {k : List Val → Option (List D)} {pos : Pos}
/-- the arguments' end, without an object of its own -/
theorem tIN {σ H R} (h : tI Z W (iArgs fs k) σ H R) : tArgs Z W fs σ H fun xs H1 => ∃ A F ce vs ds, SO Z.toZx A F ce H1 ∧ VReps Z A F vs xs ∧ k vs = some ds ∧ ∀ J, JOk Z.toZx F J ds → R J H1 := by
  obtain ⟨A, F, sl, ce, so, hs, p⟩ := h
  unfold iArgs iExp at p
  have key : PostE Z A F W σ (fun _ _ => True) (eArgs fs (fun vs _ ce => match k vs with
      | some ds => .ok (.im (.lst ds)) ce
      | none => .stuck) sl ce) → True := fun _ => trivial
  -- the walk's wish as a wish on the arguments
  let kk : List Val → DE := fun vs _ ce => match k vs with
    | some ds => .ok (.im (.lst ds)) ce
    | none => .stuck
  have go : ∀ (fs : List DE) (kv : List Val → DE) (A : List Addr) (F H : Hp) (ce : List Cell) (pre : List Val), SO Z.toZx A F ce H → SL Z A F sl σ → (∀ vs, kv vs = kk (pre ++ vs)) →
      (match (match eArgs fs kv sl ce with
        | .ok v ce' => (match itL v with
          | some ds => IOut.ok ds ce'
          | none => IOut.stuck)
        | .exc c ds ce' => IOut.exc c ds ce'
        | .stuck => IOut.stuck) with
      | .ok ds ce' => ∀ A' F' H' J, A <+: A' → Same F F' → SO Z.toZx A' F' ce' H' → JOk Z.toZx F' J ds → R J H'
      | .exc c ds ce' => ∀ A' F' H' dx, A <+: A' → Same F F' → SO Z.toZx A' F' ce' H' → ExcOk Z.toZx F' c ds dx → W (.ref (Z.cl c)) dx σ H'
      | .stuck => False) →
      tArgs Z W fs σ H fun xs H1 => ∃ A1 F1 ce1 vs ds, A <+: A1 ∧ Same F F1 ∧ SO Z.toZx A1 F1 ce1 H1 ∧ VReps Z A1 F1 vs xs ∧ k (pre ++ vs) = some ds ∧ ∀ J, JOk Z.toZx F1 J ds → R J H1 := by
    intro fs
    induction fs with
    | nil =>
      intro kv A F H ce pre so hs hkv p
      unfold eArgs at p
      rw [hkv] at p
      simp only [kk] at p
      cases e : k (pre ++ []) with
      | none => simp only [e] at p
      | some ds =>
        simp only [e, itL] at p
        exact ⟨A, F, ce, [], ds, List.prefix_refl _, Same.refl _, so, rfl, e, fun J hJ => p A F H J (List.prefix_refl _) (Same.refl _) so hJ⟩
    | cons f fs ih =>
      intro kv A F H ce pre so hs hkv p
      unfold eArgs eBind at p
      refine ⟨A, F, sl, ce, so, hs, ?_⟩
      cases e : f sl ce with
      | stuck => simp only [e] at p
      | exc c ds ce1 => simp only [e] at p; exact p
      | ok v ce1 =>
        simp only [e] at p
        intro A1 F1 H1 x p1 e1 so1 r1
        refine tArgs_imp (fun xs H2 ⟨A2, F2, ce2, vs, ds, p2, e2, so2, r2, hk, q⟩ => ⟨A2, F2, ce2, v :: vs, ds, p1.trans p2, e1.trans e2, so2, ⟨x, xs, rfl, r1.mono p2 e2, r2⟩, by simpa using hk, q⟩)
          (ih (fun vs => kv (v :: vs)) A1 F1 H1 ce1 (pre ++ [v]) so1 (hs.mono p1 e1) (fun vs => by simp [hkv]) ?_)
        revert p
        cases eArgs fs (fun vs => kv (v :: vs)) sl ce1 with
        | stuck => exact id
        | exc c ds ce2 => exact fun p A' F' H' dx pp ee => p A' F' H' dx (p1.trans pp) (e1.trans ee)
        | ok u ce2 =>
          dsimp only
          cases itL u with
          | none => exact id
          | some ds => exact fun p A' F' H' J pp ee => p A' F' H' J (p1.trans pp) (e1.trans ee)
  exact tArgs_imp (fun xs H2 ⟨A2, F2, ce2, vs, ds, p2, e2, so2, r2, hk, q⟩ => ⟨A2, F2, ce2, vs, ds, so2, r2, by simpa using hk, q⟩) (go fs kk A F H ce [] so hs (fun vs => rfl) p)
theorem repIx {Z : Zx} {F : Hp} {i : Int} : Rep Z F (.int i) (.int i) := by unfold Rep; rfl
theorem repSx {Z : Zx} {F : Hp} {i : Str} : Rep Z F (.str i) (.str i) := by unfold Rep; rfl
theorem isz_ok {i : Int} (h : isz i = true) : -(2 ^ 62) ≤ i ∧ i < 2 ^ 62 := by
  unfold isz at h
  rw [Nat.ble_eq] at h
  omega
theorem jok_r {Z : Zx} {F : Hp} (lo : Int) (n : Nat) : JOk Z F (Itr lo n) (rangeD lo 1 n) := by
  intro F1 H i e1 e2
  refine ⟨fun h => by show n ≤ i; rw [h]; simp [rangeD], fun d hd => ?_⟩
  have hi : i < n := by
    have := (List.getElem?_eq_some_iff.mp hd).1
    simpa [rangeD] using this
  refine ⟨hi, fun x H' ⟨eH, ex⟩ => .inl ⟨?_, eH⟩⟩
  have : d = .int (lo + (i : Int) * 1) := by
    unfold rangeD at hd
    rw [List.getElem?_map, List.getElem?_range hi] at hd
    cases hd
    rfl
  rw [this, ex, Int.mul_one]
  exact repIx
theorem jok_c {Z : Zx} {F : Hp} (lo c : Int) (n : Nat) : JOk Z F (Itc lo c n) (rangeD lo c n) := by
  intro F1 H i e1 e2
  refine ⟨fun h => by show n ≤ i; rw [h]; simp [rangeD], fun d hd => ?_⟩
  have hi : i < n := by
    have := (List.getElem?_eq_some_iff.mp hd).1
    simpa [rangeD] using this
  refine ⟨hi, fun x H' ⟨eH, ex⟩ => .inl ⟨?_, eH⟩⟩
  have : d = .int (lo + (i : Int) * c) := by
    unfold rangeD at hd
    rw [List.getElem?_map, List.getElem?_range hi] at hd
    cases hd
    rfl
  rw [this, ex]
  exact repIx
theorem di_range1 {a : Expr} {p : Pos} {f : DE} (hm : X.mg "range" = none) (ha : PA X [a] (tArgs Z W [f])) (hg : Gl X "range" := by rfl) (hs : starEach [a] X.env = [(false, eval a X.env)] := by rfl) : PI X tg (.Call (.Name "range" p) [a] [] pos) (tI Z W (iArgs [f] kRng1)) :=
  (pi_range1 hg hm ha hs).weak fun σ H R h => tArgs_imp (fun xs H1 ⟨A, F, ce, vs, ds, so, r, hk, q⟩ => by
    unfold kRng1 at hk
    split at hk
    · split at hk
      · rename_i j hj
        cases hk
        replace r := vreps1 r
        obtain ⟨x, rfl, r⟩ := r
        rw [rep_int r]
        exact ⟨j, rfl, (isz_ok hj).1, (isz_ok hj).2, q _ (jok_r 0 _)⟩
      · cases hk
    · cases hk) (tIN h)
theorem di_range2 {a b : Expr} {p : Pos} {f g : DE} (hm : X.mg "range" = none) (ha : PA X [a, b] (tArgs Z W [f, g])) (hg : Gl X "range" := by rfl) (hs : starEach [a, b] X.env = [(false, eval a X.env), (false, eval b X.env)] := by rfl) (hs2 : starEach [b] X.env = [(false, eval b X.env)] := by rfl) :
    PI X tg (.Call (.Name "range" p) [a, b] [] pos) (tI Z W (iArgs [f, g] kRng2)) :=
  (pi_range2 hg hm ha hs hs2).weak fun σ H R h => tArgs_imp (fun xs H1 ⟨A, F, ce, vs, ds, so, r, hk, q⟩ => by
    unfold kRng2 at hk
    split at hk
    · split at hk
      · rename_i i j hj
        cases hk
        simp only [Bool.and_eq_true] at hj
        replace r := vreps2 r
        obtain ⟨x, y, rfl, r, r'⟩ := r
        rw [rep_int r, rep_int r']
        exact ⟨i, j, rfl, ⟨(isz_ok hj.1).1, (isz_ok hj.1).2, (isz_ok hj.2).1, (isz_ok hj.2).2⟩, q _ (jok_r i _)⟩
      · cases hk
    · cases hk) (tIN h)
theorem di_rangeB {a b c : Expr} {p : Pos} {f g h : DE} (hm : X.mg "range" = none) (ha : PA X [a, b, c] (tArgs Z W [f, g, h])) (hg : Gl X "range" := by rfl) (hs : starEach [a, b, c] X.env = (false, eval a X.env) :: starEach [b, c] X.env := by rfl) (hpl : (backTo pos (starEach [b, c] X.env)).any (·.1) = false := by rfl) :
    PI X tg (.Call (.Name "range" p) [a, b, c] [] pos) (tI Z W (iArgs [f, g, h] kRngB)) :=
  (pi_range3 hg hm ha hs hpl).weak fun σ H R h => tArgs_imp (fun xs H1 ⟨A, F, ce, vs, ds, so, r, hk, q⟩ => by
    unfold kRngB at hk
    split at hk
    · split at hk
      · rename_i i j c hj
        cases hk
        simp only [Bool.and_eq_true, decide_eq_true_eq] at hj
        obtain ⟨x, r1, rfl, h1, h2⟩ := r
        obtain ⟨y, r2, rfl, h3, h4⟩ := h2
        obtain ⟨z, r3, rfl, h5, h6⟩ := h4
        unfold VReps at h6
        subst h6
        rw [rep_int h1, rep_int h3, rep_int h5, hj.2]
        have b1 := isz_ok hj.1.1
        have b2 := isz_ok hj.1.2
        refine ⟨i, j, -1, (i - j).toNat, rfl, ?_, q _ (jok_c i (-1) _)⟩
        exact RgC.neg b1.1 b1.2 b2.1 b2.2
      · cases hk
    · cases hk) (tIN h)
theorem enum_get {ds : List D} {i : Nat} {d : D} (h : (enumD ds)[i]? = some d) : ∃ e, ds[i]? = some e ∧ d = .tup [.int (i : Int), e] := by
  have e : enumD ds = (List.range ds.length).map fun (i : Nat) => D.tup [.int (i : Int), (ds[i]?).getD .non] := by
    unfold enumD
    have : ∀ l : List Nat, (∀ i ∈ l, i < ds.length) → l.filterMap (fun (i : Nat) => ds[i]?.map fun d => D.tup [.int (i : Int), d]) = l.map fun (i : Nat) => D.tup [.int (i : Int), (ds[i]?).getD .non] := by
      intro l hl
      induction l with
      | nil => rfl
      | cons a l ih =>
        have ha : a < ds.length := hl a (by simp)
        rw [List.map_cons, ← ih fun i hi => hl i (by simp [hi])]
        simp [List.getElem?_eq_getElem ha]
    exact this _ fun i hi => by simpa using hi
  rw [e, List.getElem?_map] at h
  cases q : (List.range ds.length)[i]? with
  | none => rw [q] at h; cases h
  | some j =>
    rw [q] at h
    have hi : i < ds.length := by
      have := (List.getElem?_eq_some_iff.mp q).1
      simpa using this
    rw [List.getElem?_range hi] at q
    cases q
    cases h
    exact ⟨ds[i], List.getElem?_eq_getElem hi, by simp [List.getElem?_eq_getElem hi]⟩
theorem enum_len {ds : List D} : (enumD ds).length = ds.length := by
  unfold enumD
  have : ∀ l : List Nat, (∀ i ∈ l, i < ds.length) → (l.filterMap (fun (i : Nat) => ds[i]?.map fun d => D.tup [.int (i : Int), d])).length = l.length := by
    intro l hl
    induction l with
    | nil => rfl
    | cons a l ih =>
      have ha : a < ds.length := hl a (by simp)
      simp [List.getElem?_eq_getElem ha, ih fun i hi => hl i (by simp [hi])]
  rw [this _ fun i hi => by simpa using hi, List.length_range]
theorem rep_pair {Z : Zx} {F : Hp} {p : Addr} {d e : D} {x y : V} (hp : F p = none) (r1 : Rep Z F d x) (r2 : Rep Z F e y) : Rep Z (upd F p (.tup [x, y])) (.tup [d, e]) (.ref p) := by
  unfold Rep
  exact ⟨p, _, rfl, SqT.of upd_same, reps_cons (r1.mono (same_up hp)) (reps_cons (r2.mono (same_up hp)) reps_nil)⟩
theorem same_none {F H : Hp} (e : Same F H) {p : Addr} (h : H p = none) : F p = none := e.free h
theorem jok_es {Z : Zx} {F : Hp} (z : Str) : JOk Z F (ItEz z) (enumD (signs z)) := by
  intro F1 H i e1 e2
  have hsz : (signs z).length = z.cps.size := by simp [signs]
  refine ⟨fun h => by show i = z.cps.size; rw [h, enum_len, hsz], fun d hd => ?_⟩
  obtain ⟨e, he, rfl⟩ := enum_get hd
  have hi : i < z.cps.size := by rw [← hsz]; exact (List.getElem?_eq_some_iff.mp he).1
  refine ⟨hi, fun x H' ⟨T, c, ex, hT, eH, hc⟩ => .inr ⟨T, _, hT, eH, ?_⟩⟩
  have : e = .str ⟨#[c]⟩ := by
    unfold signs at he
    rw [List.getElem?_map, Array.getElem?_toList, hc] at he
    cases he
    rfl
  rw [this, ex]
  exact rep_pair (same_none e2 hT) repIx repSx
theorem jok_e {Z : Zx} {F : Hp} {a : Addr} {vs : List V} {ds : List D} (hl : SqL Z.K F a vs) (rr : Reps Z F ds vs) : JOk Z F (Ite Z.K a) (enumD ds) := by
  intro F1 H i e1 e2
  have hl' := e2.seq (e1.seq hl)
  refine ⟨fun h => ⟨vs, hl', by rw [h, enum_len, rr.length]; exact Nat.le_refl _⟩, fun d hd => ?_⟩
  obtain ⟨e, he, rfl⟩ := enum_get hd
  obtain ⟨v, hv, rv⟩ := rr.get' he
  refine ⟨⟨vs, v, hl', hv⟩, fun x H' ⟨T, y, ex, hT, eH, hy⟩ => .inr ⟨T, _, hT, eH, ?_⟩⟩
  have := hy vs hl'
  rw [hv] at this
  cases this
  rw [ex]
  exact rep_pair (same_none e2 hT) repIx (rv.mono e1)
theorem wlst_rd {A F ce H} {v : Val} {x : V} {ds : List D} (so : SO Z.toZx A F ce H) (r : VRep Z A F v x) (e : wlst v = some ds) : ∃ a vs, x = .ref a ∧ SqL Z.K F a vs ∧ Reps Z.toZx F ds vs := by
  unfold wlst at e
  split at e
  · cases e
    unfold VRep Rep at r
    obtain ⟨a, vs, ex, h1, h2⟩ := r
    exact ⟨a, vs, ex, SqL.of h1, h2⟩
  · cases e
    unfold VRep Rep at r
    exact r
  · cases e
theorem di_enum {e : Expr} {p tpos : Pos} {elts : List Expr} {kk : Nat} {f : DE} (hK : X.K = Z.K) (hm : X.mg "enumerate" = none) (ha : PA X [e] (tArgs Z W [f])) (hg : Gl X "enumerate" := by rfl) (hs : starEach [e] X.env = [(false, eval e X.env)] := by rfl) :
    PI X (.Tuple elts kk tpos) (.Call (.Name "enumerate" p) [e] [] pos) (tI Z W (iArgs [f] kEnum)) :=
  (pi_enum hg hm ha hs).weak fun σ H R h => tArgs_imp (fun xs H1 ⟨A, F, ce, vs, ds, so, r, hk, q⟩ => by
    rw [hK]
    unfold kEnum at hk
    split at hk
    · cases hk
      replace r := vreps1 r
      obtain ⟨x, rfl, r⟩ := r
      obtain ⟨a, ws, rfl, h1, h2⟩ := wlst_rd so r rfl
      exact ⟨a, ws, rfl, so.sub.seq h1, q _ (jok_e h1 h2)⟩
    · cases hk
      replace r := vreps1 r
      obtain ⟨x, rfl, r⟩ := r
      obtain ⟨a, ws, rfl, h1, h2⟩ := wlst_rd so r rfl
      exact ⟨a, ws, rfl, so.sub.seq h1, q _ (jok_e h1 h2)⟩
    · cases hk) (tIN h)
theorem di_enumS {e : Expr} {p tpos : Pos} {elts : List Expr} {kk : Nat} {f : DE} (hm : X.mg "enumerate" = none) (ha : PA X [e] (tArgs Z W [f])) (hg : Gl X "enumerate" := by rfl) (hs : starEach [e] X.env = [(false, eval e X.env)] := by rfl) :
    PI X (.Tuple elts kk tpos) (.Call (.Name "enumerate" p) [e] [] pos) (tI Z W (iArgs [f] kEnumS)) :=
  (pi_enumS hg hm ha hs).weak fun σ H R h => tArgs_imp (fun xs H1 ⟨A, F, ce, vs, ds, so, r, hk, q⟩ => by
    unfold kEnumS at hk
    split at hk
    · cases hk
      replace r := vreps1 r
      obtain ⟨x, rfl, r⟩ := r
      rw [rep_str r]
      exact ⟨_, rfl, q _ (jok_es _)⟩
    · cases hk) (tIN h)
theorem jok_z {Z : Zx} {F : Hp} {a b : Addr} {vs ws : List V} {xs ys : List D} (ha : SqL Z.K F a vs) (hb : SqL Z.K F b ws) (ra : Reps Z F xs vs) (rb : Reps Z F ys ws) : JOk Z F (Itz Z.K a b) (zipD xs ys) := by
  intro F1 H i e1 e2
  have ha' := e2.seq (e1.seq ha)
  have hb' := e2.seq (e1.seq hb)
  have l1 := ra.length
  have l2 := rb.length
  refine ⟨fun h => ⟨vs, ws, ha', hb', ?_⟩, fun d hd => ?_⟩
  · unfold zipD at h
    simp only [List.length_map, List.length_zip] at h
    omega
  · unfold zipD at hd
    rw [List.getElem?_map] at hd
    cases q : (List.zip xs ys)[i]? with
    | none => rw [q] at hd; cases hd
    | some pr =>
      rw [q] at hd
      cases hd
      have hx : xs[i]? = some pr.1 ∧ ys[i]? = some pr.2 := by
        rw [List.getElem?_zip_eq_some] at q
        exact q
      obtain ⟨v, hv, rv⟩ := ra.get' hx.1
      obtain ⟨w, hw, rw'⟩ := rb.get' hx.2
      refine ⟨⟨vs, ws, v, w, ha', hb', hv, hw⟩, fun x H' ⟨T, y, z, ex, hT, eH, hy, hz⟩ => .inr ⟨T, _, hT, eH, ?_⟩⟩
      have e3 := hy vs ha'
      have e4 := hz ws hb'
      rw [hv] at e3
      rw [hw] at e4
      cases e3
      cases e4
      rw [ex]
      exact rep_pair (same_none e2 hT) (rv.mono e1) (rw'.mono e1)
theorem di_zip {e e2 : Expr} {p tpos : Pos} {elts : List Expr} {kk : Nat} {f g : DE} (hK : X.K = Z.K) (hm : X.mg "zip" = none) (ha : PA X [e, e2] (tArgs Z W [f, g])) (hg : Gl X "zip" := by rfl)
    (hs : starEach [e, e2] X.env = (false, eval e X.env) :: starEach [e2] X.env := by rfl) (hpl : (backTo pos (starEach [e2] X.env)).any (·.1) = false := by rfl) :
    PI X (.Tuple elts kk tpos) (.Call (.Name "zip" p) [e, e2] [] pos) (tI Z W (iArgs [f, g] kZip)) :=
  (pi_zip hg hm ha hs hpl).weak fun σ H R h => tArgs_imp (fun xs H1 ⟨A, F, ce, vs, ds, so, r, hk, q⟩ => by
    rw [hK]
    unfold kZip at hk
    split at hk
    · split at hk
      · rename_i xs ys e1 e2
        cases hk
        replace r := vreps2 r
        obtain ⟨x, y, rfl, r, r'⟩ := r
        obtain ⟨a, ws, rfl, h1, h2⟩ := wlst_rd so r e1
        obtain ⟨b, us, rfl, h3, h4⟩ := wlst_rd so r' e2
        exact ⟨a, b, ws, us, rfl, so.sub.seq h1, so.sub.seq h3, q _ (jok_z h1 h3 h2 h4)⟩
      · cases hk
    · cases hk) (tIN h)
theorem jok_v {Z : Zx} {F : Hp} {a : Addr} {vs : List V} {ds : List D} (hl : SqL Z.K F a vs) (rr : Reps Z F ds vs) : JOk Z F (Itv Z.K a vs.length) ds.reverse := by
  intro F1 H i e1 e2
  have hl' := e2.seq (e1.seq hl)
  have ll := rr.length
  refine ⟨fun h => by show vs.length ≤ i; rw [h, List.length_reverse, ll]; exact Nat.le_refl _, fun d hd => ?_⟩
  have hi : i < ds.length := by
    have := (List.getElem?_eq_some_iff.mp hd).1
    simpa using this
  rw [List.getElem?_reverse hi] at hd
  rw [ll] at hd
  obtain ⟨v, hv, rv⟩ := rr.get' hd
  refine ⟨⟨by omega, vs, v, hl', hv⟩, fun x H' ⟨eH, hx⟩ => .inl ⟨?_, eH⟩⟩
  have := hx vs hl'
  rw [hv] at this
  cases this
  exact rv.mono e1
theorem di_rev {e : Expr} {p : Pos} {f : DE} (hK : X.K = Z.K) (hm : X.mg "reversed" = none) (ha : PA X [e] (tArgs Z W [f])) (hg : Gl X "reversed" := by rfl) (hs : starEach [e] X.env = [(false, eval e X.env)] := by rfl) :
    PI X tg (.Call (.Name "reversed" p) [e] [] pos) (tI Z W (iArgs [f] kRevL)) :=
  (pi_reversed hg hm ha hs).weak fun σ H R h => tArgs_imp (fun xs H1 ⟨A, F, ce, vs, ds, so, r, hk, q⟩ => by
    rw [hK]
    unfold kRevL at hk
    split at hk
    · rename_i v
      cases e1 : wlst v with
      | none => rw [e1] at hk; cases hk
      | some ys =>
        rw [e1] at hk
        cases hk
        replace r := vreps1 r
        obtain ⟨x, rfl, r⟩ := r
        obtain ⟨a, ws, rfl, h1, h2⟩ := wlst_rd so r e1
        exact ⟨a, ws, rfl, so.sub.seq h1, q _ (jok_v h1 h2)⟩
    · cases hk) (tIN h)
end
end ZZ

set_option Elab.async false
set_option linter.all false
set_option maxRecDepth 100000
/-! Z5: comprehensions. -/
namespace ZZ
open PySem PySem.Spec L2
def wipeD (sl : Sl) : List Nat → Sl
  | [] => sl
  | v :: vs => (wipeD sl vs).set v none
def lcD (own : List Nat) (g : GD) (t f : DE) (n : Nat) : List D → Sl → List Cell → EOut
  | [], sl, ce => .ok (.cell n) ce
  | d :: ds, sl, ce => match g d (wipeD sl own) with
    | none => .stuck
    | some sl1 => match t sl1 ce with
      | .ok (.im (.bl b)) ce1 => if b then (match f sl1 ce1 with
        | .ok (.im y) ce2 => match ce2[n]? with
          | some (.lst acc) => if acc.length < LINE then lcD own g t f n ds sl (ce2.set n (.lst (acc ++ [y]))) else .stuck
          | _ => .stuck
        | _ => .stuck) else lcD own g t f n ds sl ce1
      | _ => .stuck
/-- a comprehension's list, as an own list -/
def eLcC (own : List Nat) (fi : DI) (g : GD) (t f : DE) : DE := fun sl ce => match fi sl ce with
  | .ok ds ce' => lcD own g t f ce'.length ds sl (ce' ++ [.lst []])
  | .exc c ds ce' => .exc c ds ce'
  | .stuck => .stuck
/-- an own list that an expression gives, settled -/
def eSettle (f : DE) : DE := fun sl ce => match f sl ce with
  | .ok (.cell n) ce2 => match ce2[n]? with
    | some (.lst ds) => .ok (.im (.lst ds)) ((ce2.set n .dead).take ce.length)
    | some (.dct ks vs) => .ok (.im (.dct ks vs)) ((ce2.set n .dead).take ce.length)
    | _ => .stuck
  | r => r
abbrev eLc (own : List Nat) (fi : DI) (g : GD) (t f : DE) : DE := eSettle (eLcC own fi g t f)
section
variable {Z : Zy} {A A' : List Addr} {F F' H : Hp} {ce : List Cell} {sl : Sl} {σ : L2.St} {W : WX} {Q Q' : VK}
theorem PtrL.cut {A : List Addr} {n k : Nat} (hk : k < n) : ∀ {ks : List Nat} {bs : List Addr}, PtrL A k ks bs → PtrL (A.take n) k ks bs
  | [], bs, h => h
  | j :: js, bs, ⟨b, t, e, h1, h2, h3⟩ => ⟨b, t, e, h1, by rw [List.getElem?_take_of_lt (by omega)]; exact h2, PtrL.cut hk h3⟩
theorem CellOk.cut {Z : Zx} {a : Addr} {c : Cell} {k n : Nat} (nd : A.Nodup) (hk : A[k]? = some a) (hn : k < n) (h : CellOk Z A F H a c) : CellOk Z (A.take n) F H a c := by
  cases c with
  | dead => exact h
  | lst ds => exact h
  | ins c ds => exact h
  | dct ks vs => exact h
  | ptr ks =>
    obtain ⟨h0, k0, bs, h1, h2, h3⟩ := h
    have e : k0 = k := (List.getElem?_inj (List.getElem?_eq_some_iff.mp h1).1 nd).mp (h1.trans hk.symm)
    subst e
    exact ⟨h0, k0, bs, by rw [List.getElem?_take_of_lt hn]; exact h1, h2, h3.cut hn⟩
theorem SO.take (n : Nat) (so : SO Z.toZx A F ce H) : SO Z.toZx (A.take n) F (ce.take n) H := by
  refine ⟨so.sub, by simp [so.len], ?_, fun k a c h1 h2 => ?_⟩
  · exact List.Nodup.sublist (List.take_sublist _ _) so.nd
  · have hk : k < n := by
      have := (List.getElem?_eq_some_iff.mp h1).1
      simp at this
      omega
    rw [List.getElem?_take_of_lt hk] at h1 h2
    exact (so.ok k a c h1 h2).cut so.nd h1 hk
theorem SL.wipe (hs : SL Z A F sl σ) : ∀ vs : List Nat, SL Z A F (wipeD sl vs) (L2.wipe σ vs)
  | [] => hs
  | v :: vs => (SL.wipe hs vs).gone
theorem wipe_get (σ : L2.St) : ∀ (vs : List Nat) (j : Nat), (L2.wipe σ vs)[j]? = if j ∈ vs then (if j < σ.length then some none else none) else σ[j]?
  | [], j => by simp [L2.wipe]
  | v :: vs, j => by
    unfold L2.wipe
    by_cases hj : v = j
    · subst hj
      by_cases hl : v < σ.length
      · rw [List.getElem?_set_self (by rw [wipe_length]; exact hl)]
        simp [hl]
      · rw [List.getElem?_eq_none (by rw [List.length_set, wipe_length]; omega)]
        simp [hl]
    · rw [List.getElem?_set_ne hj, wipe_get σ vs j]
      have : (j ∈ v :: vs) ↔ j ∈ vs := by
        simp only [List.mem_cons]
        exact ⟨fun h => h.resolve_left fun e => hj e.symm, .inr⟩
      simp only [this]
theorem wipe_agree {ix vs : List Nat} {σ2 : L2.St} (h : Agree ix (L2.wipe σ vs) σ2) (hi : ∀ i ∈ ix, i ∈ vs) : L2.wipe σ2 vs = L2.wipe σ vs := by
  refine List.ext_getElem? fun j => ?_
  have hl : σ2.length = σ.length := by rw [h.1, wipe_length]
  rw [wipe_get, wipe_get, hl]
  by_cases hj : j ∈ vs
  · simp [hj]
  · simp only [hj, if_false]
    have := h.2 j fun z => hj (hi j z)
    rw [this, wipe_get]
    simp [hj]
end
section
variable {X : Cx} {Z : Zy} {elt tg iter : Expr} {ifs : List Expr} {scope : Scope} {own : List (Str × Nat)} {ix : List Nat} {fi : DI} {g : GD} {t f : DE} {pos : Pos} {W : WX}
theorem dts_nil : PTs X [] (tT Z W (eC (.bl true))) := ⟨fun pins s σ H Q I h => pts_nil.run pins s σ H Q I (by
  obtain ⟨A, F, sl, ce, so, hs, p⟩ := h
  obtain ⟨b, e, q⟩ := fin_flat so p repB
  cases e
  exact q)⟩
theorem dts_one {c : Expr} (h : PT X c (tT Z W f)) : PTs X [c] (tT Z W f) := pts_one h
/-- the reading of a comprehension: a wish on the cell's end -/
theorem lc_read {σ : L2.St} {H : Hp} {Q : VK} {A F sl ce} (hix : ∀ i ∈ ix, i ∈ own.map (·.2)) (so : SO Z.toZx A F ce H) (hs : SL Z A F sl σ)
    (p : match fi sl ce with
      | .ok ds ce' => PostE Z A F W σ Q (lcD (own.map (·.2)) g t f ce'.length ds sl (ce' ++ [.lst []]))
      | .exc c ds ce' => PostE Z A F W σ Q (.exc c ds ce')
      | .stuck => False) : tLc (tI Z W fi) (tG Z ix g) (tT Z WF t) (tE Z WF f) (own.map (·.2)) σ H Q := by
  refine ⟨A, F, sl, ce, so, hs, ?_⟩
  cases e : fi sl ce with
  | stuck => rw [e] at p; exact p.elim
  | exc c ds ce1 => rw [e] at p; exact p
  | ok ds ce1 =>
    rw [e] at p
    intro A1 F1 H1 J p1 e1 so1 hJ D hD
    have hn : A1.length = ce1.length := so1.len
    have so2 : SO Z.toZx (A1 ++ [D]) F1 (ce1 ++ [.lst []]) (upd H1 D (.lst [])) := so1.newCell hD ⟨so1.fnone hD, [], upd_same, reps_nil⟩
    refine ⟨fun i m H => m = ds.length - i ∧ i ≤ ds.length ∧ ∃ A2 F2 ce2, A1 ++ [D] <+: A2 ∧ Same F1 F2 ∧ SO Z.toZx A2 F2 ce2 H ∧ PostE Z A2 F2 W σ Q (lcD (own.map (·.2)) g t f ce1.length (ds.drop i) sl ce2),
      ⟨ds.length, rfl, Nat.zero_le _, A1 ++ [D], F1, _, List.prefix_refl _, Same.refl _, so2, p.mono (p1.trans (List.prefix_append _ _)) e1⟩, ?_⟩
    rintro i m H ⟨rfl, hi, A2, F2, ce2, pA, eF, so, q⟩
    have hA2 : A2[ce1.length]? = some D := by
      refine pre_get pA ?_
      rw [← hn]
      simp
    obtain ⟨j1, j2⟩ := hJ F2 H i eF so.sub
    by_cases hlt : i < ds.length
    · have hd : ds[i]? = some ds[i] := List.getElem?_eq_getElem hlt
      obtain ⟨go, yl⟩ := j2 _ hd
      refine .inr ⟨go, fun H => i + 1 ≤ ds.length ∧ ∃ A2 F2 ce2, A1 ++ [D] <+: A2 ∧ Same F1 F2 ∧ SO Z.toZx A2 F2 ce2 H ∧ PostE Z A2 F2 W σ Q (lcD (own.map (·.2)) g t f ce1.length (ds.drop (i + 1)) sl ce2), fun H' q => ⟨ds.length - (i + 1), by omega, rfl, q⟩, fun x H' hy => ?_⟩
      rw [List.drop_eq_getElem_cons hlt] at q
      have hsW := (hs.mono (p1.trans ((List.prefix_append _ _).trans pA)) (e1.trans eF)).wipe (own.map (·.2))
      have fin : ∀ F3 H3, Same F2 F3 → SO Z.toZx A2 F3 ce2 H3 → Rep Z.toZx F3 ds[i] x → tG Z ix g x (L2.wipe σ (own.map (·.2))) H3 fun σ2 H2 => L2.wipe σ2 (own.map (·.2)) = L2.wipe σ (own.map (·.2)) ∧ tT Z WF t σ2 H2 fun b H3 =>
          if b = true then tE Z WF f σ2 H3 fun y H4 => ∃ acc, H4 D = some (.lst acc) ∧ acc.length < sizeLine ∧ (fun H => i + 1 ≤ ds.length ∧ ∃ A2 F2 ce2, A1 ++ [D] <+: A2 ∧ Same F1 F2 ∧ SO Z.toZx A2 F2 ce2 H ∧ PostE Z A2 F2 W σ Q (lcD (own.map (·.2)) g t f ce1.length (ds.drop (i + 1)) sl ce2)) (upd H4 D (.lst (acc ++ [y])))
          else (fun H => i + 1 ≤ ds.length ∧ ∃ A2 F2 ce2, A1 ++ [D] <+: A2 ∧ Same F1 F2 ∧ SO Z.toZx A2 F2 ce2 H ∧ PostE Z A2 F2 W σ Q (lcD (own.map (·.2)) g t f ce1.length (ds.drop (i + 1)) sl ce2)) H3 := by
        intro F3 H3 e3 so3 r3
        refine ⟨A2, F3, wipeD sl (own.map (·.2)), ce2, ds[i], so3, hsW.mono (List.prefix_refl _) e3, r3, ?_⟩
        unfold lcD at q
        cases eg : g ds[i] (wipeD sl (own.map (·.2))) with
        | none => rw [eg] at q; exact q.elim
        | some sl1 =>
          simp only [eg] at q
          refine ⟨sl1, rfl, fun σ2 hs2 ag => ⟨wipe_agree ag hix, A2, F3, sl1, ce2, so3, hs2, ?_⟩⟩
          cases et : t sl1 ce2 with
          | stuck => rw [et] at q; exact q.elim
          | exc c ds ce3 => rw [et] at q; exact q.elim
          | ok vt ce3 =>
            rw [et] at q
            intro A4 F4 H4 xb p4 e4 so4 rb
            cases vt with
            | cell n => exact q.elim
            | exn c ds => exact q.elim
            | im d => cases d with
              | bl b =>
                refine ⟨b, rep_bl rb, ?_⟩
                cases b with
                | false =>
                  refine iteF ⟨hlt, A4, F4, ce3, pA.trans p4, (eF.trans e3).trans e4, so4, ?_⟩
                  exact PostE.mono p4 (e3.trans e4) (by simpa using q)
                | true =>
                  simp only [if_true] at q
                  refine iteT ⟨A4, F4, sl1, ce3, so4, hs2.mono p4 e4, ?_⟩
                  cases ef : f sl1 ce3 with
                  | stuck => rw [ef] at q; exact q.elim
                  | exc c ds ce5 => rw [ef] at q; exact q.elim
                  | ok vy ce5 =>
                    rw [ef] at q
                    intro A5 F5 H5 xy p5 e5 so5 ry
                    cases vy with
                    | cell n => exact q.elim
                    | exn c ds => exact q.elim
                    | im y =>
                      dsimp only at q
                      split at q
                      · rename_i acc hacc
                        split at q
                        · rename_i hline
                          have hA5 : A5[ce1.length]? = some D := pre_get p5 (pre_get p4 hA2)
                          obtain ⟨hF5, vs, hH5, r5⟩ := so5.ok _ _ _ hA5 hacc
                          refine ⟨vs, hH5, by rw [sizeLine_eq, ← r5.length]; exact hline, hlt, A5, F5, _, (pA.trans p4).trans p5, ((eF.trans e3).trans e4).trans e5, so5.write (c := .lst (acc ++ [y])) hA5 hF5 ⟨hF5, _, upd_same, r5.append (reps_cons ry reps_nil)⟩, ?_⟩
                          exact PostE.mono (p4.trans p5) ((e3.trans e4).trans e5) q
                        · exact q.elim
                      · exact q.elim
              | _ => exact q.elim
      rcases yl x H' hy with ⟨rx, rfl⟩ | ⟨q', o, hq', rfl, rx⟩
      · exact fin F2 _ (Same.refl _) so rx
      · exact fin _ _ (same_up (so.fnone hq')) (so.new hq') rx
    · have ei : i = ds.length := by omega
      refine .inl ⟨j1 ei, ?_⟩
      rw [ei, List.drop_length] at q
      exact q A2 F2 H (.ref D) (List.prefix_refl _) (Same.refl _) so ⟨D, hA2, rfl⟩
theorem lc_of (hix : ∀ i ∈ ix, i ∈ own.map (·.2)) {σ : L2.St} {H : Hp} {Q : VK} (h : tE Z W (eLcC (own.map (·.2)) fi g t f) σ H Q) : tLc (tI Z W fi) (tG Z ix g) (tT Z WF t) (tE Z WF f) (own.map (·.2)) σ H Q := by
  obtain ⟨A, F, sl, ce, so, hs', p⟩ := h
  refine lc_read hix so hs' ?_
  unfold eLcC at p
  cases e : fi sl ce with
  | stuck => rw [e] at p; exact p
  | exc c ds ce1 => rw [e] at p; exact p
  | ok ds ce1 => rw [e] at p; exact p
theorem de_lcC (hc : X.calm = true) (hN : X.N.Nodup) (ok : BlkOk X.N X.env.scope scope own) (hix : ∀ i ∈ ix, i ∈ own.map (·.2)) (hi : PI X tg iter (tI Z W fi))
    (hg : ∀ (s : Shared) (H : Hp) (C : Addr) (cl : List (Str × Addr)) (fp : List Addr), PG (X.blk s H scope (compEnvC scope cl C X.env) fp) tg (tG Z ix g)) (ht : ∀ (s : Shared) (H : Hp) (C : Addr) (cl : List (Str × Addr)) (fp : List Addr), PTs (X.blk s H scope (compEnvC scope cl C X.env) fp) ifs (tT Z WF t))
    (he : ∀ (s : Shared) (H : Hp) (C : Addr) (cl : List (Str × Addr)) (fp : List Addr), PE (X.blk s H scope (compEnvC scope cl C X.env) fp) elt (tE Z WF f)) (hs : ∀ x, foldedSetIterable iter X.env x = pure x := by intro _; rfl) :
    PE X (.ListComp elt [⟨tg, iter, ifs, 0⟩] scope pos) (tE Z W (eLcC (own.map (·.2)) fi g t f)) :=
  (pe_lc hc hN hi ok hg ht he hs).weak fun σ H Q h => lc_of hix h
theorem tE_settle {f : DE} {σ : L2.St} {H : Hp} {Q : VK} (h : tE Z W (eSettle f) σ H Q) : tE Z W f σ H Q := by
  obtain ⟨A, F, sl, ce, so, hs, p⟩ := h
  refine ⟨A, F, sl, ce, so, hs, ?_⟩
  unfold eSettle at p
  cases e : f sl ce with
  | stuck => rw [e] at p; exact p
  | exc c ds ce1 => rw [e] at p; exact p
  | ok v ce2 =>
    rw [e] at p
    cases v with
    | im d => exact p
    | exn c ds => exact p
    | cell n =>
      intro A' F' H' x pA eF so2 rx
      obtain ⟨a, ha, rfl⟩ := rx
      dsimp only at p
      split at p
      · rename_i acc hacc
        obtain ⟨hF, vs, hH, rr⟩ := so2.ok _ _ _ ha hacc
        have up := same_up (o := .lst vs) hF
        refine p (A'.take ce.length) (upd F' a (.lst vs)) H' (.ref a) ?_ (eF.trans up) ((so2.freeze ha hF hH).take _) ?_
        · obtain ⟨t, rfl⟩ := pA
          rw [← so.len, List.take_left]
          exact List.prefix_refl _
        · unfold VRep Rep
          exact ⟨a, vs, rfl, upd_same, rr.mono up⟩
      · rename_i ks vs hacc
        obtain ⟨hF, o, kvs, vvs, hH, sh, r1, r2⟩ := so2.ok _ _ _ ha hacc
        have up := same_up (o := o) hF
        refine p (A'.take ce.length) (upd F' a o) H' (.ref a) ?_ (eF.trans up) ((so2.freeze ha hF hH).take _) ?_
        · obtain ⟨t, rfl⟩ := pA
          rw [← so.len, List.take_left]
          exact List.prefix_refl _
        · unfold VRep Rep
          exact ⟨a, o, kvs, vvs, rfl, upd_same, sh, r1.mono up, r2.mono up⟩
      · exact p.elim
theorem de_settle {e : Expr} {f : DE} (h : PE X e (tE Z W f)) : PE X e (tE Z W (eSettle f)) := h.weak fun σ H Q q => tE_settle q
theorem ds_setLc {i : Nat} {y : Str} {py spos : Pos} (hc : X.calm = true) (hN : X.N.Nodup) (ok : BlkOk X.N X.env.scope scope own) (hix : ∀ i ∈ ix, i ∈ own.map (·.2)) (hi : PI X tg iter (tI Z W fi))
    (hg : ∀ (s : Shared) (H : Hp) (C : Addr) (cl : List (Str × Addr)) (fp : List Addr), PG (X.blk s H scope (compEnvC scope cl C X.env) fp) tg (tG Z ix g)) (ht : ∀ (s : Shared) (H : Hp) (C : Addr) (cl : List (Str × Addr)) (fp : List Addr), PTs (X.blk s H scope (compEnvC scope cl C X.env) fp) ifs (tT Z WF t))
    (he : ∀ (s : Shared) (H : Hp) (C : Addr) (cl : List (Str × Addr)) (fp : List Addr), PE (X.blk s H scope (compEnvC scope cl C X.env) fp) elt (tE Z WF f)) (hy : X.N[i]? = some y := by rfl) (hyl : X.env.scope.names.lookup y = some .local := by rfl)
    (hsw : swapsWith (.ListComp elt [⟨tg, iter, ifs, 0⟩] scope pos) (some (.Name y py)) spos.line X.env = pure true := by exact sw_true rfl rfl rfl (by decide +kernel)) (hs : ∀ x, foldedSetIterable iter X.env x = pure x := by intro _; rfl) :
    PS X (.Assign [.Name y py] (.ListComp elt [⟨tg, iter, ifs, 0⟩] scope pos) spos) (tS Z W (sSet i (eLcC (own.map (·.2)) fi g t f))) :=
  (ps_setLc hc hN hy hyl hsw hi ok hg ht he hs).weak fun D σ H h => lc_of hix (tE_imp (fun x H1 ⟨A, F, sl, ce, v, so, hs, r, p⟩ => nxS so (hs.set r) p) (tS1 h))
theorem ds_setLcI {i : Nat} {y : Str} {py spos : Pos} (hc : X.calm = true) (hN : X.N.Nodup) (ok : BlkOk X.N X.env.scope scope own) (hix : ∀ i ∈ ix, i ∈ own.map (·.2)) (hi : PI X tg iter (tI Z W fi))
    (hg : ∀ (s : Shared) (H : Hp) (C : Addr) (cl : List (Str × Addr)) (fp : List Addr), PG (X.blk s H scope (compEnvC scope cl C X.env) fp) tg (tG Z ix g)) (ht : ∀ (s : Shared) (H : Hp) (C : Addr) (cl : List (Str × Addr)) (fp : List Addr), PTs (X.blk s H scope (compEnvC scope cl C X.env) fp) ifs (tT Z WF t))
    (he : ∀ (s : Shared) (H : Hp) (C : Addr) (cl : List (Str × Addr)) (fp : List Addr), PE (X.blk s H scope (compEnvC scope cl C X.env) fp) elt (tE Z WF f)) (hy : X.N[i]? = some y := by rfl) (hyl : X.env.scope.names.lookup y = some .local := by rfl)
    (hsw : swapsWith (.ListComp elt [⟨tg, iter, ifs, 0⟩] scope pos) (some (.Name y py)) spos.line X.env = pure true := by exact sw_true rfl rfl rfl (by decide +kernel)) (hs : ∀ x, foldedSetIterable iter X.env x = pure x := by intro _; rfl) :
    PS X (.Assign [.Name y py] (.ListComp elt [⟨tg, iter, ifs, 0⟩] scope pos) spos) (tS Z W (sSet i (eSettle (eLcC (own.map (·.2)) fi g t f)))) :=
  (ps_setLc hc hN hy hyl hsw hi ok hg ht he hs).weak fun D σ H h => lc_of hix (tE_settle (tE_imp (fun x H1 ⟨A, F, sl, ce, v, so, hs, r, p⟩ => nxS so (hs.set r) p) (tS1 h)))
end
end ZZ

set_option Elab.async false
set_option linter.all false
set_option maxRecDepth 100000
/-! Z6: defs and their calls, classes, exceptions. -/
namespace L2
open PySem PySem.Spec
section
variable {X : Cx} {CX : CXT} {k : Nat} {f C : Addr} {fd : FuncData} {ps : List Str} {sp : Sp} {dvs : List V} {ds : List Value} {E : L2.St → XK} {x m : Str} {p pos apos : Pos} {e o : Expr} {es : List Expr} {ta : TE} {t : TA}
theorem pe_callZS0 (F : FnOk X.prog X.w X.K X.mg X.base CX k f fd ps sp) (hr : Room k X.A) (hg : Gl X x) (hm : X.mg x = some (.ref f)) (hk : PySem.W.keepIn X.K (.ref f) = true) (hb : Binds X.K fd ps ds) (hd : Vals dvs ds) (hx : ∀ σ, PassesAt CX X σ (E σ))
    (hdb : (x == ("__debug__" : Str)) = false := by decide) : PE X (.Call (.Name x p) [] [] pos) (fun σ H Q => sp dvs H Q (E σ)) := by
  refine ⟨fun pins s σ H Q I h => ?_⟩
  refine wpAny_Call_Name_kw (ld_glob I hg hm ?_ hdb)
  exact PySem.W.callWith_K0 I.kIn hk (run_fnSD (us := []) (vs := []) F hr hb hd (hx σ) I .nil h)
def tMethZS (C : Addr) (m : Str) (sp : Sp) (dvs : List V) (E : L2.St → XK) (ta : TE) (t : TA) : TE := fun σ H Q => ta σ H fun x H1 => ∃ a dx fs, x = .ref a ∧ H1 a = some (.ins C dx fs) ∧ fs.lookup m = none ∧
  t σ H1 fun vs H2 => sp (x :: (vs ++ dvs)) H2 Q (E σ)
theorem pe_methZS {pl : Sem Bool} (he : PE X o ta) (c : Cls X.K C) (hm : Meth X.K C m f) (F : FnOk X.prog X.w X.K X.mg X.base CX k f fd ps sp) (hr : Room k X.A) (hb : Binds X.K fd ps ds) (hd : Vals dvs ds) (hx : ∀ σ, PassesAt CX X σ (E σ)) (ha : PA X (e :: es) t)
    (hst : starEach (e :: es) X.env = (false, eval e X.env) :: starEach es X.env := by rfl) (hpl : (backTo pos (starEach es X.env)).any (·.1) = false := by rfl)
    (ht : eval (.Call (.Attribute o m apos) (e :: es) [] pos) X.env = (do
      let ov ← eval o X.env
      standAt apos.atName
      let (f, first) ← holding [ov] (getMethod ov m pl)
      callWith pos f first (backTo pos (starEach (e :: es) X.env)) (backToKw pos (keywordEach [] X.env))) := by rfl) :
    PE X (.Call (.Attribute o m apos) (e :: es) [] pos) (tMethZS C m sp dvs E ta t) := by
  refine ⟨fun pins s σ H Q I h => ?_⟩
  refine PySem.W.methodCall_KW (pl := pl) (thn (he.run pins s σ H _ I h) fun u s1 ⟨x, H1, I1, rx, a, dx, fs, ex, ea, l, q⟩ => ?_) ht
  subst ex
  obtain rfl : u = Value.ref a := rx
  refine getmeth_ok I1 ea c hm l ?_
  refine PySem.W.callWith_K (first := [.ref a]) (h₀ := X.base) I.ok.mod.kin hm.kp (thn (ha.run pos pins s1 σ H1 _ I1 q) fun us s2 ⟨vs, H2, I2, r, q2⟩ => ⟨I2.kIn, ?_⟩) hst hpl
  exact run_fnSD (us := .ref a :: us) (vs := .ref a :: vs) F hr hb hd (hx σ) I2 (.cons rfl r) q2
theorem pe_meth0ZS {pl : Sem Bool} (he : PE X o ta) (c : Cls X.K C) (hm : Meth X.K C m f) (F : FnOk X.prog X.w X.K X.mg X.base CX k f fd ps sp) (hr : Room k X.A) (hb : Binds X.K fd ps ds) (hd : Vals dvs ds) (hx : ∀ σ, PassesAt CX X σ (E σ))
    (ht : eval (.Call (.Attribute o m apos) [] [] pos) X.env = (do
      let ov ← eval o X.env
      standAt apos.atName
      let (f, first) ← holding [ov] (getMethod ov m pl)
      callWith pos f first (backTo pos (starEach [] X.env)) (backToKw pos (keywordEach [] X.env))) := by rfl) :
    PE X (.Call (.Attribute o m apos) [] [] pos) (tMethZS C m sp dvs E ta tNil) := by
  refine ⟨fun pins s σ H Q I h => ?_⟩
  refine PySem.W.methodCall_KW (pl := pl) (thn (he.run pins s σ H _ I h) fun u s1 ⟨x, H1, I1, rx, a, dx, fs, ex, ea, l, q⟩ => ?_) ht
  subst ex
  obtain rfl : u = Value.ref a := rx
  refine getmeth_ok I1 ea c hm l ?_
  exact PySem.W.callWith_K0 (first := [.ref a]) I1.kIn hm.kp (run_fnSD (us := [.ref a]) (vs := [.ref a]) F hr hb hd (hx σ) I1 (.cons rfl .nil) q)
def tMakeZS (C : Addr) (sp : Sp) (dvs : List V) (E : L2.St → XK) (t : TA) : TE := fun σ H Q => t σ H fun vs H1 => ∀ x dx, H1 x = none → H1 dx = none → dx ≠ x →
  sp (.ref x :: (vs ++ dvs)) (upd (upd H1 dx (.own x)) x (.ins C dx [])) (fun v H2 => v = .non ∧ Q (.ref x) H2) (E σ)
theorem run_makeZS {pins : List (Addr × Obj)} {σ : L2.St} {H : Hp} {s : Shared} {Q : VK} {us : List Value} {vs : List V} (M : Mk X.K C f) (F : FnOk X.prog X.w X.K X.mg X.base CX k f fd ps sp) (hr : Room (k + 1) X.A) (hb : Binds X.K fd ps ds) (hd : Vals dvs ds)
    (hx : PassesAt CX X σ (E σ)) (I : Inv X pins σ H s) (r : Vals vs us)
    (h : ∀ x dx, H x = none → H dx = none → dx ≠ x → sp (.ref x :: (vs ++ dvs)) (upd (upd H dx (.own x)) x (.ins C dx [])) (fun v H2 => v = .non ∧ Q (.ref x) H2) (E σ)) :
    wpAny (model X.prog X.w) X.A (call (.ref C) us) (EP X pins σ Q) X.xe s := by
  have hq := h (s.heap.objs.size + 1) s.heap.objs.size (I.hok.fresh (Nat.le_succ _)) (I.hok.fresh (Nat.le_refl _)) (Nat.ne_of_lt (Nat.lt_succ_self _))
  have I2 := Inv.made (C := C) I
  have r2 : Vals (V.ref (s.heap.objs.size + 1) :: (vs ++ dvs)) (Value.ref (s.heap.objs.size + 1) :: (us ++ ds)) := .cons rfl (r.append hd)
  have hl : (Value.ref (s.heap.objs.size + 1) :: us ++ ds).length = ps.length := by
    have e := r2.length
    rw [F.len _ _ _ _ hq] at e
    exact e.symm
  refine wpAny_call (make_map (f := f) I.kIn M.makes M.init (beq_iff_eq.mp M.fn) (codeAny_mono (F.run _ X.stack _ _ ⟨Value.ref (s.heap.objs.size + 1) :: us, []⟩ (Value.ref (s.heap.objs.size + 1) :: (us ++ ds)) _ _ (E σ) (hr.make C us [])
    (I2.env0.make C us []) (hb _ (Value.ref (s.heap.objs.size + 1) :: us) I2.kIn hl) r2 hq) fun r s' hq' => ?_))
  cases r with
  | error e => exact hx pins _ _ e s' I2 hq'
  | ok fl =>
    cases fl with
    | ret u =>
      obtain ⟨v, H', I3, rv, ev, q3⟩ := I2.after hq'
      subst ev
      exact ⟨rv, ⟨V.ref (s.heap.objs.size + 1), H', I3, rfl, q3⟩⟩
    | next => exact False.elim hq'
    | brk => exact False.elim hq'
    | cont => exact False.elim hq'
theorem pe_makeZS (M : Mk X.K C f) (F : FnOk X.prog X.w X.K X.mg X.base CX k f fd ps sp) (hr : Room (k + 1) X.A) (hg : Gl X x) (hm : X.mg x = some (.ref C)) (hb : Binds X.K fd ps ds) (hd : Vals dvs ds) (hx : ∀ σ, PassesAt CX X σ (E σ))
    (ha : PA X (e :: es) t) (hdb : (x == ("__debug__" : Str)) = false := by decide) (he : starEach (e :: es) X.env = (false, eval e X.env) :: starEach es X.env := by rfl) (hpl : (backTo pos (starEach es X.env)).any (·.1) = false := by rfl) :
    PE X (.Call (.Name x p) (e :: es) [] pos) (tMakeZS C sp dvs E t) := by
  refine ⟨fun pins s σ H Q I h => ?_⟩
  refine wpAny_Call_Name_kw (ld_glob I hg hm ?_ hdb)
  refine PySem.W.callWith_K (h₀ := X.base) I.ok.mod.kin M.kp (thn (ha.run pos pins s σ H _ I h) fun us s1 ⟨vs, H1, I1, r, q⟩ => ⟨I1.kIn, ?_⟩) he hpl
  exact run_makeZS M F hr hb hd (hx σ) I1 r q
end
end L2
namespace ZZ
open PySem PySem.Spec L2
abbrev Zx.z (Z : Zx) : Zy := ⟨Z, none⟩
abbrev DF : Type := List Val → List Cell → EOut
/-- a def's promise: it computes fh -/
def spD (Z : Zx) (fh : DF) (n : Nat) : Sp := fun vs H Q E => ∃ A F ce ds, SO Z A F ce H ∧ VReps Z.z A F ds vs ∧ ds.length = n ∧ PostE Z.z A F (fun c d _ H => E c d H) [] Q (fh ds ce)
/-- a def's value: its body run, the store cut -/
def finD (n : Nat) (v : Val) (ce : List Cell) : EOut := match v with
  | .im d => .ok (.im d) (ce.take n)
  | .cell k => if k < n then .ok (.cell k) (ce.take n) else (match ce[k]? with
    | some (.ptr _) => .stuck
    | some c => .ok (.cell n) (ce.take n ++ [c])
    | none => .stuck)
  | .exn _ _ => .stuck
def mkD (nsl : Nat) (body : DSt) : DF := fun ds ce => match body (ds.map some ++ List.replicate (nsl - ds.length) none) ce with
  | .nx _ ce' => finD ce.length (.im .non) ce'
  | .rt v ce' => finD ce.length v ce'
  | .exc c es _ ce' => .exc c es (ce'.take ce.length)
  | _ => .stuck
section
variable {Z : Zx} {A A' : List Addr} {F F' H : Hp} {ce : List Cell} {sl : Sl} {σ : L2.St} {W : WX} {Q Q' : VK}
theorem SO.cut {n : Nat} (so : SO Z A' F ce H) (p : A <+: A') (hn : A.length = n) : SO Z A F (ce.take n) H := by
  have := SO.take (Z := Z.z) n so
  obtain ⟨t, rfl⟩ := p
  rw [← hn, List.take_left] at this
  rw [← hn]
  exact this
theorem vreps_z {Y : Zy} : ∀ {vs : List Val} {xs : List V}, VReps (Zx.z Y.toZx) A F vs xs → VReps Y A F vs xs
  | [], _, h => h
  | v :: vs, _, ⟨x, r, e, h1, h2⟩ => ⟨x, r, e, (by
    cases v with
    | im d => exact h1
    | cell k => exact h1
    | exn c ds => obtain ⟨a, dx, h, _⟩ := h1; cases h), vreps_z h2⟩
theorem vrep_z {Y : Zy} (hy : Y.toZx = Z) {v : Val} {x : V} (h1 : VRep Z.z A F v x) : VRep Y A F v x := by
  subst hy
  cases v with
  | im d => exact h1
  | cell k => exact h1
  | exn c ds => obtain ⟨a, dx, h, _⟩ := h1; cases h
/-- values that a callee may take -/
def plainV : Val → Bool
  | .exn _ _ => false
  | _ => true
theorem VReps.nohd {Y : Zy} : ∀ {vs : List Val} {xs : List V}, vs.all plainV = true → VReps Y A F vs xs → VReps (Zx.z Y.toZx) A F vs xs
  | [], _, _, h => h
  | v :: vs, _, hp, ⟨x, r, e, h1, h2⟩ => by
    simp only [List.all_cons, Bool.and_eq_true] at hp
    refine ⟨x, r, e, ?_, VReps.nohd hp.2 h2⟩
    cases v with
    | im d => exact h1
    | cell k => exact h1
    | exn c ds => cases hp.1
theorem vreps_start {N : List Str} {ds : List Val} {vs : List V} (h : VReps Z.z A F ds vs) : SL Z.z A F (ds.map some ++ List.replicate (N.length - ds.length) none) (L2.start N vs) := by
  have hl := h.length
  unfold L2.start
  rw [hl]
  refine ⟨by simp [hl], ?_⟩
  have key : ∀ {ds : List Val} {vs : List V} (m : Nat), VReps Z.z A F ds vs → ∀ (i : Nat) (v : Val), (ds.map some ++ List.replicate m none)[i]? = some (some v) → ∃ x, (vs.map some ++ List.replicate m none)[i]? = some (some x) ∧ VRep Z.z A F v x := by
    intro ds
    induction ds with
    | nil =>
      intro vs m h i v e
      unfold VReps at h
      subst h
      simp [List.getElem?_replicate] at e
    | cons d ds ih =>
      intro vs m h i v e
      obtain ⟨x, r, rfl, h1, h2⟩ := h
      cases i with
      | zero =>
        simp at e
        subst e
        exact ⟨x, by simp, h1⟩
      | succ i =>
        obtain ⟨y, e2, r2⟩ := ih m h2 i v (by simpa using e)
        exact ⟨y, by simpa using e2, r2⟩
  exact key _ h
theorem fin_ok {n : Nat} {v : Val} {ce' : List Cell} {H' : Hp} {x : V} (hn : A.length = n) (p : A <+: A') (e : Same F F') (so : SO Z A' F' ce' H') (r : VRep Z.z A' F' v x) (q : PostE Z.z A F W σ Q (finD n v ce')) : Q x H' := by
  cases v with
  | im d => exact q A F' H' x (List.prefix_refl _) e (so.cut p hn) r
  | exn c ds => exact q.elim
  | cell k =>
    unfold finD at q
    obtain ⟨a, ha, rfl⟩ := r
    dsimp only at q
    by_cases hk : k < n
    · rw [if_pos hk] at q
      refine q A F' H' _ (List.prefix_refl _) e (so.cut p hn) ⟨a, ?_, rfl⟩
      obtain ⟨t, rfl⟩ := p
      rw [List.getElem?_append_left (by omega)] at ha
      exact ha
    · rw [if_neg hk] at q
      have hlen : k < ce'.length := by rw [← so.len]; exact (List.getElem?_eq_some_iff.mp ha).1
      rw [List.getElem?_eq_getElem hlen] at q
      have s2 := so.cut p hn
      have hc2 := so.ok k a _ ha (List.getElem?_eq_getElem hlen)
      have hnp : ∀ ks, ce'[k] ≠ .ptr ks := fun ks e => by
        rw [e] at q
        exact q.elim
      have q2 : PostE Z.z A F W σ Q (.ok (.cell n) (ce'.take n ++ [ce'[k]])) := by
        cases hc : ce'[k] with
        | ptr ks => exact absurd hc (hnp ks)
        | dead => rw [hc] at q; exact q
        | lst ds => rw [hc] at q; exact q
        | ins c ds => rw [hc] at q; exact q
        | dct ks vs => rw [hc] at q; exact q
      refine q2 (A ++ [a]) F' H' _ (List.prefix_append _ _) e ⟨s2.sub, by simp [s2.len], ?_, fun j b c h1 h2 => ?_⟩ ⟨a, by simp [← hn], rfl⟩
      · refine List.nodup_append.mpr ⟨s2.nd, by simp, fun b hb c hc ebc => ?_⟩
        simp at hc
        subst hc
        subst ebc
        obtain ⟨t, rfl⟩ := p
        obtain ⟨j, hj⟩ := List.getElem?_of_mem hb
        have hjl := (List.getElem?_eq_some_iff.mp hj).1
        have hj' : (A ++ t)[j]? = some b := by rw [List.getElem?_append_left hjl]; exact hj
        have := (List.getElem?_inj (List.getElem?_eq_some_iff.mp hj').1 so.nd).mp (hj'.trans ha.symm)
        omega
      · by_cases hj : j < A.length
        · rw [List.getElem?_append_left hj] at h1
          rw [List.getElem?_append_left (by rw [← s2.len]; exact hj)] at h2
          exact (s2.ok j b c h1 h2).mono (List.prefix_append _ _) (Same.refl _) rfl id
        · rw [List.getElem?_append_right (by omega)] at h1
          rw [List.getElem?_append_right (by rw [← s2.len]; omega), ← s2.len] at h2
          have hj0 : j - A.length = 0 := by
            have := (List.getElem?_eq_some_iff.mp h1).1
            simp at this
            omega
          rw [hj0] at h1 h2
          simp at h1 h2
          subst h1 h2
          cases hc : ce'[k] with
          | ptr ks => exact absurd hc (hnp ks)
          | dead => rw [hc] at hc2; exact hc2
          | lst ds => rw [hc] at hc2; exact hc2
          | ins c ds => rw [hc] at hc2; exact hc2
          | dct ks vs => rw [hc] at hc2; exact hc2
end
section
variable {P : Program} {w : World} {K : PySem.W.Frag} {mg : Str → Option Value} {base : Heap}
/-- a def keeps its promise: its body's rule -/
theorem fnD {Z : Zx} {x qual : Str} {st : Stmt} {f : Addr} {fd : FuncData} {N ps : List Str} {k nsl n : Nat} {body : DSt} (Fn : Fun K x qual st f fd) (S : FnScope N ps (defScope st)) (hN : N.length = nsl) (hn : ps.length = n)
    (hbody : ∀ (cdv : Value) (A : Around) (outer : List Env) (s : Shared) (H : Hp) (E : XK), Room k (A.deeper (PyProof.Rows.envOfC qual (defScope st) s.heap.objs.size f cdv)) →
      PSs (cxOf (L2N.CX P w) P w K mg base N qual (defScope st) f cdv A outer s H E) (defBody st) (tS Z.z (fun cls d _ H => E cls d H) body)) : FnOk P w K mg base (L2N.CX P w) (k + 1) f fd ps (spD Z (mkD nsl body) n) := by
  subst hN hn
  obtain ⟨oc, od, kV, doc, pm, an, cdv, ct, osl, rfl, lk, hcd⟩ := Fn.ex
  refine fn_of lk hcd S (fun vs H Q E ⟨A, F, ce, ds, so, r, l, p⟩ => by rw [← r.length]; exact l) fun A outer s H vs Q E hr ⟨A0, F0, ce, ds, so, r, l, p⟩ => ⟨_, hbody cdv A outer s H E hr, A0, F0, _, ce, so, vreps_start r, ?_⟩
  unfold mkD at p
  have hn := so.len
  cases e : body (ds.map some ++ List.replicate (N.length - ds.length) none) ce with
  | nx sl ce' => rw [e] at p; exact fun A' F' H' σ' pA eF so' hs' => fin_ok hn pA eF so' (show VRep Z.z A' F' (.im .non) .non by unfold VRep Rep; rfl) p
  | rt v ce' => rw [e] at p; exact fun A' F' H' x pA eF so' r' => fin_ok hn pA eF so' r' p
  | exc c es sl ce' => rw [e] at p; exact fun A' F' H' σ' dx pA eF so' hs' xo => p A0 F' H' dx (List.prefix_refl _) eF (so'.cut pA hn) xo
  | bk sl ce' => rw [e] at p; exact p.elim
  | ct sl ce' => rw [e] at p; exact p.elim
  | stuck => rw [e] at p; exact p.elim
end
/-! ### calls -/
def kCall (fh : DF) (vs : List Val) : DE := fun _ ce => if vs.all plainV then fh vs ce else .stuck
/-- o.m(..): o is an instance of the class c -/
def isC (c : Nat) (ce : List Cell) : Val → Bool
  | .im (.ins d _) => d == c
  | .cell k => match ce[k]? with
    | some (.ins d _) => d == c
    | _ => false
  | _ => false
def kMeth (fh : DF) (v : Val) (vs : List Val) : DE := fun _ ce => if (v :: vs).all plainV then fh (v :: vs) ce else .stuck
/-- C(..), settled -/
def kMake (c nf : Nat) (fh : DF) (vs : List Val) : DE := fun _ ce => if vs.all plainV then (match fh (.cell ce.length :: vs) (ce ++ [.ins c []]) with
  | .ok (.im .non) ce' => match ce'[ce.length]? with
    | some (.ins d ds) => if d = c ∧ ds.length = nf then .ok (.im (.ins c ds)) (ce'.take ce.length) else .stuck
    | _ => .stuck
  | .exc d ds ce' => .exc d ds (ce'.take ce.length)
  | _ => .stuck) else .stuck
section
variable {X : Cx} {Z : Zy} {W : WX} {k : Nat} {fa C : Addr} {fd : FuncData} {ps : List Str} {fh : DF} {x m : Str} {p pos apos : Pos} {e o : Expr} {es : List Expr} {f : DE} {fs : List DE} {n : Nat}
theorem spD_call {A : List Addr} {F : Hp} {sl : Sl} {ce : List Cell} {σ : L2.St} {Q : VK} {vs : List Val} {xs : List V} {H : Hp} (so : SO Z.toZx A F ce H) (r : VReps Z A F vs xs) (hl : vs.length = n) (pl : vs.all plainV = true) (q : PostE Z A F W σ Q (fh vs ce)) : spD Z.toZx fh n xs H Q (WE W σ) := by
  refine ⟨A, F, ce, vs, so, r.nohd pl, hl, ?_⟩
  cases e : fh vs ce with
  | ok v ce' => rw [e] at q; exact fun A' F' H' x pA eF so' r' => q A' F' H' x pA eF so' (vrep_z rfl r')
  | exc c ds ce' => rw [e] at q; exact q
  | stuck => rw [e] at q; exact q
theorem de_call (F : FnOk X.prog X.w X.K X.mg X.base (L2N.CX X.prog X.w) k fa fd ps (spD Z.toZx fh n)) (hr : Room k X.A) (hm : X.mg x = some (.ref fa)) (hk : PySem.W.keepIn X.K (.ref fa) = true) (hb : Binds X.K fd ps []) (tw : TW X W) (ha : PA X (e :: es) (tArgs Z W fs))
    (hg : Gl X x := by rfl) (hl : fs.length = n := by rfl) (hdb : (x == ("__debug__" : Str)) = false := by decide) (he : starEach (e :: es) X.env = (false, eval e X.env) :: starEach es X.env := by rfl) (hpl : (backTo pos (starEach es X.env)).any (·.1) = false := by rfl) :
    PE X (.Call (.Name x p) (e :: es) [] pos) (tE Z W (eArgs fs (kCall fh))) :=
  (pe_callS F hr hg hm hk hb tw ha hdb he hpl).weak fun σ H Q h => tArgs_imp (fun xs H1 ⟨A, F, sl, ce, vs, so, hs, r, l, q⟩ => by
    unfold kCall at q
    by_cases hp : vs.all plainV = true
    · rw [if_pos hp] at q
      exact spD_call (sl := sl) so r (by rw [l, hl]) hp q
    · rw [if_neg hp] at q
      exact q.elim) (tN h)
theorem de_call0 (F : FnOk X.prog X.w X.K X.mg X.base (L2N.CX X.prog X.w) k fa fd ps (spD Z.toZx fh 0)) (hr : Room k X.A) (hm : X.mg x = some (.ref fa)) (hk : PySem.W.keepIn X.K (.ref fa) = true) (hb : Binds X.K fd ps []) (tw : TW X W)
    (hg : Gl X x := by rfl) (hdb : (x == ("__debug__" : Str)) = false := by decide) : PE X (.Call (.Name x p) [] [] pos) (tE Z W (eArgs [] (kCall fh))) :=
  (pe_callZS0 F hr hg hm hk hb .nil tw hdb).weak fun σ H Q ⟨A, F, sl, ce, so, hs, q⟩ => spD_call (sl := sl) so (show VReps Z A F [] [] from rfl) rfl rfl q
/-- a class's plain facts -/
structure ClsOk (K : PySem.W.Frag) (Z : Zx) (c : Nat) : Prop where
  cls : Cls K (Z.cl c)
  nd : (Z.fl c).Nodup
theorem take_lookup {m : Str} {fs : List (Str × V)} {l : List Str} {n : Nat} (e : fs.map (·.1) = l.take n) (h : m ∉ l) : fs.lookup m = none := by
  have : m ∉ fs.map (·.1) := by rw [e]; exact fun z => h (List.mem_of_mem_take z)
  rw [List.lookup_eq_none_iff]
  intro p hp
  refine bne_iff_ne.mpr fun z => this ?_
  rw [z]
  exact List.mem_map_of_mem hp
theorem isC_rd {A F ce H c v y} (so : SO Z.toZx A F ce H) (r : VRep Z A F v y) (h : isC c ce v = true) : ∃ a dx fs n, y = .ref a ∧ H a = some (.ins (Z.cl c) dx fs) ∧ fs.map (·.1) = (Z.fl c).take n := by
  unfold isC at h
  split at h
  · rename_i d ds
    unfold VRep Rep at r
    obtain ⟨a, dx, fs, rfl, h1, h2, h3⟩ := r
    have := beq_iff_eq.mp h
    subst this
    exact ⟨a, dx, fs, (Z.fl d).length, rfl, so.sub _ _ h1, by rw [h2, List.take_length]⟩
  · split at h
    · rename_i k d ds hk
      have := beq_iff_eq.mp h
      subst this
      obtain ⟨a, ha, rfl⟩ := r
      obtain ⟨_, dx, fs, h1, h2, h3⟩ := so.ok _ _ _ ha hk
      exact ⟨a, dx, fs, _, rfl, h1, h2⟩
    · cases h
  · cases h
theorem isC_plain {ce c v} (h : isC c ce v = true) : plainV v = true := by
  unfold isC at h
  split at h <;> first | rfl | cases h
theorem de_meth {pl : Sem Bool} {c : Nat} (he : PE X o (tE Z W f)) (hc : ClsOk X.K Z.toZx c) (hmt : Meth X.K (Z.cl c) m fa) (hno : m ∉ Z.fl c) (F : FnOk X.prog X.w X.K X.mg X.base (L2N.CX X.prog X.w) k fa fd ps (spD Z.toZx fh (n + 1))) (hr : Room k X.A) (hb : Binds X.K fd ps []) (tw : TW X W) (ha : PA X (e :: es) (tArgs Z W fs))
    (hl : fs.length = n := by rfl) (hst : starEach (e :: es) X.env = (false, eval e X.env) :: starEach es X.env := by rfl) (hpl : (backTo pos (starEach es X.env)).any (·.1) = false := by rfl)
    (ht : eval (.Call (.Attribute o m apos) (e :: es) [] pos) X.env = (do
      let ov ← eval o X.env
      standAt apos.atName
      let (f, first) ← holding [ov] (getMethod ov m pl)
      callWith pos f first (backTo pos (starEach (e :: es) X.env)) (backToKw pos (keywordEach [] X.env))) := by rfl) :
    PE X (.Call (.Attribute o m apos) (e :: es) [] pos) (tE Z W (eMth (isC c) (kMeth fh) f fs)) :=
  (pe_methZS he hc.cls hmt F hr hb .nil tw ha hst hpl ht).weak fun σ H Q q => tE_imp (fun x H1 ⟨A, F, sl, ce, v, so, hs, r, p⟩ => by
    by_cases hi : isC c ce v = true
    · rw [if_pos hi] at p
      obtain ⟨a, dx, fs', n', rfl, h1, h2⟩ := isC_rd so r hi
      refine ⟨a, dx, fs', rfl, h1, take_lookup h2 hno, tArgs_imp (fun xs H2 ⟨A2, F2, ce2, vs, p2, e2, s2, r2, l2, q2⟩ => ?_) (tArgs_ok so hs p)⟩
      rw [List.append_nil]
      unfold kMeth at q2
      by_cases hp : (v :: vs).all plainV = true
      · rw [if_pos hp] at q2
        exact spD_call (sl := sl) (vs := v :: vs) s2 ⟨_, _, rfl, r.mono p2 e2, r2⟩ (by simp [l2, hl]) hp q2
      · rw [if_neg hp] at q2
        exact q2.elim
    · rw [if_neg hi] at p
      exact p.elim) (tE1 q)
theorem de_meth0 {pl : Sem Bool} {c : Nat} (he : PE X o (tE Z W f)) (hc : ClsOk X.K Z.toZx c) (hmt : Meth X.K (Z.cl c) m fa) (hno : m ∉ Z.fl c) (F : FnOk X.prog X.w X.K X.mg X.base (L2N.CX X.prog X.w) k fa fd ps (spD Z.toZx fh 1)) (hr : Room k X.A) (hb : Binds X.K fd ps []) (tw : TW X W)
    (ht : eval (.Call (.Attribute o m apos) [] [] pos) X.env = (do
      let ov ← eval o X.env
      standAt apos.atName
      let (f, first) ← holding [ov] (getMethod ov m pl)
      callWith pos f first (backTo pos (starEach [] X.env)) (backToKw pos (keywordEach [] X.env))) := by rfl) :
    PE X (.Call (.Attribute o m apos) [] [] pos) (tE Z W (eMth (isC c) (kMeth fh) f [])) :=
  (pe_meth0ZS he hc.cls hmt F hr hb .nil tw ht).weak fun σ H Q q => tE_imp (fun x H1 ⟨A, F, sl, ce, v, so, hs, r, p⟩ => by
    by_cases hi : isC c ce v = true
    · rw [if_pos hi] at p
      obtain ⟨a, dx, fs', n', rfl, h1, h2⟩ := isC_rd so r hi
      refine ⟨a, dx, fs', rfl, h1, take_lookup h2 hno, ?_⟩
      unfold eArgs kMeth at p
      by_cases hp : [v].all plainV = true
      · rw [if_pos hp] at p
        exact spD_call (sl := sl) (vs := [v]) so ⟨_, _, rfl, r, rfl⟩ rfl hp p
      · rw [if_neg hp] at p
        exact p.elim
    · rw [if_neg hi] at p
      exact p.elim) (tE1 q)
theorem de_make {c nf : Nat} (M : Mk X.K (Z.cl c) fa) (F : FnOk X.prog X.w X.K X.mg X.base (L2N.CX X.prog X.w) k fa fd ps (spD Z.toZx fh (n + 1))) (hr : Room (k + 1) X.A) (hm : X.mg x = some (.ref (Z.cl c))) (hb : Binds X.K fd ps []) (tw : TW X W) (ha : PA X (e :: es) (tArgs Z W fs)) (hfl : (Z.fl c).length = nf)
    (hg : Gl X x := by rfl) (hl : fs.length = n := by rfl) (hdb : (x == ("__debug__" : Str)) = false := by decide) (he : starEach (e :: es) X.env = (false, eval e X.env) :: starEach es X.env := by rfl) (hpl : (backTo pos (starEach es X.env)).any (·.1) = false := by rfl) :
    PE X (.Call (.Name x p) (e :: es) [] pos) (tE Z W (eArgs fs (kMake c nf fh))) :=
  (pe_makeZS M F hr hg hm hb .nil tw ha hdb he hpl).weak fun σ H Q h => tArgs_imp (fun xs H1 ⟨A, F, sl, ce, vs, so, hs, r, l, q⟩ => by
    intro a dx ha' hdx hne
    rw [List.append_nil]
    unfold kMake at q
    by_cases hp : vs.all plainV = true
    · rw [if_pos hp] at q
      -- the new instance's dict, then the instance as a cell
      have so1 := so.new (o := .own a) hdx
      have fa1 : (upd F dx (.own a)) a = none := by rw [upd_ne (Ne.symm hne)]; exact so.fnone ha'
      have ha1 : (upd H1 dx (.own a)) a = none := by rw [upd_ne (Ne.symm hne)]; exact ha'
      have so2 := so1.newCell (o := .ins (Z.cl c) dx []) (c := .ins c []) ha1 ⟨so1.fnone ha1, dx, [], upd_same, rfl, reps_nil⟩
      have up1 : Same F (upd F dx (.own a)) := same_up (so.fnone hdx)
      refine ⟨A ++ [a], upd F dx (.own a), ce ++ [.ins c []], .cell ce.length :: vs, so2, ⟨.ref a, xs, rfl, ⟨a, by rw [← so.len]; simp, rfl⟩, (r.mono (List.prefix_append _ _) up1).nohd hp⟩, by simp [l, hl], ?_⟩
      cases e : fh (.cell ce.length :: vs) (ce ++ [.ins c []]) with
      | stuck => rw [e] at q; exact q.elim
      | exc d ds ce' =>
        rw [e] at q
        exact fun A' F' H' dx' pA eF so' xo => q A F' H' dx' (List.prefix_refl _) (up1.trans eF) (so'.cut ((List.prefix_append _ _).trans pA) so.len) xo
      | ok v ce' =>
        rw [e] at q
        cases v with
        | cell n => exact q.elim
        | exn c ds => exact q.elim
        | im d => cases d with
          | non =>
            intro A' F' H' y pA eF so' ry
            refine ⟨rep_non (Z := Z.toZx.z) ry, ?_⟩
            have hAa : A'[ce.length]? = some a := pre_get pA (by rw [← so.len]; simp)
            dsimp only at q
            split at q
            · rename_i d ds hds
              by_cases hdc : d = c ∧ ds.length = nf
              · rw [if_pos hdc] at q
                obtain ⟨rfl, hll⟩ := hdc
                obtain ⟨hF, dx', fs', hH, hfs, rr⟩ := so'.ok _ _ _ hAa hds
                have up := same_up (o := .ins (Z.cl d) dx' fs') hF
                have s2 := (so'.freeze hAa hF hH).cut (A := A) ((List.prefix_append _ _).trans pA) so.len
                have e3 : (ce'.set ce.length .dead).take ce.length = ce'.take ce.length := by
                  refine List.ext_getElem? fun j => ?_
                  by_cases hj : j < ce.length
                  · rw [List.getElem?_take_of_lt hj, List.getElem?_take_of_lt hj, List.getElem?_set_ne (by omega)]
                  · rw [List.getElem?_eq_none (by simp; omega), List.getElem?_eq_none (by simp; omega)]
                rw [e3] at s2
                refine q A _ H' (.ref a) (List.prefix_refl _) ((up1.trans eF).trans up) s2 ?_
                unfold VRep Rep
                exact ⟨a, dx', fs', rfl, upd_same, by rw [hfs, hll, ← hfl, List.take_length], rr.mono up⟩
              · rw [if_neg hdc] at q
                exact q.elim
            · exact q.elim
          | _ => exact q.elim
    · rw [if_neg hp] at q
      exact q.elim) (tN h)
end
end ZZ

set_option Elab.async false
set_option linter.all false
set_option maxRecDepth 100000
/-! Z7: fields, properties, isinstance, raise, try. -/
namespace ZZ
open PySem PySem.Spec L2
/-! ### fields -/
/-- the i-th field of an instance of the class c -/
def kFld (c i : Nat) (v : Val) : DE := fun _ ce => match v with
  | .im (.ins d ds) => if d = c then (match ds[i]? with
    | some x => .ok (.im x) ce
    | none => .stuck) else .stuck
  | .cell k => match ce[k]? with
    | some (.ins d ds) => if d = c then (match ds[i]? with
      | some x => .ok (.im x) ce
      | none => .stuck) else .stuck
    | _ => .stuck
  | _ => .stuck
theorem lookup_ix {Z : Zx} {F : Hp} : ∀ {l : List Str} {fs : List (Str × V)} {ds : List D} {i : Nat} {f : Str} {x : D} {n : Nat}, l.Nodup → fs.map (·.1) = l.take n → Reps Z F ds (fs.map (·.2)) → l[i]? = some f → ds[i]? = some x → ∃ v, fs.lookup f = some v ∧ Rep Z F x v
  | l, [], ds, i, f, x, n, nd, e, r, h1, h2 => by
    rw [List.map_nil] at r
    have := r.length
    have : ds = [] := List.eq_nil_of_length_eq_zero (by simpa using this)
    subst this
    simp at h2
  | [], p :: fs, ds, i, f, x, n, nd, e, r, h1, h2 => by simp at h1
  | g :: l, (a, b) :: fs, ds, i, f, x, 0, nd, e, r, h1, h2 => by simp at e
  | g :: l, (a, b) :: fs, [], i, f, x, n + 1, nd, e, r, h1, h2 => by simp at h2
  | g :: l, (a, b) :: fs, d :: ds, 0, f, x, n + 1, nd, e, r, h1, h2 => by
    simp at e h1 h2
    subst h1 h2
    obtain ⟨v, r', e2, h3, h4⟩ := reps_cons_inv r
    simp at e2
    refine ⟨b, ?_, by rw [e2.1]; exact h3⟩
    simp [List.lookup, e.1]
  | g :: l, (a, b) :: fs, d :: ds, i + 1, f, x, n + 1, nd, e, r, h1, h2 => by
    simp at e h1 h2
    obtain ⟨v, r', e2, h3, h4⟩ := reps_cons_inv r
    simp at e2
    have nd' := List.nodup_cons.mp nd
    obtain ⟨v', h5, h6⟩ := lookup_ix (fs := fs) (n := n) nd'.2 e.2 (by rw [e2.2]; exact h4) h1 h2
    refine ⟨v', ?_, h6⟩
    have hne : f ≠ a := fun z => nd'.1 (by
      rw [← e.1, ← z]
      exact List.mem_of_getElem? h1)
    have : (f == a) = false := by simpa using hne
    simp [List.lookup, this, h5]
section
variable {X : Cx} {Z : Zy} {W : WX} {e o : Expr} {f g : DE} {pos : Pos} {c i : Nat} {nm : Str}
theorem de_fld (he : PE X e (tE Z W f)) (hK : X.K = Z.K) (hc : ClsOk X.K Z.toZx c) (hn : NoAttr X.K (Z.cl c) nm) (hi : (Z.fl c)[i]? = some nm) (hb : attributeBase e nm X.env (eval e X.env) = eval e X.env := by rfl) : PE X (.Attribute e nm pos) (tE Z W (eUn (kFld c i) f)) :=
  (pe_fld he hb).weak fun σ H Q q => tE_imp (fun x H1 ⟨A, F, sl, ce, v, so, hs, r, p⟩ => by
    unfold kFld at p
    split at p
    · rename_i d ds
      by_cases hd : d = c
      · rw [if_pos hd] at p
        subst hd
        split at p
        · rename_i y hy
          unfold VRep Rep at r
          obtain ⟨a, dx, fs, rfl, h1, h2, h3⟩ := r
          obtain ⟨v, h4, h5⟩ := lookup_ix (n := (Z.fl d).length) hc.nd (by rw [h2, List.take_length]) h3 hi hy
          exact ⟨a, _, dx, fs, v, rfl, so.sub _ _ h1, hc.cls, hn, h4, fin_flat so p h5⟩
        · exact p.elim
      · rw [if_neg hd] at p
        exact p.elim
    · split at p
      · rename_i k d ds hk
        by_cases hd : d = c
        · rw [if_pos hd] at p
          subst hd
          split at p
          · rename_i y hy
            obtain ⟨a, ha, rfl⟩ := r
            obtain ⟨_, dx, fs, h1, h2, h3⟩ := so.ok _ _ _ ha hk
            obtain ⟨v, h4, h5⟩ := lookup_ix hc.nd h2 h3 hi hy
            exact ⟨a, _, dx, fs, v, rfl, h1, hc.cls, hn, h4, fin_flat so p h5⟩
          · exact p.elim
        · rw [if_neg hd] at p
          exact p.elim
      · exact p.elim
    · exact p.elim) (tE1 q)
/-- self.f = e: f is the i-th field -/
def sFldSet (c i : Nat) (f g : DE) : DSt := sExp g fun u => sExp f fun v sl ce => match v, u with
  | .cell k, .im d => match ce[k]? with
    | some (.ins c' ds) => if c' = c then (if i < ds.length then .nx sl (ce.set k (.ins c (ds.set i d))) else if i = ds.length then .nx sl (ce.set k (.ins c (ds ++ [d]))) else .stuck) else .stuck
    | _ => .stuck
  | _, _ => .stuck
theorem putF_old {Z : Zx} {F : Hp} : ∀ {l : List Str} {fs : List (Str × V)} {ds : List D} {i : Nat} {nm : Str} {x : D} {v : V} {n : Nat}, l.Nodup → fs.map (·.1) = l.take n → Reps Z F ds (fs.map (·.2)) → l[i]? = some nm → i < ds.length → Rep Z F x v →
    (putF nm v fs).map (·.1) = l.take n ∧ Reps Z F (ds.set i x) ((putF nm v fs).map (·.2))
  | l, [], ds, i, nm, x, v, n, nd, e, r, h1, h2, rx => by
    have := r.length
    simp at this
    subst this
    simp at h2
  | [], p :: fs, ds, i, nm, x, v, n, nd, e, r, h1, h2, rx => by simp at h1
  | g :: l, (a, b) :: fs, ds, i, nm, x, v, 0, nd, e, r, h1, h2, rx => by simp at e
  | g :: l, (a, b) :: fs, [], i, nm, x, v, n + 1, nd, e, r, h1, h2, rx => by simp at h2
  | g :: l, (a, b) :: fs, d :: ds, 0, nm, x, v, n + 1, nd, e, r, h1, h2, rx => by
    simp at e h1
    subst h1
    obtain ⟨w, r', e2, h3, h4⟩ := reps_cons_inv r
    simp at e2
    unfold putF
    rw [if_pos e.1]
    refine ⟨by simp [e], ?_⟩
    simp only [List.map_cons, List.set_cons_zero]
    exact reps_cons rx (by rw [e2.2]; exact h4)
  | g :: l, (a, b) :: fs, d :: ds, i + 1, nm, x, v, n + 1, nd, e, r, h1, h2, rx => by
    simp at e h1 h2
    obtain ⟨w, r', e2, h3, h4⟩ := reps_cons_inv r
    simp at e2
    have nd' := List.nodup_cons.mp nd
    have hne : ¬ a = nm := fun z => nd'.1 (by
      rw [← e.1, z]
      exact List.mem_of_getElem? h1)
    obtain ⟨h5, h6⟩ := putF_old (fs := fs) (n := n) nd'.2 e.2 (by rw [e2.2]; exact h4) h1 (by omega) rx
    unfold putF
    rw [if_neg hne]
    refine ⟨by simp [e.1, h5], ?_⟩
    simp only [List.map_cons, List.set_cons_succ]
    exact reps_cons (by rw [e2.1]; exact h3) h6
theorem putF_new : ∀ {fs : List (Str × V)} {nm : Str} {v : V}, nm ∉ fs.map (·.1) → putF nm v fs = fs ++ [(nm, v)]
  | [], nm, v, h => rfl
  | (a, b) :: fs, nm, v, h => by
    simp at h
    unfold putF
    rw [if_neg fun z => h.1 z.symm, putF_new (by simpa using h.2)]
    rfl
theorem ds_fld {pos' : Pos} (ho : PE X o (tE Z W f)) (he : PE X e (tE Z W g)) (hK : X.K = Z.K) (hc : ClsOk X.K Z.toZx c) (hn : NoAttr X.K (Z.cl c) nm) (hi : (Z.fl c)[i]? = some nm) (hfew : (Z.fl c).length < 1000) (hs : swapsWith e (some (.Attribute o nm pos')) pos.line X.env = pure false := by rfl) : PS X (.Assign [.Attribute o nm pos'] e pos) (tS Z W (sFldSet c i f g)) :=
  (ps_fld ho he hs).weak fun D σ H q => tE_imp (fun y H1 ⟨A, F, sl, ce, u, so, hs, ru, p⟩ => by
    refine ⟨A, F, sl, ce, so, hs, (PostS.exp so hs p).imp fun x H2 ⟨A1, F1, ce1, v, p1, e1, s1, r1, q1⟩ => ?_⟩
    have ru1 := ru.mono p1 e1
    split at q1
    · split at q1
      · rename_i k d _ _ c' ds hk
        by_cases hcc : c' = c
        · rw [if_pos hcc] at q1
          subst hcc
          obtain ⟨a, ha, rfl⟩ := r1
          obtain ⟨hF, dx, fs, h1, h2, h3⟩ := s1.ok _ _ _ ha hk
          have hlen : fs.length = ds.length := by rw [h3.length, List.length_map]
          have hfs : fs.length < 1000 := by
            have : (fs.map (·.1)).length ≤ (Z.fl c').length := by rw [h2]; simp; omega
            simp at this
            omega
          refine ⟨a, _, dx, fs, rfl, h1, hc.cls, hn, hfs, ?_⟩
          by_cases hl : i < ds.length
          · rw [if_pos hl] at q1
            obtain ⟨h5, h6⟩ := putF_old hc.nd h2 h3 hi hl ru1
            exact nxS (s1.write (c := .ins c' (ds.set i d)) ha hF ⟨hF, dx, _, upd_same, by simpa using h5, h6⟩) (hs.mono p1 e1) q1
          · rw [if_neg hl] at q1
            by_cases hl2 : i = ds.length
            · rw [if_pos hl2] at q1
              have hil : i < (Z.fl c').length := (List.getElem?_eq_some_iff.mp hi).1
              have hno : nm ∉ fs.map (·.1) := by
                rw [h2]
                intro z
                obtain ⟨j, hj⟩ := List.getElem?_of_mem z
                have hjl : j < ds.length := by
                  have := (List.getElem?_eq_some_iff.mp hj).1
                  simp at this
                  omega
                rw [List.getElem?_take_of_lt hjl] at hj
                have := (List.getElem?_inj (List.getElem?_eq_some_iff.mp hi).1 hc.nd).mp (hi.trans hj.symm)
                omega
              refine nxS (s1.write (c := .ins c' (ds ++ [d])) ha hF ⟨hF, dx, _, upd_same, ?_, ?_⟩) (hs.mono p1 e1) q1
              · rw [putF_new hno, List.map_append, h2]
                simp only [List.map_cons, List.map_nil, List.length_append, List.length_cons, List.length_nil]
                rw [List.take_add_one, ← hl2, hi]
                rfl
              · rw [putF_new hno, List.map_append]
                exact h3.append (reps_cons ru1 reps_nil)
            · rw [if_neg hl2] at q1
              exact q1.elim
        · rw [if_neg hcc] at q1
          exact q1.elim
      · exact q1.elim
    · exact q1.elim) (tS1 q)
end
/-! ### properties -/
theorem passLN {X : Cx} : Passes (L2N.CX X.prog X.w) X E0 := fun _ _ _ _ _ _ _ h => by
  obtain ⟨_, _, _, _, _, _, _, _, _, _, _, _, z⟩ := h
  exact z.elim
section
variable {X : Cx} {Z : Zy} {W : WX} {k : Nat} {fa pa : Addr} {fd : FuncData} {ps : List Str} {fh : DF} {nm : Str} {pos : Pos} {e : Expr} {f : DE} {c : Nat}
/-- a property's value; it raises nothing -/
def kProp (c : Nat) (fh : DF) (v : Val) : DE := fun _ ce => if isC c ce v then (match fh [v] ce with
  | .ok u ce' => .ok u ce'
  | _ => .stuck) else .stuck
theorem de_prop (he : PE X e (tE Z W f)) (hc : ClsOk X.K Z.toZx c) (hp : PropOf X.K (Z.cl c) nm pa fa) (F : FnOk X.prog X.w X.K X.mg X.base (L2N.CX X.prog X.w) k fa fd ps (spD Z.toZx fh 1)) (hr : Room (k + 1) X.A) (hb : Binds X.K fd ps [])
    (hab : attributeBase e nm X.env (eval e X.env) = eval e X.env := by rfl) : PE X (.Attribute e nm pos) (tE Z W (eUn (kProp c fh) f)) :=
  (pe_prop he hc.cls hp F hr hb .nil passLN hab).weak fun σ H Q q => tE_imp (fun x H1 ⟨A, F, sl, ce, v, so, hs, r, p⟩ => by
    unfold kProp at p
    by_cases hi : isC c ce v = true
    · rw [if_pos hi] at p
      obtain ⟨a, dx, fs', n', rfl, h1, h2⟩ := isC_rd so r hi
      refine ⟨a, dx, fs', rfl, h1, A, F, ce, [v], so, VReps.nohd (by simp [isC_plain hi]) ⟨_, _, rfl, r, rfl⟩, rfl, ?_⟩
      cases e : fh [v] ce with
      | ok u ce' => rw [e] at p; exact fun A' F' H' x pA eF so' r' => p A' F' H' x pA eF so' (vrep_z rfl r')
      | exc c ds ce' => rw [e] at p; exact p.elim
      | stuck => rw [e] at p; exact p.elim
    · rw [if_neg hi] at p
      exact p.elim) (tE1 q)
end
/-! ### isinstance -/
inductive Ty where
  | t (n : String) | c (n : Nat)
  deriving DecidableEq
def D.ty : D → Ty
  | .non => .t "NoneType" | .bl _ => .t "bool" | .int _ => .t "int" | .str _ => .t "str" | .tup _ => .t "tuple" | .lst _ => .t "list" | .wl _ => .t "list" | .ins c _ => .c c | .dct _ _ => .t "dict"
def tyVal (Z : Zx) : Ty → Value
  | .t n => .type n
  | .c n => .ref (Z.cl n)
/-- isinstance(e, T): tst tells for which types -/
def kIsi (tst : Ty → Option Bool) (v : Val) : DE := fun _ ce => match v with
  | .im (.wl _) => .stuck
  | .im (.dct _ _) => .stuck
  | .im d => match tst d.ty with
    | some b => .ok (.im (.bl b)) ce
    | none => .stuck
  | _ => .stuck
section
variable {X : Cx} {Z : Zy} {W : WX} {p p2 pos : Pos} {e : Expr} {f : DE} {x : Str} {cv : V} {u : Value} {tst : Ty → Option Bool}
/-- what isinstance asks of an own class -/
structure IsiC (K : PySem.W.Frag) (C : Addr) : Prop where
  cl : Cls K C
  ha : PySem.W.findIn K (.ref C) "__class__" = some (some (.builtin "object.__class__"))
  hn : PySem.W.specialIn K (.builtin "object.__class__") "__get__" = some (some (.builtin "getset_descriptor.__get__"))
  ht : PySem.W.takesIn K (.builtin "object.__class__") = some true
  hm : PySem.W.mroIn K C (.type "object") = some true
theorem d_tyx {F H : Hp} {d : D} {y : V} (so : Same F H) (r : Rep Z.toZx F d y) (hcl : ∀ c ds, d = .ins c ds → IsiC Z.K (Z.cl c)) (hnd : ∀ ks vs, d ≠ .dct ks vs) : TyX Z.K H y (tyVal Z.toZx d.ty) := by
  cases d with
  | non => unfold Rep at r; subst r; exact .base .non
  | bl b => unfold Rep at r; subst r; exact .base (.bl b)
  | int b => unfold Rep at r; subst r; exact .base (.int b)
  | str b => unfold Rep at r; subst r; exact .base (.str b)
  | tup ds =>
    unfold Rep at r
    obtain ⟨a, vs, rfl, h1, h2⟩ := r
    rcases same_seqT so h1 with (h | ⟨o, h⟩) | ⟨o, its, n, h3, h4, _⟩
    · exact .base (.tup h)
    · exact .fTuple h
    · exact .kTuple h3 h4
  | lst ds =>
    unfold Rep at r
    obtain ⟨a, vs, rfl, h1, h2⟩ := r
    exact .base (.lst (so _ _ h1))
  | dct ks vs => exact absurd rfl (hnd ks vs)
  | ins c ds =>
    unfold Rep at r
    obtain ⟨a, dx, fs, rfl, h1, h2⟩ := r
    have q := hcl c ds rfl
    exact .base (.ins (so _ _ h1) q.cl q.ha q.hn q.ht q.hm)
  | wl ds =>
    unfold Rep at r
    obtain ⟨a, vs, rfl, h1, h2⟩ := r
    rcases so.seq h1 with (h | ⟨o, h⟩) | ⟨o, its, n, h3, h4, _⟩
    · exact .base (.lst h)
    · exact .base (.frz h)
    · exact .kList h3 h4
theorem de_isi {T : Expr} (hT : PE X T (tC cv)) (hcv : ClsV cv u) (hK : X.K = Z.K) (hk : ∀ ty b, tst ty = some b → PySem.W.kitOne X.K (tyVal Z.toZx ty) u = some b) (hcl : ∀ c b, tst (.c c) = some b → IsiC X.K (Z.cl c)) (he : PE X e (tE Z W f)) (hm : X.mg "isinstance" = none)
    (hg : Gl X "isinstance" := by rfl) (hs : starEach [e, T] X.env = (false, eval e X.env) :: starEach [T] X.env := by rfl) (hs2 : starEach [T] X.env = (false, eval T X.env) :: starEach [] X.env := by rfl) (hpl : (backTo pos (starEach [T] X.env)).any (·.1) = false := by rfl) :
    PE X (.Call (.Name "isinstance" p) [e, T] [] pos) (tE Z W (eUn (kIsi tst) f)) :=
  (pe_callB call_isi hg hm (by decide +kernel) (pa_cons he (pa_cons hT pa_nil hs2) hs) (by decide) (by decide) hs hpl).weak fun σ H Q q => tE_imp (fun x H1 ⟨A, F, sl, ce, v, so, hs, r, p⟩ => by
    unfold kIsi at p
    show rIsi X.K [x, cv] H1 Q
    split at p
    · exact p.elim
    · exact p.elim
    · rename_i d _ hnd
      split at p
      · rename_i b hb
        exact ⟨x, cv, _, u, b, rfl, hcv, by rw [hK]; exact d_tyx so.sub r (fun c ds e => by subst e; rw [← hK]; exact hcl c b hb) (fun ks vs e => hnd ks vs (by rw [e])), hk _ b hb, fin_flat so p repB⟩
      · exact p.elim
    · exact p.elim) (tE1 q)
end
end ZZ

set_option Elab.async false
set_option linter.all false
set_option maxRecDepth 100000
/-! Z8: raise, try. -/
namespace L2N
open PySem PySem.Spec PyProof.Rows L2
theorem pmk_oex {X : Cx} {CX : CXT} {x : Str} {e : Expr} {es : List Expr} {ta : TA} {p pos : Pos} {C fI : Addr} {k : Nat} {fd : FuncData} {ps : List Str} {sp : Sp} {ds : List Value} {dvs : List V} (T : OexC X.K C) (iC : PySem.W.findIn X.K (.ref C) "__init__" = some (some (.ref fI))) (tI : PySem.W.typeIn X.K (.ref fI) = some (.type "function"))
    (F1 : FnOk X.prog X.w X.K X.mg X.base CX k fI fd ps sp) (hr : Room (k + 1) X.A) (hb : Binds X.K fd ps ds) (hd : Vals dvs ds) (hx : Passes CX X (fun _ _ _ => False)) (hg : Gl X x) (hm : X.mg x = some (.ref C)) (ha : PA X (e :: es) ta)
    (hdb : (x == ("__debug__" : Str)) = false := by decide) (he : starEach (e :: es) X.env = (false, eval e X.env) :: starEach es X.env := by rfl) (hpl : (backTo pos (starEach es X.env)).any (·.1) = false := by rfl) :
    L2N.PMk X (.Call (.Name x p) (e :: es) [] pos) (tMkO C sp dvs ta) := by
  intro pins s σ H Q I h
  obtain ⟨nm, q, N, bs, bm, sn, sub, ab, col, dd, k0, k1, k2, k3, k5, hC, hbm⟩ := T.cls
  refine wpAny_Call_Name_kw (ld_glob I hg hm ?_ hdb)
  refine PySem.W.callWith_K (h₀ := X.base) I.ok.mod.kin T.kC (thn (ha.run pos pins s σ H _ I h) fun us s1 ⟨vs, H1, I1, r1, hz, q1⟩ => ⟨I1.kIn, ?_⟩) he hpl
  show wpAny _ _ (call (.ref C) us) _ _ _
  obtain ⟨hp, g, dr, tk, os⟩ := s1
  have hsz : hp.objs.size ≤ hp.objs.size + 1 := Nat.le_succ _
  have hn : H1 (hp.objs.size + 1) = none := I1.hok.fresh hsz
  have hq := q1 (hp.objs.size + 1) hn
  have kk : ∀ b o, hp.get? b = some o → ((hp.push (PySem.W.kdv_tup us)).push (PySem.HandSPX.excO C hp.objs.size)).get? b = some o := fun b o e => Heap.get?_push_of_some _ (Heap.get?_push_of_some _ e)
  have hget : ((hp.push (PySem.W.kdv_tup us)).push (PySem.HandSPX.excO C hp.objs.size)).get? (hp.objs.size + 1) = some (PySem.HandSPX.excO C hp.objs.size) := by heap_get
  have I2 : Inv X pins σ (upd H1 (hp.objs.size + 1) (exo (hp.objs.size + 1) C none)) ⟨(hp.push (PySem.W.kdv_tup us)).push (PySem.HandSPX.excO C hp.objs.size), g, dr, tk, os⟩ :=
    I1.laid (t' := tk) (a := hp.objs.size + 1) (o := exo (hp.objs.size + 1) C none) (h' := (hp.push (PySem.W.kdv_tup us)).push (PySem.HandSPX.excO C hp.objs.size)) kk hsz (exo_ok hget)
  have r2 : Vals (V.ref (hp.objs.size + 1) :: (vs ++ dvs)) (Value.ref (hp.objs.size + 1) :: (us ++ ds)) := .cons rfl (r1.append hd)
  have hl : (Value.ref (hp.objs.size + 1) :: us ++ ds).length = ps.length := by
    have e := r2.length
    rw [F1.len _ _ _ _ hq] at e
    exact e.symm
  have hus : us.length ≤ sizeLine := by
    rw [← Paired.length r1, sizeLine_eq]
    omega
  refine wpAny_call (PySem.HandSPX.call_own F.excBase_ValueError (fun Y => PySem.HandSPX.refsVE_contains Y bm hbm) (I1.kIn _ _ hC) (PySem.W.looks_findIn I1.kIn iC) (fun self => PySem.W.bind_fn I1.kIn self tI) hus
    (codeAny_mono (F1.run _ X.stack _ _ ⟨Value.ref (hp.objs.size + 1) :: us, []⟩ (Value.ref (hp.objs.size + 1) :: (us ++ ds)) _ _ (fun _ _ _ => False) (hr.make C us []) (I2.env0.make C us []) (hb _ (Value.ref (hp.objs.size + 1) :: us) I2.kIn hl) r2 hq) fun r s' hq' => ?_))
  cases r with
  | error er => exact hx pins σ _ _ er s' I2 hq'
  | ok fl =>
    cases fl with
    | ret u =>
      obtain ⟨v, H2, os2, bare2, un2, hok2, rv, ev, d, fs, ea, ed, hd1, q2⟩ := hq'
      subst ev
      obtain ⟨h2, g2, d2, t2, os'⟩ := s'
      refine ⟨rv, ?_⟩
      obtain ⟨t0, G, J, kG, ge, hoe, na⟩ := mk_end0 (d2 := d2) (t2 := t2) I1 hsz kk un2 hok2 os2 bare2 ea ed hd1
      exact ⟨_, _, _, ⟨G, g2, d2, t2, os'⟩, _, .ref C, some d, rfl, J, kG, ge, hoe, ⟨rfl, rfl, fun vs e => by cases e; rfl⟩, rfl, rfl, na, rfl, bare2, raises_own T.exC T.tyC, q2⟩
    | next => exact False.elim hq'
    | brk => exact False.elim hq'
    | cont => exact False.elim hq'
end L2N
namespace ZZ
open PySem PySem.Spec L2
/-! ### an exception's __init__: one field, two fields -/
def spI1 (K : PySem.W.Frag) (f : Str) : Sp := fun vs H Q _ => ∃ a C v, vs = [.ref a, v] ∧ OexC K C ∧ PySem.W.findIn K (.ref C) f = some none ∧ H a = some (exo a C none) ∧
  ∀ dx, H dx = none → dx ≠ a → Q .non (upd (upd H dx (exd dx [(f, v)])) a (exo a C (some dx)))
def spI2 (K : PySem.W.Frag) (f g : Str) : Sp := fun vs H Q _ => ∃ a C v u, vs = [.ref a, v, u] ∧ OexC K C ∧ PySem.W.findIn K (.ref C) f = some none ∧ PySem.W.findIn K (.ref C) g = some none ∧ H a = some (exo a C none) ∧
  ∀ dx, H dx = none → dx ≠ a → Q .non (upd (upd (upd H dx (exd dx [(f, v)])) a (exo a C (some dx))) dx (exd dx [(g, u), (f, v)]))
section
variable {X : Cx} {o o2 e e2 : Expr} {f g : Str} {pos pos2 p p' : Pos}
theorem body_init1 {vs : List V} {H : Hp} {Q : VK} {E : XK} (ho : PE X o (tVar 0)) (he : PE X e (tVar 1)) (hs : swapsWith e (some (.Attribute o f p)) pos.line X.env = pure false) (h : spI1 X.K f vs H Q E) :
    ∃ t, PSs X [.Assign [.Attribute o f p] e pos] t ∧ t { nx := fun _ H' => Q .non H', rt := Q } (vs.map some) H := by
  refine ⟨_, pss_one (ps_ost ho he hs), ?_⟩
  obtain ⟨a, C, v, rfl, T, nf, hx, k⟩ := h
  exact ⟨_, rfl, _, rfl, a, C, rfl, T, nf, .inl ⟨hx, fun dx h1 h2 => k dx h1 h2⟩⟩
theorem exd_ne {a dx : Addr} {C : Addr} {d : Option Addr} {fs : List (Str × V)} : True := trivial
theorem body_init2 {vs : List V} {H : Hp} {Q : VK} {E : XK} (ho : PE X o (tVar 0)) (he : PE X e (tVar 1)) (hs : swapsWith e (some (.Attribute o f p)) pos.line X.env = pure false)
    (ho2 : PE X o2 (tVar 0)) (he2 : PE X e2 (tVar 2)) (hs2 : swapsWith e2 (some (.Attribute o2 g p')) pos2.line X.env = pure false) (h : spI2 X.K f g vs H Q E) :
    ∃ t, PSs X [.Assign [.Attribute o f p] e pos, .Assign [.Attribute o2 g p'] e2 pos2] t ∧ t { nx := fun _ H' => Q .non H', rt := Q } (vs.map some) H := by
  refine ⟨_, pss_cons (ps_ost ho he hs) (pss_one (ps_ost ho2 he2 hs2)), ?_⟩
  obtain ⟨a, C, v, u, rfl, T, nf, ng, hx, k⟩ := h
  refine ⟨_, rfl, _, rfl, a, C, rfl, T, nf, .inl ⟨hx, fun dx h1 h2 => ?_⟩⟩
  refine ⟨_, rfl, _, rfl, a, C, rfl, T, ng, .inr ⟨dx, [(f, v)], upd_same, ?_, (by show 1 ≤ 900; decide), k dx h1 h2⟩⟩
  rw [upd_ne h2, upd_same]
end
/-! ### raise -/
def sRaiseT (c : Nat) : DSt := fun sl ce => .exc c [] sl ce
def sArgs : List DE → (List Val → DSt) → DSt
  | [], k => k []
  | f :: fs, k => sExp f fun v => sArgs fs fun vs => k (v :: vs)
/-- C(e, ..): the last argument's field stands first in the error's dict -/
def sRaise (c : Nat) (fs : List DE) : DSt := sArgs fs fun vs sl ce => match ims vs with
  | some ds => .exc c ds.reverse sl ce
  | none => .stuck
theorem tSN {Z : Zy} {W : WX} {D : Ends} {σ : L2.St} {sl : Sl} : ∀ {fs : List DE} {k : List Val → DSt} {A : List Addr} {F H : Hp} {ce : List Cell}, SO Z.toZx A F ce H → SL Z A F sl σ → PostS Z A F W D (sArgs fs k sl ce) →
    tArgs Z W fs σ H fun xs H1 => ∃ A1 F1 ce1 vs, A <+: A1 ∧ Same F F1 ∧ SO Z.toZx A1 F1 ce1 H1 ∧ VReps Z A1 F1 vs xs ∧ vs.length = fs.length ∧ PostS Z A1 F1 W D (k vs sl ce1)
  | [], k, A, F, H, ce, so, hs, p => ⟨A, F, ce, [], List.prefix_refl _, Same.refl _, so, rfl, rfl, p⟩
  | f :: fs, k, A, F, H, ce, so, hs, p => ⟨A, F, sl, ce, so, hs, (PostS.exp so hs p).imp fun x H1 ⟨A1, F1, ce1, v, p1, e1, s1, r1, q1⟩ =>
      tArgs_imp (fun xs H2 ⟨A2, F2, ce2, vs, p2, e2, s2, r2, l2, q2⟩ => ⟨A2, F2, ce2, v :: vs, p1.trans p2, e1.trans e2, s2, ⟨x, xs, rfl, r1.mono p2 e2, r2⟩, by simp [l2], q2⟩) (tSN s1 (hs.mono p1 e1) q1)⟩
/-- a class whose errors bear a text -/
structure ExT (K : PySem.W.Frag) (C : Addr) : Prop where
  q : PySem.W.excIn K C [.type "ValueError", .type "Exception", .type "BaseException", .type "object"] "ValueError.__new__" = true
  kC : PySem.W.keepIn K (.ref C) = true
  exC : PySem.W.subIn K (.ref C) (.type "BaseException") = some true
  tyC : PySem.W.typeIn K (.ref C) = some (.type "type")
section
variable {X : Cx} {Z : Zy} {W : WX} {p p2 pos pos2 : Pos} {x m : Str} {c j : Nat} {e e2 : Expr} {f g : DE}
theorem ds_raiseT (hc : X.calm = true) (tk : L2N.Takes X W) (T : ExT X.K (Z.cl c)) (hm : X.mg x = some (.ref (Z.cl c))) (hg : Gl X x := by rfl) (hdb : (x == ("__debug__" : Str)) = false := by decide) :
    PS X (.Raise (some (.Call (.Name x p) [.Constant (.str m) j p2] [] pos)) none pos2) (tS Z W (sRaiseT c)) :=
  (L2N.ps_raise hc tk (L2N.pmk_own PySem.F.excBase_ValueError T.q hm T.kC (raises_own T.exC T.tyC) hg hdb)).weak fun D σ H ⟨A, F, sl, ce, so, hs, p⟩ => p A F H σ none (List.prefix_refl _) (Same.refl _) so hs (.inl ⟨rfl, rfl⟩)
theorem upd_swap {H : Hp} {a dx : Addr} {o o1 o2 o3 : HO} (h1 : H a = none) (h2 : dx ≠ a) : upd (del (upd (upd (upd H a o1) dx o2) a o) a) dx o3 = upd H dx o3 := by
  funext b
  unfold upd del
  by_cases hb : b = dx
  · simp [hb]
  · by_cases ha : b = a
    · simp [hb, ha, h1, Ne.symm h2]
    · simp [hb, ha]
theorem ds_raise1 {k : Nat} {fI : Addr} {fd : FuncData} {ps : List Str} {nm : Str} (hK : X.K = Z.K) (hc : X.calm = true) (tk : L2N.Takes X W) (T : OexC X.K (Z.cl c)) (iC : PySem.W.findIn X.K (.ref (Z.cl c)) "__init__" = some (some (.ref fI))) (tI : PySem.W.typeIn X.K (.ref fI) = some (.type "function"))
    (nf : PySem.W.findIn X.K (.ref (Z.cl c)) nm = some none) (hfl : Z.fl c = [nm]) (F1 : FnOk X.prog X.w X.K X.mg X.base CX0 k fI fd ps (spI1 X.K nm)) (hr : Room (k + 1) X.A) (hb : Binds X.K fd ps []) (hm : X.mg x = some (.ref (Z.cl c))) (ha : PA X [e] (tArgs Z W [f]))
    (hg : Gl X x := by rfl) (hdb : (x == ("__debug__" : Str)) = false := by decide) (he : starEach [e] X.env = (false, eval e X.env) :: starEach [] X.env := by rfl) (hpl : (backTo pos (starEach [] X.env)).any (·.1) = false := by rfl) :
    PS X (.Raise (some (.Call (.Name x p) [e] [] pos)) none pos2) (tS Z W (sRaise c [f])) :=
  (L2N.ps_raise hc tk (L2N.pmk_oex T iC tI F1 hr hb .nil pass0 hg hm ha hdb he hpl)).weak fun D σ H ⟨A, F, sl, ce, so, hs, p⟩ => by
    refine tArgs_imp (fun xs H1 ⟨A1, F1, ce1, vs, p1, e1, s1, r1, l1, q1⟩ => ?_) (tSN so hs p)
    have hl := r1.length
    have hx : xs.length = 1 := by rw [← hl, l1]; rfl
    refine ⟨by omega, fun a ha => ?_⟩
    obtain ⟨y, rfl⟩ := List.length_eq_one_iff.mp hx
    cases e2 : ims vs with
    | none => rw [e2] at q1; exact q1.elim
    | some ds =>
      rw [e2] at q1
      have rd := ims_rd r1 e2
      refine ⟨a, Z.cl c, y, rfl, T, nf, upd_same, fun dx h1 h2 => ⟨rfl, dx, [(nm, y)], upd_same, ?_, ?_, ?_⟩⟩
      · rw [upd_ne h2, upd_same]
      · rw [upd_ne h2] at h1
        exact h1
      · rw [upd_ne h2] at h1
        rw [upd_swap ha h2]
        refine q1 A1 (upd F1 dx (.xd [(nm, y)])) _ σ (some dx) (List.prefix_refl _) (same_up (s1.fnone h1)) (s1.new h1) ((hs.mono p1 e1).mono (List.prefix_refl _) (same_up (s1.fnone h1))) (.inr ⟨dx, _, rfl, upd_same, by rw [hfl]; rfl, ?_⟩)
        exact (rd.mono (same_up (s1.fnone h1))).reverse
theorem upd_swap2 {H : Hp} {a dx : Addr} {o o1 o2 o3 o4 : HO} (h1 : H a = none) (h2 : dx ≠ a) : upd (del (upd (upd (upd (upd H a o1) dx o2) a o) dx o3) a) dx o4 = upd H dx o4 := by
  funext b
  unfold upd del
  by_cases hb : b = dx
  · simp [hb]
  · by_cases ha : b = a
    · simp [hb, ha, h1, Ne.symm h2]
    · simp [hb, ha]
theorem ds_raise2 {k : Nat} {fI : Addr} {fd : FuncData} {ps : List Str} {nm nm2 : Str} (hK : X.K = Z.K) (hc : X.calm = true) (tk : L2N.Takes X W) (T : OexC X.K (Z.cl c)) (iC : PySem.W.findIn X.K (.ref (Z.cl c)) "__init__" = some (some (.ref fI))) (tI : PySem.W.typeIn X.K (.ref fI) = some (.type "function"))
    (nf : PySem.W.findIn X.K (.ref (Z.cl c)) nm = some none) (ng : PySem.W.findIn X.K (.ref (Z.cl c)) nm2 = some none) (hfl : Z.fl c = [nm2, nm]) (F1 : FnOk X.prog X.w X.K X.mg X.base CX0 k fI fd ps (spI2 X.K nm nm2)) (hr : Room (k + 1) X.A) (hb : Binds X.K fd ps []) (hm : X.mg x = some (.ref (Z.cl c))) (ha : PA X [e, e2] (tArgs Z W [f, g]))
    (hg : Gl X x := by rfl) (hdb : (x == ("__debug__" : Str)) = false := by decide) (he : starEach [e, e2] X.env = (false, eval e X.env) :: starEach [e2] X.env := by rfl) (hpl : (backTo pos (starEach [e2] X.env)).any (·.1) = false := by rfl) :
    PS X (.Raise (some (.Call (.Name x p) [e, e2] [] pos)) none pos2) (tS Z W (sRaise c [f, g])) :=
  (L2N.ps_raise hc tk (L2N.pmk_oex T iC tI F1 hr hb .nil pass0 hg hm ha hdb he hpl)).weak fun D σ H ⟨A, F, sl, ce, so, hs, p⟩ => by
    refine tArgs_imp (fun xs H1 ⟨A1, F1, ce1, vs, p1, e1, s1, r1, l1, q1⟩ => ?_) (tSN so hs p)
    have hl := r1.length
    have hx : xs.length = 2 := by rw [← hl, l1]; rfl
    refine ⟨by omega, fun a ha => ?_⟩
    obtain ⟨y, y2, rfl⟩ : ∃ y y2, xs = [y, y2] := by
      rcases xs with _ | ⟨y, _ | ⟨y2, _ | ⟨z, zs⟩⟩⟩ <;> first | exact ⟨_, _, rfl⟩ | (simp at hx)
    cases e2 : ims vs with
    | none => rw [e2] at q1; exact q1.elim
    | some ds =>
      rw [e2] at q1
      have rd := ims_rd r1 e2
      refine ⟨a, Z.cl c, y, y2, rfl, T, nf, ng, upd_same, fun dx h1 h2 => ⟨rfl, dx, [(nm2, y2), (nm, y)], ?_, upd_same, ?_, ?_⟩⟩
      · rw [upd_ne (Ne.symm h2), upd_same]
      · rw [upd_ne h2] at h1
        exact h1
      · rw [upd_ne h2] at h1
        rw [upd_swap2 ha h2]
        refine q1 A1 (upd F1 dx (.xd [(nm2, y2), (nm, y)])) _ σ (some dx) (List.prefix_refl _) (same_up (s1.fnone h1)) (s1.new h1) ((hs.mono p1 e1).mono (List.prefix_refl _) (same_up (s1.fnone h1))) (.inr ⟨dx, _, rfl, upd_same, by rw [hfl]; rfl, ?_⟩)
        exact (rd.mono (same_up (s1.fnone h1))).reverse
end
/-! ### try: body, except x as n: suite -/
/-- a slot that holds the exception in hand is forgotten -/
def clean (sl : Sl) : Sl := sl.map fun o => match o with
  | some (.exn _ _) => none
  | o => o
abbrev Zy.hdl (Z : Zy) (a : Addr) (c : Nat) (d : Option Addr) : Zy := ⟨Z.toZx, some (a, c, d)⟩
def setO {α : Type} (i : Option Nat) (l : List (Option α)) : List (Option α) := match i with
  | some i => l.set i none
  | none => l
/-- behind a suite -/
def offD (i : Option Nat) : Out → Out
  | .nx sl ce => .nx (clean (setO i sl)) ce
  | .bk sl ce => .bk (clean (setO i sl)) ce
  | .ct sl ce => .ct (clean (setO i sl)) ce
  | .rt v ce => if plainV v then .rt v ce else .stuck
  | _ => .stuck
/-- nE classes of errors; sub: which of them the clause names -/
def sTry (nE : Nat) (sub : Nat → Bool) (i : Option Nat) (fb fs : DSt) : DSt := fun sl ce => match fb sl ce with
  | .exc c ds sl1 ce1 => if c < nE then (if sub c then offD i (fs (match i with
    | some i => sl1.set i (some (.exn c ds))
    | none => sl1) ce1) else .exc c ds sl1 ce1) else .stuck
  | o => o
section
variable {Z : Zy} {A A' : List Addr} {F F' H : Hp} {ce : List Cell} {sl : Sl} {σ : L2.St} {W : WX}
theorem SL.off {a c d} (hs : SL (Z.hdl a c d) A F sl σ) (hz : Z.hd = none) : SL Z A F (clean sl) σ := by
  refine ⟨by unfold clean; rw [List.length_map]; exact hs.len, fun i v q => ?_⟩
  unfold clean at q
  rw [List.getElem?_map] at q
  cases e : sl[i]? with
  | none => rw [e] at q; cases q
  | some o =>
    rw [e] at q
    cases o with
    | none => cases q
    | some u =>
      obtain ⟨x, h1, h2⟩ := hs.is i u e
      cases u with
      | im y => cases q; exact ⟨x, h1, h2⟩
      | cell k => cases q; exact ⟨x, h1, h2⟩
      | exn c ds => cases q
theorem SL.on {a c d} (hs : SL Z A F sl σ) (hz : Z.hd = none) : SL (Z.hdl a c d) A F sl σ := by
  refine ⟨hs.len, fun i v q => ?_⟩
  obtain ⟨x, h1, h2⟩ := hs.is i v q
  refine ⟨x, h1, ?_⟩
  cases v with
  | im y => exact h2
  | cell k => exact h2
  | exn c ds => obtain ⟨a, dx, h, _⟩ := h2; rw [hz] at h; cases h
end
section
variable {X : Cx} {Z : Zy} {Wout : WX} {x n : Str} {cv : Value} {i nE : Nat} {sub : Nat → Bool} {body suite : List Stmt} {b₀ : Stmt} {np pos pos' : Pos} {fb fs : DSt}
theorem suite_ok {D D' : Ends} {a : Addr} {c : Nat} {d : Option Addr} {io : Option Nat} {A F} {o : Out} (hz : Z.hd = none) (p : PostS Z A F Wout D (offD io o))
    (h1 : ∀ σ H, D.nx (setO io σ) H → D'.nx σ H) (h2 : ∀ σ H, D.bk (setO io σ) H → D'.bk σ H) (h3 : ∀ σ H, D.ct (setO io σ) H → D'.ct σ H) (h4 : D'.rt = D.rt) : PostS (Z.hdl a c d) A F WF D' o := by
  have key : ∀ {A' F'} {sl : Sl} {σ : L2.St}, SL (Z.hdl a c d) A' F' sl σ → SL Z A' F' (clean (setO io sl)) (setO io σ) := by
    intro A' F' sl σ hs
    cases io with
    | none => exact hs.off hz
    | some i => exact (SL.gone hs).off hz
  cases o with
  | nx sl ce => exact fun A' F' H' σ' pA eF so hs => h1 _ _ (p A' F' H' _ pA eF so (key hs))
  | bk sl ce => exact fun A' F' H' σ' pA eF so hs => h2 _ _ (p A' F' H' _ pA eF so (key hs))
  | ct sl ce => exact fun A' F' H' σ' pA eF so hs => h3 _ _ (p A' F' H' _ pA eF so (key hs))
  | rt v ce =>
    simp only [offD] at p
    by_cases hp : plainV v = true
    · rw [if_pos hp] at p
      intro A' F' H' x pA eF so r
      rw [h4]
      refine p A' F' H' x pA eF so ?_
      cases v with
      | im y => exact r
      | cell k => exact r
      | exn c ds => cases hp
    · rw [if_neg hp] at p
      exact p.elim
  | exc c ds sl ce => exact p.elim
  | stuck => exact p.elim
theorem ds_try_as (hs : X.stack = X.env :: X.outer) (hf : X.env.frame = some X.env.locals) (hN : X.N.Nodup) (hz : Z.hd = none) (hc : Names X x cv) (tk : L2N.Takes X Wout) (hexm : ∀ c, c < nE → PySem.W.exmOne X.K (.ref (Z.cl c)) cv = some (sub c))
    (hb : ∀ (W : WX) (pn : List (Addr × Obj)) (xe : Value → Shared → Prop), L2N.Takes (X.tr pn xe) W → PassesOwn (model X.prog X.w) X.A X.env xe → PSs (X.tr pn xe) body (tS Z W fb))
    (hsu : ∀ (a : Addr) (oe : Obj) (c : Nat) (d : Option Addr) (pn : List (Addr × Obj)), c < nE → L2N.Zn (.ref (Z.cl c)) d oe → (∃ vs, oe.data = .fields vs) → PSs (X.suite a ((a, oe) :: pn)) (b₀ :: suite) (tS (Z.hdl a c d) WF fs))
    (hi : X.N[i]? = some n := by rfl) (hln : X.env.kindOf n = some .local := by rfl) :
    PS X (.Try body [.ExceptHandler (some (.Name x np)) (some n) (b₀ :: suite) pos'] [] [] pos) (tS Z Wout (sTry nE sub (some i) fb fs)) := by
  refine (L2N.ps_try_as (ts := fun a cls d => fun D σ H => ∃ c, c < nE ∧ cls = .ref (Z.cl c) ∧ tS (Z.hdl a c d) WF fs D σ H) hs hf hN hi hln hc tk hb fun a oe cls d pn hzn hfl => ⟨fun pins s σ H D I h => ?_⟩).weak fun D σ H ⟨A, F, sl, ce, so, hs, p⟩ => ⟨A, F, sl, ce, so, hs, ?_⟩
  · obtain ⟨c, hc, rfl, h⟩ := h
    exact (hsu a oe c d pn hc hzn hfl).run pins s σ H D I h
  · unfold sTry at p
    cases e : fb sl ce with
    | nx sl ce => rw [e] at p; exact p
    | bk sl ce => rw [e] at p; exact p
    | ct sl ce => rw [e] at p; exact p
    | rt v ce => rw [e] at p; exact p
    | stuck => rw [e] at p; exact p
    | exc c ds sl1 ce1 =>
      rw [e] at p
      intro A1 F1 H1 σ1 dx pA eF so1 hs1 xo
      dsimp only at p
      by_cases hcn : c < nE
      · rw [if_pos hcn] at p
        refine ⟨sub c, hexm c hcn, fun hb a ha => ?_, fun hb => ?_⟩
        · rw [if_pos hb] at p
          refine ⟨c, hcn, rfl, A1, F1, _, ce1, so1, ((hs1.on (a := a) (c := c) (d := dx) hz).set (v := .exn c ds) (x := .ref a) ⟨a, dx, rfl, rfl, xo⟩), ?_⟩
          exact suite_ok hz (p.mono pA eF) (fun _ _ h => h) (fun _ _ h => h) (fun _ _ h => h) rfl
        · rw [hb] at p
          exact p A1 F1 H1 σ1 dx pA eF so1 hs1 xo
      · rw [if_neg hcn] at p
        exact p.elim
end
/-! ### in a suite: the error's field, its class -/
def kXf (cs : List Nat) (i : Nat) (v : Val) : DE := fun _ ce => match v with
  | .exn c ds => if c ∈ cs then (match ds[i]? with
    | some y => .ok (.im y) ce
    | none => .stuck) else .stuck
  | _ => .stuck
def kIsE (tst : Nat → Option Bool) (v : Val) : DE := fun _ ce => match v with
  | .exn c _ => match tst c with
    | some b => .ok (.im (.bl b)) ce
    | none => .stuck
  | _ => .stuck
section
variable {X : Cx} {Z : Zy} {W : WX} {a : Addr} {oe : Obj} {c i : Nat} {d : Option Addr} {pn : List (Addr × Obj)} {e : Expr} {f : DE} {pos p : Pos} {nm : Str} {cs : List Nat}
theorem de_xf (hT : ∀ c ∈ cs, XfC X.K (Z.cl c) ∧ PySem.W.findIn X.K (.ref (Z.cl c)) nm = some none ∧ (Z.fl c)[i]? = some nm ∧ (Z.fl c).Nodup) (hz : L2N.Zn (.ref (Z.cl c)) d oe) (hf : ∃ vs, oe.data = .fields vs) (he : PE (X.suite a ((a, oe) :: pn)) e (tE (Z.hdl a c d) W f)) (hb : attributeBase e nm X.env (eval e X.env) = eval e X.env := by rfl) :
    PE (X.suite a ((a, oe) :: pn)) (.Attribute e nm pos) (tE (Z.hdl a c d) W (eUn (kXf cs i) f)) := by
  by_cases hc : c ∈ cs
  · obtain ⟨T, no, hi, nd⟩ := hT c hc
    refine (pe_xf T no hz.zc hf he hb).weak fun σ H Q q => tE_imp (fun x H1 ⟨A, F, sl, ce, v, so, hs, r, p⟩ => ?_) (tE1 q)
    unfold kXf at p
    split at p
    · rename_i c' ds
      obtain ⟨a', dx, h1, rfl, xo⟩ := r
      cases h1
      rw [if_pos hc] at p
      split at p
      · rename_i y hy
        rcases xo with ⟨rfl, _⟩ | ⟨dd, fs, rfl, h2, h3, h4⟩
        · simp at hy
        · obtain ⟨u, h5, h6⟩ := lookup_ix (n := (Z.fl c).length) nd (by rw [h3, List.take_length]) h4 hi hy
          exact ⟨rfl, rfl, dd, fs, u, rfl, so.sub _ _ h2, h5, fin_flat so p h6⟩
      · exact p.elim
    · exact p.elim
  · refine ⟨fun pins s σ H Q I q => attr_of hb (thn (he.run pins s σ H (fun _ _ => False) I (tE_imp (fun x H1 ⟨A, F, sl, ce, v, so, hs, r, p⟩ => ?_) (tE1 q))) fun u s1 ⟨x, H1, I1, rx, z⟩ => z.elim)⟩
    unfold kXf at p
    split at p
    · rename_i c' ds
      obtain ⟨a', dx, h1, rfl, xo⟩ := r
      cases h1
      rw [if_neg hc] at p
      exact p.elim
    · exact p.elim
/-- isinstance(e, T), e the exception in hand -/
theorem call_isX {C : Addr} (hga : PySem.W.findIn X.K (.ref C) "__getattribute__" = some (some (.builtin "BaseException.__getattribute__"))) (hgt : PySem.W.findIn X.K (.ref C) "__getattr__" = some none) (hsub : PySem.W.subIn X.K (.ref C) (.type "BaseException") = some true) (hd : PySem.W.hasDictIn X.K C = true)
    (ha : PySem.W.findIn X.K (.ref C) "__class__" = some (some (.builtin "object.__class__"))) (hn : PySem.W.specialIn X.K (.builtin "object.__class__") "__get__" = some (some (.builtin "getset_descriptor.__get__")))
    (htk : PySem.W.takesIn X.K (.builtin "object.__class__") = some true) (hm : PySem.W.mroIn X.K C (.type "object") = some true) (hz : L2N.Zn (.ref C) d oe) (hf : ∃ vs, oe.data = .fields vs) :
    CallR (X.suite a ((a, oe) :: pn)) (.builtin "isinstance") (fun xs H Q => ∃ (c : V) (cv : Value) (b : Bool), xs = [.ref a, c] ∧ (∀ u, RelV c u → u = cv) ∧ PySem.W.kitOne X.K (.ref C) cv = some b ∧ (d = none ∨ ∃ dd fs, d = some dd ∧ H dd = some (.xd fs)) ∧ Q (.bl b) H) := by
  intro pins s σ H xs us Q I r h
  obtain ⟨c, cv, b, rfl, hcv, e, hdd, q⟩ := h
  cases r with
  | cons rx rr =>
    cases rr with
    | cons rt rr =>
      cases rr
      cases rx
      have ec := hcv _ rt
      subst ec
      obtain ⟨hget, _⟩ := I.pin (a, oe) (List.mem_append.mpr (.inl List.mem_cons_self))
      obtain ⟨vs, hv⟩ := hf
      have hcl : (PySem.W.clsIn X.K C).isSome = true := by
        obtain ⟨cd, hc, _⟩ := PySem.W.any_some hd
        rw [hc]
        rfl
      have key : ∀ od, PySem.W.InstAt s.heap a oe C od → wpAny (model X.prog X.w) (X.suite a ((a, oe) :: pn)).A (call (.builtin "isinstance") [.ref a, _]) (EP (X.suite a ((a, oe) :: pn)) pins σ Q) (fun _ _ => False) s := fun od J =>
        PySem.W.kia_one (PySem.W.kitx_exc (od := od) hcl hga hgt hsub ha hn htk hm) I.kIn J e (fun z => nomatch z) fun tk => ⟨.bl b, H, I.kept (t' := tk) fun _ _ z => z, rfl, q⟩
      rcases hdd with rfl | ⟨dd, fs, rfl, hH⟩
      · refine key none ?_
        refine ⟨hget, hz.1, by unfold PySem.W.notCls; rw [hv] <;> rfl, by rw [hz.2.1]; trivial⟩
      · obtain ⟨mA, hns, hr⟩ : ObjOk X.prog X.w H s.heap dd (.xd fs) := I.hok dd _ hH
        obtain ⟨od, ho, hl⟩ := lookIn_ns hns
        exact key (some od) ⟨hget, hz.1, by unfold PySem.W.notCls; rw [hv] <;> rfl, by rw [hz.2.1]; exact ho⟩
end
end ZZ

set_option Elab.async false
set_option linter.all false
set_option maxRecDepth 100000
/-! Z9: the rules in the forms that the printed proofs use. -/
namespace ZZ
open PySem PySem.Spec L2
/-- a def of the text that keeps its promise -/
structure DOk (P : Program) (w : World) (K : PySem.W.Frag) (mg : Str → Option Value) (base : Heap) (k : Nat) (a : Addr) (ps : List Str) (sp : Sp) : Prop where
  ex : ∃ fd, FnOk P w K mg base (L2N.CX P w) k a fd ps sp ∧ Binds K fd ps []
  kp : PySem.W.keepIn K (.ref a) = true
/-- .. called where an exception is handled -/
structure DOkH (P : Program) (w : World) (K : PySem.W.Frag) (mg : Str → Option Value) (base : Heap) (k : Nat) (a : Addr) (ps : List Str) (sp : Sp) : Prop where
  ex : ∃ fd, L2H.FnH P w K mg base (L2N.CX P w) k a fd ps sp ∧ Binds K fd ps []
  kp : PySem.W.keepIn K (.ref a) = true
/-- an exception's __init__ -/
structure IOk (P : Program) (w : World) (K : PySem.W.Frag) (mg : Str → Option Value) (base : Heap) (a : Addr) (ps : List Str) (sp : Sp) : Prop where
  ex : ∃ fd, FnOk P w K mg base CX0 1 a fd ps sp ∧ Binds K fd ps []
section
variable {X : Cx} {Z : Zy} {W : WX} {k n : Nat} {fa : Addr} {ps : List Str} {fh : DF} {x m nm : Str} {p pos pos2 apos : Pos} {e o : Expr} {es : List Expr} {f : DE} {fs : List DE} {c nf : Nat}
theorem de_callD (G : DOk X.prog X.w X.K X.mg X.base k fa ps (spD Z.toZx fh n)) (hr : Room k X.A) (hm : X.mg x = some (.ref fa)) (tw : TW X W) (ha : PA X (e :: es) (tArgs Z W fs))
    (hg : Gl X x := by rfl) (hl : fs.length = n := by rfl) (hdb : (x == ("__debug__" : Str)) = false := by decide) (he : starEach (e :: es) X.env = (false, eval e X.env) :: starEach es X.env := by rfl) (hpl : (backTo pos (starEach es X.env)).any (·.1) = false := by rfl) :
    PE X (.Call (.Name x p) (e :: es) [] pos) (tE Z W (eArgs fs (kCall fh))) := by
  obtain ⟨fd, F, b⟩ := G.ex
  exact de_call F hr hm G.kp b tw ha hg hl hdb he hpl
theorem de_callD0 (G : DOk X.prog X.w X.K X.mg X.base k fa ps (spD Z.toZx fh 0)) (hr : Room k X.A) (hm : X.mg x = some (.ref fa)) (tw : TW X W)
    (hg : Gl X x := by rfl) (hdb : (x == ("__debug__" : Str)) = false := by decide) : PE X (.Call (.Name x p) [] [] pos) (tE Z W (eArgs [] (kCall fh))) := by
  obtain ⟨fd, F, b⟩ := G.ex
  exact de_call0 F hr hm G.kp b tw hg hdb
theorem de_methD {pl : Sem Bool} (he : PE X o (tE Z W f)) (hc : ClsOk X.K Z.toZx c) (hmt : Meth X.K (Z.cl c) m fa) (hno : m ∉ Z.fl c) (G : DOk X.prog X.w X.K X.mg X.base k fa ps (spD Z.toZx fh (n + 1))) (hr : Room k X.A) (tw : TW X W) (ha : PA X (e :: es) (tArgs Z W fs))
    (hl : fs.length = n := by rfl) (hst : starEach (e :: es) X.env = (false, eval e X.env) :: starEach es X.env := by rfl) (hpl : (backTo pos (starEach es X.env)).any (·.1) = false := by rfl)
    (ht : eval (.Call (.Attribute o m apos) (e :: es) [] pos) X.env = (do
      let ov ← eval o X.env
      standAt apos.atName
      let (f, first) ← holding [ov] (getMethod ov m pl)
      callWith pos f first (backTo pos (starEach (e :: es) X.env)) (backToKw pos (keywordEach [] X.env))) := by rfl) :
    PE X (.Call (.Attribute o m apos) (e :: es) [] pos) (tE Z W (eMth (isC c) (kMeth fh) f fs)) := by
  obtain ⟨fd, F, b⟩ := G.ex
  exact de_meth (pl := pl) he hc hmt hno F hr b tw ha hl hst hpl ht
theorem de_methD0 {pl : Sem Bool} (he : PE X o (tE Z W f)) (hc : ClsOk X.K Z.toZx c) (hmt : Meth X.K (Z.cl c) m fa) (hno : m ∉ Z.fl c) (G : DOk X.prog X.w X.K X.mg X.base k fa ps (spD Z.toZx fh 1)) (hr : Room k X.A) (tw : TW X W)
    (ht : eval (.Call (.Attribute o m apos) [] [] pos) X.env = (do
      let ov ← eval o X.env
      standAt apos.atName
      let (f, first) ← holding [ov] (getMethod ov m pl)
      callWith pos f first (backTo pos (starEach [] X.env)) (backToKw pos (keywordEach [] X.env))) := by rfl) :
    PE X (.Call (.Attribute o m apos) [] [] pos) (tE Z W (eMth (isC c) (kMeth fh) f [])) := by
  obtain ⟨fd, F, b⟩ := G.ex
  exact de_meth0 (pl := pl) he hc hmt hno F hr b tw ht
theorem de_makeD (M : Mk X.K (Z.cl c) fa) (G : DOk X.prog X.w X.K X.mg X.base k fa ps (spD Z.toZx fh (n + 1))) (hr : Room (k + 1) X.A) (hm : X.mg x = some (.ref (Z.cl c))) (tw : TW X W) (ha : PA X (e :: es) (tArgs Z W fs)) (hfl : (Z.fl c).length = nf)
    (hg : Gl X x := by rfl) (hl : fs.length = n := by rfl) (hdb : (x == ("__debug__" : Str)) = false := by decide) (he : starEach (e :: es) X.env = (false, eval e X.env) :: starEach es X.env := by rfl) (hpl : (backTo pos (starEach es X.env)).any (·.1) = false := by rfl) :
    PE X (.Call (.Name x p) (e :: es) [] pos) (tE Z W (eArgs fs (kMake c nf fh))) := by
  obtain ⟨fd, F, b⟩ := G.ex
  exact de_make M F hr hm b tw ha hfl hg hl hdb he hpl
theorem de_propD {pa : Addr} (he : PE X e (tE Z W f)) (hc : ClsOk X.K Z.toZx c) (hp : PropOf X.K (Z.cl c) nm pa fa) (G : DOk X.prog X.w X.K X.mg X.base k fa ps (spD Z.toZx fh 1)) (hr : Room (k + 1) X.A)
    (hab : attributeBase e nm X.env (eval e X.env) = eval e X.env := by rfl) : PE X (.Attribute e nm pos) (tE Z W (eUn (kProp c fh) f)) := by
  obtain ⟨fd, F, b⟩ := G.ex
  exact de_prop he hc hp F hr b hab
/-- an error's class with one field -/
structure Ex1 (P : Program) (w : World) (K : PySem.W.Frag) (mg : Str → Option Value) (base : Heap) (Z : Zx) (c : Nat) (nm : Str) (fI : Addr) (ps : List Str) : Prop where
  o : OexC K (Z.cl c)
  i : PySem.W.findIn K (.ref (Z.cl c)) "__init__" = some (some (.ref fI))
  t : PySem.W.typeIn K (.ref fI) = some (.type "function")
  n : PySem.W.findIn K (.ref (Z.cl c)) nm = some none
  f : Z.fl c = [nm]
  g : IOk P w K mg base fI ps (spI1 K nm)
theorem ds_raise1D {fI : Addr} (hK : X.K = Z.K) (hc : X.calm = true) (tk : L2N.Takes X W) (E1 : Ex1 X.prog X.w X.K X.mg X.base Z.toZx c nm fI ps) (hr : Room 2 X.A) (hm : X.mg x = some (.ref (Z.cl c))) (ha : PA X [e] (tArgs Z W [f]))
    (hg : Gl X x := by rfl) (hdb : (x == ("__debug__" : Str)) = false := by decide) (he : starEach [e] X.env = (false, eval e X.env) :: starEach [] X.env := by rfl) (hpl : (backTo pos (starEach [] X.env)).any (·.1) = false := by rfl) :
    PS X (.Raise (some (.Call (.Name x p) [e] [] pos)) none pos2) (tS Z W (sRaise c [f])) := by
  obtain ⟨fd, F, b⟩ := E1.g.ex
  exact ds_raise1 hK hc tk E1.o E1.i E1.t E1.n E1.f F hr b hm ha hg hdb he hpl
end
/-! ### further operators -/
def kNeg (v : Val) : DE := fun _ ce => match v with
  | .im (.int i) => .ok (.im (.int (-i))) ce
  | _ => .stuck
def kCount (v : Val) (vs : List Val) : DE := fun _ ce => match v, vs with
  | .im (.str a), [.im (.str b)] => .ok (.im (.int (Txt.count a b))) ce
  | _, _ => .stuck
def asStrs : List D → Option (List Str)
  | [] => some []
  | .str s :: ds => (asStrs ds).map (s :: ·)
  | _ :: _ => none
def kRevV (v : Val) : DE := fun _ ce => match asL ce v with
  | some ds => .ok (.im (.lst ds.reverse)) ce
  | none => .stuck
section
variable {X : Cx} {Z : Zy} {W : WX} {e o i : Expr} {f g h : DE} {pos apos cpos p1 p2 p3 : Pos}
theorem de_neg (he : PE X e (tE Z W f)) : PE X (.UnaryOp .USub e pos) (tE Z W (eUn kNeg f)) := (pe_un un_neg he).weak fun σ H Q q => tE_imp (fun x H1 ⟨A, F, sl, ce, v, so, hs, r, p⟩ => by
  unfold kNeg at p
  split at p
  · exact ⟨_, rep_int r, fin_flat so p repI⟩
  · exact p.elim) (tE1 q)
theorem de_count (hK : X.K = Z.K) (ho : PE X o (tE Z W f)) (ha : PE X e (tE Z W g))
    (hb : attributeBase o "count" X.env (eval o X.env) = eval o X.env := by rfl) (hl : (apos.endLine == cpos.line) = true := by rfl) (hs : starEach [e] X.env = (false, eval e X.env) :: starEach [] X.env := by rfl)
    (hfew : ((backTo cpos (starEach [e] X.env)).all (fun x => !x.1) && (backToKw cpos (keywordEach [] X.env)).all (fun x => x.1.isSome)
      && decide ([e].length + ([] : List Keyword).length + (if ([] : List Keyword).isEmpty then 0 else 1) < 30)) = true := by rfl) :
    PE X (.Call (.Attribute o "count" apos) [e] [] cpos) (tE Z W (eMth tyS kCount f [g])) :=
  de_bm PySem.F.plainAttrs_str PySem.F.slot_str_count PySem.F.type_str_count mt_count ⟨tyS_ok, fun A F sl ce v x vs xs H σ Q so hs rv rs p => by
    unfold kCount at p
    split at p
    · obtain ⟨y, rfl, ry⟩ := vreps1 rs
      rw [rep_str rv, rep_str ry]
      exact ⟨_, _, rfl, rfl, fin_flat so p repI⟩
    · exact p.elim⟩ ho (da_cons ha da_nil hs) hb hl hs rfl hfew
theorem de_revL {k : Nat} {pos4 : Pos} (hK : X.K = Z.K) (he : PE X e (tE Z W f)) : PE X (.Subscript e (.Slice none none (some (.UnaryOp .USub (.Constant (.int 1) k p1) p2)) p3) pos4) (tE Z W (eUn kRevV f)) := (pe_revL he).weak fun σ H Q q => tE_imp (fun x H1 ⟨A, F, sl, ce, v, so, hs, r, p⟩ => by
  unfold kRevV at p
  split at p
  · rename_i ds e1
    obtain ⟨l, ws, rfl, h1, h2⟩ := asL_rd so r e1
    exact ⟨l, ws, rfl, SqL.of h1, fun q hq => fin_newL so p h2.reverse hq⟩
  · exact p.elim) (tE1 q)
end
/-! ### an own class in isinstance, in a suite -/
structure XiC (K : PySem.W.Frag) (C : Addr) : Prop where
  hga : PySem.W.findIn K (.ref C) "__getattribute__" = some (some (.builtin "BaseException.__getattribute__"))
  hgt : PySem.W.findIn K (.ref C) "__getattr__" = some none
  hsub : PySem.W.subIn K (.ref C) (.type "BaseException") = some true
  hd : PySem.W.hasDictIn K C = true
  ha : PySem.W.findIn K (.ref C) "__class__" = some (some (.builtin "object.__class__"))
  hn : PySem.W.specialIn K (.builtin "object.__class__") "__get__" = some (some (.builtin "getset_descriptor.__get__"))
  htk : PySem.W.takesIn K (.builtin "object.__class__") = some true
  hm : PySem.W.mroIn K C (.type "object") = some true
theorem XiC.xf {K : PySem.W.Frag} {C : Addr} (h : XiC K C) : XfC K C := ⟨h.hga, h.hgt, h.hsub, h.hd⟩
section
variable {X : Cx} {Z : Zy} {W : WX} {a : Addr} {oe : Obj} {c : Nat} {d : Option Addr} {pn : List (Addr × Obj)} {e T : Expr} {f : DE} {pos p : Pos} {tst : Nat → Option Bool} {cv : V} {u : Value}
/-- isinstance(e, T) -/
theorem de_isX (xi : XiC X.K (Z.cl c)) (hT : PE (X.suite a ((a, oe) :: pn)) T (tC cv)) (hcv : ∀ u', RelV cv u' → u' = u) (hk : ∀ b, tst c = some b → PySem.W.kitOne X.K (.ref (Z.cl c)) u = some b) (hz : L2N.Zn (.ref (Z.cl c)) d oe) (hf : ∃ vs, oe.data = .fields vs) (he : PE (X.suite a ((a, oe) :: pn)) e (tE (Z.hdl a c d) W f)) (hm : X.mg "isinstance" = none)
    (hg : Gl (X.suite a ((a, oe) :: pn)) "isinstance" := by rfl) (hs : starEach [e, T] X.env = (false, eval e X.env) :: starEach [T] X.env := by rfl) (hs2 : starEach [T] X.env = (false, eval T X.env) :: starEach [] X.env := by rfl) (hpl : (backTo pos (starEach [T] X.env)).any (·.1) = false := by rfl) :
    PE (X.suite a ((a, oe) :: pn)) (.Call (.Name "isinstance" p) [e, T] [] pos) (tE (Z.hdl a c d) W (eUn (kIsE tst) f)) :=
  (pe_callB (call_isX xi.hga xi.hgt xi.hsub xi.hd xi.ha xi.hn xi.htk xi.hm hz hf) hg hm (by decide +kernel) (pa_cons he (pa_cons hT pa_nil hs2) hs) (by decide) (by decide) hs hpl).weak fun σ H Q q => tE_imp (fun x H1 ⟨A, F, sl, ce, v, so, hs, r, p⟩ => by
    unfold kIsE at p
    split at p
    · rename_i c' ds
      obtain ⟨a', dx, h1, rfl, xo⟩ := r
      cases h1
      split at p
      · rename_i b hb
        refine ⟨cv, u, b, rfl, hcv, hk b hb, ?_, fin_flat so p repB⟩
        rcases xo with ⟨_, rfl⟩ | ⟨dd, fs, rfl, h2, _⟩
        · exact .inl rfl
        · exact .inr ⟨dd, fs, rfl, so.sub _ _ h2⟩
      · exact p.elim
    · exact p.elim) (tE1 q)
end
section
variable {X : Cx} {Z : Zy} {Wout : WX} {x : Str} {cv : Value} {nE : Nat} {sub : Nat → Bool} {body suite : List Stmt} {b₀ : Stmt} {np pos pos' : Pos} {fb fs : DSt}
theorem hotC_suite {a : Addr} {oe : Obj} {pn : List (Addr × Obj)} {cls : Value} {d : Option Addr} (hz : L2N.Zn cls d oe) (hf : ∃ vs, oe.data = .fields vs) : L2H.HotC (X.suite a ((a, oe) :: pn)) := by
  obtain ⟨vs, hv⟩ := hf
  exact ⟨(a, oe), ⟨rfl, vs, hv, hz.2.2 vs hv⟩, List.mem_cons_self⟩
end
/-! ### a def called where an exception is handled -/
section
variable {P : Program} {w : World} {K : PySem.W.Frag} {mg : Str → Option Value} {base : Heap}
theorem fnDH {Z : Zx} {x qual : Str} {st : Stmt} {f : Addr} {fd : FuncData} {N ps : List Str} {k nsl n : Nat} {body : DSt} (Fn : Fun K x qual st f fd) (S : FnScope N ps (defScope st)) (hN : N.length = nsl) (hn : ps.length = n)
    (hbody : ∀ (cdv : Value) (A : Around) (outer : List Env) (s : Shared) (H : Hp) (E : XK) (p : Addr × Obj), L2H.Hot1 A p → L2H.RoomH k (A.deeper (PyProof.Rows.envOfC qual (defScope st) s.heap.objs.size f cdv)) →
      PSs (L2H.cxH (L2N.CX P w) P w K mg base N qual (defScope st) f cdv A outer s H E p) (defBody st) (tS Z.z (fun cls d _ H => E cls d H) body)) : L2H.FnH P w K mg base (L2N.CX P w) (k + 1) f fd ps (spD Z (mkD nsl body) n) := by
  subst hN hn
  obtain ⟨oc, od, kV, doc, pm, an, cdv, ct, osl, rfl, lk, hcd⟩ := Fn.ex
  refine L2H.fn_ofH lk hcd S (fun vs H Q E ⟨A, F, ce, ds, so, r, l, p⟩ => by rw [← r.length]; exact l) fun A outer s H vs Q E p hh hr ⟨A0, F0, ce, ds, so, r, l, p⟩ => ⟨_, hbody cdv A outer s H E _ hh hr, A0, F0, _, ce, so, vreps_start r, ?_⟩
  unfold mkD at p
  have hn := so.len
  cases e : body (ds.map some ++ List.replicate (N.length - ds.length) none) ce with
  | nx sl ce' => rw [e] at p; exact fun A' F' H' σ' pA eF so' hs' => fin_ok hn pA eF so' (show VRep Z.z A' F' (.im .non) .non by unfold VRep Rep; rfl) p
  | rt v ce' => rw [e] at p; exact fun A' F' H' x pA eF so' r' => fin_ok hn pA eF so' r' p
  | exc c es sl ce' => rw [e] at p; exact fun A' F' H' σ' dx pA eF so' hs' xo => p A0 F' H' dx (List.prefix_refl _) eF (so'.cut pA hn) xo
  | bk sl ce' => rw [e] at p; exact p.elim
  | ct sl ce' => rw [e] at p; exact p.elim
  | stuck => rw [e] at p; exact p.elim
end
section
variable {X : Cx} {Z : Zy} {W : WX} {k n : Nat} {fa : Addr} {ps : List Str} {fh : DF} {x : Str} {p pos : Pos} {e : Expr} {es : List Expr} {fs : List DE}
theorem de_callHD (G : DOkH X.prog X.w X.K X.mg X.base k fa ps (spD Z.toZx fh n)) (hr : L2H.RoomH k X.A) (hh : L2H.HotC X) (hm : X.mg x = some (.ref fa)) (ha : PA X (e :: es) (tArgs Z WF fs))
    (hg : Gl X x := by rfl) (hl : fs.length = n := by rfl) (hdb : (x == ("__debug__" : Str)) = false := by decide) (he : starEach (e :: es) X.env = (false, eval e X.env) :: starEach es X.env := by rfl) (hpl : (backTo pos (starEach es X.env)).any (·.1) = false := by rfl) :
    PE X (.Call (.Name x p) (e :: es) [] pos) (tE Z WF (eArgs fs (kCall fh))) := by
  obtain ⟨fd, F, b⟩ := G.ex
  exact (L2H.pe_callH F hr hh hg hm G.kp b tw_none ha hdb he hpl).weak fun σ H Q h => tArgs_imp (fun xs H1 ⟨A, F, sl, ce, vs, so, hs, r, l, q⟩ => by
    unfold kCall at q
    by_cases hp : vs.all plainV = true
    · rw [if_pos hp] at q
      exact spD_call (sl := sl) so r (by rw [l, hl]) hp q
    · rw [if_neg hp] at q
      exact q.elim) (tN h)
end
end ZZ

set_option Elab.async false
set_option linter.all false
set_option maxRecDepth 100000
/-! Z10: list(zip(..)) of two lists. -/
namespace L2
open PySem PySem.Spec PyProof.Rows
/-- a zip's records between two turns of a walk that keeps what it gives out -/
def ZHeld (z TI TO i1 i2 a b : Addr) (i : Nat) (H : Hp) (h : Heap) : Prop :=
  IsPair h TI (.ref i1) (.ref i2) ∧ (∃ x y, IsPair h TO x y) ∧ h.IsListIter i1 a i ∧ h.IsListIter i2 b i ∧ (IsZip h z TI TO .none ∨ ∃ T f xs, IsZipHeld h z TI TO T f ∧ H T = some (.tup xs))
section
variable {X : Cx} {pins : List (Addr × Obj)} {σ : L2.St} {H : Hp} {s : Shared} {z TI TO i1 i2 a b q : Addr} {i : Nat} {xs ys : List V} {x y : V} {A A1 : Around} {E : Value → Shared → Prop}
theorem tup_at (I : Inv X pins σ H s) {T : Addr} {vs : List V} (h : H T = some (.tup vs)) : ∃ o, s.heap.get? T = some o := by
  obtain ⟨_, _, _, o, ho, _⟩ := I.hok T _ h
  exact ⟨o, ho⟩
theorem ZHeld.lt (st : ZHeld z TI TO i1 i2 a b i H s.heap) : ∀ c ∈ [z, TI, TO, i1, i2], c < s.heap.objs.size := by
  obtain ⟨hTI, ⟨x0, y0, hTO⟩, ⟨o1, h1, _⟩, ⟨o2, h2, _⟩, hz⟩ := st
  have hzl : z < s.heap.objs.size := by
    rcases hz with hz | ⟨T, f, vs, hz, _⟩
    · exact Heap.lt_size hz
    · exact Heap.lt_size hz
  intro c hc
  have e' : c = z ∨ c = TI ∨ c = TO ∨ c = i1 ∨ c = i2 := by simpa using hc
  rcases e' with q | q | q | q | q
  · rw [q]; exact hzl
  · rw [q]; exact Heap.lt_size hTI
  · rw [q]; exact Heap.lt_size hTO
  · rw [q]; exact Heap.lt_size h1
  · rw [q]; exact Heap.lt_size h2
theorem zh_item (D : ZipApart z TI TO i1 i2 a b) (I : Inv X pins σ H s) (hf : ∀ c ∈ [z, TI, TO, i1, i2], FpOk X pins H c) (st : ZHeld z TI TO i1 i2 a b i H s.heap) (hqx : SqL X.K H a xs) (hqy : SqL X.K H b ys) (hx : xs[i]? = some x) (hy : ys[i]? = some y)
    {Q : Option Value → Shared → Prop} (h : ∀ T h', H T = none → Inv X pins σ (upd H T (.tup [x, y])) { s with heap := h' } → ZHeld z TI TO i1 i2 a b (i + 1) (upd H T (.tup [x, y])) h' → (∀ c ∈ [z, TI, TO, i1, i2], FpOk X pins (upd H T (.tup [x, y])) c) → Q (some (.ref T)) { s with heap := h' }) :
    wpAny (model X.prog X.w) A (pyNext (.ref z)) Q E s := by
  have hlt := st.lt
  obtain ⟨hTI, ⟨x0, y0, hTO⟩, h1, h2, hz⟩ := st
  obtain ⟨its, rv, p, _⟩ := I.list hqx
  obtain ⟨its2, rv2, p2, _⟩ := I.list hqy
  obtain ⟨u, hu, ru⟩ := rv.get hx
  obtain ⟨u2, hu2, ru2⟩ := rv2.get hy
  have fr : H s.heap.objs.size = none := I.hok.fresh (Nat.le_refl _)
  have hf' : ∀ c ∈ [z, TI, TO, i1, i2], FpOk X pins (upd H s.heap.objs.size (.tup [x, y])) c := fun c hc => ⟨by rw [upd_ne (Nat.ne_of_lt (hlt c hc))]; exact (hf c hc).1, (hf c hc).2⟩
  have fin : ∀ h' : Heap, IsPair h' s.heap.objs.size u u2 → (∀ c o, c ∉ [z, TI, TO, i1, i2] → s.heap.get? c = some o → h'.get? c = some o) → Inv X pins σ (upd H s.heap.objs.size (.tup [x, y])) { s with heap := h' } := fun h' hT hk =>
    I.turnedNew (t' := s.toks) (ch := [z, TI, TO, i1, i2]) hk hf (Nat.le_refl _) ⟨by show 2 ≤ sizeLine; decide, [u, u2], .cons ru (.cons ru2 .nil), ⟨_, hT, rfl, _, rfl⟩⟩
  rcases hz with hz | ⟨T, f, vs, hz, hT⟩
  · refine wpAny_pyNext_zip_item D hz hTI hTO h1 h2 p.isList p2.isList (x := u) (y := u2) (by simpa using hu) (by simpa using hu2) fun h' a1 a2 a3 a4 a5 a6 hk => ?_
    refine h _ h' fr (fin h' a5 fun c o hc e => hk c o (fun w => hc (by simp [w])) (fun w => hc (by simp [w])) (fun w => hc (by simp [w])) (fun w => hc (by simp [w])) e) ⟨hk _ _ D.TIz D.TITO D.TIi1 D.TIi2 hTI, ⟨_, _, a2⟩, a3, a4, .inr ⟨s.heap.objs.size, false, [x, y], a1, upd_same⟩⟩ hf'
  · obtain ⟨oT, hoT⟩ := tup_at I hT
    refine wpAny_pyNext_zip_item_held D hz hoT hTI h1 h2 p.isList p2.isList (x := u) (y := u2) (by simpa using hu) (by simpa using hu2) fun h' a1 a3 a4 a5 a6 hk => ?_
    refine h _ h' fr (fin h' a5 fun c o hc e => hk c o (fun w => hc (by simp [w])) (fun w => hc (by simp [w])) (fun w => hc (by simp [w])) e) ⟨hk _ _ D.TIz D.TIi1 D.TIi2 hTI, ⟨_, _, hk _ _ D.TOz D.TOi1 D.TOi2 hTO⟩, a3, a4, .inr ⟨T, true, vs, a1, by rw [upd_ne (ne_of_none hT fr)]; exact hT⟩⟩ hf'
theorem zh_done (hh : A.handled = none) (D : ZipApart z TI TO i1 i2 a b) (I : Inv X pins σ H s) (hf : ∀ c ∈ [z, TI, TO, i1, i2], FpOk X pins H c) (st : ZHeld z TI TO i1 i2 a b i H s.heap) (hqx : SqL X.K H a xs) (hqy : SqL X.K H b ys) (he : xs[i]? = none ∨ ys[i]? = none)
    {Q : Option Value → Shared → Prop} (h : ∀ h', Inv X pins σ H { s with heap := h' } → Q none { s with heap := h' }) : wpAny (model X.prog X.w) A (pyNext (.ref z)) Q E s := by
  obtain ⟨hTI, ⟨x0, y0, hTO⟩, h1, h2, hz⟩ := st
  obtain ⟨its, rv, p, _⟩ := I.list hqx
  obtain ⟨its2, rv2, p2, _⟩ := I.list hqy
  have l1 := rv.length
  have l2 := rv2.length
  have he' : its.toArray[i]? = none ∨ its2.toArray[i]? = none := by
    rcases he with q | q
    · have := List.getElem?_eq_none_iff.mp q
      exact .inl (by simp; omega)
    · have := List.getElem?_eq_none_iff.mp q
      exact .inr (by simp; omega)
  rcases hz with hz | ⟨T, f, vs, hz, hT⟩
  · exact wpAny_pyNext_zip_end hh D hz hTI hTO h1 h2 p.isList p2.isList he' fun h' hk => h h' (I.turnedL (t' := s.toks) (ch := [z, TI, TO, i1, i2]) (fun c o hb q =>
      hk c o (fun q' => hb (by simp [q'])) (fun q' => hb (by simp [q'])) (fun q' => hb (by simp [q'])) (fun q' => hb (by simp [q'])) q) hf)
  · obtain ⟨oT, hoT⟩ := tup_at I hT
    exact wpAny_pyNext_zip_end_held hh D hz hoT hTI h1 h2 p.isList p2.isList he' fun h' hk => h h' (I.turnedL (t' := s.toks) (ch := [z, TI, TO, i1, i2]) (fun c o hb q =>
      hk c o (fun q' => hb (by simp [q'])) (fun q' => hb (by simp [q'])) (fun q' => hb (by simp [q'])) q) hf)
/-- the walk that fills the list at q with the pairs -/
structure ZRun (K : PySem.W.Frag) (a b q : Addr) (xs ys : List V) (P : List V → Hp → Prop) : Prop where
  sq : ∀ acc H, P acc H → SqL K H a xs ∧ SqL K H b ys ∧ H q = some (.lst acc)
  st : ∀ acc H x y T, P acc H → xs[acc.length]? = some x → ys[acc.length]? = some y → H T = none → P (acc ++ [.ref T]) (upd (upd H T (.tup [x, y])) q (.lst (acc ++ [.ref T])))
theorem zh_loop (hh : A1.in1.handled = none) (D : ZipApart z TI TO i1 i2 a b) {P : List V → Hp → Prop} (hP : ZRun X.K a b q xs ys P) {Rs : Result → Shared → Prop} {res : Value}
    (hR : ∀ acc H s, Inv X pins σ H s → P acc H → acc.length = min xs.length ys.length → Rs (.ok (.ret res)) s) :
    ∀ (n : Nat) (acc : List V) (H : Hp) (s : Shared), acc.length + n = min xs.length ys.length → Inv X pins σ H s → P acc H → ZHeld z TI TO i1 i2 a b acc.length H s.heap → (∀ c ∈ [z, TI, TO, i1, i2], FpOk X pins H c) →
      codeAny (model X.prog X.w) A1 (.builtin "list.extend.loop" ⟨[.ref q, .ref z, res], []⟩) Rs s := by
  intro n
  induction n with
  | zero =>
    intro acc H s hn I hp st hf
    obtain ⟨sx, sy, hq⟩ := hP.sq acc H hp
    refine codeAny_builtin PySem.F.entry_extend_loop ?_
    rw [Around.under_plainId PySem.F.plain_extend_loop _]
    show wpAny _ A1.in1 (pyNext (.ref z) >>= _) _ _ s
    refine wpAny_bind (zh_done hh D I hf st sx sy (by
      rcases Nat.le_total xs.length ys.length with h | h
      · exact .inl (List.getElem?_eq_none (by omega))
      · exact .inr (List.getElem?_eq_none (by omega))) fun h' I' => ?_)
    exact wpAny_pure (hR acc H _ I' hp (by omega))
  | succ n ih =>
    intro acc H s hn I hp st hf
    obtain ⟨sx, sy, hq⟩ := hP.sq acc H hp
    obtain ⟨itsx, rvx, px, hzx⟩ := I.list sx
    have ex : xs[acc.length]? = some xs[acc.length] := List.getElem?_eq_getElem (by omega)
    have ey : ys[acc.length]? = some ys[acc.length] := List.getElem?_eq_getElem (by omega)
    have hlen : acc.length + 1 ≤ sizeLine := by
      have := rvx.length
      omega
    refine codeAny_builtin PySem.F.entry_extend_loop ?_
    rw [Around.under_plainId PySem.F.plain_extend_loop _]
    show wpAny _ A1.in1 (pyNext (.ref z) >>= _) _ _ s
    refine wpAny_bind (zh_item D I hf st sx sy ex ey fun T h' hT I' st' hf' => ?_)
    show wpAny _ A1.in1 (updateSeq q (·.push (.ref T)) >>= _) _ _ _
    have hq' : (upd H T (.tup [xs[acc.length], ys[acc.length]])) q = some (.lst acc) := by rw [upd_ne (ne_of_none hq hT)]; exact hq
    obtain ⟨zz, its, k, r2, hl, e⟩ := I'.lstM hq'
    refine wpAny_bind (wpAny_updateSeq e rfl (wpAny_pure ⟨plainId_quiet PySem.F.plain_extend_loop _, ?_⟩) (by rw [List.size_toArray]; omega) (by show (its.toArray.push (.ref T)).size ≤ sizeLine + 1; rw [Array.size_push, List.size_toArray]; omega))
    have rT : Vals [V.ref T] [Value.ref T] := .cons rfl .nil
    have I2 := I'.lset (f := (·.push (.ref T))) (its' := its ++ [.ref T]) (ys := acc ++ [.ref T]) (t' := s.toks) hq' e (by simp) (r2.append rT) (by rw [List.length_append, List.length_singleton]; exact hlen)
    have hne : ∀ c ∈ [z, TI, TO, i1, i2], c ≠ q := fun c hc w => by
      have := (hf' c hc).1
      rw [w, hq'] at this
      cases this
    have oth : ∀ c o, c ∈ [z, TI, TO, i1, i2] → h'.get? c = some o → (h'.update q (Obj.mapSeq (·.push (.ref T)))).get? c = some o := fun c o hc e => (Heap.get?_update_other _ _ (Ne.symm (hne c hc))).trans e
    refine ih (acc ++ [.ref T]) _ _ (by rw [List.length_append, List.length_singleton]; omega) I2 (hP.st acc H _ _ T hp ex ey hT) ?_ fun c hc => ⟨by rw [upd_ne (hne c hc)]; exact (hf' c hc).1, (hf' c hc).2⟩
    obtain ⟨hTI, ⟨x0, y0, hTO⟩, h1, h2, hz⟩ := st'
    rw [List.length_append, List.length_singleton]
    refine ⟨oth _ _ (by simp) hTI, ⟨x0, y0, oth _ _ (by simp) hTO⟩, h1.at fun o e => oth _ o (by simp) e, h2.at fun o e => oth _ o (by simp) e, ?_⟩
    rcases hz with hz | ⟨T', f, vs, hz, hT'⟩
    · exact .inl (oth _ _ (by simp) hz)
    · refine .inr ⟨T', f, vs, oth _ _ (by simp) hz, ?_⟩
      rw [upd_ne (ne_of hT' hq' (fun z => nomatch z))]
      exact hT'
theorem zip_no_len : typeLookup (.type "zip") "__len__" = pure none := am_miss_of_fast (by decide +kernel)
theorem zip_no_hint : typeLookup (.type "zip") "__length_hint__" = pure none := am_miss_of_fast (by decide +kernel)
theorem zh_extend (hh : A1.in1.in1.handled = none) (D : ZipApart z TI TO i1 i2 a b) {P : List V → Hp → Prop} (hP : ZRun X.K a b q xs ys P) {Rs : Result → Shared → Prop}
    (hR : ∀ acc H s, Inv X pins σ H s → P acc H → acc.length = min xs.length ys.length → Rs (.ok (.ret .none)) s) (I : Inv X pins σ H s) (hp : P [] H) (st : ZHeld z TI TO i1 i2 a b 0 H s.heap) (hf : ∀ c ∈ [z, TI, TO, i1, i2], FpOk X pins H c) (hz0 : IsZip s.heap z TI TO .none) :
    wpAny (model X.prog X.w) A1.in1 (Builtin.List.listExtendWith (.ref q) (.ref z) .none)
      (fun fin s' => match fin with | .done f => Rs (.ok f) s' | .again c' => c'.quiet = true ∧ codeAny (model X.prog X.w) A1 c' Rs s') (fun e s' => Rs (.error e) s') s := by
  obtain ⟨sx, sy, hq⟩ := hP.sq [] H hp
  have hne : ∀ c ∈ [z, TI, TO, i1, i2], c ≠ q := fun c hc w => by
    have := (hf c hc).1
    rw [w, hq] at this
    cases this
  have hT : s.TypeIs (.ref z) "zip" := ⟨_, hz0, rfl⟩
  unfold Builtin.List.listExtendWith
  refine wpAny_bind (wpAny_typeOf hT ?_)
  have h1 : Builtin.List.listSameRef (.ref q) (.ref z) = false := by simp [Builtin.List.listSameRef, Ne.symm (hne z (by simp))]
  have h2 : (Value.type "zip" == Value.type "list") = false := by decide
  have h3 : (Value.type "zip" == Value.type "tuple") = false := by decide
  simp only [h1, h2, h3, Bool.or_false, Bool.false_eq_true, if_false]
  refine wpAny_bind (wpAny_pyIter_zip hz0 ?_)
  refine wpAny_bind (wpAny_holding ?_)
  unfold Builtin.List.listLengthHint
  refine wpAny_bind (wpAny_specialOf hT zip_no_len ?_)
  show wpAny _ A1.in1 (specialOf (Value.ref z) (Str.ofString "__length_hint__") >>= _) _ _ _
  refine wpAny_bind (wpAny_specialOf hT zip_no_hint ?_)
  refine wpAny_pure ?_
  show wpAny _ A1.in1 (rule "list.extend.makes-room" >>= fun _ => Builtin.List.listTouch (.ref q) >>= fun _ => again (.builtin "list.extend.loop" ⟨[.ref q, .ref z, .none], []⟩)) _ _ _
  refine wpAny_bind (wpAny_rule ?_)
  obtain ⟨zz, its, k, r3, hl3, e3⟩ := I.lstM hq
  cases r3
  refine wpAny_bind ?_
  show wpAny _ _ (updateSeq q (·.push .none) >>= fun _ => updateSeq q (·.pop)) _ _ _
  refine wpAny_bind (wpAny_updateSeq e3 rfl ?_)
  have I2 := I.lset (f := (·.push Value.none)) (its' := [Value.none]) (ys := [.non]) (t' := s.toks) hq e3 (by simp) (.cons rfl .nil) (by rw [List.length_singleton, sizeLine_eq]; decide)
  obtain ⟨z4, its4, k4, r4, hl4, e4⟩ := I2.lstM upd_same
  obtain ⟨u4, rfl, ru4⟩ := r4.one
  refine wpAny_updateSeq e4 rfl ?_ (by show 1 ≤ sizeLine; rw [sizeLine_eq]; decide) (by show 0 ≤ sizeLine + 1; exact Nat.zero_le _)
  have I3 := I2.lset (f := (·.pop)) (its := [u4]) (its' := []) (ys := []) (t' := s.toks) upd_same e4 (by rfl) .nil (Nat.zero_le _)
  rw [upd_upd] at I3
  have hH : upd H q (.lst []) = H := by
    funext b
    by_cases hb : b = q
    · rw [hb, upd_same, hq]
    · rw [upd_ne hb]
  rw [hH] at I3
  have oth : ∀ c o, c ∈ [z, TI, TO, i1, i2] → s.heap.get? c = some o → ((s.heap.update q (Obj.mapSeq (·.push Value.none))).update q (Obj.mapSeq (·.pop))).get? c = some o := fun c o hc e =>
    (Heap.get?_update_other _ _ (Ne.symm (hne c hc))).trans ((Heap.get?_update_other _ _ (Ne.symm (hne c hc))).trans e)
  refine wpAny_pure ⟨plainId_quiet PySem.F.plain_extend_loop _, zh_loop (A1 := A1) hh D hP hR (min xs.length ys.length) [] H _ (by rw [List.length_nil, Nat.zero_add]) I3 hp ?_ hf⟩
  obtain ⟨hTI, ⟨x0, y0, hTO⟩, h1, h2, hz⟩ := st
  refine ⟨oth _ _ (by simp) hTI, ⟨x0, y0, oth _ _ (by simp) hTO⟩, h1.at fun o e => oth _ o (by simp) e, h2.at fun o e => oth _ o (by simp) e, ?_⟩
  rcases hz with hz | ⟨T', f, vs, hz, hT'⟩
  · exact .inl (oth _ _ (by simp) hz)
  · exact .inr ⟨T', f, vs, oth _ _ (by simp) hz, hT'⟩
/-- list(zip(a, b)): P tells what holds on the way -/
def rZipL (K : PySem.W.Frag) : List V → Hp → VK → Prop := fun vs H Q => ∃ a b xs ys, vs = [.ref a, .ref b] ∧ SqL K H a xs ∧ SqL K H b ys ∧
  ∀ q, H q = none → ∃ P : List V → Hp → Prop, P [] (upd H q (.lst [])) ∧ ZRun K a b q xs ys P ∧ ∀ acc H', P acc H' → acc.length = min xs.length ys.length → Q (.ref q) H'
theorem pe_zipL {e e2 : Expr} {ta : TA} {p p2 pos pos2 : Pos} (hc : X.calm = true) (hg : Gl X "zip") (hm : X.mg "zip" = none) (hg2 : Gl X "list") (hm2 : X.mg "list" = none) (ha : PA X [e, e2] ta)
    (hs : starEach [e, e2] X.env = (false, eval e X.env) :: starEach [e2] X.env := by rfl) (hpl : (backTo pos (starEach [e2] X.env)).any (·.1) = false := by rfl)
    (hs2 : starEach [Expr.Call (.Name "zip" p) [e, e2] [] pos] X.env = (false, eval (Expr.Call (.Name "zip" p) [e, e2] [] pos) X.env) :: starEach [] X.env := by rfl) (hpl2 : (backTo pos2 (starEach [] X.env)).any (·.1) = false := by rfl) :
    PE X (.Call (.Name "list" p2) [.Call (.Name "zip" p) [e, e2] [] pos] [] pos2) (fun σ H Q => ta σ H fun vs H1 => rZipL X.K vs H1 Q) := by
  refine ⟨fun pins s σ H Q I h => ?_⟩
  refine Call_ (ld_blt I hg2 hm2 PyProof.Rows.boot_list (PyProof.Rows.callWith_type1 ?_ hs2 hpl2))
  rw [hs2]
  show wpAny _ _ (spliced ((false, eval (Expr.Call (.Name "zip" p) [e, e2] [] pos) X.env) :: backTo pos2 (starEach [] X.env))) _ _ s
  refine Calls.spliced_cons ?_
  refine Call_ (ld_blt I hg hm PyProof.Rows.boot_zip (PyProof.Rows.callWith_type1 (thn (ha.run pos pins s σ H _ I h) fun us s1 ⟨vs, H1, I1, r1, q1⟩ => ?_) hs hpl))
  obtain ⟨a, b, xs, ys, ex, hqx, hqy, hq⟩ := q1
  subst ex
  obtain ⟨u1, u2, rfl, r1, r2⟩ := r1.two
  cases r1
  cases r2
  obtain ⟨its, rv, p1, _⟩ := I1.list hqx
  obtain ⟨its2, rv2, p2', _⟩ := I1.list hqy
  refine call_zip_2 p1.isList p2'.isList fun h' hz hTI hTO h1 h2 hsz hk => Calls.spliced_nil ?_
  have I2 : Inv X pins σ H1 { s1 with heap := h' } := I1.kept (t' := s1.toks) hk
  have D := PySem.W.ktu_apart s1.heap.objs.size a b p1.lt p2'.lt
  have hfp : ∀ c ∈ [s1.heap.objs.size + 4, s1.heap.objs.size + 2, s1.heap.objs.size + 3, s1.heap.objs.size, s1.heap.objs.size + 1], FpOk X pins H1 c := fun c hcm => by
    have e' : c = s1.heap.objs.size + 4 ∨ c = s1.heap.objs.size + 2 ∨ c = s1.heap.objs.size + 3 ∨ c = s1.heap.objs.size ∨ c = s1.heap.objs.size + 1 := by simpa using hcm
    have hle : s1.heap.objs.size ≤ c := by
      rcases e' with z | z | z | z | z
      · rw [z]; exact Nat.le_add_right _ _
      · rw [z]; exact Nat.le_add_right _ _
      · rw [z]; exact Nat.le_add_right _ _
      · rw [z]; exact Nat.le_refl _
      · rw [z]; exact Nat.le_add_right _ _
    exact I1.fpOk hle (I1.hok.fresh hle)
  have hlt : ∀ c ∈ [s1.heap.objs.size + 4, s1.heap.objs.size + 2, s1.heap.objs.size + 3, s1.heap.objs.size, s1.heap.objs.size + 1], c < h'.objs.size := fun c hcm => by
    have e' : c = s1.heap.objs.size + 4 ∨ c = s1.heap.objs.size + 2 ∨ c = s1.heap.objs.size + 3 ∨ c = s1.heap.objs.size ∨ c = s1.heap.objs.size + 1 := by simpa using hcm
    rw [hsz]
    omega
  refine callType_codes (Q₁ := fun obj s₁ => obj = .ref h'.objs.size ∧ s₁ = { s1 with heap := h'.push { cls := .type "list", data := .seq #[] } }) PySem.F.called_list (PySem.F.typeCall_list_1 _) PySem.F.entry_list_init
    (code_list_new _ ⟨rfl, rfl⟩) fun obj s₁ h₁ => ?_
  obtain ⟨rfl, rfl⟩ := h₁
  have hS : (h'.push { cls := .type "list", data := .seq #[] }).get? h'.objs.size = some { cls := .type "list", data := .seq #[] } := Heap.get?_push_size _ rfl
  refine ⟨⟨_, hS, rfl⟩, PySem.F.args_list_init_2 _ _, ?_⟩
  have fr : H1 h'.objs.size = none := I2.hok.fresh (Nat.le_refl _)
  obtain ⟨P, hP, hrun, hQ⟩ := hq _ fr
  have I3 : Inv X pins σ (upd H1 h'.objs.size (.lst [])) { s1 with heap := h'.push { cls := .type "list", data := .seq #[] } } := I2.lnew (its := []) (t' := s1.toks) .nil (Nat.zero_le _)
  show wpAny _ _ (do let old ← Builtin.List.listItems (.ref h'.objs.size); Builtin.List.listUpdate (.ref h'.objs.size) (fun _ => #[]); letGo old.toList.reverse; Builtin.List.listExtendWith (.ref h'.objs.size) (.ref (s1.heap.objs.size + 4)) .none) _ _ _
  refine wpAny_bind ?_
  unfold Builtin.List.listItems
  refine wpAny_bind (wpAny_seqItems hS rfl (wpAny_pure ?_))
  show wpAny _ _ (updateSeq h'.objs.size (fun _ => #[]) >>= fun _ => letGo (#[] : Array Value).toList.reverse >>= fun _ => Builtin.List.listExtendWith (.ref h'.objs.size) (.ref (s1.heap.objs.size + 4)) .none) _ _ _
  refine wpAny_bind (wpAny_updateSeq hS rfl ?_)
  have I4 := I3.lset (f := fun _ => #[]) (its := []) (its' := []) (ys := []) (t' := s1.toks) upd_same hS rfl .nil (Nat.zero_le _)
  rw [upd_upd] at I4
  refine wpAny_bind (wpAny_letGo ?_)
  have oth : ∀ c o, c ∈ [s1.heap.objs.size + 4, s1.heap.objs.size + 2, s1.heap.objs.size + 3, s1.heap.objs.size, s1.heap.objs.size + 1] → h'.get? c = some o → ((h'.push { cls := .type "list", data := .seq #[] }).update h'.objs.size (Obj.mapSeq fun _ => (#[] : Array Value))).get? c = some o := fun c o hc e =>
    (Heap.get?_update_other _ _ (Nat.ne_of_gt (hlt c hc))).trans (Heap.get?_push_of_some _ e)
  have hf2 : ∀ c ∈ [s1.heap.objs.size + 4, s1.heap.objs.size + 2, s1.heap.objs.size + 3, s1.heap.objs.size, s1.heap.objs.size + 1], FpOk X pins (upd H1 h'.objs.size (.lst [])) c := fun c hc => ⟨by rw [upd_ne (Nat.ne_of_lt (hlt c hc))]; exact (hfp c hc).1, (hfp c hc).2⟩
  exact zh_extend (A1 := X.A.in1) (Rs := wants (fun r s₂ => r = .none ∧ EP X pins σ Q (.ref h'.objs.size) s₂) X.xe) (I.ok.hd hc) D hrun
    (fun acc H' s' I' hp hl => ⟨rfl, .ref h'.objs.size, H', I', rfl, hQ acc H' hp hl⟩) I4 hP ⟨oth _ _ (by simp) hTI, ⟨_, _, oth _ _ (by simp) hTO⟩, h1.at fun o e => oth _ o (by simp) e, h2.at fun o e => oth _ o (by simp) e, .inl (oth _ _ (by simp) hz)⟩ hf2 (oth _ _ (by simp) hz)
end
end L2

set_option Elab.async false
set_option linter.all false
set_option maxRecDepth 100000
/-! Z11: own operators, methods of a class, list(zip), join, text * number, keys of a written dict. -/
namespace L2
open PySem PySem.Spec
/-- the class at C has its own def at f for the name -/
structure OpC (K : PySem.W.Frag) (C : Addr) (nm : Str) (f : Addr) : Prop where
  sf : PySem.W.selfFirst K C = true
  hs : PySem.W.findIn K (.ref C) nm = some (some (.ref f))
  fn : PySem.W.isFn K (.ref f) = true
/-- C.m is a staticmethod: its record at p, its def at f -/
structure SmC (K : PySem.W.Frag) (C : Addr) (m : Str) (p f : Addr) : Prop where
  rd : PySem.W.readsIn K C (.type "type") = true
  ga : PySem.W.specialIn K (.ref C) "__getattribute__" = some (some (.builtin "type.__getattribute__"))
  at_ : PySem.W.findCls K (.ref C) (.type "type") m = some (.get (.builtin "staticmethod.__get__") (.ref p) .none (.ref C))
  rc : ∃ rest, PySem.W.recIn K p "staticmethod" = some (.ref f :: rest)
section
variable {X : Cx} {CX : CXT} {k : Nat} {f C p : Addr} {fd : FuncData} {ps : List Str} {sp : Sp} {E : L2.St → XK} {x m : Str} {pos apos : Pos} {a b e o : Expr} {es : List Expr} {ta tb : TE} {t : TA}
def tOwn (C : Addr) (sp : Sp) (E : L2.St → XK) (ta tb : TE) : TE := fun σ H Q => ta σ H fun x H1 => tb σ H1 fun y H2 => ∃ u v dx fs dy gs, x = .ref u ∧ y = .ref v ∧ H2 u = some (.ins C dx fs) ∧ H2 v = some (.ins C dy gs) ∧ sp [x, y] H2 Q (E σ)
theorem pe_bopS {op : Operator} (ha : PE X a ta) (hb : PE X b tb) (O : OpC X.K C (PySem.dunder op.info.2) f) (F : FnOk X.prog X.w X.K X.mg X.base CX k f fd ps sp) (hr : Room k X.A) (hbd : Binds X.K fd ps []) (hx : ∀ σ, PassesAt CX X σ (E σ)) :
    PE X (.BinOp a op b pos) (tOwn C sp E ta tb) := by
  refine ⟨fun pins s σ H Q I h => ?_⟩
  refine wpAny_BinOp (binT ha hb I h fun v u s2 x y H2 I2 rx ry q => ?_)
  obtain ⟨c, d, dx, fs, dy, gs, rfl, rfl, hc, hd, q⟩ := q
  cases (show v = Value.ref c from rx)
  cases (show u = Value.ref d from ry)
  obtain ⟨mA, O1, _⟩ := ins_get I2.hok hc
  obtain ⟨mB, O2, _⟩ := ins_get I2.hok hd
  obtain ⟨od, J, _⟩ := O1.look
  obtain ⟨od', J', _⟩ := O2.look
  obtain ⟨m, hF⟩ := I2.fr
  refine PySem.W.binop_K hF I2.ok.mod.kin J J'.type O.sf O.hs O.fn ?_
  refine wpAny_mono (run_fnSD (us := [.ref c, .ref d]) (vs := [.ref c, .ref d]) (dvs := []) (ds := []) F hr hbd .nil (hx σ) I2 (.cons rfl (.cons rfl .nil)) q) (fun w s' z => ?_) fun _ _ x => x
  obtain ⟨z', H', I', rz, qz⟩ := z
  exact SlX.cmpback rz ⟨z', H', I', rz, qz⟩
theorem pc_ownS {op : CmpOp} (hop : ∀ a b, compareOp op a b = richCompare op a b) (ha : PE X a ta) (hb : PE X b tb) (O : OpC X.K C (cmpInfo op).2.1 f) (F : FnOk X.prog X.w X.K X.mg X.base CX k f fd ps sp) (hr : Room k X.A) (hbd : Binds X.K fd ps []) (hx : ∀ σ, PassesAt CX X σ (E σ)) :
    PC X op a b (tOwn C sp E ta tb) := by
  refine ⟨fun pins s σ H Q I h => ?_⟩
  refine binT ha hb I h fun v u s2 x y H2 I2 rx ry q => ?_
  obtain ⟨c, d, dx, fs, dy, gs, rfl, rfl, hc, hd, q⟩ := q
  cases (show v = Value.ref c from rx)
  cases (show u = Value.ref d from ry)
  obtain ⟨mA, O1, _⟩ := ins_get I2.hok hc
  obtain ⟨mB, O2, _⟩ := ins_get I2.hok hd
  obtain ⟨od, J, _⟩ := O1.look
  obtain ⟨od', J', _⟩ := O2.look
  obtain ⟨m, hF⟩ := I2.fr
  rw [hop]
  refine PySem.W.cmp_K (op := op) (tb := .ref C) hr.units0 hF I2.ok.mod.kin J J'.type (by simp [PySem.W.notFirst]) O.hs O.fn ?_
  refine wpAny_mono (run_fnSD (us := [.ref c, .ref d]) (vs := [.ref c, .ref d]) (dvs := []) (ds := []) F hr hbd .nil (hx σ) I2 (.cons rfl (.cons rfl .nil)) q) (fun w s' z => ?_) fun _ _ x => x
  obtain ⟨z', H', I', rz, qz⟩ := z
  exact SlX.cmpback rz ⟨z', H', I', rz, qz⟩
def tSM (C : Addr) (sp : Sp) (E : L2.St → XK) (ta : TE) (t : TA) : TE := fun σ H Q => ta σ H fun x H1 => x = .ref C ∧ t σ H1 fun vs H2 => sp vs H2 Q (E σ)
theorem pe_smS {pl : Sem Bool} (he : PE X o ta) (c : SmC X.K C m p f) (hk : PySem.W.keepIn X.K (.ref f) = true) (F : FnOk X.prog X.w X.K X.mg X.base CX k f fd ps sp) (hr : Room k X.A) (hb : Binds X.K fd ps []) (hx : ∀ σ, PassesAt CX X σ (E σ)) (ha : PA X (e :: es) t)
    (hst : starEach (e :: es) X.env = (false, eval e X.env) :: starEach es X.env := by rfl) (hpl : (backTo pos (starEach es X.env)).any (·.1) = false := by rfl)
    (ht : eval (.Call (.Attribute o m apos) (e :: es) [] pos) X.env = (do
      let ov ← eval o X.env
      standAt apos.atName
      let (f, first) ← holding [ov] (getMethod ov m pl)
      callWith pos f first (backTo pos (starEach (e :: es) X.env)) (backToKw pos (keywordEach [] X.env))) := by rfl) :
    PE X (.Call (.Attribute o m apos) (e :: es) [] pos) (tSM C sp E ta t) := by
  refine ⟨fun pins s σ H Q I h => ?_⟩
  refine PySem.W.methodCall_KW (pl := pl) (thn (he.run pins s σ H _ I h) fun u s1 ⟨x, H1, I1, rx, ex, q⟩ => ?_) ht
  subst ex
  obtain rfl : u = Value.ref C := rx
  obtain ⟨rest, hp⟩ := c.rc
  refine PySem.W.method_cls I1.kIn c.ga (PySem.W.cls_bind I1.kIn c.rd c.at_ (wpAny_call (PySem.W.sm_get (s := { s1 with toks := s1.toks + 1 }) I1.kIn hp (PySem.W.handed_on rfl ?_))))
  have I2 := I1.tok (s1.toks + 1)
  refine PySem.W.callWith_K (first := []) (h₀ := X.base) I.ok.mod.kin hk (thn (ha.run pos pins _ σ H1 _ I2 q) fun us s3 ⟨vs, H3, I3, r, q2⟩ => ⟨I3.kIn, ?_⟩) hst hpl
  exact run_fnSD (us := us) (vs := vs) (dvs := []) (ds := []) F hr hb .nil (hx σ) I3 r (by rw [List.append_nil]; exact q2)
/-- a text times a number -/
theorem op_repS : OpR X (binaryOp .Mult) (fun x y H Q => ∃ a n, x = .str a ∧ y = .int n ∧ MulOk a n ∧ Q (.str (Txt.mul a n)) H) := by
  intro pins s σ H x y v u Q I rx ry h
  obtain ⟨a, n, rfl, rfl, hm, q⟩ := h
  obtain ⟨t, rfl⟩ := rx
  obtain ⟨t2, rfl⟩ := ry
  exact PySem.SB.mul hm fun t' k => ⟨.str _, H, I.tok k, ⟨t', rfl⟩, q⟩
end
end L2
namespace ZZ
open PySem PySem.Spec L2
/-! ### own operators -/
def kOwn (c : Nat) (fh : DF) (v u : Val) : DE := fun _ ce => if isC c ce v && isC c ce u then fh [v, u] ce else .stuck
section
variable {X : Cx} {Z : Zy} {W : WX} {k n : Nat} {fa pa : Addr} {ps : List Str} {fh : DF} {x m nm : Str} {p pos pos2 apos : Pos} {a b e e2 o : Expr} {es : List Expr} {f g : DE} {fs : List DE} {c : Nat}
theorem t_own {σ : L2.St} {H : Hp} {Q : VK} (h : tE Z W (eBin (kOwn c fh) f g) σ H Q) : tOwn (Z.cl c) (spD Z.toZx fh 2) (WE W) (tE Z W f) (tE Z W g) σ H Q :=
  tE_imp (fun x H1 h1 => tE_imp (fun y H2 ⟨A, F, sl, ce, v, u, so, hs, rv, ru, p⟩ => by
    unfold kOwn at p
    by_cases hi : (isC c ce v && isC c ce u) = true
    · rw [if_pos hi] at p
      simp only [Bool.and_eq_true] at hi
      obtain ⟨a, dx, fs, n, rfl, h1, h2⟩ := isC_rd so rv hi.1
      obtain ⟨b, dy, gs, n', rfl, h3, h4⟩ := isC_rd so ru hi.2
      exact ⟨a, b, dx, fs, dy, gs, rfl, rfl, h1, h3, spD_call (sl := sl) (vs := [v, u]) so ⟨_, _, rfl, rv, _, _, rfl, ru, rfl⟩ rfl (by simp [isC_plain hi.1, isC_plain hi.2]) p⟩
    · rw [if_neg hi] at p
      exact p.elim) h1) (tE2 h)
theorem de_bopD {op : Operator} (O : OpC X.K (Z.cl c) (PySem.dunder op.info.2) fa) (G : DOk X.prog X.w X.K X.mg X.base k fa ps (spD Z.toZx fh 2)) (hr : Room k X.A) (tw : TW X W) (ha : PE X a (tE Z W f)) (hb : PE X b (tE Z W g)) :
    PE X (.BinOp a op b pos) (tE Z W (eBin (kOwn c fh) f g)) := by
  obtain ⟨fd, F, bd⟩ := G.ex
  exact (pe_bopS ha hb O F hr bd tw).weak fun σ H Q h => t_own h
theorem dunder_and : PySem.dunder Operator.BitAnd.info.2 = "__and__" := by decide +kernel
theorem dunder_or : PySem.dunder Operator.BitOr.info.2 = "__or__" := by decide +kernel
theorem dunder_add : PySem.dunder Operator.Add.info.2 = "__add__" := by decide +kernel
theorem de_ownAnd (O : OpC X.K (Z.cl c) "__and__" fa) (G : DOk X.prog X.w X.K X.mg X.base k fa ps (spD Z.toZx fh 2)) (hr : Room k X.A) (tw : TW X W) (ha : PE X a (tE Z W f)) (hb : PE X b (tE Z W g)) : PE X (.BinOp a .BitAnd b pos) (tE Z W (eBin (kOwn c fh) f g)) := de_bopD (by rw [dunder_and]; exact O) G hr tw ha hb
theorem de_ownOr (O : OpC X.K (Z.cl c) "__or__" fa) (G : DOk X.prog X.w X.K X.mg X.base k fa ps (spD Z.toZx fh 2)) (hr : Room k X.A) (tw : TW X W) (ha : PE X a (tE Z W f)) (hb : PE X b (tE Z W g)) : PE X (.BinOp a .BitOr b pos) (tE Z W (eBin (kOwn c fh) f g)) := de_bopD (by rw [dunder_or]; exact O) G hr tw ha hb
theorem de_ownAdd (O : OpC X.K (Z.cl c) "__add__" fa) (G : DOk X.prog X.w X.K X.mg X.base k fa ps (spD Z.toZx fh 2)) (hr : Room k X.A) (tw : TW X W) (ha : PE X a (tE Z W f)) (hb : PE X b (tE Z W g)) : PE X (.BinOp a .Add b pos) (tE Z W (eBin (kOwn c fh) f g)) := de_bopD (by rw [dunder_add]; exact O) G hr tw ha hb
/-- a comparison by the class's own def -/
structure CmpO (X : Cx) (Z : Zy) (W : WX) (op : CmpOp) (c : Nat) (fh : DF) : Prop where
  ex : ∀ {a b : Expr} {f g : DE}, PE X a (tE Z W f) → PE X b (tE Z W g) → PC X op a b (tE Z W (eBin (kOwn c fh) f g))
theorem c_own {op : CmpOp} (hop : ∀ a b, compareOp op a b = richCompare op a b) (O : OpC X.K (Z.cl c) (cmpInfo op).2.1 fa) (G : DOk X.prog X.w X.K X.mg X.base k fa ps (spD Z.toZx fh 2)) (hr : Room k X.A) (tw : TW X W) : CmpO X Z W op c fh := by
  obtain ⟨fd, F, bd⟩ := G.ex
  exact ⟨fun ha hb => ⟨fun pins s σ H Q I h => (pc_ownS hop ha hb O F hr bd tw).run pins s σ H Q I (t_own h)⟩⟩
theorem c_ownEq (O : OpC X.K (Z.cl c) "__eq__" fa) (G : DOk X.prog X.w X.K X.mg X.base k fa ps (spD Z.toZx fh 2)) (hr : Room k X.A) (tw : TW X W) : CmpO X Z W .Eq c fh := c_own (op := .Eq) (fun _ _ => rfl) O G hr tw
theorem c_ownLe (O : OpC X.K (Z.cl c) "__le__" fa) (G : DOk X.prog X.w X.K X.mg X.base k fa ps (spD Z.toZx fh 2)) (hr : Room k X.A) (tw : TW X W) : CmpO X Z W .LtE c fh := c_own (op := .LtE) (fun _ _ => rfl) O G hr tw
theorem c_ownLt (O : OpC X.K (Z.cl c) "__lt__" fa) (G : DOk X.prog X.w X.K X.mg X.base k fa ps (spD Z.toZx fh 2)) (hr : Room k X.A) (tw : TW X W) : CmpO X Z W .Lt c fh := c_own (op := .Lt) (fun _ _ => rfl) O G hr tw
theorem de_cmpO {op : CmpOp} (C : CmpO X Z W op c fh) (ha : PE X a (tE Z W f)) (hb : PE X b (tE Z W g)) (h1 : behindInMarks op b = false := by first | exact nobehind _ (by decide) (by decide) | rfl) : PE X (.Compare a [op] [b] pos) (tE Z W (eBin (kOwn c fh) f g)) := pe_cmp (C.ex ha hb) h1
theorem dt_cmpO {op : CmpOp} (C : CmpO X Z W op c fh) (ha : PE X a (tE Z W f)) (hb : PE X b (tE Z W g)) (h1 : behindInMarks op b = false := by first | exact nobehind _ (by decide) (by decide) | rfl) : PT X (.Compare a [op] [b] pos) (tT Z W (eBin (kOwn c fh) f g)) := pt_cmp (C.ex ha hb) h1
/-! ### staticmethods -/
theorem de_smD {pl : Sem Bool} (S : SmC X.K (Z.cl c) m pa fa) (G : DOk X.prog X.w X.K X.mg X.base k fa ps (spD Z.toZx fh n)) (hr : Room k X.A) (hm : X.mg x = some (.ref (Z.cl c))) (tw : TW X W) (ha : PA X (e :: es) (tArgs Z W fs))
    (hg : Gl X x := by rfl) (hl : fs.length = n := by rfl) (hdb : (x == ("__debug__" : Str)) = false := by decide) (hst : starEach (e :: es) X.env = (false, eval e X.env) :: starEach es X.env := by rfl) (hpl : (backTo pos (starEach es X.env)).any (·.1) = false := by rfl)
    (ht : eval (.Call (.Attribute (.Name x p) m apos) (e :: es) [] pos) X.env = (do
      let ov ← eval (.Name x p) X.env
      standAt apos.atName
      let (f, first) ← holding [ov] (getMethod ov m pl)
      callWith pos f first (backTo pos (starEach (e :: es) X.env)) (backToKw pos (keywordEach [] X.env))) := by rfl) :
    PE X (.Call (.Attribute (.Name x p) m apos) (e :: es) [] pos) (tE Z W (eArgs fs (kCall fh))) := by
  obtain ⟨fd, F, bd⟩ := G.ex
  exact (pe_smS (pl := pl) (pe_glob (v := .ref (Z.cl c)) hg hm rfl hdb) S G.kp F hr bd tw ha hst hpl ht).weak fun σ H Q h => ⟨rfl, tArgs_imp (fun xs H1 ⟨A, F, sl, ce, vs, so, hs, r, l, q⟩ => by
    unfold kCall at q
    by_cases hp : vs.all plainV = true
    · rw [if_pos hp] at q
      exact spD_call (sl := sl) so r (by rw [l, hl]) hp q
    · rw [if_neg hp] at q
      exact q.elim) (tN h)⟩
/-! ### list(zip(..)) -/
def pairs (xs ys : List D) : List D := List.zipWith (fun x y => D.tup [x, y]) xs ys
def kZipL (vs : List Val) : DE := fun _ ce => match vs with
  | [v, u] => match asL ce v, asL ce u with
    | some xs, some ys => .ok (.im (.lst (pairs xs ys))) ce
    | _, _ => .stuck
  | _ => .stuck
theorem pairs_length (xs ys : List D) : (pairs xs ys).length = min xs.length ys.length := by simp [pairs]
theorem reps_snoc {Z : Zx} {F : Hp} {ds : List D} {vs : List V} {d : D} {v : V} (r : Reps Z F ds vs) (h : Rep Z F d v) : Reps Z F (ds ++ [d]) (vs ++ [v]) := r.append (reps_cons h reps_nil)
theorem de_zipL {p2 : Pos} (hc : X.calm = true) (hm : X.mg "zip" = none) (hm2 : X.mg "list" = none) (ha : PA X [e, e2] (tArgs Z W [f, g])) (hg : Gl X "zip" := by rfl) (hg2 : Gl X "list" := by rfl)
    (hs : starEach [e, e2] X.env = (false, eval e X.env) :: starEach [e2] X.env := by rfl) (hpl : (backTo pos (starEach [e2] X.env)).any (·.1) = false := by rfl)
    (hs2 : starEach [Expr.Call (.Name "zip" p) [e, e2] [] pos] X.env = (false, eval (Expr.Call (.Name "zip" p) [e, e2] [] pos) X.env) :: starEach [] X.env := by rfl) (hpl2 : (backTo pos2 (starEach [] X.env)).any (·.1) = false := by rfl) :
    PE X (.Call (.Name "list" p2) [.Call (.Name "zip" p) [e, e2] [] pos] [] pos2) (tE Z W (eArgs [f, g] kZipL)) :=
  (pe_zipL hc hg hm hg2 hm2 ha hs hpl hs2 hpl2).weak fun σ H Q h => tArgs_imp (fun zs H1 ⟨A, F, sl, ce, vs, so, hs, r, l, q⟩ => by
    unfold kZipL at q
    split at q
    · rename_i v u
      split at q
      · rename_i xs ys e1 e2
        obtain ⟨y1, y2, rfl, r1, r2⟩ := vreps2 r
        obtain ⟨l1, vs1, rfl, h1, q1⟩ := asL_rd so r1 e1
        obtain ⟨l2, vs2, rfl, h2, q2⟩ := asL_rd so r2 e2
        refine ⟨l1, l2, vs1, vs2, rfl, SqL.of h1, SqL.of h2, fun q' hq' => ⟨fun acc H' => ∃ F' H0, Same F F' ∧ SO Z.toZx A F' ce H0 ∧ H0 q' = none ∧ H' = upd H0 q' (.lst acc) ∧ Reps Z.toZx F' ((pairs xs ys).take acc.length) acc ∧ H0 l1 = some (.lst vs1) ∧ H0 l2 = some (.lst vs2),
          ⟨F, H1, Same.refl _, so, hq', rfl, reps_nil, h1, h2⟩, ⟨?_, ?_⟩, ?_⟩⟩
        · rintro acc H' ⟨F', H0, eF, so', hn, rfl, rr, a1, a2⟩
          exact ⟨SqL.of (by rw [upd_ne (ne_of_none a1 hn)]; exact a1), SqL.of (by rw [upd_ne (ne_of_none a2 hn)]; exact a2), upd_same⟩
        · rintro acc H' x y T ⟨F', H0, eF, so', hn, rfl, rr, a1, a2⟩ ex ey hT
          have hne : T ≠ q' := fun z => by
            rw [z, upd_same] at hT
            cases hT
          have hT0 : H0 T = none := by
            rw [upd_ne hne] at hT
            exact hT
          have up := same_up (o := .tup [x, y]) (so'.fnone hT0)
          obtain ⟨dx, ex', rx⟩ := (q1.mono eF).get ex
          obtain ⟨dy, ey', ry⟩ := (q2.mono eF).get ey
          have ep : (pairs xs ys)[acc.length]? = some (.tup [dx, dy]) := by simp [pairs, List.getElem?_zipWith, ex', ey']
          refine ⟨upd F' T (.tup [x, y]), upd H0 T (.tup [x, y]), eF.trans up, so'.new hT0, by rw [upd_ne (Ne.symm hne)]; exact hn, ?_, ?_, by rw [upd_ne (ne_of_none a1 hT0)]; exact a1, by rw [upd_ne (ne_of_none a2 hT0)]; exact a2⟩
          · funext b
            by_cases hb : b = q'
            · rw [hb, upd_same, upd_same]
            · rw [upd_ne hb, upd_ne hb]
              by_cases hb2 : b = T
              · rw [hb2, upd_same, upd_same]
              · rw [upd_ne hb2, upd_ne hb2, upd_ne hb]
          · rw [List.length_append, List.length_singleton, List.take_add_one, ep]
            refine reps_snoc (rr.mono up) ?_
            unfold Rep
            exact ⟨T, [x, y], rfl, SqT.of upd_same, (reps_cons rx (reps_cons ry reps_nil)).mono up⟩
        · rintro acc H' ⟨F', H0, eF, so', hn, rfl, rr, a1, a2⟩ hl
          have hl' : (pairs xs ys).length ≤ acc.length := by
            rw [pairs_length, q1.length, q2.length]
            omega
          rw [List.take_of_length_le hl'] at rr
          exact fin_newL (W := W) (Z := Z) (σ := σ) so' (fun A2 F2 H2 x pA e => q A2 F2 H2 x pA (eF.trans e)) rr hn
      · exact q.elim
    · exact q.elim) (tN h)
/-! ### join, text * number -/
theorem reps_strs {F : Hp} : ∀ {ds : List D} {vs : List V} {ys : List Str}, Reps Z.toZx F ds vs → asStrs ds = some ys → vs = ys.map V.str
  | [], vs, ys, r, e => by
    cases e
    exact reps_nil_inv r
  | .str s :: ds, vs, ys, r, e => by
    unfold asStrs at e
    obtain ⟨v, r', rfl, h1, h2⟩ := reps_cons_inv r
    cases hh : asStrs ds with
    | none => rw [hh] at e; cases e
    | some zs =>
      rw [hh] at e
      cases e
      unfold Rep at h1
      rw [h1, reps_strs h2 hh]
      rfl
  | .non :: ds, vs, ys, r, e => by cases e
  | .bl _ :: ds, vs, ys, r, e => by cases e
  | .int _ :: ds, vs, ys, r, e => by cases e
  | .tup _ :: ds, vs, ys, r, e => by cases e
  | .lst _ :: ds, vs, ys, r, e => by cases e
  | .wl _ :: ds, vs, ys, r, e => by cases e
  | .ins _ _ :: ds, vs, ys, r, e => by cases e
def kJoin (v : Val) (vs : List Val) : DE := fun _ ce => match v, vs with
  | .im (.str a), [u] => match asL ce u with
    | some ds => match asStrs ds with
      | some ys => if (ys.map (·.length)).sum + ys.length * a.length ≤ 16777216 then .ok (.im (.str (Txt.join a ys))) ce else .stuck
      | none => .stuck
    | none => .stuck
  | _, _ => .stuck
theorem de_join {cpos : Pos} (hK : X.K = Z.K) (ho : PE X o (tE Z W f)) (ha : PE X e (tE Z W g))
    (hb : attributeBase o "join" X.env (eval o X.env) = eval o X.env := by rfl) (hl : (apos.endLine == cpos.line) = true := by rfl) (hs : starEach [e] X.env = (false, eval e X.env) :: starEach [] X.env := by rfl)
    (hfew : ((backTo cpos (starEach [e] X.env)).all (fun x => !x.1) && (backToKw cpos (keywordEach [] X.env)).all (fun x => x.1.isSome)
      && decide ([e].length + ([] : List Keyword).length + (if ([] : List Keyword).isEmpty then 0 else 1) < 30)) = true := by rfl) :
    PE X (.Call (.Attribute o "join" apos) [e] [] cpos) (tE Z W (eMth tyS kJoin f [g])) :=
  de_bm PySem.F.plainAttrs_str PySem.F.slot_str_join PySem.F.type_str_join mt_join ⟨tyS_ok, fun A F sl ce v x vs xs H σ Q so hs rv rs p => by
    unfold kJoin at p
    split at p
    · rename_i u
      split at p
      · rename_i ds e1
        split at p
        · rename_i ys e2
          split at p
          · rename_i hz
            obtain ⟨y, rfl, ry⟩ := vreps1 rs
            obtain ⟨l, ws, rfl, h1, h2⟩ := asL_rd so ry e1
            have := reps_strs h2 e2
            subst this
            rw [rep_str rv]
            exact ⟨_, l, ys, rfl, rfl, .inl (SqL.of h1), hz, fin_flat so p repS⟩
          · exact p.elim
        · exact p.elim
      · exact p.elim
    · exact p.elim⟩ ho (da_cons ha da_nil hs) hb hl hs rfl hfew
def kRepS (v u : Val) : DE := fun _ ce => match v, u with
  | .im (.str a), .im (.int n) => if a.length ≤ 1000 ∧ -1000 ≤ n ∧ n ≤ 1000 then .ok (.im (.str (Txt.mul a n))) ce else .stuck
  | _, _ => .stuck
theorem mulOk_small {a : Str} {n : Int} (h1 : a.length ≤ 1000) (h2 : -1000 ≤ n) (h3 : n ≤ 1000) : MulOk a n := by
  refine ⟨by simp; omega, fun h _ => ?_, fun h _ => ?_⟩
  · have hp : 0 < n := by omega
    have : (1000 : Int) ≤ (2 ^ 63 - 1) / n := Int.le_ediv_of_mul_le hp (by omega)
    omega
  · have : a.length * n.toNat ≤ 1000 * 1000 := Nat.mul_le_mul h1 (by omega)
    simp [Builtin.Str.tooLong, sizeLine_eq]
    omega
theorem de_repS (ha : PE X a (tE Z W f)) (hb : PE X b (tE Z W g)) : PE X (.BinOp a .Mult b pos) (tE Z W (eBin kRepS f g)) := de_op op_repS (fun A F sl ce v u x y H σ Q so hs rv ru p => by
  unfold kRepS at p
  split at p
  · rename_i a n
    split at p
    · rename_i hc
      rw [rep_str rv, rep_int ru]
      exact ⟨a, n, rfl, rfl, mulOk_small hc.1 hc.2.1 hc.2.2, fin_flat so p repS⟩
    · exact p.elim
  · exact p.elim) ha hb
end
/-! ### a written dict with text keys -/
def relD : D → Value → Prop
  | .str s, u => ∃ t, u = .str s t
  | .int i, u => ∃ t, u = .int i t
  | .non, u => u = .none
  | _, _ => False
def Ents : List DictEntry → List (Str × D) → Prop
  | [], [] => True
  | e :: es, (k, v) :: kvs => (∃ t, e.key = .str k t) ∧ relD v e.val ∧ Ents es kvs
  | _, _ => False
/-- the name x stands for a dict with these entries -/
structure DctS (w : World) (K : PySem.W.Frag) (mg : Str → Option Value) (x : Str) (kvs : List (Str × D)) : Prop where
  ex : ∃ d es n, mg x = some (.ref d) ∧ KDict K w d es n ∧ Ents es.toList kvs
theorem ents_find {z : Str} : ∀ {es : List DictEntry} {kvs : List (Str × D)}, Ents es kvs → match kvs.lookup z with
    | some v => ∃ e, es.find? (·.key.isStr z) = some e ∧ relD v e.val
    | none => es.find? (·.key.isStr z) = none ∧ es.any (·.refKey) = false
  | [], [], _ => ⟨rfl, rfl⟩
  | [], _ :: _, h => h.elim
  | _ :: _, [], h => h.elim
  | e :: es, (k, v) :: kvs, h => by
    obtain ⟨⟨t, ek⟩, rv, he⟩ := h
    have ih := ents_find (z := z) he
    have hi : e.key.isStr z = (k == z) := by rw [ek]; rfl
    rw [List.lookup_cons]
    by_cases hz : z = k
    · subst hz
      simp only [beq_self_eq_true, if_true]
      refine ⟨e, ?_, rv⟩
      rw [List.find?_cons, hi]
      simp
    · have h1 : (z == k) = false := beq_false_of_ne hz
      have h2 : (k == z) = false := beq_false_of_ne (Ne.symm hz)
      simp only [h1]
      rw [List.find?_cons, hi, h2]
      cases hl : kvs.lookup z with
      | some v' => rw [hl] at ih; exact ih
      | none =>
        rw [hl] at ih
        refine ⟨ih.1, ?_⟩
        have : e.refKey = false := by
          unfold DictEntry.refKey
          rw [ek]
        rw [List.any_cons, this, ih.2]
        rfl
theorem dct_ns {K : PySem.W.Frag} {w : World} {d : Addr} {es : Array DictEntry} {n : Nat} {kvs : List (Str × D)} (D : KDict K w d es n) (h : Ents es.toList kvs) (z : Str) : ∃ r, PySem.W.nsIn K d z = some r ∧ r.isSome = (kvs.lookup z).isSome ∧ ∀ v, kvs.lookup z = some v → ∃ u, r = some u ∧ relD v u := by
  have := ents_find (z := z) h
  unfold PySem.W.nsIn
  rw [D.at_]
  dsimp only
  cases hl : kvs.lookup z with
  | some v =>
    rw [hl] at this
    obtain ⟨e, he, r⟩ := this
    rw [he]
    exact ⟨_, rfl, rfl, fun v' e' => by cases e'; exact ⟨_, rfl, r⟩⟩
  | none =>
    rw [hl] at this
    rw [this.1]
    dsimp only
    rw [this.2]
    exact ⟨none, rfl, rfl, fun v' e' => by cases e'⟩
def kInK (kvs : List (Str × D)) (neg : Bool) (v : Val) : DE := fun _ ce => match v with
  | .im (.str z) => .ok (.im (.bl ((kvs.lookup z).isSome != neg))) ce
  | _ => .stuck
def kItK (kvs : List (Str × D)) (v : Val) : DE := fun _ ce => match v with
  | .im (.str z) => match kvs.lookup z with
    | some (.str s) => .ok (.im (.str s)) ce
    | some (.int i) => .ok (.im (.int i)) ce
    | _ => .stuck
  | _ => .stuck
section
variable {X : Cx} {Z : Zy} {W : WX} {x : Str} {p pos : Pos} {e : Expr} {f : DE} {kvs : List (Str × D)}
theorem t_inK {d : Addr} {es : Array DictEntry} {n : Nat} {neg : Bool} (gg : Bool → Bool) (hgg : ∀ b, (b != neg) = gg b) (D : KDict X.K X.w d es n) (he : Ents es.toList kvs) {σ : L2.St} {H : Hp} {Q : VK} (h : tE Z W (eUn (kInK kvs neg) f) σ H Q) :
    tOp (fun x y H Q => ∃ (z : Str) (r : Option Value), x = .str z ∧ y = .ref d ∧ PySem.W.nsIn X.K d z = some r ∧ Q (.bl (gg r.isSome)) H) (tE Z W f) (tC (.ref d)) σ H Q :=
  tE_imp (fun x H1 ⟨A, F, sl, ce, v, so, hs, r, p⟩ => by
    unfold kInK at p
    split at p
    · rename_i z
      obtain ⟨r', h1, h2, _⟩ := dct_ns D he z
      exact ⟨z, r', rep_str r, rfl, h1, by rw [h2, ← hgg]; exact fin_flat so p repB⟩
    · exact p.elim) (tE1 h)
theorem de_inK (G : DctS X.w X.K X.mg x kvs) (he : PE X e (tE Z W f)) (hg : Gl X x := by rfl) (hdb : (x == ("__debug__" : Str)) = false := by decide) (hm : behindInMarks .In (.Name x p) = false := by rfl) : PE X (.Compare e [.In] [.Name x p] pos) (tE Z W (eUn (kInK kvs false) f)) := by
  obtain ⟨d, es, n, hmg, D, hen⟩ := G.ex
  exact (pe_cmpR (op_in_kd D) he (pe_glob (v := .ref d) hg hmg rfl hdb) hm).weak fun σ H Q h => t_inK (fun b => b) (fun b => by cases b <;> rfl) D hen h
theorem de_notInK (G : DctS X.w X.K X.mg x kvs) (he : PE X e (tE Z W f)) (hg : Gl X x := by rfl) (hdb : (x == ("__debug__" : Str)) = false := by decide) (hm : behindInMarks .NotIn (.Name x p) = false := by rfl) : PE X (.Compare e [.NotIn] [.Name x p] pos) (tE Z W (eUn (kInK kvs true) f)) := by
  obtain ⟨d, es, n, hmg, D, hen⟩ := G.ex
  exact (pe_cmpR (op_notIn_kd D) he (pe_glob (v := .ref d) hg hmg rfl hdb) hm).weak fun σ H Q h => t_inK (fun b => !b) (fun b => by cases b <;> rfl) D hen h
theorem dt_inK (G : DctS X.w X.K X.mg x kvs) (he : PE X e (tE Z W f)) (hg : Gl X x := by rfl) (hdb : (x == ("__debug__" : Str)) = false := by decide) (hm : behindInMarks .In (.Name x p) = false := by rfl) : PT X (.Compare e [.In] [.Name x p] pos) (tT Z W (eUn (kInK kvs false) f)) := by
  obtain ⟨d, es, n, hmg, D, hen⟩ := G.ex
  exact (pt_cmpR (op_in_kd D) he (pe_glob (v := .ref d) hg hmg rfl hdb) hm).weak fun σ H Q h => t_inK (fun b => b) (fun b => by cases b <;> rfl) D hen h
theorem dt_notInK (G : DctS X.w X.K X.mg x kvs) (he : PE X e (tE Z W f)) (hg : Gl X x := by rfl) (hdb : (x == ("__debug__" : Str)) = false := by decide) (hm : behindInMarks .NotIn (.Name x p) = false := by rfl) : PT X (.Compare e [.NotIn] [.Name x p] pos) (tT Z W (eUn (kInK kvs true) f)) := by
  obtain ⟨d, es, n, hmg, D, hen⟩ := G.ex
  exact (pt_cmpR (op_notIn_kd D) he (pe_glob (v := .ref d) hg hmg rfl hdb) hm).weak fun σ H Q h => t_inK (fun b => !b) (fun b => by cases b <;> rfl) D hen h
theorem de_itK (G : DctS X.w X.K X.mg x kvs) (he : PE X e (tE Z W f)) (hg : Gl X x := by rfl) (hdb : (x == ("__debug__" : Str)) = false := by decide) (hs : PlainIx e := by exact fun _ _ => rfl) : PE X (.Subscript (.Name x p) e pos) (tE Z W (eUn (kItK kvs) f)) := by
  obtain ⟨d, es, n, hmg, D, hen⟩ := G.ex
  refine (pe_ix (r := rIxD X.K X.w) ix_kdict (pe_glob (v := .ref d) hg hmg rfl hdb) he hs).weak fun σ H Q h => ?_
  exact tE_imp (fun y H1 ⟨A, F, sl, ce, v, so, hs, r, p⟩ => by
    unfold kItK at p
    split at p
    · rename_i z
      obtain ⟨r', h1, h2, h3⟩ := dct_ns D hen z
      split at p
      · rename_i s hl
        obtain ⟨u, rfl, t, rfl⟩ := h3 _ hl
        exact ⟨d, z, .str s, rfl, rep_str r, ⟨es, n, _, D.at_, D.lit, h1, ⟨t, rfl⟩⟩, fin_flat so p repS⟩
      · rename_i s hl
        obtain ⟨u, rfl, t, rfl⟩ := h3 _ hl
        exact ⟨d, z, .int s, rfl, rep_str r, ⟨es, n, _, D.at_, D.lit, h1, ⟨t, rfl⟩⟩, fin_flat so p repI⟩
      · exact p.elim
    · exact p.elim) (tE1 h)
end
end ZZ

set_option Elab.async false
set_option linter.all false
set_option maxRecDepth 100000
/-! Z12: augmented own operators, unary own operators, text.index. -/
namespace PySem.W
open PySem PySem.Spec
def mro2 (K : Frag) (C : Addr) : Bool := match clsIn K C with
  | some cd => match cd.mro with
    | [a, b] => (a == .ref C) && (b == .type "object")
    | _ => false
  | none => false
section
variable {K : Frag} {C : Addr} {M : Model} {A : Around} {E : Value → Shared → Prop} {s : Shared} {h₀ : Heap} {L : List Addr} {m : Nat} {x f : Addr} {ox : Obj} {od : Option Addr} {prog : Program} {w : World} {nm : String}
theorem zz_fillsI {h : Heap} {add : Bool} (X : K.In h) (hc : mro2 K C = true) (h1 : findIn K (.ref C) (dunderI nm) = some none) (h2 : findIn K (.type "object") (dunderI nm) = some none) : Looks M h (fillsInplaceSlot (.ref C) nm add) false := by
  intro A Q E s k q
  unfold mro2 at hc
  split at hc
  · rename_i cd hcd
    split at hc
    · rename_i a b hm
      simp only [Bool.and_eq_true, beq_iff_eq] at hc
      obtain ⟨rfl, rfl⟩ := hc
      have Lm : Looks M h (mroOf (.ref C)) cd.mro := (looks_clsIn X hcd).andThen (f := fun cd => pure cd.mro) .now
      have Lm' := Lm.keeps k
      obtain ⟨hh, g, d, tt, os⟩ := s
      have X' : K.In hh := X.keeps k
      have L1 : Looks M hh (typeLookup (.ref C) (dunderI nm)) none := looks_findIn X' h1
      have L2 : Looks M hh (typeLookup (.type "object") (dunderI nm)) none := looks_findIn X' h2
      unfold fillsInplaceSlot
      refine wpAny_bind (Lm'.at ?_)
      rw [hm, List.anyM_cons]
      refine wpAny_bind ?_
      refine wpAny_bind (L1.at (wpAny_pure ?_))
      simp only [Bool.false_eq_true, if_false]
      rw [List.anyM_cons]
      refine wpAny_bind (wpAny_bind (L2.at (wpAny_pure ?_)))
      simp only [Bool.false_eq_true, if_false, List.anyM_nil]
      exact wpAny_pure q
    · cases hc
  · cases hc
end
end PySem.W
namespace PySem.W
open PySem PySem.Calls PyProof.Rows
section
variable {K : Frag} {C : Addr} {A : Around} {E : Value → Shared → Prop} {s : Shared} {h₀ : Heap} {x f L : Addr} {ox : Obj} {od : Option Obj} {prog : Program} {w : World} {m : Str → Option Value}
theorem zz_inplace {op : Operator} {b : Value} {Q : Value → Shared → Prop} (F : Fr h₀ L s.heap m) (X₀ : K.In h₀) (I : InstAt s.heap x ox C od) (hb : Looks (model prog w) s.heap (typeOf b) (.ref C)) (hc : selfFirst K C = true)
    (h2 : mro2 K C = true) (hn : findIn K (.ref C) (dunderI op.info.2) = some none) (ho : findIn K (.type "object") (dunderI op.info.2) = some none)
    (hs : findIn K (.ref C) (PySem.dunder op.info.2) = some (some (.ref f))) (hf : isFn K (.ref f) = true)
    (h : wpAny (model prog w) A (call (.ref f) [.ref x, b]) (CmpBack Q) E s) : wpAny (model prog w) A (inplaceOp op (.ref x) b) Q E s := by
  have X := X₀.keeps F.keep
  obtain ⟨cd, hcd, hm⟩ := any_some hc
  obtain ⟨rest, hm⟩ : ∃ rest, cd.mro = .ref C :: rest := by
    cases q : cd.mro with
    | nil => rw [q] at hm; cases hm
    | cons a r => rw [q] at hm; exact ⟨r, by rw [List.head?_cons] at hm; cases (beq_iff_eq.mp hm); rfl⟩
  unfold inplaceOp
  refine wpAny_holding (wpAny_bind (I.type.here (wpAny_bind ((zz_fillsI (add := op == .Add) X h2 hn ho).here ?_))))
  simp only [Bool.false_eq_true, if_false]
  refine wpAny_bind ?_
  unfold binaryOp1
  refine wpAny_bind (I.type.here (wpAny_bind (hb.here (wpAny_bind ((fills_K X hcd hm hs).here ?_)))))
  simp only [beq_self_eq_true, if_true]
  refine wpAny_bind (wpAny_pure ?_)
  simp only [Bool.and_false, Bool.false_eq_true, if_false, Bool.false_and]
  refine wpAny_bind (wpAny_pure ?_)
  simp only [Bool.false_eq_true, if_false]
  refine wpAny_bind (m := tryMethod (.ref x) _ b) ?_
  unfold tryMethod
  refine wpAny_bind (special_fn X I hs (beq_iff_eq.mp hf) (wpAny_mono h (fun v s' hv => ?_) fun _ _ e => e))
  cases v <;> first | exact hv.elim | exact wpAny_pure (wpAny_pure (wpAny_pure hv))
end
end PySem.W
namespace L2
open PySem PySem.Spec
/-- no augmented operator of its own: plain class under object -/
structure OpI (K : PySem.W.Frag) (C : Addr) (nm : String) : Prop where
  m2 : PySem.W.mro2 K C = true
  no : PySem.W.findIn K (.ref C) (dunderI nm) = some none
  ob : PySem.W.findIn K (.type "object") (dunderI nm) = some none
section
variable {X : Cx} {CX : CXT} {k : Nat} {f C p : Addr} {fd : FuncData} {ps : List Str} {sp : Sp} {E : L2.St → XK} {pos : Pos} {a : Expr} {ta : TE}
def rIown (C : Addr) (sp : Sp) (E : L2.St → XK) : TIp := fun x y H Q => ∃ u v dx fs dy gs, x = .ref u ∧ y = .ref v ∧ H u = some (.ins C dx fs) ∧ H v = some (.ins C dy gs) ∧ ∀ σ, sp [x, y] H Q (E σ)
theorem ip_own {op : Operator} (O : OpC X.K C (PySem.dunder op.info.2) f) (OI : OpI X.K C op.info.2) (F : FnOk X.prog X.w X.K X.mg X.base CX k f fd ps sp) (hr : Room k X.A) (hbd : Binds X.K fd ps []) (hx : ∀ σ, PassesAt CX X σ (E σ)) : PIp X op (rIown C sp E) := by
  intro pins s σ H x y v u Q I rx ry q
  obtain ⟨c, d, dx, fs, dy, gs, rfl, rfl, hc, hd, q⟩ := q
  cases (show v = Value.ref c from rx)
  cases (show u = Value.ref d from ry)
  obtain ⟨mA, O1, _⟩ := ins_get I.hok hc
  obtain ⟨mB, O2, _⟩ := ins_get I.hok hd
  obtain ⟨od, J, _⟩ := O1.look
  obtain ⟨od', J', _⟩ := O2.look
  obtain ⟨m, hF⟩ := I.fr
  refine PySem.W.zz_inplace hF I.ok.mod.kin J J'.type O.sf OI.m2 OI.no OI.ob O.hs O.fn ?_
  refine wpAny_mono (run_fnSD (us := [.ref c, .ref d]) (vs := [.ref c, .ref d]) (dvs := []) (ds := []) F hr hbd .nil (hx σ) I (.cons rfl (.cons rfl .nil)) (q σ)) (fun w s' z => ?_) fun _ _ x => x
  obtain ⟨z', H', I', rz, qz⟩ := z
  exact SlX.cmpback rz ⟨z', H', I', rz, qz⟩
def tOwn1 (C : Addr) (sp : Sp) (E : L2.St → XK) (ta : TE) : TE := fun σ H Q => ta σ H fun x H1 => ∃ u dx fs, x = .ref u ∧ H1 u = some (.ins C dx fs) ∧ sp [x] H1 Q (E σ)
theorem pe_ownInv (ha : PE X a ta) (hs : PySem.W.findIn X.K (.ref C) "__invert__" = some (some (.ref f))) (hf : PySem.W.isFn X.K (.ref f) = true) (F : FnOk X.prog X.w X.K X.mg X.base CX k f fd ps sp) (hr : Room k X.A) (hbd : Binds X.K fd ps []) (hx : ∀ σ, PassesAt CX X σ (E σ)) :
    PE X (.UnaryOp .Invert a pos) (tOwn1 C sp E ta) := by
  refine ⟨fun pins s σ H Q I h => ?_⟩
  refine wpAny_UnaryOp (thn (ha.run pins s σ H _ I h) fun u s1 ⟨x, H1, I1, rx, c, dx, fs, ex, hc, q⟩ => ?_)
  subst ex
  obtain rfl : u = Value.ref c := rx
  obtain ⟨mA, O1, _⟩ := ins_get I1.hok hc
  obtain ⟨od, J, _⟩ := O1.look
  obtain ⟨m, hF⟩ := I1.fr
  refine PySem.W.ksp_inv hF I1.ok.mod.kin J hs hf ?_
  exact run_fnSD (us := [.ref c]) (vs := [.ref c]) (dvs := []) (ds := []) F hr hbd .nil (hx σ) I1 (.cons rfl .nil) q
theorem pe_ownNeg (ha : PE X a ta) (hs : PySem.W.findIn X.K (.ref C) "__neg__" = some (some (.ref f))) (hf : PySem.W.isFn X.K (.ref f) = true) (F : FnOk X.prog X.w X.K X.mg X.base CX k f fd ps sp) (hr : Room k X.A) (hbd : Binds X.K fd ps []) (hx : ∀ σ, PassesAt CX X σ (E σ)) :
    PE X (.UnaryOp .USub a pos) (tOwn1 C sp E ta) := by
  refine ⟨fun pins s σ H Q I h => ?_⟩
  refine wpAny_UnaryOp (thn (ha.run pins s σ H _ I h) fun u s1 ⟨x, H1, I1, rx, c, dx, fs, ex, hc, q⟩ => ?_)
  subst ex
  obtain rfl : u = Value.ref c := rx
  obtain ⟨mA, O1, _⟩ := ins_get I1.hok hc
  obtain ⟨od, J, _⟩ := O1.look
  obtain ⟨m, hF⟩ := I1.fr
  refine PySem.W.ksp_neg hF I1.ok.mod.kin J hs hf ?_
  exact run_fnSD (us := [.ref c]) (vs := [.ref c]) (dvs := []) (ds := []) F hr hbd .nil (hx σ) I1 (.cons rfl .nil) q
end
end L2
namespace ZZ
open PySem PySem.Spec L2
def kOwn1 (c : Nat) (fh : DF) (v : Val) : DE := fun _ ce => if isC c ce v then fh [v] ce else .stuck
/-- an own operator that raises nothing -/
def kOwnN (c : Nat) (fh : DF) (v u : Val) : DE := fun sl ce => match kOwn c fh v u sl ce with
  | .ok x ce' => .ok x ce'
  | _ => .stuck
def kSIdx (v : Val) (vs : List Val) : DE := fun _ ce => match v, vs with
  | .im (.str a), [.im (.str b)] => match Builtin.Str.occurrences a b 0 a.length 1 with
    | i :: _ => .ok (.im (.int (i : Nat))) ce
    | [] => .stuck
  | _, _ => .stuck
/-- the class's own unary operator -/
structure Op1 (K : PySem.W.Frag) (C : Addr) (nm : Str) (f : Addr) : Prop where
  hs : PySem.W.findIn K (.ref C) nm = some (some (.ref f))
  fn : PySem.W.isFn K (.ref f) = true
section
variable {X : Cx} {Z : Zy} {W : WX} {k n : Nat} {fa pa : Addr} {ps : List Str} {fh : DF} {x m nm : Str} {p pos pos2 apos cpos : Pos} {a b e e2 o : Expr} {es : List Expr} {f g : DE} {fs : List DE} {c : Nat}
theorem t_own1 {σ : L2.St} {H : Hp} {Q : VK} (h : tE Z W (eUn (kOwn1 c fh) f) σ H Q) : tOwn1 (Z.cl c) (spD Z.toZx fh 1) (WE W) (tE Z W f) σ H Q :=
  tE_imp (fun x H1 ⟨A, F, sl, ce, v, so, hs, rv, p⟩ => by
    unfold kOwn1 at p
    by_cases hi : isC c ce v = true
    · rw [if_pos hi] at p
      obtain ⟨a, dx, fs, n, rfl, h1, h2⟩ := isC_rd so rv hi
      exact ⟨a, dx, fs, rfl, h1, spD_call (sl := sl) (vs := [v]) so ⟨_, _, rfl, rv, rfl⟩ rfl (by simp [isC_plain hi]) p⟩
    · rw [if_neg hi] at p
      exact p.elim) (tE1 h)
theorem de_ownInv (O : Op1 X.K (Z.cl c) "__invert__" fa) (G : DOk X.prog X.w X.K X.mg X.base k fa ps (spD Z.toZx fh 1)) (hr : Room k X.A) (tw : TW X W) (ha : PE X a (tE Z W f)) :
    PE X (.UnaryOp .Invert a pos) (tE Z W (eUn (kOwn1 c fh) f)) := by
  obtain ⟨fd, F, bd⟩ := G.ex
  exact (pe_ownInv ha O.hs O.fn F hr bd tw).weak fun σ H Q h => t_own1 h
theorem de_ownNeg (O : Op1 X.K (Z.cl c) "__neg__" fa) (G : DOk X.prog X.w X.K X.mg X.base k fa ps (spD Z.toZx fh 1)) (hr : Room k X.A) (tw : TW X W) (ha : PE X a (tE Z W f)) :
    PE X (.UnaryOp .USub a pos) (tE Z W (eUn (kOwn1 c fh) f)) := by
  obtain ⟨fd, F, bd⟩ := G.ex
  exact (pe_ownNeg ha O.hs O.fn F hr bd tw).weak fun σ H Q h => t_own1 h
theorem ok_ownN : Ok2 Z W (kOwnN c fh) (rIown (Z.cl c) (spD Z.toZx fh 2) (WE WF)) := by
  intro A F sl ce v u x y H σ Q so hs rv ru p
  unfold kOwnN kOwn at p
  by_cases hi : (isC c ce v && isC c ce u) = true
  · rw [if_pos hi] at p
    simp only [Bool.and_eq_true] at hi
    obtain ⟨a, dx, fs, n, rfl, h1, h2⟩ := isC_rd so rv hi.1
    obtain ⟨b, dy, gs, n', rfl, h3, h4⟩ := isC_rd so ru hi.2
    refine ⟨a, b, dx, fs, dy, gs, rfl, rfl, h1, h3, fun σ' => spD_call (sl := sl) (σ := σ') (vs := [v, u]) so ⟨_, _, rfl, rv, _, _, rfl, ru, rfl⟩ rfl (by simp [isC_plain hi.1, isC_plain hi.2]) ?_⟩
    split at p
    · rename_i x ce' e
      rw [e]
      exact p
    · exact p.elim
  · rw [if_neg hi] at p
    exact p.elim
theorem ip_ownD {op : Operator} (O : OpC X.K (Z.cl c) (PySem.dunder op.info.2) fa) (OI : OpI X.K (Z.cl c) op.info.2) (G : DOk X.prog X.w X.K X.mg X.base k fa ps (spD Z.toZx fh 2)) (hr : Room k X.A) : PIp X op (rIown (Z.cl c) (spD Z.toZx fh 2) (WE WF)) := by
  obtain ⟨fd, F, bd⟩ := G.ex
  exact ip_own O OI F hr bd tw_none
theorem ip_ownAnd (O : OpC X.K (Z.cl c) "__and__" fa) (OI : OpI X.K (Z.cl c) "and") (G : DOk X.prog X.w X.K X.mg X.base k fa ps (spD Z.toZx fh 2)) (hr : Room k X.A) : PIp X .BitAnd (rIown (Z.cl c) (spD Z.toZx fh 2) (WE WF)) := ip_ownD (by rw [dunder_and]; exact O) OI G hr
theorem ip_ownOr (O : OpC X.K (Z.cl c) "__or__" fa) (OI : OpI X.K (Z.cl c) "or") (G : DOk X.prog X.w X.K X.mg X.base k fa ps (spD Z.toZx fh 2)) (hr : Room k X.A) : PIp X .BitOr (rIown (Z.cl c) (spD Z.toZx fh 2) (WE WF)) := ip_ownD (by rw [dunder_or]; exact O) OI G hr
theorem ip_ownAdd (O : OpC X.K (Z.cl c) "__add__" fa) (OI : OpI X.K (Z.cl c) "add") (G : DOk X.prog X.w X.K X.mg X.base k fa ps (spD Z.toZx fh 2)) (hr : Room k X.A) : PIp X .Add (rIown (Z.cl c) (spD Z.toZx fh 2) (WE WF)) := ip_ownD (by rw [dunder_add]; exact O) OI G hr
theorem de_sidx (hK : X.K = Z.K) (ho : PE X o (tE Z W f)) (ha : PE X e (tE Z W g))
    (hb : attributeBase o "index" X.env (eval o X.env) = eval o X.env := by rfl) (hl : (apos.endLine == cpos.line) = true := by rfl) (hs : starEach [e] X.env = (false, eval e X.env) :: starEach [] X.env := by rfl)
    (hfew : ((backTo cpos (starEach [e] X.env)).all (fun x => !x.1) && (backToKw cpos (keywordEach [] X.env)).all (fun x => x.1.isSome)
      && decide ([e].length + ([] : List Keyword).length + (if ([] : List Keyword).isEmpty then 0 else 1) < 30)) = true := by rfl) :
    PE X (.Call (.Attribute o "index" apos) [e] [] cpos) (tE Z W (eMth tyS kSIdx f [g])) :=
  de_bm PySem.F.plainAttrs_str PySem.F.slot_str_index PySem.F.type_str_index mt_sindex ⟨tyS_ok, fun A F sl ce v x vs xs H σ Q so hs rv rs p => by
    unfold kSIdx at p
    split at p
    · obtain ⟨y, rfl, ry⟩ := vreps1 rs
      split at p
      · rename_i i rest hoc
        rw [rep_str rv, rep_str ry]
        exact ⟨_, _, _, _, rfl, rfl, hoc, fin_flat so p repI⟩
      · exact p.elim
    · exact p.elim⟩ ho (da_cons ha da_nil hs) hb hl hs rfl hfew
end
end ZZ

set_option Elab.async false
set_option linter.all false
set_option maxRecDepth 100000
/-! Z13: an own class iterated, measured, called. -/
namespace L2
open PySem PySem.Spec PyProof.Rows
/-- a promise that knows the heap's size at the entry -/
structure FnOkN (P : Program) (w : World) (K : PySem.W.Frag) (mg : Str → Option Value) (base : Heap) (CX : CXT) (k : Nat) (f : Addr) (fd : FuncData) (ps : List Str) (sp : Nat → Sp) : Prop where
  len : ∀ n vs H Q E, sp n vs H Q E → vs.length = ps.length
  run : ∀ (A : Around) (outer : List Env) (s : Shared) (H : Hp) (args : Args) (us : List Value) (vs : List V) (Q : VK) (E : XK), Room k A → Env0 P w K mg base A outer s H → BindsTo s fd args (ps.zip us) → Vals vs us →
    sp s.heap.objs.size vs H Q E → codeAny (model P w) A (.call (.ref f) args) (CR CX outer P w H s Q E) s
theorem fn_ofN {CX : CXT} {P : Program} {w : World} {K : PySem.W.Frag} {mg : Str → Option Value} {base : Heap} {k : Nat} {f : Addr} {name qual : Str} {st : Stmt} {fd : FuncData} {N ps : List Str} {sp : Nat → Sp}
    (Fn : Fun K name qual st f fd) (S : FnScope N ps (defScope st)) (len : ∀ n vs H Q E, sp n vs H Q E → vs.length = ps.length)
    (hbody : ∀ (cdv : Value) (A : Around) (outer : List Env) (s : Shared) (H : Hp) (vs : List V) (Q : VK) (E : XK), Room k (A.deeper (envOfC qual (defScope st) s.heap.objs.size f cdv)) → sp s.heap.objs.size vs H Q E →
      ∃ t, PSs (cxOf CX P w K mg base N qual (defScope st) f cdv A outer s H E) (defBody st) t ∧ t { nx := fun _ H' => Q .non H', rt := Q } (start N vs) H) :
    FnOkN P w K mg base CX (k + 1) f fd ps sp := by
  obtain ⟨oc, od, kV, doc, pm, an, cdv, ct, osl, rfl, lk, hcd⟩ := Fn.ex
  refine ⟨len, fun A outer s H args us vs Q E room e0 hb r q => ?_⟩
  have hlen := len _ _ _ _ _ q
  have inK : K.In s.heap := e0.mod.kin.keeps fun b o z => (e0.bs b o z).1
  have noLim : s.heap.NoLimit := e0.mod.nolimit.keeps fun b o z => (e0.bs b o z).1
  refine codeAny_call_function room.depth (inK _ _ lk) rfl S.co S.gen rfl (PySem.W.codeRec_of inK hcd) (hb _ _ _ _ ?_)
  refine wpAny_newFunctionEnv_cells S.kind (fun ⟨n, v⟩ hy => ?_) fun env he s1 x => ?_
  · rcases S.par n (List.of_mem_zip hy).1 with z | z
    · exact .inl z
    · exact .inr ⟨z, PySem.W.cellsFrom_some _ _ _ (.inl z)⟩
  subst he
  refine ⟨noLim.keeps x.toInCall.keep, codeAny_func ?_⟩
  obtain ⟨t, ht, hq⟩ := hbody cdv A outer s H vs Q E (room.deeper _) q
  have J0 := inv_start (CX := CX) (E := E) S room.hd e0 hlen r x
  refine wpAny_mono (ht.run [] s1 (start N vs) H _ J0 hq) (fun fl s' hs => ?_) fun e s' z => z
  cases fl with
  | ret u =>
    obtain ⟨v, σ', H', J, rv, q⟩ := hs
    exact ⟨v, H', J.os, J.bare, J.base, J.hok, rv, q⟩
  | next =>
    obtain ⟨σ', H', J, q⟩ := hs
    exact ⟨V.non, H', J.os, J.bare, J.base, J.hok, rfl, q⟩
  | brk =>
    obtain ⟨_, _, _, q⟩ := hs
    exact q.elim
  | cont =>
    obtain ⟨_, _, _, q⟩ := hs
    exact q.elim
/-- return iter(self.fl) -/
def spIter (K : PySem.W.Frag) (C : Addr) (fl : Str) (n : Nat) : Sp := fun vs H Q _ => ∃ a dx fs l zs, vs = [.ref a] ∧ H a = some (.ins C dx fs) ∧ Cls K C ∧ NoAttr K C fl ∧ fs.lookup fl = some (.ref l) ∧ SqL K H l zs ∧
  ∀ it, H it = none → n ≤ it → Q (.ref it) (upd H it (ItO l it 0))
section
variable {X : Cx} {CX : CXT} {k : Nat} {f C p : Addr} {fd : FuncData} {ps : List Str} {sp : Sp} {E : L2.St → XK} {x m fl : Str} {pos apos pos' : Pos} {a b e o tg : Expr} {es : List Expr} {ta tb : TE} {t : TA}
def iOwnIt (K : PySem.W.Frag) (C : Addr) (fl : Str) (tl : TE) : TI := fun σ H R => tl σ H fun x H1 => ∃ a dx fs l zs, x = .ref a ∧ H1 a = some (.ins C dx fs) ∧ Cls K C ∧ NoAttr K C fl ∧ fs.lookup fl = some (.ref l) ∧ SqL K H1 l zs ∧ R (Itl K l) H1
theorem pi_ownIt (he : PE X e ta) (hs : PySem.W.findIn X.K (.ref C) "__iter__" = some (some (.ref f))) (hf : PySem.W.isFn X.K (.ref f) = true) (F : FnOkN X.prog X.w X.K X.mg X.base CX k f fd ["self"] (spIter X.K C fl)) (hr : Room k X.A) (hbd : Binds X.K fd ["self"] []) (hx : Passes CX X fun _ _ _ => False) :
    PI X tg e (iOwnIt X.K C fl ta) := by
  refine ⟨fun pins s σ H R I h => ?_⟩
  refine thn (he.run pins s σ H _ I h) fun v s1 ⟨x, H1, I1, rx, c, dx, fs, l, zs, ex, hc, hcl, hno, hlk, hsq, q⟩ => ?_
  subst ex
  obtain rfl : v = Value.ref c := rx
  obtain ⟨mA, O1, _⟩ := ins_get I1.hok hc
  obtain ⟨od, J, _⟩ := O1.look
  obtain ⟨m, hF⟩ := I1.fr
  refine PySem.W.owit_iter hF I1.ok.mod.kin J hs hf ?_
  refine wpAny_call (codeAny_mono (F.run X.A X.stack s1 H1 ⟨[.ref c], []⟩ [.ref c] [.ref c] (fun v H' => ∃ it, v = .ref it ∧ H1 it = none ∧ s1.heap.objs.size ≤ it ∧ H' = upd H1 it (ItO l it 0)) (fun _ _ _ => False) hr I1.env0 (hbd s1 [.ref c] I1.kIn rfl) (.cons rfl .nil) ⟨c, dx, fs, l, zs, rfl, hc, hcl, hno, hlk, hsq, fun it h1 h2 => ⟨it, rfl, h1, h2, rfl⟩⟩) fun r s' hq => ?_)
  cases r with
  | error er => exact hx pins σ H1 s1 er s' I1 hq
  | ok fl' =>
    cases fl' with
    | ret u =>
      obtain ⟨v, H', I2, rv, it, rfl, hn, hle, rfl⟩ := I1.after hq
      obtain rfl : u = Value.ref it := rv
      have hi : (upd H1 it (ItO l it 0)) it = some (ItO l it 0) := upd_same
      have eo := itO_get I2 hi
      have hT : s'.TypeIs (.ref it) "list_iterator" := ⟨_, eo, rfl⟩
      have st : s'.heap.IsListIter it l 0 := ⟨_, eo, rfl, rfl⟩
      have hi' := hi
      unfold ItO at hi'
      have I3 := ItX.inv_drop I2 hi'
      have ed : ItX.dropH (upd H1 it (ItO l it 0)) it = H1 := ItX.dropH_upd hn
      have fp := ItX.inv_fp I2 hi (Nat.le_trans I1.sz hle)
      rw [ed] at I3 fp
      show PySem.W.OwitIt _ _ _ _ _ _
      unfold PySem.W.OwitIt
      refine wpAny_specialOf (name := Str.ofString "__next__") hT slot_listiter_next.lookup ?_
      refine ⟨it, [it], _, _, H1, rfl, I3, turn_list l it, st, fun b hb => ?_, q⟩
      have e : b = it := by simpa using hb
      rw [e]
      exact fp
    | next => exact False.elim hq
    | brk => exact False.elim hq
    | cont => exact False.elim hq
end
end L2
namespace L2
open PySem PySem.Spec PyProof.Rows
section
variable {X : Cx} {CX : CXT} {k i : Nat} {f C p : Addr} {fd : FuncData} {ps : List Str} {sp : Sp} {E : L2.St → XK} {x m fl : Str} {pos apos pos' pn : Pos} {a b e o tg : Expr} {es : List Expr} {ta tb : TE} {t : TA}
/-- len(e), e an instance with __len__ -/
def tLenO (C : Addr) (sp : Sp) (ta : TE) : TE := fun σ H Q => ta σ H fun x H1 => ∃ a dx fs, x = .ref a ∧ H1 a = some (.ins C dx fs) ∧ sp [x] H1 (fun v H2 => ∃ n, v = .int n ∧ 0 ≤ n ∧ n < 2 ^ 62 ∧ Q (.int n) H2) fun _ _ _ => False
theorem pe_lenO (he : PE X e ta) (hs : PySem.W.findIn X.K (.ref C) "__len__" = some (some (.ref f))) (hf : PySem.W.isFn X.K (.ref f) = true) (F : FnOk X.prog X.w X.K X.mg X.base CX k f fd ["self"] sp) (hr : Room (k + 1) X.A) (hbd : Binds X.K fd ["self"] []) (hx : Passes CX X fun _ _ _ => False)
    (hg : Gl X "len") (hm : X.mg "len" = none) (hst : starEach [e] X.env = (false, eval e X.env) :: starEach [] X.env := by rfl) (hpl : (backTo pos (starEach [] X.env)).any (·.1) = false := by rfl) :
    PE X (.Call (.Name "len" pn) [e] [] pos) (tLenO C sp ta) := by
  refine ⟨fun pins s σ H Q I h => ?_⟩
  refine wpAny_Call_Name_kw (ld_blt (u := .builtin "len") I hg hm PySem.boot_len ?_ (by decide) (by decide))
  have ha : PA X [e] (tCons ta tNil) := pa_cons he pa_nil hst
  refine PyProof.Rows.callWith_builtin1 (thn (ha.run pos pins s σ H (fun vs H1 => match vs with
    | [x] => ∃ a dx fs, x = .ref a ∧ H1 a = some (.ins C dx fs) ∧ sp [x] H1 (fun v H2 => ∃ n, v = .int n ∧ 0 ≤ n ∧ n < 2 ^ 62 ∧ Q (.int n) H2) fun _ _ _ => False
    | _ => False) I h) fun us s1 ⟨vs, H1, I1, r1, q1⟩ => ?_) hst hpl
  rcases vs with _ | ⟨x, _ | ⟨y, r⟩⟩
  · exact q1.elim
  rotate_left
  · exact q1.elim
  obtain ⟨c, dx, fs, rfl, hc, q⟩ := q1
  obtain ⟨u, rfl, ru⟩ := vals1 r1
  obtain rfl : u = Value.ref c := ru
  obtain ⟨mA, O1, _⟩ := ins_get I1.hok hc
  obtain ⟨od, J, _⟩ := O1.look
  obtain ⟨m, hF⟩ := I1.fr
  refine PySem.W.len_K hF I1.ok.mod.kin J hs hf ?_
  refine wpAny_call (codeAny_mono (F.run X.A.in1 X.stack s1 H1 ⟨[.ref c], []⟩ [.ref c] [.ref c] _ _ hr.in1 I1.env0.in1 (hbd s1 [.ref c] I1.kIn rfl) (.cons rfl .nil) q) fun r s' hq => ?_)
  cases r with
  | error er => exact hx pins σ H1 s1 er s' I1 hq
  | ok fl' =>
    cases fl' with
    | ret u =>
      obtain ⟨v, H', I2, rv, n, rfl, n0, n1, q2⟩ := I1.after hq
      obtain ⟨tk, rfl⟩ := rv
      exact ⟨⟨n0, by omega⟩, .int n, H', I2.tok _, ⟨_, rfl⟩, q2⟩
    | next => exact False.elim hq
    | brk => exact False.elim hq
    | cont => exact False.elim hq
end
end L2
namespace PySem.W
open PySem PySem.Spec PySem.Calls PyProof.Rows
section
variable {M : Model} {A : Around} {E : Value → Shared → Prop} {s : Shared} {K : Frag} {env : Env} {pos : Pos} {x C : Addr} {ox : Obj} {first : List Value} {Q : Value → Shared → Prop}
/-- an instance called: it stands behind the arguments -/
theorem zz_callWith {e : Expr} {rest : List Expr} (hd : ox.data = .plain)
    (h : wpAny M A (spliced (backTo pos (starEach (e :: rest) env))) (fun vs s₁ => s₁.heap.get? x = some ox ∧ wpAny M A (call (.ref x) (first ++ vs)) Q E s₁) E s)
    (he : starEach (e :: rest) env = (false, eval e env) :: starEach rest env := by rfl) (hplain : (backTo pos (starEach rest env)).any (·.1) = false := by rfl) :
    wpAny M A (callWith pos (.ref x) first (backTo pos (starEach (e :: rest) env)) []) Q E s := by
  rw [he] at h ⊢
  have hp : (((false, eval e env) :: backTo pos (starEach rest env)).any (·.1) || ([] : List (Option Str × Sem Value)).any (·.1.isNone)) = false := by
    rw [List.any_cons, hplain]
    rfl
  have h2 := evalArgs_plain (f := .ref x) (Q := fun a s₁ => s₁.heap.get? x = some ox ∧ wpAny M A (call (.ref x) (first ++ a.pos) a.kw) Q E s₁) (rest := backTo pos (starEach rest env)) h
  unfold callWith
  refine wpAny_bind (wpAny_holding (wpAny_mono h2 (fun a s₁ h₁ => wpAny_bind (wpAny_standAt ?_)) fun _ _ y => y))
  have kp : Looks M s₁.heap (keeperOf (.ref x)) .caller := (Looks.ld (part := none) h₁.1).andThen (by simp only [hd]; exact .now)
  have hp' : (List.any (backTo pos ((false, eval e env) :: starEach rest env)) (·.1) || ([] : List (Option Str × Sem Value)).any (·.1.isNone)) = false := hp
  simp only [hp']
  refine wpAny_bind (kp.here ?_)
  exact wpAny_bind (wpAny_mono (wpAny_operateT h₁.2) (fun r s₂ hr => wpAny_bind (wpAny_holding (wpAny_point (wpAny_pure hr)))) fun _ _ y => y)
end
end PySem.W
namespace ZZ
open PySem PySem.Spec L2
/-- an own class's items: its i-th field, a list -/
def itO (c i : Nat) : Val → Option (List D)
  | .im (.ins d ds) => if d = c then (match ds[i]? with
    | some (.lst es) => some es
    | _ => none) else none
  | _ => none
/-- len(e), e an own instance -/
def kLenO (c : Nat) (fh : DF) (v : Val) : DE := fun _ ce => if isC c ce v then (match fh [v] ce with
  | .ok (.im (.int n)) ce' => if Nat.ble n.natAbs 4611686018427387903 && decide (0 ≤ n) then .ok (.im (.int n)) ce' else .stuck
  | _ => .stuck) else .stuck
/-- a def that gives an iterator over a field -/
structure ItOk (P : Program) (w : World) (K : PySem.W.Frag) (mg : Str → Option Value) (base : Heap) (C f : Addr) (fl : Str) : Prop where
  hs : PySem.W.findIn K (.ref C) "__iter__" = some (some (.ref f))
  fn : PySem.W.isFn K (.ref f) = true
  ex : ∃ fd, FnOkN P w K mg base (L2N.CX P w) 1 f fd ["self"] (spIter K C fl) ∧ Binds K fd ["self"] []
theorem pass_none {X : Cx} : Passes (L2N.CX X.prog X.w) X fun _ _ _ => False := fun pins σ H s e s' I h => tw_none σ pins H s e s' I h
section
variable {X : Cx} {Z : Zy} {W : WX} {k n i : Nat} {fa : Addr} {ps : List Str} {fh : DF} {fl : Str} {p pos pn : Pos} {a b e tg : Expr} {f g : DE} {c : Nat}
theorem jok_l2 {Z : Zx} {F : Hp} {K : PySem.W.Frag} {a : Addr} {vs : List V} {ds : List D} (hl : SqL K F a vs) (r : Reps Z F ds vs) : JOk Z F (Itl K a) ds := fun F1 H i e1 e2 => by
  have h2 := e2.seq (e1.seq hl)
  refine ⟨fun h => ⟨vs, h2, by rw [h, r.length]; exact Nat.le_refl _⟩, fun d hd => ?_⟩
  obtain ⟨v, hv, rv⟩ := r.get' hd
  refine ⟨⟨vs, v, h2, hv⟩, fun x H' ⟨eH, hx⟩ => .inl ⟨?_, eH⟩⟩
  have := hx vs h2
  rw [hv] at this
  cases this
  exact rv.mono e1
theorem itN {P : Program} {w : World} {K : PySem.W.Frag} {mg : Str → Option Value} {base : Heap} {name qual : Str} {st : Stmt} {f C : Addr} {fd : FuncData} {fl : Str} {p1 p2 p3 p4 p5 : Pos} (Fn : Fun K name qual st f fd) (S : FnScope ["self"] ["self"] (defScope st)) (hm : mg "iter" = none)
    (hb : defBody st = [.Return (some (.Call (.Name "iter" p1) [.Attribute (.Name "self" p2) fl p3] [] p4)) p5])
    (hg : (defScope st).names.lookup ("iter" : Str) = some .globalImplicit) (hv : (defScope st).names.lookup ("self" : Str) = some .local) : FnOkN P w K mg base (L2N.CX P w) 1 f fd ["self"] (spIter K C fl) := by
  refine fn_ofN Fn S (fun n vs H Q E ⟨a, dx, fs, l, zs, e, _⟩ => by rw [e]; rfl) fun cdv A outer s H vs Q E hr h => ?_
  rw [hb]
  refine ⟨_, pss_one (ps_ret (pe_callB (ItX.call_iterN) (show Gl _ "iter" from hg) hm (by decide +kernel) (pa_cons (pe_fld (pe_var (i := 0) rfl (.inl hv)) rfl) pa_nil rfl))), ?_⟩
  obtain ⟨a, dx, fs, l, zs, rfl, ha, hc, hn, hl, hq, k⟩ := h
  exact ⟨_, rfl, a, C, dx, fs, .ref l, rfl, ha, hc, hn, hl, l, zs, rfl, hq, k⟩
theorem di_own (hK : X.K = Z.K) (he : PE X e (tE Z W f)) (kc : ClsOk X.K Z.toZx c) (na : NoAttr X.K (Z.cl c) fl) (hi : (Z.fl c)[i]? = some fl) (G : ItOk X.prog X.w X.K X.mg X.base (Z.cl c) fa fl) (hr : Room 1 X.A) : PI X tg e (tI Z W (iExp f (itO c i))) := by
  obtain ⟨fd, F, bd⟩ := G.ex
  refine (pi_ownIt he G.hs G.fn F hr bd pass_none).weak fun σ H R h => tE_imp (fun x H1 ⟨A, F, ce, v, ds, so, r, e, q⟩ => ?_) (tI1 h)
  unfold itO at e
  split at e
  · rename_i d xs
    split at e
    · rename_i hd
      subst hd
      split at e
      · rename_i es hx
        cases e
        unfold VRep Rep at r
        obtain ⟨a, dx, fs, rfl, ha, hf, hr2⟩ := r
        obtain ⟨v, hv, rv⟩ := lookup_ix (n := (Z.fl d).length) kc.nd (by rw [List.take_length]; exact hf) hr2 hi hx
        unfold Rep at rv
        obtain ⟨l, vs, rfl, hl, rr⟩ := rv
        exact ⟨a, dx, fs, l, vs, rfl, so.sub _ _ ha, kc.cls, na, hv, SqL.of (so.sub _ _ hl), q _ (jok_l2 (SqL.of hl) rr)⟩
      · cases e
    · cases e
  · cases e
theorem de_lenO (he : PE X e (tE Z W f)) (hs : PySem.W.findIn X.K (.ref (Z.cl c)) "__len__" = some (some (.ref fa))) (hf : PySem.W.isFn X.K (.ref fa) = true) (G : DOk X.prog X.w X.K X.mg X.base k fa ["self"] (spD Z.toZx fh 1)) (hr : Room (k + 1) X.A) (hg : Gl X "len") (hm : X.mg "len" = none)
    (hst : starEach [e] X.env = (false, eval e X.env) :: starEach [] X.env := by rfl) (hpl : (backTo pos (starEach [] X.env)).any (·.1) = false := by rfl) : PE X (.Call (.Name "len" pn) [e] [] pos) (tE Z W (eUn (kLenO c fh) f)) := by
  obtain ⟨fd, F, bd⟩ := G.ex
  refine (pe_lenO (C := Z.cl c) he hs hf F hr bd pass_none hg hm hst hpl).weak fun σ H Q h => tE_imp (fun x H1 ⟨A, F, sl, ce, v, so, hs, rv, p⟩ => ?_) (tE1 h)
  unfold kLenO at p
  by_cases hi : isC c ce v = true
  · rw [if_pos hi] at p
    obtain ⟨a, dx, fs, n, rfl, h1, h2⟩ := isC_rd so rv hi
    refine ⟨a, dx, fs, rfl, h1, spD_call (W := WF) (sl := sl) (σ := σ) (vs := [v]) so ⟨_, _, rfl, rv, rfl⟩ rfl (by simp [isC_plain hi]) ?_⟩
    split at p
    · rename_i n ce' e
      rw [e]
      split at p
      · rename_i hb
        rw [Bool.and_eq_true, Nat.ble_eq, decide_eq_true_eq] at hb
        exact fun A' F' H' x p1 e1 so1 r1 => ⟨n, rep_int r1, hb.2, by omega, by rw [← rep_int r1]; exact p A' F' H' x p1 e1 so1 r1⟩
      · exact p.elim
    · exact p.elim
  · rw [if_neg hi] at p
    exact p.elim
end
end ZZ
namespace L2
open PySem PySem.Spec PyProof.Rows
theorem strIdx_back (n : Nat) : Builtin.Str.strSliceIndices none none (-1) n = (List.range n).reverse := by
  have h : ((-1 : Int) > 0) = False := by simp
  unfold Builtin.Str.strSliceIndices
  simp only [h, if_false]
  rw [PySem.W.krv_sliceRange, PySem.W.krv_range]
def revS (z : Str) : Str := ⟨z.cps.toList.reverse.toArray⟩
theorem sliceMade_back (z : Str) : (((Builtin.Str.strSliceIndices none none (-1) z.length).filterMap (z.cps[·]?)).toArray) = z.cps.toList.reverse.toArray := by
  rw [strIdx_back, List.filterMap_reverse]
  have := PySem.W.krv_all z.cps
  unfold Str.length
  rw [this]
def tRevS (te : TE) : TE := fun σ H Q => te σ H fun x H1 => ∃ z, x = .str z ∧ z.length ≤ sizeLine ∧ Q (.str (revS z)) H1
section
variable {X : Cx} {e : Expr} {te : TE} {k : Nat} {p1 p2 p3 pos : Pos}
theorem pe_revS (he : PE X e te) : PE X (.Subscript e (.Slice none none (some (.UnaryOp .USub (.Constant (.int 1) k p1) p2)) p3) pos) (tRevS te) := by
  refine ⟨fun pins s σ H Q I h => ?_⟩
  refine Subscript_ (thn (he.run pins s σ H _ I h) fun v s1 ⟨x, H1, I1, r1, z, ex, hz, q⟩ => ?_)
  subst ex
  obtain ⟨t, rfl⟩ := r1
  have back : PO X (some (.UnaryOp .USub (.Constant (.int 1) k p1) p2)) (tPart (tUn (rU fun i => .int (-i)) (tC (.int 1)))) := po_some (pe_un un_neg pe_int)
  refine wpAny_Slice (thn (po_none.run pins s1 σ H1 (fun o K => o = none ∧ K = H1) I1 ⟨rfl, rfl⟩) fun vl s2 ⟨lo, H2, I2, pl, elo, eH2⟩ => ?_)
  subst elo eH2
  refine thn (po_none.run pins s2 σ H2 (fun o K => o = none ∧ K = H2) I2 ⟨rfl, rfl⟩) fun vu s3 ⟨hi, H3, I3, pu, ehi, eH3⟩ => ?_
  subst ehi eH3
  refine thn (back.run pins s3 σ H3 (fun o K => o = some (-1) ∧ K = H3) I3 ⟨1, rfl, -1, rfl, rfl, rfl⟩) fun vs s4 ⟨st, H4, I4, ps, est, eH4⟩ => ?_
  subst est eH4
  have I5 : Inv X pins σ H4 { s4 with heap := s4.heap.push { cls := .type "slice", data := .fields #[vl, vu, vs] } } := I4.kept (t' := s4.toks) fun b ob z => Heap.get?_push_of_some _ z
  obtain ⟨l, rfl, hl⟩ := IsPart.raw pl
  obtain ⟨u, rfl, hu⟩ := IsPart.raw pu
  obtain ⟨w, rfl, hw⟩ := IsPart.raw ps
  obtain ⟨wi, wt⟩ : ∃ wi wt, w = some (wi, wt) := by
    cases w with
    | none => cases hw
    | some p => exact ⟨p.1, p.2, rfl⟩
  obtain ⟨wt, rfl⟩ := wt
  have hwi : wi = -1 := by simpa using hw
  subst hwi
  have hl0 : l = none := by
    cases l with
    | none => rfl
    | some p => cases hl
  have hu0 : u = none := by
    cases u with
    | none => rfl
    | some p => cases hu
  subst hl0 hu0
  refine PyProof.Rows.tail_any (ops := [.str z t, .ref s4.heap.objs.size]) (T := "str") (typeIs_str _ _ _) F.slot_str_getitem.lookup ?_ (by with_unfolding_all rfl)
  refine wpAny_getItem_str_slice (l := none) (u := none) (st := some (-1, wt)) ⟨_, Heap.get?_push_size _ rfl, rfl, rfl⟩ rfl ?_
  have hlen : (revS z).length ≤ sizeLine := by
    show z.cps.toList.reverse.toArray.size ≤ _
    rw [List.size_toArray, List.length_reverse, Array.length_toList]
    exact hz
  have hne : ¬ ((((some ((-1 : Int), wt)).map (·.1)).getD 1 == 1) && ((slicePicked z none none (some ((-1 : Int), wt))).length == z.length)) = true := by simp
  show Made.post (if _ then _ else _) (EP X pins σ Q) _
  rw [if_neg hne]
  show Made.post (.str ⟨((Builtin.Str.strSliceIndices none none (-1) z.length).filterMap (z.cps[·]?)).toArray⟩) (EP X pins σ Q) _
  rw [sliceMade_back]
  exact ⟨hlen, .str _, H4, I5.tok _, ⟨_, rfl⟩, q⟩
end
end L2
namespace ZZ
open PySem PySem.Spec L2
def kRevS (v : Val) : DE := fun _ ce => match v with
  | .im (.str z) => if z.length ≤ LINE then .ok (.im (.str (revS z))) ce else .stuck
  | _ => .stuck
section
variable {X : Cx} {Z : Zy} {W : WX} {e : Expr} {f : DE} {k : Nat} {p1 p2 p3 pos : Pos}
theorem de_revS (he : PE X e (tE Z W f)) : PE X (.Subscript e (.Slice none none (some (.UnaryOp .USub (.Constant (.int 1) k p1) p2)) p3) pos) (tE Z W (eUn kRevS f)) := (pe_revS he).weak fun σ H Q q => tE_imp (fun x H1 ⟨A, F, sl, ce, v, so, hs, r, p⟩ => by
  unfold kRevS at p
  split at p
  · split at p
    · rename_i hl
      exact ⟨_, rep_str r, by rw [sizeLine_eq]; exact hl, fin_flat so p repS⟩
    · exact p.elim
  · exact p.elim) (tE1 q)
end
end ZZ

set_option Elab.async false
set_option linter.all false
set_option maxRecDepth 100000
/-! Z14: super().m(..) in a method, an instance called. -/
namespace PySem.W
open PySem PySem.Spec PySem.Calls PyProof.Rows
section
variable {M : Model} {A : Around} {c : Code} {E : Value → Shared → Prop} {s : Shared} {env : Env} {Q : Value → Shared → Prop}
theorem zz_wpAt_and {a b : Expr} {rest : List Expr} {pos : Pos}
    (h : wpAt M A c (eval a env) (fun v s₁ => wpAny M A (truthy v) (fun t s₂ => if t then wpAt M A c (eval (.BoolOp .And (b :: rest) pos) env) Q E s₂ else Q v s₂) E s₁) E s) : wpAt M A c (eval (.BoolOp .And (a :: b :: rest) pos) env) Q E s := by
  show wpAt M A c (do
    let x ← eval a env
    standAt pos
    let t ← holding [x] (truthy x)
    match BoolOp.And, t with
    | .And, false | .Or, true => pure x
    | _, _ => boolOp pos .And (eval b env :: evalEach rest env)) Q E s
  refine wpAt_bind (ks_wpAt_mono h (fun v s₁ h₁ => wpAt_bind (wpAt_of_wpAny (wpAny_standAt (wpAt_bind (wpAt_of_wpAny (wpAny_holding (wpAny_mono h₁ (fun t s₂ h₂ => ?_) fun _ _ z => z))))))) fun _ _ z => z)
  cases t with
  | true => exact h₂
  | false => exact wpAt_of_wpAny (wpAny_pure h₂)
/-- a bound method called: it stands behind the arguments -/
theorem zz_callWithM {K : Frag} {q f : Addr} {self : Value} {e : Expr} {rest : List Expr} {pos : Pos} (hf : fnIn K f = true)
    (h : wpAny M A (spliced (backTo pos (starEach (e :: rest) env))) (fun vs s₁ => MethP K q f self s₁.heap ∧ wpAny M A (call (.ref q) vs) Q E s₁) E s)
    (he : starEach (e :: rest) env = (false, eval e env) :: starEach rest env := by rfl) (hplain : (backTo pos (starEach rest env)).any (·.1) = false := by rfl) :
    wpAny M A (callWith pos (.ref q) [] (backTo pos (starEach (e :: rest) env)) []) Q E s := by
  rw [he] at h ⊢
  have hp : (((false, eval e env) :: backTo pos (starEach rest env)).any (·.1) || ([] : List (Option Str × Sem Value)).any (·.1.isNone)) = false := by
    rw [List.any_cons, hplain]
    rfl
  exact callWith_of (P := MethP K q f self) hp (keeps_M hf) (evalArgs_plain h)
end
end PySem.W
namespace L2
open PySem PySem.Spec PyProof.Rows NdefX
/-- a def of a class at D that says super() -/
structure SupDef (K : PySem.W.Frag) (file : Str) (name qual : Str) (st : Stmt) (f : Addr) (fd : FuncData) (D cc cda : Addr) : Prop where
  ex : ∃ oc od kV doc pm an ct osl, fd = PySem.W.ksFn name qual (defArgs st) (defBody st) (defScope st) .none kV doc pm an (.ref cda) ct cc ∧ K.lookup f = some ⟨oc, od, .func (PySem.W.ksFn name qual (defArgs st) (defBody st) (defScope st) .none kV doc pm an (.ref cda) ct cc), osl⟩
  code : PySem.W.codeIn K (.ref cda) qual = true
  file : ∃ ccl cdd vs ccs tf, K.lookup cda = some ⟨ccl, cdd, .fields vs, ccs⟩ ∧ vs[2]? = some (.str file tf)
  cell : ∃ cl cld csl, K.lookup cc = some ⟨cl, cld, .cell (some (.ref D)), csl⟩
  cls : ∃ cd, PySem.W.clsIn K D = some cd
abbrev supNF (st : Stmt) (name qual : Str) (cc cda : Addr) : NF := ⟨name, qual, defArgs st, defBody st, defScope st, [("__class__", cc)], cda⟩
/-- in the body of the function itself -/
structure PEat (X : Cx) (body : List Stmt) (e : Expr) (t : TE) : Prop where
  run : ∀ (pins : List (Addr × Obj)) (s : Shared) (σ : St) (H : Hp) (Q : VK), Inv X pins σ H s → t σ H Q → _root_.PySem.wpAt (model X.prog X.w) X.A (.func body X.env) (eval e X.env) (EP X pins σ Q) X.xe s
structure PSat (X : Cx) (body : List Stmt) (st : List Stmt) (t : TS) : Prop where
  run : ∀ (pins : List (Addr × Obj)) (s : Shared) (σ : St) (H : Hp) (D : Ends), Inv X pins σ H s → t D σ H → _root_.PySem.wpAt (model X.prog X.w) X.A (.func body X.env) (execs st X.env) (SP X pins D) X.xe s
section
variable {X : Cx} {body : List Stmt} {a b e : Expr} {es rest : List Expr} {ta tb : TE} {t : TA} {pos apos p0 p1 : Pos} {m : Str}
theorem pea_of (h : PE X e ta) : PEat X body e ta := ⟨fun pins s σ H Q I q => _root_.PySem.wpAt_of_wpAny (h.run pins s σ H Q I q)⟩
theorem pea_one {op} (h : PEat X body a ta) : PEat X body (.BoolOp op [a] pos) ta := ⟨fun pins s σ H Q I q => h.run pins s σ H Q I q⟩
theorem pea_and (ha : PE X a ta) (hb : PEat X body (.BoolOp .And (b :: rest) pos) tb) : PEat X body (.BoolOp .And (a :: b :: rest) pos) (tAndV ta tb) := by
  refine ⟨fun pins s σ H Q I h => ?_⟩
  refine PySem.W.zz_wpAt_and (_root_.PySem.wpAt_of_wpAny (thn (ha.run pins s σ H _ I h) fun v s1 ⟨x, H1, I1, r1, q1⟩ => ?_))
  obtain ⟨t, rfl, q1⟩ := q1
  cases r1
  refine wpAny_truthy_bool ?_
  cases t with
  | true => exact hb.run pins s1 σ H1 Q I1 q1
  | false => exact ⟨.bl false, H1, I1, rfl, q1⟩
theorem psa_ret (h : PEat X body e ta) : PSat X body [.Return (some e) pos] (tRet ta) := by
  refine ⟨fun pins s σ H D I q => ?_⟩
  refine PySem.ks_wpAt_execs_cons (PySem.ks_wpAt_Return_some (PySem.ks_wpAt_mono (h.run pins s σ H _ I q) (fun v s1 h1 => ?_) fun _ _ z => z))
  obtain ⟨x, H1, I1, r1, q1⟩ := h1
  exact ⟨x, σ, H1, I1, r1, q1⟩
end
end L2
namespace L2
open PySem PySem.Spec PyProof.Rows NdefX
/-- super() of an instance of C in a def of D finds m at f2 -/
structure SupT (K : PySem.W.Frag) (C D : Addr) (m : Str) (f2 : Addr) : Prop where
  at_ : PySem.W.ks_superIn K C D m = some (some (.ref f2))
  ty : PySem.W.typeIn K (.ref f2) = some (.type "function")
  sub : PySem.W.mroIn K C (.ref D) = some true
  fn : PySem.W.fnIn K f2 = true
section
variable {X : Cx} {CX : CXT} {body : List Stmt} {a b e : Expr} {es rest : List Expr} {ta tb : TE} {t : TA} {pos apos p0 p1 : Pos} {m : Str} {k : Nat} {E : L2.St → XK} {D cc cda f : Addr} {ar : Arg} {fd : FuncData} {name qual : Str} {st : Stmt}
def tSup (X : Cx) (CX : CXT) (k : Nat) (D : Addr) (m : Str) (E : L2.St → XK) (t : TA) : TE := fun σ H Q => ∃ x C dx fs f2 fd2 ps sp, σ[0]? = some (some (V.ref x)) ∧ H x = some (.ins C dx fs) ∧ SupT X.K C D m f2 ∧
  FnOk X.prog X.w X.K X.mg X.base CX k f2 fd2 ps sp ∧ Binds X.K fd2 ps [] ∧ t σ H fun vs H2 => sp (.ref x :: vs) H2 Q (E σ)
theorem pea_super {pl : Sem Bool} (B : SupDef X.K X.prog.main.file name qual st f fd D cc cda) (hcells : X.env.cells.lookup ("__class__" : Str) = some cc) (hfunc : X.env.func = some f) (hcode : X.env.code = .ref cda) (hpar : (fd.params.posonlyargs ++ fd.params.args).head? = some ar)
    (hN : X.N[0]? = some ar.arg) (hself : X.env.scope.names.lookup ar.arg = some .local) (hks : X.env.kindOf "super" = some .globalImplicit) (hkc : X.env.kindOf "__class__" = some .free) (hm0 : X.mg "super" = none) (htop : (X.prog.main.scope.names.lookup ("super" : Str)).isSome = false)
    (hany : PySem.W.nsIn X.K cStatics "thirdparty.any" = some none) (hmn : (m == ("__class__" : Str)) = false) (hr : Room k X.A) (hx : ∀ σ, PassesAt CX X σ (E σ)) (ha : PA X (e :: es) t)
    (hev : eval (.Call (.Attribute (.Call (.Name "super" p0) [] [] p1) m apos) (e :: es) [] pos) X.env = (do
      let ov ← attributeBase (.Call (.Name "super" p0) [] [] p1) m X.env (eval (.Call (.Name "super" p0) [] [] p1) X.env)
      standAt apos.atName
      let (g, first) ← holding [ov] (getMethod ov m pl)
      callWith pos g first (backTo pos (starEach (e :: es) X.env)) []) := by rfl)
    (he : starEach (e :: es) X.env = (false, eval e X.env) :: starEach es X.env := by rfl) (hpl : (backTo pos (starEach es X.env)).any (·.1) = false := by rfl) :
    PEat X body (.Call (.Attribute (.Call (.Name "super" p0) [] [] p1) m apos) (e :: es) [] pos) (tSup X CX k D m E t) := by
  refine ⟨fun pins s σ H Q I h => ?_⟩
  obtain ⟨x, C, dx, fs, f2, fd2, ps, sp, hσ, hH, hsup, F2, hb2, hq⟩ := h
  obtain ⟨oc, od, kV, doc, pm, an, ct, osl, rfl, lk⟩ := B.ex
  obtain ⟨ccl, cdd, vs0, ccs, tf, lcode, hv2⟩ := B.file
  obtain ⟨cl, cld, csl, lcell⟩ := B.cell
  obtain ⟨cdD, hcd⟩ := B.cls
  have kin := I.kIn
  obtain ⟨mA, O1, _⟩ := ins_get I.hok hH
  obtain ⟨odx, J, _⟩ := O1.look
  obtain ⟨ml, hns, hloc⟩ := I.loc
  obtain ⟨u, ru, lu⟩ := hloc 0 ar.arg (.ref x) hN hσ (.inl hself)
  obtain rfl : u = Value.ref x := ru
  have hml : ml ar.arg = some (.ref x) := by
    rcases lu with ⟨_, z⟩ | ⟨z, _⟩
    · exact z
    · have hk : X.env.kindOf ar.arg = some .local := hself
      rcases z with z | z <;> rw [hk] at z <;> cases z
  obtain ⟨oD, hD1, hD2⟩ : ∃ oD, s.heap.get? D = some oD ∧ oD.data = .cls cdD := by
    unfold PySem.W.clsIn at hcd
    split at hcd
    · rename_i c d cd' sl ho
      cases hcd
      exact ⟨_, kin _ _ ho, rfl⟩
    · cases hcd
  obtain ⟨mb, hb1, hbb⟩ := I.mod.blt
  refine PySem.ks_wpAt_MethodCall (pl := pl) ?_ hev
  refine PySem.ks_wpAt_super_base hks hkc hmn hfunc (kin _ _ lk) rfl hpar hcode (kin _ _ lcode) rfl hv2 (beq_self_eq_true _) htop ?_
  refine PySem.W.ks_loadName_global I.ok.kind hks (Calls.loadGlobal_builtin (by rw [I.ok.glob]; exact I.mod.glob.keeps I.bk) hm0 (by rw [I.ok.blt]; exact hb1.keeps I.bk) ((hbb _ (by decide)).trans (by first | rfl | decide +kernel)) ⟨rfl, ?_⟩)
  refine wpAny_loadName_free I.ok.kind hkc hcells ⟨_, kin _ _ lcell, rfl⟩ ?_
  refine wpAny_loadName_local I.ok.kind hself hns hml ?_
  obtain ⟨hh, g, d, tt, os⟩ := s
  refine PySem.ks_wpAny_isType_cls hD1 hD2 ⟨rfl, ?_⟩
  refine PySem.ks_wpAny_call_super hD1 hD2 J.at_ J.cls (fun c z => ?_) (PySem.W.looks_mroIn kin hsup.sub) (fun h' e1 k1 => ?_)
  · have hno := J.no
    unfold PySem.W.notCls at hno
    rw [z] at hno
    exact Bool.noConfusion hno
  have I2 : Inv X pins σ H ⟨h', g, d, tt, os⟩ := I.kept (t' := tt) k1
  obtain ⟨mA2, O2, _⟩ := ins_get I2.hok hH
  obtain ⟨odx2, J2, _⟩ := O2.look
  have kin2 := I2.kIn
  have hat := hsup.at_
  unfold PySem.W.ks_superIn at hat
  cases hc : PySem.W.clsIn X.K C with
  | none => rw [hc] at hat; cases hat
  | some cd =>
    rw [hc] at hat
    obtain ⟨of, hof, hofc⟩ : ∃ of, h'.get? f2 = some of ∧ of.cls = .type "function" := by
      have z : (X.K.lookup f2).map (·.cls) = some (.type "function") := hsup.ty
      cases z2 : X.K.lookup f2 with
      | none => rw [z2] at z; cases z
      | some of => rw [z2] at z; exact ⟨of, kin2 _ _ z2, Option.some.inj z⟩
    refine PySem.ks_wpAny_getMethod_super e1 (PySem.W.looks_opaque kin2 hany) (l₀ := cd.mro) (fun A Q E s k q => wpAny_bind ((PySem.W.looks_clsIn kin2 hc) A _ E s k (wpAny_pure q))) rfl kin2 hat hof hofc (PySem.W.ks_ne kin2 J2 hc) hmn ?_
    have I3 : Inv X pins σ H ⟨h'.push (PySem.W.methodObj (.ref f2) (.ref x)), g, d, tt + 1, os⟩ := I2.kept (t' := tt + 1) fun b ob z => Heap.get?_push_of_some _ z
    have I4 : Inv X ((h'.objs.size, PySem.W.methodObj (.ref f2) (.ref x)) :: pins) σ H ⟨h'.push (PySem.W.methodObj (.ref f2) (.ref x)), g, d, tt + 1, os⟩ := I3.pins_of fun p hp => by
      rcases List.mem_cons.mp hp with rfl | hp
      · exact ⟨Heap.get?_push_size _ rfl, I2.hok.fresh (Nat.le_refl _), Nat.ne_of_gt I2.lt, I2.nofs (Nat.le_refl _), fun v z => by
          have z' : Data.fields _ = Data.cell v := z
          cases z'⟩
      · exact I3.pin p (List.mem_append_right _ hp)
    refine PySem.W.zz_callWithM (K := X.K) (f := f2) (self := .ref x) hsup.fn (thn (ha.run pos _ _ σ H _ I4 hq) fun us s5 ⟨vs, H5, I5, r, q5⟩ => ⟨⟨(I5.pin _ (List.mem_append_right _ (List.mem_cons_self ..))).1, I5.kIn⟩, ?_⟩) he hpl
    have pq := (I5.pin _ (List.mem_append_right _ (List.mem_cons_self ..))).1
    have I6 : Inv X pins σ H5 s5 := I5.pins_of fun p hp => I5.pin p (List.mem_append_right _ (List.mem_cons_of_mem _ hp))
    have hl : (.ref x :: us).length = ps.length := by
      have rv : Vals (.ref x :: vs) (.ref x :: us) := .cons rfl r
      rw [← rv.length]
      exact F2.len _ _ _ _ q5
    refine wpAny_call (PySem.ks_codeAny_call_bound pq (codeAny_mono (F2.run X.A X.stack s5 H5 ⟨.ref x :: us, []⟩ (.ref x :: us) (.ref x :: vs) Q (E σ) hr I6.env0 (by
      have := hb2 s5 (.ref x :: us) I6.kIn (by rw [List.append_nil]; exact hl)
      rw [List.append_nil] at this
      exact this) (.cons rfl r) q5) fun r s' hq => ?_))
    cases r with
    | error er => exact hx σ pins H5 s5 er s' I6 hq
    | ok fl =>
      cases fl with
      | ret u => exact I6.after hq
      | next => exact False.elim hq
      | brk => exact False.elim hq
      | cont => exact False.elim hq
end
end L2
namespace L2
open PySem PySem.Spec PyProof.Rows NdefX
section
variable {CX : CXT} {P : Program} {w : World} {K : PySem.W.Frag} {mg : Str → Option Value} {base : Heap} {N ps : List Str} {f D cc cda : Addr} {k : Nat} {sp : Sp} {st : Stmt} {name qual : Str} {fd : FuncData} {file : Str}
theorem fn_sup (B : SupDef K file name qual st f fd D cc cda) (S : NScope N ps ["__class__"] (defScope st)) (len : ∀ vs H Q E, sp vs H Q E → vs.length = ps.length)
    (hbody : ∀ (A : Around) (outer : List Env) (s : Shared) (H : Hp) (vs : List V) (Q : VK) (E : XK), Room k (A.deeper (envF (supNF st name qual cc cda) f s.heap.objs.size)) → sp vs H Q E →
      ∃ t, PSat (ncx CX P w K mg base N (supNF st name qual cc cda) f A outer s H E) (defBody st) (defBody st) t ∧ t { nx := fun _ H' => Q .non H', rt := Q } (startF N vs [none]) H) : FnOk P w K mg base CX (k + 1) f fd ps sp := by
  refine ⟨len, fun A outer s H args us vs Q E room e0 hb r q => ?_⟩
  obtain ⟨oc, od, kV, doc, pm, an, ct, osl, rfl, lk⟩ := B.ex
  obtain ⟨cl, cld, csl, lcell⟩ := B.cell
  have hlen := len _ _ _ _ q
  have inK : K.In s.heap := e0.mod.kin.keeps fun b o z => (e0.bs b o z).1
  have noLim : s.heap.NoLimit := e0.mod.nolimit.keeps fun b o z => (e0.bs b o z).1
  refine PySem.ks_codeAny_call_defAt (body := defBody st) room.depth (inK _ _ lk) rfl noLim (PySem.W.codeRec_of inK B.code) rfl hb S.nocell (fun ⟨n, v⟩ hy => S.par n (List.of_mem_zip hy).1) (fun h₁ hns kp => ?_) S.co S.gen S.kind
  have C : CellsAt (supNF st name qual cc cda).cl ["__class__"] [none] s.heap H := by
    refine ⟨rfl, fun y c e => ?_, fun y z c e1 e2 => ?_, fun i y e => ?_⟩
    · have hc : c = cc := by
        simp only [supNF, List.lookup_cons] at e
        split at e
        · exact (Option.some.inj e).symm
        · cases e
      subst hc
      exact ⟨(e0.bs _ _ (e0.mod.kin _ _ lcell)).2, _, _, inK _ _ lcell, rfl⟩
    · simp only [supNF, List.lookup_cons] at e1 e2
      split at e1
      · rename_i h1
        split at e2
        · rename_i h2
          rw [beq_iff_eq.mp h1, beq_iff_eq.mp h2]
        · cases e2
      · cases e1
    · cases i with
      | zero =>
        simp only [List.getElem?_cons_zero, Option.some.injEq] at e
        subst e
        exact ⟨cc, by simp [supNF, List.lookup_cons], fun v z => by simp at z⟩
      | succ i => simp at e
  obtain ⟨t, ht, hq⟩ := hbody A outer s H vs Q E (room.deeper _) q
  have J0 : Inv (ncx CX P w K mg base N (supNF st name qual cc cda) f A outer s H E) [] (startF N vs [none]) H { s with heap := h₁, toks := s.toks + (ps.zip us).length } := inv_startN S room.hd e0 hlen r C hns kp
  refine PySem.ks_wpAt_mono (ht.run [] _ (startF N vs [none]) H _ J0 hq) (fun fl s' hs => ?_) fun e s' z => z
  cases fl with
  | ret u =>
    obtain ⟨v, σ', H', J, rv, q⟩ := hs
    exact ⟨v, H', J.os, J.bare, J.base, J.hok, rv, q⟩
  | next =>
    obtain ⟨σ', H', J, q⟩ := hs
    exact ⟨V.non, H', J.os, J.bare, J.base, J.hok, rfl, q⟩
  | brk =>
    obtain ⟨_, _, _, q⟩ := hs
    exact q.elim
  | cont =>
    obtain ⟨_, _, _, q⟩ := hs
    exact q.elim
end
end L2

set_option Elab.async false
set_option linter.all false
set_option maxRecDepth 100000
/-! Z15: instances of one of several classes: fields, methods, calls, operators by the instance's own class. -/
namespace L2
open PySem PySem.Spec PyProof.Rows NdefX
section
variable {X : Cx} {CX : CXT} {body : List Stmt} {a b e o : Expr} {es rest : List Expr} {ta tb : TE} {t : TA} {u : TS} {st : Stmt} {sts : List Stmt} {ts : TS} {pos apos pn : Pos} {m y : Str} {k : Nat} {E : L2.St → XK}
theorem psa_cons (h1 : PS X st ts) (h2 : PSat X body sts u) : PSat X body (st :: sts) (tSeq ts u) := by
  refine ⟨fun pins s σ H D I h => ?_⟩
  refine PySem.ks_wpAt_execs_cons (_root_.PySem.wpAt_of_wpAny (thn (h1.run pins s σ H { D with nx := u D } I h) fun fl s1 q => ?_))
  cases fl with
  | next =>
    obtain ⟨σ', H', J, q⟩ := q
    exact h2.run pins s1 σ' H' D J q
  | ret v => exact q
  | brk => exact q
  | cont => exact q
theorem PSat.weak {t t' : TS} (h : PSat X body sts t) (hw : ∀ D σ H, t' D σ H → t D σ H) : PSat X body sts t' := ⟨fun pins s σ H D I q => h.run pins s σ H D I (hw D σ H q)⟩
theorem PEat.weak {t t' : TE} (h : PEat X body e t) (hw : ∀ σ H Q, t' σ H Q → t σ H Q) : PEat X body e t' := ⟨fun pins s σ H Q I q => h.run pins s σ H Q I (hw σ H Q q)⟩
/-- o.m(e, ..), the def by the class of o -/
def tMethG (X : Cx) (CX : CXT) (k : Nat) (m : Str) (E : L2.St → XK) (ta : TE) (t : TA) : TE := fun σ H Q => ta σ H fun x H1 => ∃ a C dx fs f fd ps sp, x = V.ref a ∧ H1 a = some (.ins C dx fs) ∧ fs.lookup m = none ∧ Cls X.K C ∧ Meth X.K C m f ∧
  FnOk X.prog X.w X.K X.mg X.base CX k f fd ps sp ∧ Binds X.K fd ps [] ∧ t σ H1 fun vs H2 => sp (x :: vs) H2 Q (E σ)
theorem pe_methG {pl : Sem Bool} (he : PE X o ta) (hr : Room k X.A) (hx : ∀ σ, PassesAt CX X σ (E σ)) (ha : PA X (e :: es) t)
    (hst : starEach (e :: es) X.env = (false, eval e X.env) :: starEach es X.env := by rfl) (hpl : (backTo pos (starEach es X.env)).any (·.1) = false := by rfl)
    (ht : eval (.Call (.Attribute o m apos) (e :: es) [] pos) X.env = (do
      let ov ← eval o X.env
      standAt apos.atName
      let (g, first) ← holding [ov] (getMethod ov m pl)
      callWith pos g first (backTo pos (starEach (e :: es) X.env)) (backToKw pos (keywordEach [] X.env))) := by rfl) :
    PE X (.Call (.Attribute o m apos) (e :: es) [] pos) (tMethG X CX k m E ta t) := by
  refine ⟨fun pins s σ H Q I h => ?_⟩
  refine PySem.W.methodCall_KW (pl := pl) (thn (he.run pins s σ H _ I h) fun v s1 ⟨x, H1, I1, rx, c, C, dx, fs, f, fd, ps, sp, ex, hc, hl, hcl, hm, F, hb, q⟩ => ?_) ht
  subst ex
  obtain rfl : v = Value.ref c := rx
  refine getmeth_ok I1 hc hcl hm hl ?_
  refine PySem.W.callWith_K (first := [.ref c]) (h₀ := X.base) I.ok.mod.kin hm.kp (thn (ha.run pos pins s1 σ H1 _ I1 q) fun us s2 ⟨vs, H2, I2, r, q2⟩ => ⟨I2.kIn, ?_⟩) hst hpl
  exact run_fnSD (us := .ref c :: us) (vs := .ref c :: vs) (dvs := []) (ds := []) F hr hb .nil (hx σ) I2 (.cons rfl r) (by rw [List.append_nil]; exact q2)
/-- y(e, ..), y an instance -/
def tCallG (X : Cx) (CX : CXT) (k : Nat) (E : L2.St → XK) (ta : TE) (t : TA) : TE := fun σ H Q => ta σ H fun x H1 => ∃ a C dx fs f fd ps sp, x = V.ref a ∧ H1 a = some (.ins C dx fs) ∧ PySem.W.findIn X.K (.ref C) "__call__" = some (some (.ref f)) ∧ PySem.W.isFn X.K (.ref f) = true ∧ PySem.W.fnIn X.K f = true ∧
  FnOk X.prog X.w X.K X.mg X.base CX k f fd ps sp ∧ Binds X.K fd ps [] ∧ t σ H1 fun vs H2 => (∃ fs', H2 a = some (.ins C dx fs')) ∧ sp (x :: vs) H2 Q (E σ)
theorem pe_callG (hv : PE X (.Name y pn) ta) (hr : Room k X.A) (hx : ∀ σ, PassesAt CX X σ (E σ)) (ha : PA X (e :: es) t)
    (hst : starEach (e :: es) X.env = (false, eval e X.env) :: starEach es X.env := by rfl) (hpl : (backTo pos (starEach es X.env)).any (·.1) = false := by rfl) :
    PE X (.Call (.Name y pn) (e :: es) [] pos) (tCallG X CX k E ta t) := by
  refine ⟨fun pins s σ H Q I h => ?_⟩
  refine wpAny_Call_Name_kw (thn (hv.run pins s σ H _ I h) fun v s1 ⟨x, H1, I1, rx, c, C, dx, fs, f, fd, ps, sp, ex, hc, hs, hf, hfn, F, hb, q⟩ => ?_)
  subst ex
  obtain rfl : v = Value.ref c := rx
  refine PySem.W.zz_callWith (ox := PySem.W.instObj C dx) (first := []) rfl (thn (ha.run pos pins s1 σ H1 _ I1 q) fun us s2 ⟨vs, H2, I2, r, ⟨fs', hc2⟩, q2⟩ => ?_) hst hpl
  obtain ⟨mA, O2, _⟩ := ins_get I2.hok hc2
  obtain ⟨od, J, _⟩ := O2.look
  refine ⟨J.at_, wpAny_call (PySem.W.kco_code I2.kIn J rfl hs hf hfn ?_)⟩
  have rv : Vals (.ref c :: vs) (.ref c :: us) := .cons rfl r
  have hl : (.ref c :: us).length = ps.length := by
    rw [← rv.length]
    exact F.len _ _ _ _ q2
  refine codeAny_mono (F.run X.A X.stack s2 H2 ⟨.ref c :: ([] ++ us), []⟩ (.ref c :: us) (.ref c :: vs) Q (E σ) hr I2.env0 (by
    have := hb s2 (.ref c :: us) I2.kIn (by rw [List.append_nil]; exact hl)
    rw [List.append_nil] at this
    exact this) rv q2) fun r s' hq => ?_
  cases r with
  | error er => exact hx σ pins H2 s2 er s' I2 hq
  | ok fl =>
    cases fl with
    | ret w => exact I2.after hq
    | next => exact False.elim hq
    | brk => exact False.elim hq
    | cont => exact False.elim hq
/-- ~e or -e, the def by the class of e -/
def tOwn1G (X : Cx) (CX : CXT) (k : Nat) (nm : Str) (E : L2.St → XK) (ta : TE) : TE := fun σ H Q => ta σ H fun x H1 => ∃ a C dx fs f fd ps sp, x = V.ref a ∧ H1 a = some (.ins C dx fs) ∧ PySem.W.findIn X.K (.ref C) nm = some (some (.ref f)) ∧ PySem.W.isFn X.K (.ref f) = true ∧
  FnOk X.prog X.w X.K X.mg X.base CX k f fd ps sp ∧ Binds X.K fd ps [] ∧ sp [x] H1 Q (E σ)
theorem pe_ownInvG (ha : PE X a ta) (hr : Room k X.A) (hx : ∀ σ, PassesAt CX X σ (E σ)) : PE X (.UnaryOp .Invert a pos) (tOwn1G X CX k "__invert__" E ta) := by
  refine ⟨fun pins s σ H Q I h => ?_⟩
  refine wpAny_UnaryOp (thn (ha.run pins s σ H _ I h) fun v s1 ⟨x, H1, I1, rx, c, C, dx, fs, f, fd, ps, sp, ex, hc, hs, hf, F, hb, q⟩ => ?_)
  subst ex
  obtain rfl : v = Value.ref c := rx
  obtain ⟨mA, O1, _⟩ := ins_get I1.hok hc
  obtain ⟨od, J, _⟩ := O1.look
  obtain ⟨ml, hF⟩ := I1.fr
  exact PySem.W.ksp_inv hF I1.ok.mod.kin J hs hf (run_fnSD (us := [.ref c]) (vs := [.ref c]) (dvs := []) (ds := []) F hr hb .nil (hx σ) I1 (.cons rfl .nil) q)
theorem pe_ownNegG (ha : PE X a ta) (hr : Room k X.A) (hx : ∀ σ, PassesAt CX X σ (E σ)) : PE X (.UnaryOp .USub a pos) (tOwn1G X CX k "__neg__" E ta) := by
  refine ⟨fun pins s σ H Q I h => ?_⟩
  refine wpAny_UnaryOp (thn (ha.run pins s σ H _ I h) fun v s1 ⟨x, H1, I1, rx, c, C, dx, fs, f, fd, ps, sp, ex, hc, hs, hf, F, hb, q⟩ => ?_)
  subst ex
  obtain rfl : v = Value.ref c := rx
  obtain ⟨mA, O1, _⟩ := ins_get I1.hok hc
  obtain ⟨od, J, _⟩ := O1.look
  obtain ⟨ml, hF⟩ := I1.fr
  exact PySem.W.ksp_neg hF I1.ok.mod.kin J hs hf (run_fnSD (us := [.ref c]) (vs := [.ref c]) (dvs := []) (ds := []) F hr hb .nil (hx σ) I1 (.cons rfl .nil) q)
end
end L2
namespace ZZ
open PySem PySem.Spec L2 NdefX
theorem DOk.mono {P : Program} {w : World} {K : PySem.W.Frag} {mg : Str → Option Value} {base : Heap} {j k : Nat} {a : Addr} {ps : List Str} {sp : Sp} (d : DOk P w K mg base j a ps sp) (h : j ≤ k) : DOk P w K mg base k a ps sp := by
  obtain ⟨fd, F, b⟩ := d.ex
  exact ⟨⟨fd, F.mono h, b⟩, d.kp⟩
/-- an instance's class -/
def clsV (ce : List Cell) : Val → Option Nat
  | .im (.ins c _) => some c
  | .cell k => match ce[k]? with
    | some (.ins c _) => some c
    | _ => none
  | _ => none
theorem clsV_isC {ce : List Cell} {v : Val} {c : Nat} (h : clsV ce v = some c) : isC c ce v = true := by
  unfold clsV at h
  split at h
  · cases h
    simp [isC]
  · split at h
    · rename_i k c' ds hk
      cases h
      unfold isC
      simp only [hk]
      simp
    · cases h
  · cases h
abbrev Tb : Type := List (Nat × DF)
/-- v's def of a table, by v's class -/
def eTab (tb : Tb) (fs : List DE) (v : Val) : DE := fun sl ce => match clsV ce v with
  | some c => match tb.lookup c with
    | some fh => eArgs fs (kMeth fh v) sl ce
    | none => .stuck
  | none => .stuck
def eMthT (tb : Tb) (f : DE) (fs : List DE) : DE := eBind f (eTab tb fs)
def eCallT (tb : Tb) (f : DE) (fs : List DE) : DE := eBind f fun v => match v with
  | .im (.ins c ds) => eTab tb fs (.im (.ins c ds))
  | _ => kStuck
def kOwnT (tb : Tb) (v : Val) : DE := eTab tb [] v
/-- super().m(..) in a def whose first slot is the instance: raises nothing -/
def eSup (tb : Tb) (fs : List DE) : DE := fun sl ce => match sl[0]? with
  | some (some v) => match eTab tb fs v sl ce with
    | .ok u ce' => .ok u ce'
    | _ => .stuck
  | _ => .stuck
def kFldG (cs : List Nat) (i : Nat) (v : Val) : DE := fun _ ce => match v with
  | .im (.ins d ds) => if cs.contains d then (match ds[i]? with
    | some x => .ok (.im x) ce
    | none => .stuck) else .stuck
  | _ => .stuck
/-- o.f, a text that o's class holds -/
def kConT (tb : List (Nat × Str)) (v : Val) : DE := fun _ ce => match v with
  | .im (.ins d _) => match tb.lookup d with
    | some s => .ok (.im (.str s)) ce
    | none => .stuck
  | _ => .stuck
/-- a method by the class -/
structure GOk (P : Program) (w : World) (K : PySem.W.Frag) (mg : Str → Option Value) (base : Heap) (Z : Zx) (k : Nat) (m : Str) (n : Nat) (tb : Tb) : Prop where
  ex : ∀ c fh, tb.lookup c = some fh → m ∉ Z.fl c ∧ Cls K (Z.cl c) ∧ ∃ f ps, Meth K (Z.cl c) m f ∧ DOk P w K mg base k f ps (spD Z fh n)
/-- a special method by the class -/
structure SpOk (P : Program) (w : World) (K : PySem.W.Frag) (mg : Str → Option Value) (base : Heap) (Z : Zx) (k : Nat) (m : Str) (n : Nat) (tb : Tb) : Prop where
  ex : ∀ c fh, tb.lookup c = some fh → ∃ f ps, PySem.W.findIn K (.ref (Z.cl c)) m = some (some (.ref f)) ∧ PySem.W.isFn K (.ref f) = true ∧ PySem.W.fnIn K f = true ∧ DOk P w K mg base k f ps (spD Z fh n)
/-- what super() finds, by the class -/
structure SuOk (P : Program) (w : World) (K : PySem.W.Frag) (mg : Str → Option Value) (base : Heap) (Z : Zx) (k : Nat) (D : Addr) (m : Str) (n : Nat) (tb : Tb) : Prop where
  ex : ∀ c fh, tb.lookup c = some fh → ∃ f ps, SupT K (Z.cl c) D m f ∧ DOk P w K mg base k f ps (spD Z fh n)
structure FgOk (K : PySem.W.Frag) (Z : Zx) (cs : List Nat) (nm : Str) (i : Nat) : Prop where
  ex : ∀ c, cs.contains c = true → ClsOk K Z c ∧ NoAttr K (Z.cl c) nm ∧ (Z.fl c)[i]? = some nm
structure CoOk (K : PySem.W.Frag) (Z : Zx) (nm : Str) (tb : List (Nat × Str)) : Prop where
  ex : ∀ c s, tb.lookup c = some s → Cls K (Z.cl c) ∧ nm ∉ Z.fl c ∧ ∃ t, Con K (Z.cl c) nm (.str s) (.str s t)
section
variable {X : Cx} {Z : Zy} {W : WX} {k n : Nat} {nm m y : Str} {pos apos pn p0 p1 : Pos} {a e o : Expr} {es : List Expr} {f g : DE} {fs : List DE} {tb : Tb}
theorem tab_rd {A F sl ce H σ Q v x} {E2 : WX} {fs : List DE} {tb : Tb} (so : SO Z.toZx A F ce H) (hs : SL Z A F sl σ) (r : VRep Z A F v x) (p : PostE Z A F E2 σ Q (eTab tb fs v sl ce)) :
    ∃ c fh a dx gs n, clsV ce v = some c ∧ tb.lookup c = some fh ∧ x = .ref a ∧ H a = some (.ins (Z.cl c) dx gs) ∧ gs.map (·.1) = (Z.fl c).take n ∧ PostE Z A F E2 σ Q (eArgs fs (kMeth fh v) sl ce) := by
  unfold eTab at p
  split at p
  · rename_i c hc
    split at p
    · rename_i fh hf
      obtain ⟨a, dx, gs, n, rfl, h1, h2⟩ := isC_rd so r (clsV_isC hc)
      exact ⟨c, fh, a, dx, gs, n, hc, hf, rfl, h1, h2, p⟩
    · exact p.elim
  · exact p.elim
theorem de_methT {pl : Sem Bool} (he : PE X o (tE Z W f)) (G : GOk X.prog X.w X.K X.mg X.base Z.toZx k m (n + 1) tb) (hr : Room k X.A) (tw : TW X W) (ha : PA X (e :: es) (tArgs Z W fs))
    (hl : fs.length = n := by rfl) (hst : starEach (e :: es) X.env = (false, eval e X.env) :: starEach es X.env := by rfl) (hpl : (backTo pos (starEach es X.env)).any (·.1) = false := by rfl)
    (ht : eval (.Call (.Attribute o m apos) (e :: es) [] pos) X.env = (do
      let ov ← eval o X.env
      standAt apos.atName
      let (g, first) ← holding [ov] (getMethod ov m pl)
      callWith pos g first (backTo pos (starEach (e :: es) X.env)) (backToKw pos (keywordEach [] X.env))) := by rfl) :
    PE X (.Call (.Attribute o m apos) (e :: es) [] pos) (tE Z W (eMthT tb f fs)) :=
  (pe_methG he hr tw ha hst hpl ht).weak fun σ H Q q => tE_imp (fun x H1 ⟨A, F, sl, ce, v, so, hs, r, p⟩ => by
    obtain ⟨c, fh, a, dx, gs, j, hc, hf, rfl, h1, h2, p⟩ := tab_rd so hs r p
    obtain ⟨g1, g2, fa, ps, g3, g4⟩ := G.ex c fh hf
    obtain ⟨fd, F0, bd⟩ := g4.ex
    refine ⟨a, _, dx, gs, fa, fd, ps, _, rfl, h1, take_lookup h2 g1, g2, g3, F0, bd, tArgs_imp (fun xs H2 ⟨A2, F2, ce2, vs, p2, e2, s2, r2, l2, q2⟩ => ?_) (tArgs_ok so hs p)⟩
    unfold kMeth at q2
    by_cases hp : (v :: vs).all plainV = true
    · rw [if_pos hp] at q2
      exact spD_call (sl := sl) (vs := v :: vs) s2 ⟨_, _, rfl, r.mono p2 e2, r2⟩ (by simp [l2, hl]) hp q2
    · rw [if_neg hp] at q2
      exact q2.elim) (tE1 q)
theorem de_callT (hv : PE X (.Name y pn) (tE Z W f)) (G : SpOk X.prog X.w X.K X.mg X.base Z.toZx k "__call__" (n + 1) tb) (hr : Room k X.A) (tw : TW X W) (ha : PA X (e :: es) (tArgs Z W fs))
    (hl : fs.length = n := by rfl) (hst : starEach (e :: es) X.env = (false, eval e X.env) :: starEach es X.env := by rfl) (hpl : (backTo pos (starEach es X.env)).any (·.1) = false := by rfl) :
    PE X (.Call (.Name y pn) (e :: es) [] pos) (tE Z W (eCallT tb f fs)) :=
  (pe_callG hv hr tw ha hst hpl).weak fun σ H Q q => tE_imp (fun x H1 ⟨A, F, sl, ce, v, so, hs, r, p⟩ => by
    split at p
    · rename_i c0 ds0
      obtain ⟨c, fh, a, dx, gs, j, hc, hf, rfl, h1, h2, p⟩ := tab_rd so hs r p
      cases hc
      obtain ⟨fa, ps, g1, g2, g3, g4⟩ := G.ex _ fh hf
      obtain ⟨fd, F0, bd⟩ := g4.ex
      have r' := r
      unfold VRep Rep at r'
      obtain ⟨a', dx', gs', e1, hFa, _, _⟩ := r'
      cases e1
      refine ⟨a, _, dx, gs, fa, fd, ps, _, rfl, h1, g1, g2, g3, F0, bd, tArgs_imp (fun xs H2 ⟨A2, F2, ce2, vs, p2, e2, s2, r2, l2, q2⟩ => ?_) (tArgs_ok so hs p)⟩
      unfold kMeth at q2
      by_cases hp : (Val.im (D.ins c0 ds0) :: vs).all plainV = true
      · rw [if_pos hp] at q2
        have hH2 : H2 a = some (.ins (Z.cl c0) dx' gs') := s2.sub _ _ (e2 _ _ hFa)
        have hdx : dx' = dx := by
          have := so.sub _ _ hFa
          rw [h1] at this
          cases this
          rfl
        subst hdx
        exact ⟨⟨_, hH2⟩, spD_call (sl := sl) (vs := Val.im (D.ins c0 ds0) :: vs) s2 ⟨_, _, rfl, r.mono p2 e2, r2⟩ (by simp [l2, hl]) hp q2⟩
      · rw [if_neg hp] at q2
        exact q2.elim
    · exact p.elim) (tE1 q)
theorem t_ownT {σ H Q nm} (G : SpOk X.prog X.w X.K X.mg X.base Z.toZx k nm 1 tb) (h : tE Z W (eUn (kOwnT tb) f) σ H Q) : tOwn1G X (L2N.CX X.prog X.w) k nm (WE W) (tE Z W f) σ H Q :=
  tE_imp (fun x H1 ⟨A, F, sl, ce, v, so, hs, r, p⟩ => by
    obtain ⟨c, fh, a, dx, gs, j, hc, hf, rfl, h1, h2, p⟩ := tab_rd so hs r p
    obtain ⟨fa, ps, g1, g2, g3, g4⟩ := G.ex c fh hf
    obtain ⟨fd, F0, bd⟩ := g4.ex
    refine ⟨a, _, dx, gs, fa, fd, ps, _, rfl, h1, g1, g2, F0, bd, ?_⟩
    unfold eArgs kMeth at p
    by_cases hp : [v].all plainV = true
    · rw [if_pos hp] at p
      exact spD_call (sl := sl) (vs := [v]) so ⟨_, _, rfl, r, rfl⟩ rfl hp p
    · rw [if_neg hp] at p
      exact p.elim) (tE1 h)
theorem de_invT (G : SpOk X.prog X.w X.K X.mg X.base Z.toZx k "__invert__" 1 tb) (hr : Room k X.A) (tw : TW X W) (ha : PE X a (tE Z W f)) : PE X (.UnaryOp .Invert a pos) (tE Z W (eUn (kOwnT tb) f)) := (pe_ownInvG ha hr tw).weak fun σ H Q q => t_ownT G q
theorem de_negT (G : SpOk X.prog X.w X.K X.mg X.base Z.toZx k "__neg__" 1 tb) (hr : Room k X.A) (tw : TW X W) (ha : PE X a (tE Z W f)) : PE X (.UnaryOp .USub a pos) (tE Z W (eUn (kOwnT tb) f)) := (pe_ownNegG ha hr tw).weak fun σ H Q q => t_ownT G q
theorem de_fldG {cs : List Nat} {i : Nat} (he : PE X e (tE Z W f)) (G : FgOk X.K Z.toZx cs nm i) (hb : attributeBase e nm X.env (eval e X.env) = eval e X.env := by rfl) : PE X (.Attribute e nm pos) (tE Z W (eUn (kFldG cs i) f)) :=
  (pe_fld he hb).weak fun σ H Q q => tE_imp (fun x H1 ⟨A, F, sl, ce, v, so, hs, r, p⟩ => by
    unfold kFldG at p
    split at p
    · rename_i d ds
      by_cases hd : cs.contains d = true
      · rw [if_pos hd] at p
        split at p
        · rename_i y hy
          obtain ⟨g1, g2, g3⟩ := G.ex d hd
          unfold VRep Rep at r
          obtain ⟨a, dx, gs, rfl, h1, h2, h3⟩ := r
          obtain ⟨v, h4, h5⟩ := lookup_ix (n := (Z.fl d).length) g1.nd (by rw [h2, List.take_length]) h3 g3 hy
          exact ⟨a, _, dx, gs, v, rfl, so.sub _ _ h1, g1.cls, g2, h4, fin_flat so p h5⟩
        · exact p.elim
      · rw [if_neg hd] at p
        exact p.elim
    · exact p.elim) (tE1 q)
theorem de_conT {tb : List (Nat × Str)} (he : PE X e (tE Z W f)) (G : CoOk X.K Z.toZx nm tb) (hb : attributeBase e nm X.env (eval e X.env) = eval e X.env := by rfl) : PE X (.Attribute e nm pos) (tE Z W (eUn (kConT tb) f)) :=
  (pe_con he hb).weak fun σ H Q q => tE_imp (fun x H1 ⟨A, F, sl, ce, v, so, hs, r, p⟩ => by
    unfold kConT at p
    split at p
    · rename_i d ds
      split at p
      · rename_i s hs2
        obtain ⟨g1, g2, t, g3⟩ := G.ex d s hs2
        unfold VRep Rep at r
        obtain ⟨a, dx, gs, rfl, h1, h2, h3⟩ := r
        exact ⟨a, _, dx, gs, .str s, _, rfl, so.sub _ _ h1, g1, g3, take_lookup (n := (Z.fl d).length) (by rw [h2, List.take_length]) g2, fin_flat so p repS⟩
      · exact p.elim
    · exact p.elim) (tE1 q)
/-- C.f, a text -/
theorem de_clsCon {C : Addr} {s : Str} {x : Str} (hm : X.mg x = some (.ref C)) (r : ClX.CRead X.K C (.type "type")) (c : ∃ t, ClX.CVal X.K C (.type "type") nm (.str s) (.str s t)) (hg : Gl X x := by rfl) (hdb : (x == ("__debug__" : Str)) = false := by decide)
    (hb : attributeBase (.Name x pn) nm X.env (eval (.Name x pn) X.env) = eval (.Name x pn) X.env := by rfl) : PE X (.Attribute (.Name x pn) nm pos) (tE Z W (eC (.str s))) :=
  (ClX.pe_cval (pe_glob (v := .ref C) hg hm rfl hdb) hb).weak fun σ H Q ⟨A, F, sl, ce, so, hs, p⟩ => by
    obtain ⟨t, c⟩ := c
    exact ⟨C, _, _, _, rfl, r, c, fin_flat so p repS⟩
end
section
variable {X : Cx} {Z : Zy} {W : WX} {body : List Stmt} {k n : Nat} {nm m : Str} {pos apos p0 p1 : Pos} {a b e o : Expr} {es rest : List Expr} {f g : DE} {fs : List DE} {tb : Tb} {st : Stmt} {sts : List Stmt} {fst fss : DSt}
theorem dsa_cons (h1 : PS X st (tS Z W fst)) (h2 : PSat X body sts (tS Z W fss)) : PSat X body (st :: sts) (tS Z W (sSeq fst fss)) := (psa_cons h1 h2).weak fun D σ H ⟨A, F, sl, ce, so, hs, p⟩ => by
  unfold sSeq at p
  cases e1 : fst sl ce with
  | nx sl1 ce1 =>
    rw [e1] at p
    refine ⟨A, F, sl, ce, so, hs, ?_⟩
    rw [e1]
    exact fun A' F' H' σ' pA eF so' hs' => ⟨A', F', sl1, ce1, so', hs', p.mono pA eF⟩
  | rt v ce1 => rw [e1] at p; exact ⟨A, F, sl, ce, so, hs, by rw [e1]; exact p⟩
  | bk s1 ce1 => rw [e1] at p; exact ⟨A, F, sl, ce, so, hs, by rw [e1]; exact p⟩
  | ct s1 ce1 => rw [e1] at p; exact ⟨A, F, sl, ce, so, hs, by rw [e1]; exact p⟩
  | exc c ds s1 ce1 => rw [e1] at p; exact ⟨A, F, sl, ce, so, hs, by rw [e1]; exact p⟩
  | stuck => rw [e1] at p; exact p.elim
theorem dsa_ret (h : PEat X body e (tE Z W f)) : PSat X body [.Return (some e) pos] (tS Z W (sRet f)) := (psa_ret h).weak fun D σ H ⟨A, F, sl, ce, so, hs, p⟩ => by
  refine ⟨A, F, sl, ce, so, hs, (PostS.exp so hs p).imp fun x H1 ⟨A1, F1, ce1, v, p1, e1, s1, r1, q1⟩ => ?_⟩
  exact q1 A1 F1 H1 x (List.prefix_refl _) (Same.refl _) s1 r1
theorem ea_and (ha : PE X a (tE Z W f)) (hb : PEat X body (.BoolOp .And (b :: rest) pos) (tE Z W g)) : PEat X body (.BoolOp .And (a :: b :: rest) pos) (tE Z W (eAnd f g)) := (pea_and ha hb).weak fun σ H Q h => tE_imp (fun x H1 ⟨A, F, sl, ce, v, so, hs, r, p⟩ => by
  obtain ⟨b, rfl, p⟩ := p.bool r
  refine ⟨b, rfl, ?_⟩
  cases b with
  | true => exact iteT ⟨A, F, sl, ce, so, hs, p⟩
  | false => exact iteF (fin_flat so p repB)) (tE1 h)
theorem ea_one {op} (h : PEat X body a (tE Z W f)) : PEat X body (.BoolOp op [a] pos) (tE Z W f) := pea_one h
theorem ea_sup {pl : Sem Bool} {name qual : Str} {sd : Stmt} {fa D cc cda : Addr} {fd : FuncData} {ar : Arg} (B : SupDef X.K X.prog.main.file name qual sd fa fd D cc cda) (G : SuOk X.prog X.w X.K X.mg X.base Z.toZx k D m (n + 1) tb) (hr : Room k X.A) (ha : PA X (e :: es) (tArgs Z WF fs))
    (hm0 : X.mg "super" = none) (htop : (X.prog.main.scope.names.lookup ("super" : Str)).isSome = false) (hany : PySem.W.nsIn X.K cStatics "thirdparty.any" = some none)
    (hcells : X.env.cells.lookup ("__class__" : Str) = some cc) (hfunc : X.env.func = some fa) (hcode : X.env.code = .ref cda) (hpar : (fd.params.posonlyargs ++ fd.params.args).head? = some ar)
    (hN : X.N[0]? = some ar.arg) (hself : X.env.scope.names.lookup ar.arg = some .local) (hks : X.env.kindOf "super" = some .globalImplicit) (hkc : X.env.kindOf "__class__" = some .free) (hmn : (m == ("__class__" : Str)) = false := by decide)
    (hl : fs.length = n := by rfl)
    (hev : eval (.Call (.Attribute (.Call (.Name "super" p0) [] [] p1) m apos) (e :: es) [] pos) X.env = (do
      let ov ← attributeBase (.Call (.Name "super" p0) [] [] p1) m X.env (eval (.Call (.Name "super" p0) [] [] p1) X.env)
      standAt apos.atName
      let (g, first) ← holding [ov] (getMethod ov m pl)
      callWith pos g first (backTo pos (starEach (e :: es) X.env)) []) := by rfl)
    (he : starEach (e :: es) X.env = (false, eval e X.env) :: starEach es X.env := by rfl) (hpl : (backTo pos (starEach es X.env)).any (·.1) = false := by rfl) :
    PEat X body (.Call (.Attribute (.Call (.Name "super" p0) [] [] p1) m apos) (e :: es) [] pos) (tE Z W (eSup tb fs)) :=
  (pea_super (pl := pl) (CX := L2N.CX X.prog X.w) (k := k) (E := WE WF) B hcells hfunc hcode hpar hN hself hks hkc hm0 htop hany hmn hr tw_none ha hev he hpl).weak fun σ H Q ⟨A, F, sl, ce, so, hs, p⟩ => by
    unfold eSup at p
    split at p
    · rename_i v hv
      obtain ⟨x, hx, r⟩ := hs.is 0 v hv
      have p2 : PostE Z A F WF σ Q (eTab tb fs v sl ce) := by
        split at p
        · rename_i u ce' hu
          rw [hu]
          exact p
        · exact p.elim
      obtain ⟨c, fh, a, dx, gs, j, hc, hf, rfl, h1, h2, p⟩ := tab_rd so hs r p2
      obtain ⟨fa2, ps, g1, g4⟩ := G.ex c fh hf
      obtain ⟨fd2, F0, bd⟩ := g4.ex
      refine ⟨a, _, dx, gs, fa2, fd2, ps, _, hx, h1, g1, F0, bd, tArgs_imp (fun xs H2 ⟨A2, F2, ce2, vs, p2, e2, s2, r2, l2, q2⟩ => ?_) (tArgs_ok so hs p)⟩
      unfold kMeth at q2
      by_cases hp : (v :: vs).all plainV = true
      · rw [if_pos hp] at q2
        exact spD_call (sl := sl) (vs := v :: vs) s2 ⟨_, _, rfl, r.mono p2 e2, r2⟩ (by simp [l2, hl]) hp q2
      · rw [if_neg hp] at q2
        exact q2.elim
    · exact p.elim
end
section
variable {P : Program} {w : World} {K : PySem.W.Frag} {mg : Str → Option Value} {base : Heap}
/-- a def that says super() keeps its promise -/
theorem fnDS {Z : Zx} {name qual file : Str} {st : Stmt} {f D cc cda : Addr} {fd : FuncData} {N ps : List Str} {k nsl n : Nat} {body : DSt} (B : SupDef K file name qual st f fd D cc cda) (S : NScope N ps ["__class__"] (defScope st)) (hN : N.length = nsl) (hn : ps.length = n) (hN2 : N.length = ps.length + 1)
    (hbody : ∀ (A : Around) (outer : List Env) (s : Shared) (H : Hp) (E : XK), Room k (A.deeper (envF (supNF st name qual cc cda) f s.heap.objs.size)) →
      PSat (ncx (L2N.CX P w) P w K mg base N (supNF st name qual cc cda) f A outer s H E) (defBody st) (defBody st) (tS Z.z (fun cls d _ H => E cls d H) body)) : FnOk P w K mg base (L2N.CX P w) (k + 1) f fd ps (spD Z (mkD nsl body) n) := by
  subst hN hn
  refine fn_sup B S (fun vs H Q E ⟨A, F, ce, ds, so, r, l, p⟩ => by rw [← r.length]; exact l) fun A outer s H vs Q E hr ⟨A0, F0, ce, ds, so, r, l, p⟩ => ?_
  have hst : startF N vs [none] = L2.start N vs := by
    have hv := r.length
    unfold startF L2.start
    congr 1
    have h1 : N.length - vs.length - ([none] : List (Option V)).length = 0 := by simp; omega
    have h2 : N.length - vs.length = 1 := by omega
    rw [h1, h2]
    rfl
  rw [hst]
  refine ⟨_, hbody A outer s H E hr, A0, F0, _, ce, so, vreps_start r, ?_⟩
  unfold mkD at p
  have hn := so.len
  cases e : body (ds.map some ++ List.replicate (N.length - ds.length) none) ce with
  | nx sl ce' => rw [e] at p; exact fun A' F' H' σ' pA eF so' hs' => fin_ok hn pA eF so' (show VRep Z.z A' F' (.im .non) .non by unfold VRep Rep; rfl) p
  | rt v ce' => rw [e] at p; exact fun A' F' H' x pA eF so' r' => fin_ok hn pA eF so' r' p
  | exc c es sl ce' => rw [e] at p; exact fun A' F' H' σ' dx pA eF so' hs' xo => p A0 F' H' dx (List.prefix_refl _) eF (so'.cut pA hn) xo
  | bk sl ce' => rw [e] at p; exact p.elim
  | ct sl ce' => rw [e] at p; exact p.elim
  | stuck => rw [e] at p; exact p.elim
end
end ZZ

set_option Elab.async false
set_option linter.all false
set_option maxRecDepth 100000
/-! Z16: an own class made by keywords; tables. -/
namespace ZZ
open PySem PySem.Spec L2 NdefX
theorem tb_cons {c c0 : Nat} {fh f0 : DF} {tb : Tb} (h : List.lookup c ((c0, f0) :: tb) = some fh) : (c = c0 ∧ fh = f0) ∨ tb.lookup c = some fh := by
  rw [List.lookup_cons] at h
  split at h
  · rename_i e
    exact .inl ⟨beq_iff_eq.mp e, (Option.some.inj h).symm⟩
  · exact .inr h
theorem tb_nil {c : Nat} {fh : DF} (h : List.lookup c ([] : Tb) = some fh) : False := by cases h
theorem tc_cons {c c0 : Nat} {s s0 : Str} {tb : List (Nat × Str)} (h : List.lookup c ((c0, s0) :: tb) = some s) : (c = c0 ∧ s = s0) ∨ tb.lookup c = some s := by
  rw [List.lookup_cons] at h
  split at h
  · rename_i e
    exact .inl ⟨beq_iff_eq.mp e, (Option.some.inj h).symm⟩
  · exact .inr h
theorem tc_nil {c : Nat} {s : Str} (h : List.lookup c ([] : List (Nat × Str)) = some s) : False := by cases h
theorem cs_cons {c c0 : Nat} {cs : List Nat} (h : (c0 :: cs).contains c = true) : c = c0 ∨ cs.contains c = true := by
  rw [List.contains_cons, Bool.or_eq_true, beq_iff_eq] at h
  exact h
theorem cs_nil {c : Nat} (h : ([] : List Nat).contains c = true) : False := by cases h
theorem sup_par {K : PySem.W.Frag} {file : Str} {name qual : Str} {st : Stmt} {f : Addr} {fd : FuncData} {D cc cda : Addr} (B : SupDef K file name qual st f fd D cc cda) : fd.params = defArgs st := by
  obtain ⟨oc, od, kV, doc, pm, an, ct, osl, rfl, _⟩ := B.ex
  rfl
/-- a special method: a def, found by the class -/
structure SpF (K : PySem.W.Frag) (C : Addr) (m : Str) (f : Addr) : Prop where
  hs : PySem.W.findIn K (.ref C) m = some (some (.ref f))
  fn : PySem.W.isFn K (.ref f) = true
  fi : PySem.W.fnIn K f = true
section
variable {X : Cx} {Z : Zy} {W : WX} {k n : Nat} {c nf : Nat} {fa : Addr} {fd : FuncData} {ps : List Str} {x k1 k2 : Str} {fh : DF} {p pos kp1 kp2 : Pos} {e1 e2 : Expr} {f1 f2 : DE}
theorem make_core {A : List Addr} {F : Hp} {sl : Sl} {ce : List Cell} {vs : List Val} {xs : List V} {H1 : Hp} {σ : L2.St} {Q : VK} (so : SO Z.toZx A F ce H1) (r : VReps Z A F vs xs) (l : vs.length = n) (hfl : (Z.fl c).length = nf) (q : PostE Z A F W σ Q (kMake c nf fh vs sl ce)) :
    ∀ (a dx : Addr), H1 a = none → H1 dx = none → dx ≠ a → spD Z.toZx fh (n + 1) (.ref a :: xs) (upd (upd H1 dx (.own a)) a (.ins (Z.cl c) dx [])) (fun v H3 => v = .non ∧ Q (.ref a) H3) (WE W σ) := by
  intro a dx ha' hdx hne
  unfold kMake at q
  by_cases hp : vs.all plainV = true
  · rw [if_pos hp] at q
    -- the new instance's dict, then the instance as a cell
    have so1 := so.new (o := .own a) hdx
    have fa1 : (upd F dx (.own a)) a = none := by rw [upd_ne (Ne.symm hne)]; exact so.fnone ha'
    have ha1 : (upd H1 dx (.own a)) a = none := by rw [upd_ne (Ne.symm hne)]; exact ha'
    have so2 := so1.newCell (o := .ins (Z.cl c) dx []) (c := .ins c []) ha1 ⟨so1.fnone ha1, dx, [], upd_same, rfl, reps_nil⟩
    have up1 : Same F (upd F dx (.own a)) := same_up (so.fnone hdx)
    refine ⟨A ++ [a], upd F dx (.own a), ce ++ [.ins c []], .cell ce.length :: vs, so2, ⟨.ref a, xs, rfl, ⟨a, by rw [← so.len]; simp, rfl⟩, (r.mono (List.prefix_append _ _) up1).nohd hp⟩, by simp [l], ?_⟩
    cases e : fh (.cell ce.length :: vs) (ce ++ [.ins c []]) with
    | stuck => rw [e] at q; exact q.elim
    | exc d ds ce' =>
      rw [e] at q
      exact fun A' F' H' dx' pA eF so' xo => q A F' H' dx' (List.prefix_refl _) (up1.trans eF) (so'.cut ((List.prefix_append _ _).trans pA) so.len) xo
    | ok v ce' =>
      rw [e] at q
      cases v with
      | cell n => exact q.elim
      | exn c ds => exact q.elim
      | im d => cases d with
        | non =>
          intro A' F' H' y pA eF so' ry
          refine ⟨rep_non (Z := Z.toZx.z) ry, ?_⟩
          have hAa : A'[ce.length]? = some a := pre_get pA (by rw [← so.len]; simp)
          dsimp only at q
          split at q
          · rename_i d ds hds
            by_cases hdc : d = c ∧ ds.length = nf
            · rw [if_pos hdc] at q
              obtain ⟨rfl, hll⟩ := hdc
              obtain ⟨hF, dx', fs', hH, hfs, rr⟩ := so'.ok _ _ _ hAa hds
              have up := same_up (o := .ins (Z.cl d) dx' fs') hF
              have s2 := (so'.freeze hAa hF hH).cut (A := A) ((List.prefix_append _ _).trans pA) so.len
              have e3 : (ce'.set ce.length .dead).take ce.length = ce'.take ce.length := by
                refine List.ext_getElem? fun j => ?_
                by_cases hj : j < ce.length
                · rw [List.getElem?_take_of_lt hj, List.getElem?_take_of_lt hj, List.getElem?_set_ne (by omega)]
                · rw [List.getElem?_eq_none (by simp; omega), List.getElem?_eq_none (by simp; omega)]
              rw [e3] at s2
              refine q A _ H' (.ref a) (List.prefix_refl _) ((up1.trans eF).trans up) s2 ?_
              unfold VRep Rep
              exact ⟨a, dx', fs', rfl, upd_same, by rw [hfs, hll, ← hfl, List.take_length], rr.mono up⟩
            · rw [if_neg hdc] at q
              exact q.elim
          · exact q.elim
        | _ => exact q.elim
  · rw [if_neg hp] at q
    exact q.elim
abbrev KwOk (P : Program) (w : World) (K : PySem.W.Frag) (mg : Str → Option Value) (base : Heap) (k : Nat) (a : Addr) (k1 k2 : Str) (sp : Sp) : Prop :=
  ∃ fd, FnOk P w K mg base (L2N.CX P w) k a fd ["self", k1, k2] sp ∧ KBn K fd ["self", k1, k2] 1 [k2, k1] (fun us ws => us ++ ws.reverse) (fun vs zs => vs ++ zs.reverse)
theorem vals_rev : ∀ {vs : List V} {us : List Value}, Vals vs us → Vals vs.reverse us.reverse
  | [], [], _ => .nil
  | v :: vs, u :: us, h => by
    cases h with
    | cons h1 h2 =>
      rw [List.reverse_cons, List.reverse_cons]
      exact (vals_rev h2).append (.cons h1 .nil)
theorem kbR {K : PySem.W.Frag} {name qual : Str} {st : Stmt} {f : Addr} (F : Fun K name qual st f fd)
    (h : ∀ (kV doc pm : Value) (an : Option Addr) (cdv ct a b c : Value), bindArgs (PySem.W.fnOf name qual (defArgs st) (defBody st) (defScope st) .none kV doc pm an cdv ct) ⟨[a], [(k2, b), (k1, c)]⟩ = pure [(("self" : Str), a), (k1, c), (k2, b)]) :
    KBn K fd ["self", k1, k2] 1 [k2, k1] (fun us ws => us ++ ws.reverse) (fun vs zs => vs ++ zs.reverse) := by
  obtain ⟨oc, od, kV, doc, pm, an, cdv, ct, osl, rfl, lk, hcd⟩ := F.ex
  refine ⟨fun s us ws X l1 l2 => ?_, fun r1 r2 => r1.append (vals_rev r2)⟩
  match us, l1, ws, l2 with
  | [a], _, [b, c], _ => exact .of_eq (h kV doc pm an cdv ct a b c)
/-- C(k2 = .., k1 = ..) of a class made with k1, k2; raises nothing -/
def kMakeR (c nf : Nat) (fh : DF) (vs : List Val) : DE := fun sl ce => match kMake c nf fh vs.reverse sl ce with
  | .ok u ce' => .ok u ce'
  | _ => .stuck
theorem de_makeR (M : Mk X.K (Z.cl c) fa) (G : KwOk X.prog X.w X.K X.mg X.base k fa k1 k2 (spD Z.toZx fh 3)) (hr : Room (k + 1) X.A) (hm : X.mg x = some (.ref (Z.cl c))) (ha : PE X e1 (tE Z W f1)) (hb : PE X e2 (tE Z W f2)) (hfl : (Z.fl c).length = nf)
    (hg : Gl X x := by rfl) (hdb : (x == ("__debug__" : Str)) = false := by decide) : PE X (.Call (.Name x p) [] [⟨some k2, e1, kp1⟩, ⟨some k1, e2, kp2⟩] pos) (tE Z W (eArgs [f1, f2] (kMakeR c nf fh))) := by
  obtain ⟨fd, F0, b⟩ := G
  refine (pe_makeK0 (E := fun _ _ _ => False) M F0 hr hg hm b pass_none (pk_cons ha (pk_cons hb pk_nil)) rfl rfl hdb rfl).weak fun σ H Q h => ?_
  show tArgs Z W [f1, f2] σ H fun zs H2 => ([] : List V).length = 0 ∧ zs.length = 2 ∧ ∀ x dx, H2 x = none → H2 dx = none → dx ≠ x → spD Z.toZx fh 3 (([V.ref x] : List V) ++ zs.reverse) (upd (upd H2 dx (.own x)) x (.ins (Z.cl c) dx [])) (fun v H3 => v = .non ∧ Q (.ref x) H3) fun _ _ _ => False
  refine tArgs_imp (fun zs H2 ⟨A, F, sl, ce, vs, so, hs, r, l, q⟩ => ?_) (tN h)
  have hz := r.length
  refine ⟨rfl, by rw [← hz]; exact l, ?_⟩
  have hv : ∃ v u, vs = [v, u] := by
    match vs, l with
    | [v, u], _ => exact ⟨v, u, rfl⟩
  obtain ⟨v, u, rfl⟩ := hv
  obtain ⟨x1, x2, rfl, rv, ru⟩ := vreps2 r
  have q2 : PostE Z A F WF σ Q (kMake c nf fh [u, v] sl ce) := by
    unfold kMakeR at q
    simp only [List.reverse_cons, List.reverse_nil, List.nil_append, List.singleton_append, List.cons_append] at q
    split at q
    · rename_i w ce' e
      rw [e]
      exact q
    · exact q.elim
  have rr : VReps Z A F [u, v] [x2, x1] := ⟨_, _, rfl, ru, _, _, rfl, rv, rfl⟩
  exact make_core (W := WF) (n := 2) (vs := [u, v]) (xs := [x2, x1]) (sl := sl) (σ := σ) (Q := Q) so rr rfl hfl q2
end
end ZZ

set_option Elab.async false
set_option linter.all false
set_option maxRecDepth 100000
/-! Z17: == by the classes' own __eq__, the subclass asked first; str(int), int(text), list.index of a text. -/
namespace L2
open PySem PySem.Spec
section
variable {prog : Program} {w : World} {A : Around} {E : Value → Shared → Prop} {s : Shared} {K : PySem.W.Frag} {x y C D L f : Addr} {h₀ : Heap} {m : Str → Option Value} {ox oy : Obj} {od od' : Option Obj}
theorem cmp_KR {op : CmpOp} {Q : Value → Shared → Prop} (hu : A.units < cLine) (F : PyProof.Rows.Fr h₀ L s.heap m) (X₀ : K.In h₀) (I : PySem.W.InstAt s.heap x ox C od) (J : PySem.W.InstAt s.heap y oy D od') (hne : D ≠ C) (hsub : PySem.W.mroIn K D (.ref C) = some true)
    (hs : PySem.W.findIn K (.ref D) (cmpInfo op).2.2 = some (some (.ref f))) (hf : PySem.W.isFn K (.ref f) = true)
    (h : wpAny (model prog w) A (call (.ref f) [.ref y, .ref x]) (PySem.W.CmpBack Q) E s) : wpAny (model prog w) A (richCompare op (.ref x) (.ref y)) Q E s := by
  have X := X₀.keeps F.keep
  have one : wpAny (model prog w) A (tryCompare (.ref y) (cmpInfo op).2.2 (.ref x)) (fun r s' => ∃ v, r = some v ∧ Q v s') E s := by
    unfold tryCompare
    refine wpAny_bind (PySem.W.ifBound_K X J hs hf (wpAny_mono h (fun v s' hv => ?_) fun _ _ e => e))
    cases v <;> first | exact hv.elim | exact wpAny_pure ⟨_, rfl, hv⟩
  unfold richCompare
  simp only [oneThing_ref]
  refine wpAny_holding (wpAny_bind (wpAny_cRoomFor hu ?_))
  refine wpAny_bind (I.type.here (wpAny_bind (J.type.here ?_)))
  split
  · refine wpAny_bind ((PySem.W.looks_subIn X (t := .ref D) (base := .ref C) hsub).here ?_)
    simp only [if_true]
    refine wpAny_bind (wpAny_mono one (fun r s' z => ?_) fun _ _ e => e)
    obtain ⟨v, rfl, hq⟩ := z
    exact wpAny_bind (wpAny_rule (wpAny_pure hq))
  · rename_i q
    exact absurd (by simpa using q) fun e : C = D => hne e.symm
end
section
variable {X : Cx} {CX : CXT} {k : Nat} {f : Addr} {fd : FuncData} {ps : List Str} {sp : Sp} {E : L2.St → XK} {a b : Expr} {ta tb : TE}
def tOwnE (K : PySem.W.Frag) (f : Addr) (sp : Sp) (E : L2.St → XK) (ta tb : TE) : TE := fun σ H Q => ta σ H fun x H1 => tb σ H1 fun y H2 => ∃ u v C D dx fs dy gs, x = .ref u ∧ y = .ref v ∧ H2 u = some (.ins C dx fs) ∧ H2 v = some (.ins D dy gs) ∧
  PySem.W.findIn K (.ref C) "__eq__" = some (some (.ref f)) ∧ PySem.W.findIn K (.ref D) "__eq__" = some (some (.ref f)) ∧
  ((PySem.W.notFirst K C (.ref D) = true ∧ sp [x, y] H2 Q (E σ)) ∨ (D ≠ C ∧ PySem.W.mroIn K D (.ref C) = some true ∧ sp [y, x] H2 Q (E σ)))
theorem pc_ownE (hf : PySem.W.isFn X.K (.ref f) = true) (ha : PE X a ta) (hb : PE X b tb) (F : FnOk X.prog X.w X.K X.mg X.base CX k f fd ps sp) (hr : Room k X.A) (hbd : Binds X.K fd ps []) (hx : ∀ σ, PassesAt CX X σ (E σ)) :
    PC X .Eq a b (tOwnE X.K f sp E ta tb) := by
  refine ⟨fun pins s σ H Q I h => ?_⟩
  refine binT ha hb I h fun v u s2 x y H2 I2 rx ry q => ?_
  obtain ⟨c, d, C, D, dx, fs, dy, gs, rfl, rfl, hc, hd, hC, hD, q⟩ := q
  cases (show v = Value.ref c from rx)
  cases (show u = Value.ref d from ry)
  obtain ⟨mA, O1, _⟩ := ins_get I2.hok hc
  obtain ⟨mB, O2, _⟩ := ins_get I2.hok hd
  obtain ⟨od, J, _⟩ := O1.look
  obtain ⟨od', J', _⟩ := O2.look
  obtain ⟨m, hF⟩ := I2.fr
  show wpAny _ _ (richCompare .Eq (.ref c) (.ref d)) _ _ _
  rcases q with ⟨hn, q⟩ | ⟨hn, hm, q⟩
  · refine PySem.W.cmp_K (op := .Eq) (tb := .ref D) hr.units0 hF I2.ok.mod.kin J J'.type hn hC hf ?_
    refine wpAny_mono (run_fnSD (us := [.ref c, .ref d]) (vs := [.ref c, .ref d]) (dvs := []) (ds := []) F hr hbd .nil (hx σ) I2 (.cons rfl (.cons rfl .nil)) q) (fun w s' z => ?_) fun _ _ x => x
    obtain ⟨z', H', I', rz, qz⟩ := z
    exact SlX.cmpback rz ⟨z', H', I', rz, qz⟩
  · refine cmp_KR (op := .Eq) hr.units0 hF I2.ok.mod.kin J J' hn hm hD hf ?_
    refine wpAny_mono (run_fnSD (us := [.ref d, .ref c]) (vs := [.ref d, .ref c]) (dvs := []) (ds := []) F hr hbd .nil (hx σ) I2 (.cons rfl (.cons rfl .nil)) q) (fun w s' z => ?_) fun _ _ x => x
    obtain ⟨z', H', I', rz, qz⟩ := z
    exact SlX.cmpback rz ⟨z', H', I', rz, qz⟩
end
end L2
namespace ZZ
open PySem PySem.Spec L2 NdefX
/-- the classes cs share one __eq__; rf c d: d is below c -/
structure EqT (K : PySem.W.Frag) (cl : Nat → Addr) (cs : List Nat) (rf : Nat → Nat → Bool) (f : Addr) : Prop where
  hs : ∀ c ∈ cs, PySem.W.findIn K (.ref (cl c)) "__eq__" = some (some (.ref f))
  fn : PySem.W.isFn K (.ref f) = true
  rl : ∀ c ∈ cs, ∀ d ∈ cs, c = d ∨ PySem.W.mroIn K (cl d) (.ref (cl c)) = some (rf c d)
  as : ∀ c ∈ cs, ∀ d ∈ cs, c = d ∨ rf c d = false ∨ rf d c = false
def kOwnE (cs : List Nat) (rf : Nat → Nat → Bool) (fh : DF) (v u : Val) : DE := fun _ ce => match clsV ce v, clsV ce u with
  | some c, some d => if c ∈ cs ∧ d ∈ cs then (if c ≠ d ∧ rf c d = true then fh [u, v] ce else fh [v, u] ce) else .stuck
  | _, _ => .stuck
section
variable {X : Cx} {Z : Zy} {W : WX} {k n : Nat} {fa : Addr} {ps : List Str} {fh : DF} {p pos : Pos} {a b e : Expr} {es : List Expr} {f g : DE} {cs : List Nat} {rf : Nat → Nat → Bool}
theorem t_ownE {σ : L2.St} {H : Hp} {Q : VK} (T : EqT X.K Z.cl cs rf fa) (h : tE Z W (eBin (kOwnE cs rf fh) f g) σ H Q) : tOwnE X.K fa (spD Z.toZx fh 2) (WE W) (tE Z W f) (tE Z W g) σ H Q :=
  tE_imp (fun x H1 h1 => tE_imp (fun y H2 ⟨A, F, sl, ce, v, u, so, hs, rv, ru, p⟩ => by
    unfold kOwnE at p
    split at p
    · rename_i c d hc hd
      by_cases hi : c ∈ cs ∧ d ∈ cs
      · rw [if_pos hi] at p
        obtain ⟨a, dx, fs, n, rfl, h1, h2⟩ := isC_rd so rv (clsV_isC hc)
        obtain ⟨b, dy, gs, n', rfl, h3, h4⟩ := isC_rd so ru (clsV_isC hd)
        refine ⟨a, b, _, _, dx, fs, dy, gs, rfl, rfl, h1, h3, T.hs c hi.1, T.hs d hi.2, ?_⟩
        by_cases hr : c ≠ d ∧ rf c d = true
        · rw [if_pos hr] at p
          have e1 := (T.rl c hi.1 d hi.2).resolve_left hr.1
          have e2 := (T.rl d hi.2 c hi.1).resolve_left fun e => hr.1 e.symm
          have e3 : rf d c = false := by
            rcases T.as c hi.1 d hi.2 with e | e | e
            · exact absurd e hr.1
            · rw [hr.2] at e
              cases e
            · exact e
          rw [hr.2] at e1
          rw [e3] at e2
          refine .inr ⟨fun e => ?_, e1, spD_call (sl := sl) (vs := [u, v]) so ⟨_, _, rfl, ru, _, _, rfl, rv, rfl⟩ rfl (by simp [isC_plain (clsV_isC hc), isC_plain (clsV_isC hd)]) p⟩
          rw [e] at e1 e2
          rw [e1] at e2
          cases e2
        · rw [if_neg hr] at p
          refine .inl ⟨?_, spD_call (sl := sl) (vs := [v, u]) so ⟨_, _, rfl, rv, _, _, rfl, ru, rfl⟩ rfl (by simp [isC_plain (clsV_isC hc), isC_plain (clsV_isC hd)]) p⟩
          unfold PySem.W.notFirst
          by_cases hcd : c = d
          · subst hcd
            simp
          · have e1 := (T.rl c hi.1 d hi.2).resolve_left hcd
            have e2 : rf c d = false := by
              cases hq : rf c d
              · rfl
              · exact absurd ⟨hcd, hq⟩ hr
            rw [e2] at e1
            simp [PySem.W.subIn, e1]
      · rw [if_neg hi] at p
        exact p.elim
    · exact p.elim) h1) (tE2 h)
theorem de_ownE (T : EqT X.K Z.cl cs rf fa) (G : DOk X.prog X.w X.K X.mg X.base k fa ps (spD Z.toZx fh 2)) (hr : Room k X.A) (tw : TW X W) (ha : PE X a (tE Z W f)) (hb : PE X b (tE Z W g)) (h1 : behindInMarks .Eq b = false := by first | exact nobehind _ (by decide) (by decide) | rfl) :
    PE X (.Compare a [.Eq] [b] pos) (tE Z W (eBin (kOwnE cs rf fh) f g)) := by
  obtain ⟨fd, F, bd⟩ := G.ex
  exact (pe_cmp (pc_ownE T.fn ha hb F hr bd tw) h1).weak fun σ H Q h => t_ownE T h
/-! ### str(int), int(text) -/
def kStrI : List Val → DE
  | [.im (.int i)] => if i.natAbs < 2 ^ 64 then eC (.str (toString i)) else kStuck
  | _ => kStuck
def kIntS : List Val → DE
  | [.im (.str a)] => match PySem.intText? a with
    | some n => if a.length ≤ 640 then eC (.int n) else kStuck
    | none => kStuck
  | _ => kStuck
theorem ok_strI : OkN Z W kStrI (fun xs H Q => ∃ i, xs = [.int i] ∧ i.natAbs.log2 < 1920 ∧ Q (.str (toString i)) H) := by
  intro A F sl ce vs xs H σ Q so hs r p
  unfold kStrI at p
  split at p
  · replace r := vreps1 r; obtain ⟨x, rfl, r⟩ := r
    rename_i i
    by_cases h : i.natAbs < 2 ^ 64
    · rw [if_pos h] at p
      rw [rep_int r]
      refine ⟨_, rfl, ?_, fin_flat so p repS⟩
      by_cases h0 : i.natAbs = 0
      · rw [h0]
        decide
      · have := (Nat.log2_lt h0).mpr h
        omega
    · rw [if_neg h] at p
      exact p.elim
  · exact p.elim
theorem ok_intS : OkN Z W kIntS (fun xs H Q => ∃ a n, xs = [.str a] ∧ PySem.intText? a = some n ∧ a.length ≤ 640 ∧ Q (.int n) H) := by
  intro A F sl ce vs xs H σ Q so hs r p
  unfold kIntS at p
  split at p
  · replace r := vreps1 r; obtain ⟨x, rfl, r⟩ := r
    rw [rep_str r]
    rename_i a
    cases hn : PySem.intText? a with
    | some n =>
      rw [hn] at p
      by_cases h : a.length ≤ 640
      · simp only [if_pos h] at p
        exact ⟨_, _, rfl, hn, h, fin_flat so p repI⟩
      · simp only [if_neg h] at p
        exact p.elim
    | none =>
      rw [hn] at p
      exact p.elim
  · exact p.elim
/-! ### list.index of a text -/
def idxS (b : Str) : List D → Option Nat
  | [] => none
  | .str a :: ds => if a = b then some 0 else (idxS b ds).map (· + 1)
  | _ :: _ => none
def allS : List D → Bool
  | [] => true
  | .str _ :: ds => allS ds
  | _ :: _ => false
def kLIdx (v : Val) (vs : List Val) : DE := fun _ ce => match asL ce v, vs with
  | some ds, [.im (.str b)] => if allS ds then (match idxS b ds with
    | some j => .ok (.im (.int (j : Nat))) ce
    | none => .stuck) else .stuck
  | _, _ => .stuck
theorem idxS_rd {Z : Zx} {F : Hp} {b : Str} : ∀ {ds : List D} {ys : List V} {j : Nat}, allS ds = true → Reps Z F ds ys → idxS b ds = some j → ∃ z, ys[j]? = some z ∧ eqV z (.str b) = true ∧ ∀ (m : Nat) (z' : V), m < j → ys[m]? = some z' → eqV z' (.str b) = false
  | [], ys, j, h, r, e => by cases e
  | d :: ds, ys, j, h, r, e => by
    obtain ⟨y, zs, rfl, ry, rs⟩ := reps_cons_inv r
    cases d with
    | str a =>
      unfold Rep at ry
      cases ry
      rw [allS] at h
      rw [idxS] at e
      by_cases hab : a = b
      · rw [if_pos hab] at e
        cases e
        subst hab
        exact ⟨_, rfl, by simp [eqV], fun m z' hm => absurd hm (Nat.not_lt_zero m)⟩
      · rw [if_neg hab] at e
        obtain ⟨i, hi, rfl⟩ := Option.map_eq_some_iff.mp e
        obtain ⟨z, h1, h2, h3⟩ := idxS_rd h rs hi
        refine ⟨z, h1, h2, fun m z' hm hz => ?_⟩
        cases m with
        | zero =>
          cases hz
          simp [eqV, hab]
        | succ m => exact h3 m z' (by omega) hz
    | _ => cases h
theorem allS_flat {Z : Zx} {F : Hp} : ∀ {ds : List D} {ys : List V}, allS ds = true → Reps Z F ds ys → ys.all flatV = true
  | [], ys, h, r => by
    rw [reps_nil_inv r]
    rfl
  | d :: ds, ys, h, r => by
    obtain ⟨y, zs, rfl, ry, rs⟩ := reps_cons_inv r
    cases d with
    | str a =>
      unfold Rep at ry
      cases ry
      rw [allS] at h
      rw [List.all_cons, allS_flat h rs]
      rfl
    | _ => cases h
theorem de_lidx {o : Expr} {apos cpos : Pos} (hK : X.K = Z.K) (ho : PE X o (tE Z W f)) (ha : PE X e (tE Z W g))
    (hb : attributeBase o "index" X.env (eval o X.env) = eval o X.env := by rfl) (hl : (apos.endLine == cpos.line) = true := by rfl) (hs : starEach [e] X.env = (false, eval e X.env) :: starEach [] X.env := by rfl)
    (hfew : ((backTo cpos (starEach [e] X.env)).all (fun x => !x.1) && (backToKw cpos (keywordEach [] X.env)).all (fun x => x.1.isSome)
      && decide ([e].length + ([] : List Keyword).length + (if ([] : List Keyword).isEmpty then 0 else 1) < 30)) = true := by rfl) :
    PE X (.Call (.Attribute o "index" apos) [e] [] cpos) (tE Z W (eMth tyL kLIdx f [g])) :=
  de_bm PySem.F.plainAttrs_list PySem.F.slot_list_index PySem.F.type_list_index mt_index ⟨tyL_ok hK, fun A F sl ce v x vs xs H σ Q so hs rv rs p => by
    unfold kLIdx at p
    split at p
    · rename_i ds b hds
      obtain ⟨y, rfl, ry⟩ := vreps1 rs
      obtain ⟨l, ws, rfl, h1, h2⟩ := asL_rd so rv hds
      split at p
      · rename_i hall
        split at p
        · rename_i j hj
          obtain ⟨z, z1, z2, z3⟩ := idxS_rd hall h2 hj
          rw [rep_str ry]
          exact ⟨l, ws, _, j, z, rfl, rfl, SqL.of h1, rfl, allS_flat hall h2, z1, z2, z3, fin_flat so p repI⟩
        · exact p.elim
      · exact p.elim
    · exact p.elim⟩ ho (da_cons ha da_nil hs) hb hl hs rfl hfew
end
end ZZ

set_option Elab.async false
set_option linter.all false
set_option maxRecDepth 100000
/-! Z18: `x in e`, e an instance of an own class that has __iter__ and no __contains__. -/
namespace L2
open PySem PySem.Spec PyProof.Rows
theorem entry_ci : entryFor table "proto.contains_iter" = some Builtin.«proto.contains_iter» := entryFor_of_fast (by kernel_rfl)
theorem plain_ci : plainId "proto.contains_iter" = true := by decide +kernel
theorem DpAll.get {K : PySem.W.Frag} {H : Hp} : ∀ {zs : List V} {ps : List PyData} {i : Nat} {q : PyData}, DpAll K H zs ps → ps[i]? = some q → ∃ z, zs[i]? = some z ∧ Dp K H z q
  | _, _, i, q, .nil, h => by simp at h
  | _, _, 0, q, .cons d _, h => by
    simp only [List.getElem?_cons_zero, Option.some.injEq] at h
    subst h
    exact ⟨_, rfl, d⟩
  | _, _, i + 1, q, .cons _ t, h => by
    rw [List.getElem?_cons_succ] at h
    obtain ⟨z, h1, h2⟩ := DpAll.get t h
    exact ⟨z, by rw [List.getElem?_cons_succ]; exact h1, h2⟩
theorem DpAll.len {K : PySem.W.Frag} {H : Hp} : ∀ {zs : List V} {ps : List PyData}, DpAll K H zs ps → zs.length = ps.length
  | _, _, .nil => rfl
  | _, _, .cons _ t => by rw [List.length_cons, List.length_cons, DpAll.len t]
section
variable {X : Cx} {pins : List (Addr × Obj)} {σ : L2.St} {H : Hp} {it l : Addr} {zs : List V} {ps : List PyData} {p : PyData} {x : V} {v : Value} {A1 : Around} {R : Result → Shared → Prop}
theorem ci_loop (hrm : A1.in1.units + 64 < cLine) (hh : A1.in1.handled = none) (rx : RelV x v) (hl : SqL X.K H l zs) (hz : DpAll X.K H zs ps) (hs : ∀ q ∈ ps, SeqAt.shaped q = true) (hx : Dp X.K H x p) (hp : SeqAt.shaped p = true) (fp : FpOk X pins H it) :
    ∀ (n i : Nat) (s : Shared), ps.length - i = n → Inv X pins σ H s → s.heap.IsListIter it l i → (∀ s', Inv X pins σ H s' → R (.ok (.ret (.bool ((ps.drop i).any fun q => PyData.eqv q p)))) s') →
      codeAny (model X.prog X.w) A1 (.builtin "proto.contains_iter" ⟨[.ref it, v], []⟩) R s := by
  intro n
  induction n with
  | zero =>
    intro i s hn I st h
    refine codeAny_builtin entry_ci ?_
    rw [Around.under_plainId plain_ci _]
    show wpAny _ A1.in1 (pyNext (.ref it) >>= _) _ _ s
    obtain ⟨its, rv, pl, hsz⟩ := I.list hl
    obtain ⟨f0, f1, f2, f3, f4, f5⟩ := fp
    have e1 := rv.length
    have e2 := hz.len
    refine wpAny_bind (wpAny_pyNext_list_end hh st pl.isList (by simp; omega) fun h' eb => ?_)
    have I2 : Inv X pins σ H { s with heap := h' } := I.turned (t' := s.toks) (fun b o hb e => eb b o hb e) f0 f1 f3 f4 f5
    have := h _ I2
    rw [List.drop_of_length_le (by omega)] at this
    exact wpAny_bind (wpAny_rule (wpAny_pure this))
  | succ n ih =>
    intro i s hn I st h
    refine codeAny_builtin entry_ci ?_
    rw [Around.under_plainId plain_ci _]
    show wpAny _ A1.in1 (pyNext (.ref it) >>= _) _ _ s
    obtain ⟨its, rv, pl, hsz⟩ := I.list hl
    have e1 := rv.length
    have e2 := hz.len
    have hi : i < ps.length := by omega
    obtain ⟨z, hzi, dz⟩ := hz.get (List.getElem?_eq_getElem hi)
    obtain ⟨u, hu, ru⟩ := rv.get hzi
    refine wpAny_bind (wpAny_pyNext_list_item st pl.isList (x := u) (by simpa using hu) fun h' st' sb => ?_)
    have I2 : Inv X pins σ H { s with heap := h' } := I.turned (t' := s.toks) (fun b o hb e => (sb.2 b hb).trans e) fp.1 fp.2.1 fp.2.2.2.1 fp.2.2.2.2.1 fp.2.2.2.2.2
    obtain ⟨as, r1⟩ := Dp.reads I2 _ _ _ dz ru
    obtain ⟨bs, r2⟩ := Dp.reads I2 _ _ _ hx rx
    have hq := hs _ (List.getElem_mem hi)
    have hd : ps.drop i = ps[i] :: ps.drop (i + 1) := List.drop_eq_getElem_cons hi
    rw [hd, List.any_cons] at h
    refine wpAny_bind (SeqAt.eqBoolOverData _ _ _ _ _ _ _ _ _ _ _ _ r1 r2 (SeqAt.canLay_of_shaped hq) (SeqAt.canLay_of_shaped hp) (SeqAt.room_of_shaped hq hrm) ?_)
    cases hb : PyData.eqv ps[i] p with
    | true =>
      rw [hb] at h
      exact wpAny_bind (wpAny_rule (wpAny_pure (h _ I2)))
    | false =>
      rw [hb] at h
      exact wpAny_pure ⟨plainId_quiet plain_ci _, ih (i + 1) _ (by omega) I2 st' h⟩
end
/-- e in an instance whose __iter__ gives an iterator over the list in the field fl -/
def rInO (K : PySem.W.Frag) (C : Addr) (fl : Str) : R2 := fun x y H Q => ∃ a dx fs l zs ps p, y = .ref a ∧ H a = some (.ins C dx fs) ∧ Cls K C ∧ NoAttr K C fl ∧ fs.lookup fl = some (.ref l) ∧ SqL K H l zs ∧ DpAll K H zs ps ∧ (∀ q ∈ ps, SeqAt.shaped q = true) ∧ Dp K H x p ∧ SeqAt.shaped p = true ∧ Q (.bl (ps.any fun q => PyData.eqv q p)) H
section
variable {X : Cx} {k : Nat} {f C : Addr} {fd : FuncData} {fl : Str}
theorem op_in_own (hs : PySem.W.findIn X.K (.ref C) "__iter__" = some (some (.ref f))) (hnc : PySem.W.findIn X.K (.ref C) "__contains__" = some none) (hf : PySem.W.isFn X.K (.ref f) = true) (F : FnOkN X.prog X.w X.K X.mg X.base (L2N.CX X.prog X.w) k f fd ["self"] (spIter X.K C fl)) (hr : Room (k + 1) X.A) (hbd : Binds X.K fd ["self"] []) (hc : X.calm = true) :
    OpR X (compareOp .In) (rInO X.K C fl) := by
  intro pins s σ H x y v u Q I rx ry h
  obtain ⟨c, dx, fs, l, zs, ps, p, rfl, hy, hcl, hno, hlk, hsq, hz, hsh, hpx, hp, q⟩ := h
  obtain rfl : u = Value.ref c := ry
  obtain ⟨mA, O1, _⟩ := ins_get I.hok hy
  obtain ⟨od, J, _⟩ := O1.look
  obtain ⟨m, hF⟩ := I.fr
  have hk := I.kIn
  have none1 : ∀ {E : Value → Shared → Prop} {Q : Option Value → Shared → Prop} {s' : Shared}, s' = s → Q none s → wpAny (model X.prog X.w) X.A (specialOf (.ref c) "__contains__") Q E s' := fun e hq => by
    subst e
    exact wpAny_bind (J.type.here ((PySem.W.looks_findIn hk hnc).here hq))
  show wpAny _ _ (contains (.ref c) v >>= fun b => pure (Value.bool b)) _ _ s
  refine wpAny_bind ?_
  unfold contains
  refine wpAny_holding ?_
  refine wpAny_bind (none1 rfl ?_)
  refine wpAny_bind ?_
  unfold callSpecialUnlessNone?
  refine wpAny_bind (none1 rfl ?_)
  refine wpAny_pure ?_
  refine wpAny_bind (wpAny_rule ?_)
  refine wpAny_bind (wpAny_tryCatch ?_)
  refine PySem.W.owit_iter hF I.ok.mod.kin J hs hf ?_
  refine wpAny_call (codeAny_mono (F.run X.A X.stack s H ⟨[.ref c], []⟩ [.ref c] [.ref c] (fun v H' => ∃ it, v = .ref it ∧ H it = none ∧ s.heap.objs.size ≤ it ∧ H' = upd H it (ItO l it 0)) (fun _ _ _ => False) (hr.mono (Nat.le_succ k)) I.env0 (hbd s [.ref c] I.kIn rfl) (.cons rfl .nil) ⟨c, dx, fs, l, zs, rfl, hy, hcl, hno, hlk, hsq, fun it h1 h2 => ⟨it, rfl, h1, h2, rfl⟩⟩) fun r s' hq => ?_)
  cases r with
  | error er =>
    obtain ⟨_, _, _, _, _, _, _, _, _, _, _, _, hE⟩ := (show L2N.CX X.prog X.w X.stack H s (fun _ _ _ => False) er s' from hq)
    exact hE.elim
  | ok fl' =>
    cases fl' with
    | ret u =>
      obtain ⟨v', H', I2, rv, it, rfl, hn, hle, rfl⟩ := I.after hq
      obtain rfl : u = Value.ref it := rv
      have hi : (upd H it (ItO l it 0)) it = some (ItO l it 0) := upd_same
      have eo := itO_get I2 hi
      have hT : s'.TypeIs (.ref it) "list_iterator" := ⟨_, eo, rfl⟩
      have st : s'.heap.IsListIter it l 0 := ⟨_, eo, rfl, rfl⟩
      have hi' := hi
      unfold ItO at hi'
      have I3 := ItX.inv_drop I2 hi'
      have ed : ItX.dropH (upd H it (ItO l it 0)) it = H := ItX.dropH_upd hn
      have fp := ItX.inv_fp I2 hi (Nat.le_trans I.sz hle)
      rw [ed] at I3 fp
      show PySem.W.OwitIt _ _ _ _ _ _
      unfold PySem.W.OwitIt
      refine wpAny_specialOf (name := Str.ofString "__next__") hT slot_listiter_next.lookup ?_
      show wpAny _ _ _ _ _ _
      refine wpAny_bind (wpAny_runValue (ci_loop hr.in1.units (I.ok.hd hc) rx hsq hz hsh hpx hp fp _ 0 s' rfl I3 st fun s2 I4 => ?_))
      exact wpAny_pure (wpAny_pure ⟨.bl _, H, I4, rfl, q⟩)
    | next => exact False.elim hq
    | brk => exact False.elim hq
    | cont => exact False.elim hq
end
end L2
namespace ZZ
open PySem PySem.Spec L2
def kInO (c i : Nat) (v u : Val) : DE := fun _ ce => match itO c i u, asIm ce v with
  | some es, some d => match toPy d, toPys es with
    | some p, some ps => if SeqAt.shaped p = true ∧ ps.all SeqAt.shaped = true then .ok (.im (.bl (ps.any fun q => PyData.eqv q p))) ce else .stuck
    | _, _ => .stuck
  | _, _ => .stuck
section
variable {X : Cx} {Z : Zy} {W : WX} {k n i : Nat} {fa : Addr} {fl : Str} {c : Nat}
theorem c_inO (hK : X.K = Z.K) (kc : ClsOk X.K Z.toZx c) (na : NoAttr X.K (Z.cl c) fl) (hi : (Z.fl c)[i]? = some fl) (G : ItOk X.prog X.w X.K X.mg X.base (Z.cl c) fa fl) (hnc : PySem.W.findIn X.K (.ref (Z.cl c)) "__contains__" = some none) (hr : Room 2 X.A) (hc : X.calm = true := by rfl) : CmpK X Z W .In (kInO c i) := by
  obtain ⟨fd, F, bd⟩ := G.ex
  refine ⟨_, op_in_own G.hs hnc G.fn F hr bd hc, ?_⟩
  intro A F0 sl ce v u x y H σ Q so hs rv ru p
  unfold kInO at p
  split at p
  · rename_i es d e1 e2
    split at p
    · rename_i pd pds t1 t2
      split at p
      · rename_i hsh
        unfold itO at e1
        split at e1
        · rename_i d' xs
          split at e1
          · rename_i hd
            subst hd
            split at e1
            · rename_i es' hx
              cases e1
              have rv2 := rv
              unfold VRep Rep at ru
              obtain ⟨a, dx, fs, rfl, ha, hf, hr2⟩ := ru
              obtain ⟨v', hv, rv'⟩ := lookup_ix (n := (Z.fl d').length) kc.nd (by rw [List.take_length]; exact hf) hr2 hi hx
              unfold Rep at rv'
              obtain ⟨l, vs, rfl, hl, rr⟩ := rv'
              have hd1 := asIm_dp so rv e2 t1
              have hd2 := dps_of so.sub rr t2
              rw [← hK] at hd1 hd2
              exact ⟨a, dx, fs, l, vs, pds, pd, rfl, so.sub _ _ ha, kc.cls, na, hv, SqL.of (so.sub _ _ hl), hd2, fun q hq => List.all_eq_true.mp hsh.2 q hq, hd1, hsh.1, fin_flat so p repB⟩
            · cases e1
          · cases e1
        · cases e1
      · exact p.elim
    · exact p.elim
  · exact p.elim
end
end ZZ
namespace ZZ
open PySem PySem.Spec L2
section
variable {X : Cx} {Z : Zy} {W : WX}
theorem hotUnits {k : Nat} {A : Around} (r : L2H.RoomH k A) : A.units + 64 < cLine := by have := r.un; omega
theorem c_eqH (hK : X.K = Z.K) (hu : X.A.units + 64 < cLine) : CmpK X Z W .Eq kEq := ⟨rEqD Z.K, by rw [← hK]; exact op_eqD hu, ok_eq⟩
theorem c_neH (hK : X.K = Z.K) (hu : X.A.units + 64 < cLine) : CmpK X Z W .NotEq kNe := ⟨rNeD Z.K, by rw [← hK]; exact op_neD hu, ok_ne⟩
end
end ZZ

set_option Elab.async false
set_option linter.all false
set_option maxRecDepth 100000
/-! Z19: an own __getitem__; stores by index and by slice. -/
namespace L2
open PySem PySem.Spec PyProof.Rows
section
variable {X : Cx} {CX : CXT} {k : Nat} {f : Addr} {fd : FuncData} {ps : List Str} {sp : Sp} {E : L2.St → XK} {a b : Expr} {ta tb : TE} {pos : Pos}
def tOwnIx (K : PySem.W.Frag) (f : Addr) (sp : Sp) (E : L2.St → XK) (ta tb : TE) : TE := fun σ H Q => ta σ H fun x H1 => tb σ H1 fun y H2 => ∃ u C dx fs, x = .ref u ∧ H2 u = some (.ins C dx fs) ∧ PySem.W.findIn K (.ref C) "__getitem__" = some (some (.ref f)) ∧ sp [x, y] H2 Q (E σ)
theorem pe_ownIx (hf : PySem.W.isFn X.K (.ref f) = true) (hfi : PySem.W.fnIn X.K f = true) (ha : PE X a ta) (hb : PE X b tb) (F : FnOk X.prog X.w X.K X.mg X.base CX k f fd ps sp) (hr : Room (k + 1) X.A) (hbd : Binds X.K fd ps []) (hx : ∀ σ, PassesAt CX X σ (E σ))
    (hsl : ∀ v u, subscripted b true v u = runValue (.builtin "lifetime.subscript" ⟨[v, u], []⟩) := by with_unfolding_all (intros; rfl)) : PE X (.Subscript a b pos) (tOwnIx X.K f sp E ta tb) := by
  refine ⟨fun pins s σ H Q I h => ?_⟩
  refine Subscript_ (binT ha hb I h fun v u s2 x y H2 I2 rx ry q => ?_)
  obtain ⟨c, C, dx, fs, rfl, hc, hC, q⟩ := q
  obtain rfl : v = Value.ref c := rx
  obtain ⟨mA, O1, _⟩ := ins_get I2.hok hc
  obtain ⟨od, J, _⟩ := O1.look
  obtain ⟨m, hF⟩ := I2.fr
  refine PySem.W.sub_K hF I2.ok.mod.kin J hC hfi hf ?_ (hsl _ _)
  have hl : ([Value.ref c, u] : List Value).length = ps.length := F.len _ _ _ _ q
  have bd := hbd s2 [.ref c, u] I2.kIn (by rw [List.append_nil]; exact hl)
  rw [List.append_nil] at bd
  refine wpAny_call (codeAny_mono (F.run X.A.in1 X.stack s2 H2 ⟨[.ref c, u], []⟩ [.ref c, u] [.ref c, y] Q (E σ) hr.in1 I2.env0.in1 bd (.cons rfl (.cons ry .nil)) q) fun r s' hq => ?_)
  cases r with
  | error er => exact hx σ pins H2 s2 er s' I2 hq
  | ok fl' =>
    cases fl' with
    | ret w => exact I2.after hq
    | next => exact False.elim hq
    | brk => exact False.elim hq
    | cont => exact False.elim hq
end
section
variable {X : Cx} {o i lo hi value : Expr} {pos pos' p2 : Pos} {td ty tv tl th : TE}
/-- o[i] = value -/
def tSetIx (tv td ty : TE) : TS := fun D σ H => tv σ H fun v H1 => td σ H1 fun x H2 => ty σ H2 fun y H3 => rSetL x y v H3 fun H4 => D.nx σ H4
theorem ps_setIx (ho : PE X o td) (hi : PE X i ty) (hv : PE X value tv) (hs : swapsWith value (some (.Subscript o i pos')) pos.line X.env = pure false := by rfl) :
    PS X (.Assign [.Subscript o i pos'] value pos) (tSetIx tv td ty) := by
  refine ⟨fun pins s σ H D I h => ?_⟩
  refine wpAny_Assign_Subscript (thn (hv.run pins s σ H _ I h) fun r s1 ⟨v, H1, I1, rv, q1⟩ => thn (ho.run pins s1 σ H1 _ I1 q1) fun u s2 ⟨x, H2, I2, rx, q2⟩ => thn (hi.run pins s2 σ H2 _ I2 q2) fun iv s3 ⟨y, H3, I3, ry, q3⟩ => ?_) hs
  exact wpAny_mono (set_list pins s3 σ H3 x y v u iv r _ I3 rx ry rv q3) (fun _ s' ⟨H', I', q⟩ => ⟨σ, H', I', q⟩) fun _ _ z => z
/-- o[lo:hi] = value -/
def tSetSl (tv td tl th : TE) : TS := fun D σ H => tv σ H fun v H1 => td σ H1 fun x H2 => tPart tl σ H2 fun o1 H3 => ∃ a, o1 = some a ∧ tPart th σ H3 fun o2 H4 => ∃ c, o2 = some c ∧ ∃ l b xs ys, x = .ref l ∧ v = .ref b ∧ H4 l = some (.lst xs) ∧ H4 b = some (.lst ys) ∧ l ≠ b ∧ 0 ≤ a ∧ a ≤ c ∧ c ≤ xs.length ∧ xs.length + ys.length ≤ sizeLine ∧
  D.nx σ (upd H4 l (.lst (xs.take a.toNat ++ ys ++ xs.drop c.toNat)))
theorem ps_setSl (ho : PE X o td) (hl : PE X lo tl) (hh : PE X hi th) (hv : PE X value tv) (hs : swapsWith value (some (.Subscript o (.Slice (some lo) (some hi) none p2) pos')) pos.line X.env = pure false := by rfl) :
    PS X (.Assign [.Subscript o (.Slice (some lo) (some hi) none p2) pos'] value pos) (tSetSl tv td tl th) := by
  refine ⟨fun pins s σ H D I h => ?_⟩
  refine wpAny_Assign_Subscript (thn (hv.run pins s σ H _ I h) fun r s1 ⟨v, H1, I1, rv, q1⟩ => thn (ho.run pins s1 σ H1 _ I1 q1) fun u s2 ⟨x, H2, I2, rx, q2⟩ => ?_) hs
  refine wpAny_Slice (thn ((po_some hl).run pins s2 σ H2 _ I2 q2) fun vl s3 ⟨ol, H3, I3, pl, a, e1, q3⟩ => thn ((po_some hh).run pins s3 σ H3 _ I3 q3) fun vu s4 ⟨oh, H4, I4, pu, c, e2, l, b, xs, ys, ex, ev, hx, hy, hne, h0, h1, h2, h3, q4⟩ => ?_)
  subst e1 e2 ex ev
  rw [evalPart_none]
  refine wpAny_pure ?_
  have I5 : Inv X pins σ H4 { s4 with heap := s4.heap.push { cls := .type "slice", data := .fields #[vl, vu, .none] } } := I4.kept (t' := s4.toks) fun b ob q => Heap.get?_push_of_some _ q
  obtain rfl : u = Value.ref l := rx
  obtain rfl : r = Value.ref b := rv
  have ra : RelV (.int a) vl := by
    cases pl
    exact ⟨_, rfl⟩
  have rc : RelV (.int c) vu := by
    cases pu
    exact ⟨_, rfl⟩
  exact set_slice I5 hx hy hne (Heap.IsSliceOf.new ..) ra rc h0 h1 h2 h3 fun s' I' => ⟨σ, _, I', q4⟩
end
end L2
namespace ZZ
open PySem PySem.Spec L2
/-- v[u], v an instance of the class c with its own __getitem__ -/
def kOwnIx (c : Nat) (fh : DF) (v u : Val) : DE := fun _ ce => if isC c ce v && plainV u then fh [v, u] ce else .stuck
def sSetIx (fo fi fv : DE) : DSt := sExp fv fun v => sExp fo fun u => sExp fi fun i sl ce => match u, v, i with
  | .cell n, .im d, .im (.int k) => match ce[n]? with
    | some (.lst ds) => match ixN ds.length k with
      | some j => .nx sl (ce.set n (.lst (ds.set j d)))
      | none => .stuck
    | _ => .stuck
  | _, _, _ => .stuck
def kIntS1 (k : Int → DSt) (v : Val) : DSt := match v with
  | .im (.int a) => k a
  | _ => sStuck
def sSetSl (fo fl fh fv : DE) : DSt := sExp fv fun v => sExp fo fun u => sExp fl (kIntS1 fun a => sExp fh (kIntS1 fun c sl ce => match u, v with
  | .cell n, .im (.lst es) => match ce[n]? with
    | some (.lst ds) => if 0 ≤ a ∧ a ≤ c ∧ c ≤ ds.length ∧ ds.length + es.length ≤ LINE then .nx sl (ce.set n (.lst (ds.take a.toNat ++ es ++ ds.drop c.toNat))) else .stuck
    | _ => .stuck
  | _, _ => .stuck))
theorem kint_ok {Z : Zy} {W : WX} {A : List Addr} {F : Hp} {D : Ends} {k : Int → DSt} {v : Val} {x : V} {sl : Sl} {ce : List Cell} (r : VRep Z A F v x) (p : PostS Z A F W D (kIntS1 k v sl ce)) : ∃ a, x = .int a ∧ PostS Z A F W D (k a sl ce) := by
  unfold kIntS1 at p
  split at p
  · exact ⟨_, rep_int r, p⟩
  · exact p.elim
structure GetOk (K : PySem.W.Frag) (C f : Addr) : Prop where
  hs : PySem.W.findIn K (.ref C) "__getitem__" = some (some (.ref f))
  fn : PySem.W.isFn K (.ref f) = true
  fi : PySem.W.fnIn K f = true
section
variable {X : Cx} {Z : Zy} {W : WX} {k : Nat} {fa : Addr} {ps : List Str} {fh : DF} {p pos pos' p2 : Pos} {a b e o i lo hi value : Expr} {f g fo fi fv fl fhi : DE} {c : Nat}
theorem t_ownIx {σ : L2.St} {H : Hp} {Q : VK} (T : GetOk X.K (Z.cl c) fa) (h : tE Z W (eBin (kOwnIx c fh) f g) σ H Q) : tOwnIx X.K fa (spD Z.toZx fh 2) (WE W) (tE Z W f) (tE Z W g) σ H Q :=
  tE_imp (fun x H1 h1 => tE_imp (fun y H2 ⟨A, F, sl, ce, v, u, so, hs, rv, ru, p⟩ => by
    unfold kOwnIx at p
    by_cases hc : (isC c ce v && plainV u) = true
    · rw [if_pos hc] at p
      rw [Bool.and_eq_true] at hc
      obtain ⟨a, dx, fs, n, rfl, h1, h2⟩ := isC_rd so rv hc.1
      exact ⟨a, _, dx, fs, rfl, h1, T.hs, spD_call (sl := sl) (vs := [v, u]) so ⟨_, _, rfl, rv, _, _, rfl, ru, rfl⟩ rfl (by simp [isC_plain hc.1, hc.2]) p⟩
    · rw [if_neg hc] at p
      exact p.elim) h1) (tE2 h)
theorem de_ownIx (T : GetOk X.K (Z.cl c) fa) (G : DOk X.prog X.w X.K X.mg X.base k fa ps (spD Z.toZx fh 2)) (hr : Room (k + 1) X.A) (tw : TW X W) (ha : PE X a (tE Z W f)) (hb : PE X b (tE Z W g))
    (hsl : ∀ v u, subscripted b true v u = runValue (.builtin "lifetime.subscript" ⟨[v, u], []⟩) := by with_unfolding_all (intros; rfl)) : PE X (.Subscript a b pos) (tE Z W (eBin (kOwnIx c fh) f g)) := by
  obtain ⟨fd, F, bd⟩ := G.ex
  exact (pe_ownIx T.fn T.fi ha hb F hr bd tw hsl).weak fun σ H Q h => t_ownIx T h
theorem ds_setIx (ho : PE X o (tE Z W fo)) (hi : PE X i (tE Z W fi)) (hv : PE X value (tE Z W fv)) (hs : swapsWith value (some (.Subscript o i pos')) pos.line X.env = pure false := by rfl) : PS X (.Assign [.Subscript o i pos'] value pos) (tS Z W (sSetIx fo fi fv)) :=
  (ps_setIx ho hi hv hs).weak fun D σ H h => tE_imp (fun v H1 ⟨A, F, sl, ce, vv, so, hs, rv, p⟩ => by
    refine ⟨A, F, sl, ce, so, hs, (PostS.exp so hs p).imp fun x H2 ⟨A1, F1, ce1, vx, p1, e1, so1, rx, q1⟩ => ?_⟩
    have rv1 := rv.mono p1 e1
    have hs1 := hs.mono p1 e1
    refine ⟨A1, F1, sl, ce1, so1, hs1, (PostS.exp so1 hs1 q1).imp fun y H3 ⟨A2, F2, ce2, vy, p2, e2, so2, ry, q2⟩ => ?_⟩
    have rv2 := rv1.mono p2 e2
    have rx2 := rx.mono p2 e2
    have hs2 := hs1.mono p2 e2
    split at q2
    · rename_i n d kk _ _
      split at q2
      · rename_i ds hk
        split at q2
        · rename_i j hj
          obtain ⟨l, ws, hA, rfl, hF, h2, h3⟩ := cell_rd so2 rx2 hk
          refine ⟨l, ws, kk, j, rfl, rep_int ry, h2, by rw [← h3.length]; exact hj, ?_⟩
          exact nxS (so2.write (c := .lst (ds.set j d)) hA hF ⟨hF, _, upd_same, h3.set j rv2⟩) hs2 q2
        · exact q2.elim
      · exact q2.elim
    · exact q2.elim) (tS1 h)
theorem ds_setSl (ho : PE X o (tE Z W fo)) (hl : PE X lo (tE Z W fl)) (hh : PE X hi (tE Z W fhi)) (hv : PE X value (tE Z W fv)) (hs : swapsWith value (some (.Subscript o (.Slice (some lo) (some hi) none p2) pos')) pos.line X.env = pure false := by rfl) :
    PS X (.Assign [.Subscript o (.Slice (some lo) (some hi) none p2) pos'] value pos) (tS Z W (sSetSl fo fl fhi fv)) :=
  (ps_setSl ho hl hh hv hs).weak fun D σ H h => tE_imp (fun v H1 ⟨A, F, sl, ce, vv, so, hs, rv, p⟩ => by
    refine ⟨A, F, sl, ce, so, hs, (PostS.exp so hs p).imp fun x H2 ⟨A1, F1, ce1, vx, p1, e1, so1, rx, q1⟩ => ?_⟩
    have rv1 := rv.mono p1 e1
    have hs1 := hs.mono p1 e1
    refine ⟨A1, F1, sl, ce1, so1, hs1, (PostS.exp so1 hs1 q1).imp fun y H3 ⟨A2, F2, ce2, vy, p2, e2, so2, ry, q2⟩ => ?_⟩
    have rv2 := rv1.mono p2 e2
    have rx2 := rx.mono p2 e2
    have hs2 := hs1.mono p2 e2
    obtain ⟨a, rfl, q3⟩ := kint_ok ry q2
    refine ⟨a, rfl, a, rfl, A2, F2, sl, ce2, so2, hs2, (PostS.exp so2 hs2 q3).imp fun z H4 ⟨A3, F3, ce3, vz, p3, e3, so3, rz, q4⟩ => ?_⟩
    have rv3 := rv2.mono p3 e3
    have rx3 := rx2.mono p3 e3
    have hs3 := hs2.mono p3 e3
    obtain ⟨c, rfl, q5⟩ := kint_ok rz q4
    refine ⟨c, rfl, c, rfl, ?_⟩
    split at q5
    · split at q5
      · rename_i ds hk
        split at q5
        · rename_i hb
          obtain ⟨l, ws, hA, rfl, hF, h2, h3⟩ := cell_rd so3 rx3 hk
          unfold VRep Rep at rv3
          obtain ⟨b, ys, rfl, hb1, hb2⟩ := rv3
          have hne : l ≠ b := fun z => by
            rw [z, hb1] at hF
            cases hF
          refine ⟨l, b, ws, ys, rfl, rfl, h2, so3.sub _ _ hb1, hne, hb.1, hb.2.1, by rw [← h3.length]; exact hb.2.2.1, by rw [sizeLine_eq, ← h3.length, ← hb2.length]; exact hb.2.2.2, ?_⟩
          have rr := ((h3.take a.toNat).append (hb2.mono (Same.refl _))).append (h3.drop c.toNat)
          exact nxS (so3.write (c := .lst _) hA hF ⟨hF, _, upd_same, rr⟩) hs3 q5
        · exact q5.elim
      · exact q5.elim
    · exact q5.elim) (tS1 h)
end
end ZZ

set_option Elab.async false
set_option linter.all false
set_option maxRecDepth 100000
/-! Z20: methods called with keywords, texts and numbers that stand in a module or a class, a list times a number. -/
namespace L2
open PySem PySem.Spec PyProof.Rows
def tMethN (C : Addr) (m : Str) (n k : Nat) (sp : Sp) (gV : List V → List V → List V) (E : L2.St → XK) (ta : TE) (t tk : TA) : TE := fun σ H Q => ta σ H fun x H1 => ∃ a dx fs, x = .ref a ∧ H1 a = some (.ins C dx fs) ∧ fs.lookup m = none ∧
  t σ H1 fun vs H2 => tk σ H2 fun zs H3 => vs.length = n ∧ zs.length = k ∧ sp (gV (.ref a :: vs) zs) H3 Q (E σ)
section
variable {X : Cx} {CX : CXT} {k n : Nat} {f C : Addr} {fd : FuncData} {ps ks : List Str} {sp : Sp} {E : L2.St → XK} {x m : Str} {p pos apos : Pos} {e o : Expr} {es : List Expr} {kws : List Keyword} {ta : TE} {t tk : TA} {g : List Value → List Value → List Value} {gV : List V → List V → List V}
theorem run_fnNS {pins : List (Addr × Obj)} {σ : L2.St} {H : Hp} {s : Shared} {Q : VK} {us ws : List Value} {vs zs : List V} (F : FnOk X.prog X.w X.K X.mg X.base CX k f fd ps sp) (hr : Room k X.A) (hb : KBn X.K fd ps n ks g gV) (hx : PassesAt CX X σ (E σ))
    (I : Inv X pins σ H s) (r : Vals vs us) (rz : Vals zs ws) (l1 : vs.length = n) (l2 : zs.length = ks.length) (h : sp (gV vs zs) H Q (E σ)) : wpAny (model X.prog X.w) X.A (call (.ref f) us (ks.zip ws)) (EP X pins σ Q) X.xe s := by
  have r2 := hb.rel r rz
  refine wpAny_call (codeAny_mono (F.run X.A X.stack s H ⟨us, ks.zip ws⟩ (g us ws) (gV vs zs) Q (E σ) hr I.env0 (hb.to s us ws I.kIn (r.length.symm.trans l1) (rz.length.symm.trans l2)) r2 h) fun r s' hq => ?_)
  cases r with
  | error e => exact hx pins H s e s' I hq
  | ok fl =>
    cases fl with
    | ret u => exact I.after hq
    | next => exact False.elim hq
    | brk => exact False.elim hq
    | cont => exact False.elim hq
theorem pe_methN {pl : Sem Bool} (he : PE X o ta) (c : Cls X.K C) (hm : Meth X.K C m f) (F : FnOk X.prog X.w X.K X.mg X.base CX k f fd ps sp) (hr : Room k X.A) (hb : KBn X.K fd ps (n + 1) ks g gV) (hx : ∀ σ, PassesAt CX X σ (E σ)) (ha : PA X (e :: es) t) (hkw : PK X kws tk)
    (hall : (backToKw pos (keywordEach kws X.env)).all (·.1.isSome) = true := by rfl) (hks : (backToKw pos (keywordEach kws X.env)).filterMap (·.1) = ks := by rfl)
    (hst : starEach (e :: es) X.env = (false, eval e X.env) :: starEach es X.env := by rfl) (hpl : ((backTo pos (starEach (e :: es) X.env)).any (·.1) || (backToKw pos (keywordEach kws X.env)).any (·.1.isNone)) = false := by rfl)
    (ht : eval (.Call (.Attribute o m apos) (e :: es) kws pos) X.env = (do
      let ov ← eval o X.env
      standAt apos.atName
      let (f, first) ← holding [ov] (getMethod ov m pl)
      callWith pos f first (backTo pos (starEach (e :: es) X.env)) (backToKw pos (keywordEach kws X.env))) := by rfl) :
    PE X (.Call (.Attribute o m apos) (e :: es) kws pos) (tMethN C m n ks.length sp gV E ta t tk) := by
  refine ⟨fun pins s σ H Q I h => ?_⟩
  refine PySem.W.methodCall_KW (pl := pl) (thn (he.run pins s σ H _ I h) fun u s1 ⟨x, H1, I1, rx, a, dx, fs, ex, ea, l, q⟩ => ?_) ht
  subst ex
  obtain rfl : u = Value.ref a := rx
  refine getmeth_ok I1 ea c hm l ?_
  refine PySem.W.callWith_KW (first := [.ref a]) (h₀ := X.base) I1.ok.mod.kin hm.kp hall (thn (ha.run pos pins s1 σ H1 _ I1 q) fun us s2 ⟨vs, H2, I2, r, q2⟩ => ?_) hpl hst
  refine thn (hkw.run pos pins s2 σ H2 _ I2 q2) fun ws s3 ⟨zs, H3, I3, rz, l1, l2, q3⟩ => ⟨I3.kIn, ?_⟩
  rw [hks]
  exact run_fnNS (us := .ref a :: us) (vs := .ref a :: vs) F hr hb (hx σ) I3 (.cons rfl r) rz (by rw [List.length_cons, l1]) l2 q3
theorem pe_methN0 {pl : Sem Bool} (he : PE X o ta) (c : Cls X.K C) (hm : Meth X.K C m f) (F : FnOk X.prog X.w X.K X.mg X.base CX k f fd ps sp) (hr : Room k X.A) (hb : KBn X.K fd ps 1 ks g gV) (hx : ∀ σ, PassesAt CX X σ (E σ)) (hkw : PK X kws tk)
    (hall : (backToKw pos (keywordEach kws X.env)).all (·.1.isSome) = true := by rfl) (hks : (backToKw pos (keywordEach kws X.env)).filterMap (·.1) = ks := by rfl)
    (hpl : ((backTo pos (starEach [] X.env)).any (·.1) || (backToKw pos (keywordEach kws X.env)).any (·.1.isNone)) = false := by rfl)
    (ht : eval (.Call (.Attribute o m apos) [] kws pos) X.env = (do
      let ov ← eval o X.env
      standAt apos.atName
      let (f, first) ← holding [ov] (getMethod ov m pl)
      callWith pos f first (backTo pos (starEach [] X.env)) (backToKw pos (keywordEach kws X.env))) := by rfl) :
    PE X (.Call (.Attribute o m apos) [] kws pos) (tMethN C m 0 ks.length sp gV E ta tNil tk) := by
  refine ⟨fun pins s σ H Q I h => ?_⟩
  refine PySem.W.methodCall_KW (pl := pl) (thn (he.run pins s σ H _ I h) fun u s1 ⟨x, H1, I1, rx, a, dx, fs, ex, ea, l, q⟩ => ?_) ht
  subst ex
  obtain rfl : u = Value.ref a := rx
  refine getmeth_ok I1 ea c hm l ?_
  refine PySem.W.callWith_KW0 (first := [.ref a]) (h₀ := X.base) I1.ok.mod.kin hm.kp hall ?_ hpl
  refine thn (hkw.run pos pins s1 σ H1 _ I1 q) fun ws s3 ⟨zs, H3, I3, rz, l1, l2, q3⟩ => ⟨I3.kIn, ?_⟩
  rw [hks]
  exact run_fnNS (us := [.ref a]) (vs := [.ref a]) F hr hb (hx σ) I3 (.cons rfl .nil) rz rfl l2 q3
end
end L2
namespace ZZ
open PySem PySem.Spec L2
/-- o.m(.., k = v, ..): G puts the values in the parameters' order -/
def eMthK (c : Nat) (fh : DF) (G : List Val → List Val → List Val) (f : DE) (fs gs : List DE) : DE := eBind f fun v sl ce => if isC c ce v then eArgs fs (fun vs => eArgs gs fun zs _ ce => if (v :: vs).all plainV && zs.all plainV then fh (G (v :: vs) zs) ce else .stuck) sl ce else .stuck
/-- G does to values what gV does to their images -/
structure GRel (n m : Nat) (G : List Val → List Val → List Val) (gV : List V → List V → List V) (l : Nat) : Prop where
  rel : ∀ {Z : Zy} {A : List Addr} {F : Hp} {vs zs : List Val} {xs ys : List V}, VReps Z A F vs xs → VReps Z A F zs ys → vs.length = n → zs.length = m → VReps Z A F (G vs zs) (gV xs ys)
  pl : ∀ {vs zs : List Val}, vs.all plainV = true → zs.all plainV = true → vs.length = n → zs.length = m → (G vs zs).all plainV = true
  len : ∀ {vs zs : List Val}, vs.length = n → zs.length = m → (G vs zs).length = l
structure MKw (P : Program) (w : World) (K : PySem.W.Frag) (mg : Str → Option Value) (base : Heap) (Z : Zx) (k : Nat) (f : Addr) (n : Nat) (ks : List Str) (G : List Val → List Val → List Val) (fh : DF) (l : Nat) : Prop where
  ex : ∃ fd ps g gV, FnOk P w K mg base (L2N.CX P w) k f fd ps (spD Z fh l) ∧ KBn K fd ps n ks g gV ∧ GRel n ks.length G gV l
section
variable {X : Cx} {Z : Zy} {W : WX} {k n l : Nat} {fa : Addr} {ps ks : List Str} {fh : DF} {m : Str} {p pos apos : Pos} {e o : Expr} {es : List Expr} {kws : List Keyword} {f : DE} {fs gs : List DE} {c : Nat} {G : List Val → List Val → List Val} {gV : List V → List V → List V} {tk : TA}
theorem vreps_append {Z : Zy} {A : List Addr} {F : Hp} : ∀ {vs zs : List Val} {xs ys : List V}, VReps Z A F vs xs → VReps Z A F zs ys → VReps Z A F (vs ++ zs) (xs ++ ys)
  | [], zs, xs, ys, h, h2 => by
    unfold VReps at h
    subst h
    exact h2
  | v :: vs, zs, xs, ys, h, h2 => by
    obtain ⟨x, t, rfl, rx, rt⟩ := h
    exact ⟨x, t ++ ys, rfl, rx, vreps_append rt h2⟩
theorem de_methK {pl : Sem Bool} (he : PE X o (tE Z W f)) (hc : ClsOk X.K Z.toZx c) (hmt : Meth X.K (Z.cl c) m fa) (hno : m ∉ Z.fl c) (M : MKw X.prog X.w X.K X.mg X.base Z.toZx k fa (n + 1) ks G fh l) (hr : Room k X.A) (tw : TW X W) (ha : PA X (e :: es) (tArgs Z W fs)) (hkw : PK X kws (tArgs Z W gs))
    (hl : fs.length = n := by rfl) (hgl : gs.length = ks.length := by rfl) (hall : (backToKw pos (keywordEach kws X.env)).all (·.1.isSome) = true := by rfl) (hks : (backToKw pos (keywordEach kws X.env)).filterMap (·.1) = ks := by rfl)
    (hst : starEach (e :: es) X.env = (false, eval e X.env) :: starEach es X.env := by rfl) (hpl : ((backTo pos (starEach (e :: es) X.env)).any (·.1) || (backToKw pos (keywordEach kws X.env)).any (·.1.isNone)) = false := by rfl)
    (ht : eval (.Call (.Attribute o m apos) (e :: es) kws pos) X.env = (do
      let ov ← eval o X.env
      standAt apos.atName
      let (f, first) ← holding [ov] (getMethod ov m pl)
      callWith pos f first (backTo pos (starEach (e :: es) X.env)) (backToKw pos (keywordEach kws X.env))) := by rfl) : PE X (.Call (.Attribute o m apos) (e :: es) kws pos) (tE Z W (eMthK c fh G f fs gs)) := by
  obtain ⟨fd, ps, g, gV, F0, hb, R⟩ := M.ex
  exact (pe_methN he hc.cls hmt F0 hr hb tw ha hkw hall hks hst hpl ht).weak fun σ H Q q => tE_imp (fun x H1 ⟨A, F, sl, ce, v, so, hs, r, p⟩ => by
    by_cases hi : isC c ce v = true
    · rw [if_pos hi] at p
      obtain ⟨a, dx, fs', n', rfl, h1, h2⟩ := isC_rd so r hi
      refine ⟨a, dx, fs', rfl, h1, take_lookup h2 hno, tArgs_imp (fun xs H2 ⟨A2, F2, ce2, vs, p2, e2, s2, r2, l2, q2⟩ => ?_) (tArgs_ok so hs p)⟩
      refine tArgs_imp (fun ys H3 ⟨A3, F3, ce3, zs, p3, e3, s3, r3, l3, q3⟩ => ?_) (tArgs_ok s2 (hs.mono p2 e2) q2)
      have r4 : VReps Z A3 F3 (v :: vs) (.ref a :: xs) := ⟨_, _, rfl, (r.mono p2 e2).mono p3 e3, r2.mono p3 e3⟩
      have hn : (v :: vs).length = n + 1 := by rw [List.length_cons, l2, hl]
      refine ⟨by rw [← r2.length, l2, hl], by rw [← r3.length, l3, hgl], ?_⟩
      by_cases hp : ((v :: vs).all plainV && zs.all plainV) = true
      · rw [if_pos hp] at q3
        rw [Bool.and_eq_true] at hp
        exact spD_call (sl := sl) (vs := G (v :: vs) zs) s3 (R.rel r4 r3 hn (by rw [l3, hgl])) (R.len hn (by rw [l3, hgl])) (R.pl hp.1 hp.2 hn (by rw [l3, hgl])) q3
      · rw [if_neg hp] at q3
        exact q3.elim
    · rw [if_neg hi] at p
      exact p.elim) (tE1 q)
theorem de_methK0 {pl : Sem Bool} (he : PE X o (tE Z W f)) (hc : ClsOk X.K Z.toZx c) (hmt : Meth X.K (Z.cl c) m fa) (hno : m ∉ Z.fl c) (M : MKw X.prog X.w X.K X.mg X.base Z.toZx k fa 1 ks G fh l) (hr : Room k X.A) (tw : TW X W) (hkw : PK X kws (tArgs Z W gs))
    (hgl : gs.length = ks.length := by rfl) (hall : (backToKw pos (keywordEach kws X.env)).all (·.1.isSome) = true := by rfl) (hks : (backToKw pos (keywordEach kws X.env)).filterMap (·.1) = ks := by rfl)
    (hpl : ((backTo pos (starEach [] X.env)).any (·.1) || (backToKw pos (keywordEach kws X.env)).any (·.1.isNone)) = false := by rfl)
    (ht : eval (.Call (.Attribute o m apos) [] kws pos) X.env = (do
      let ov ← eval o X.env
      standAt apos.atName
      let (f, first) ← holding [ov] (getMethod ov m pl)
      callWith pos f first (backTo pos (starEach [] X.env)) (backToKw pos (keywordEach kws X.env))) := by rfl) : PE X (.Call (.Attribute o m apos) [] kws pos) (tE Z W (eMthK c fh G f [] gs)) := by
  obtain ⟨fd, ps, g, gV, F0, hb, R⟩ := M.ex
  exact (pe_methN0 he hc.cls hmt F0 hr hb tw hkw hall hks hpl ht).weak fun σ H Q q => tE_imp (fun x H1 ⟨A, F, sl, ce, v, so, hs, r, p⟩ => by
    by_cases hi : isC c ce v = true
    · rw [if_pos hi] at p
      obtain ⟨a, dx, fs', n', rfl, h1, h2⟩ := isC_rd so r hi
      refine ⟨a, dx, fs', rfl, h1, take_lookup h2 hno, ?_⟩
      refine tArgs_imp (fun ys H3 ⟨A3, F3, ce3, zs, p3, e3, s3, r3, l3, q3⟩ => ?_) (tArgs_ok so hs p)
      have r4 : VReps Z A3 F3 [v] [.ref a] := ⟨_, _, rfl, r.mono p3 e3, rfl⟩
      refine ⟨rfl, by rw [← r3.length, l3, hgl], ?_⟩
      by_cases hp : ([v].all plainV && zs.all plainV) = true
      · rw [if_pos hp] at q3
        rw [Bool.and_eq_true] at hp
        exact spD_call (sl := sl) (vs := G [v] zs) s3 (R.rel r4 r3 rfl (by rw [l3, hgl])) (R.len rfl (by rw [l3, hgl])) (R.pl hp.1 hp.2 rfl (by rw [l3, hgl])) q3
      · rw [if_neg hp] at q3
        exact q3.elim
    · rw [if_neg hi] at p
      exact p.elim) (tE1 q)
end
/-! ### shapes of calls with keywords -/
abbrev gApp (vs zs : List Val) : List Val := vs ++ zs
abbrev gRev (vs zs : List Val) : List Val := vs ++ zs.reverse
theorem vreps_rev {Z : Zy} {A : List Addr} {F : Hp} : ∀ {vs : List Val} {xs : List V}, VReps Z A F vs xs → VReps Z A F vs.reverse xs.reverse
  | [], xs, h => by
    unfold VReps at h
    subst h
    rfl
  | v :: vs, xs, h => by
    obtain ⟨x, t, rfl, rx, rt⟩ := h
    rw [List.reverse_cons, List.reverse_cons]
    exact vreps_append (vreps_rev rt) ⟨x, [], rfl, rx, rfl⟩
theorem grel_app {n m : Nat} : GRel n m gApp (fun vs zs => vs ++ zs) (n + m) := ⟨fun r1 r2 _ _ => vreps_append r1 r2, fun h1 h2 _ _ => by rw [gApp, List.all_append, h1, h2]; rfl, fun h1 h2 => by rw [gApp, List.length_append, h1, h2]⟩
theorem grel_rev {n m : Nat} : GRel n m gRev (fun vs zs => vs ++ zs.reverse) (n + m) := ⟨fun r1 r2 _ _ => vreps_append r1 (vreps_rev r2), fun h1 h2 _ _ => by rw [gRev, List.all_append, List.all_reverse, h1, h2]; rfl, fun h1 h2 => by rw [gRev, List.length_append, List.length_reverse, h1, h2]⟩
/-- all parameters are written: one by position, two by keywords in their order -/
theorem kbA {K : PySem.W.Frag} {name qual : Str} {st : Stmt} {f : Addr} {fd : FuncData} {k1 k2 : Str} (F : Fun K name qual st f fd)
    (h : ∀ (kV doc pm : Value) (an : Option Addr) (cdv ct a b c : Value), bindArgs (PySem.W.fnOf name qual (defArgs st) (defBody st) (defScope st) .none kV doc pm an cdv ct) ⟨[a], [(k1, b), (k2, c)]⟩ = pure [(("self" : Str), a), (k1, b), (k2, c)]) :
    KBn K fd ["self", k1, k2] 1 [k1, k2] (fun us ws => us ++ ws) (fun vs zs => vs ++ zs) := by
  obtain ⟨oc, od, kV, doc, pm, an, cdv, ct, osl, rfl, lk, hcd⟩ := F.ex
  refine ⟨fun s us ws X l1 l2 => ?_, fun r1 r2 => r1.append r2⟩
  match us, l1, ws, l2 with
  | [a], _, [b, c], _ => exact .of_eq (h kV doc pm an cdv ct a b c)
/-! ### values that stand in a module, a class -/
section
variable {X : Cx} {Z : Zy} {W : WX} {p pn pos : Pos} {a b : Expr} {f g : DE} {nm x : Str}
theorem de_gstr {s : Str} (hm : ∃ t, X.mg x = some (.str s t)) (hg : Gl X x := by rfl) (hdb : (x == ("__debug__" : Str)) = false := by decide) : PE X (.Name x p) (tE Z W (eC (.str s))) := by
  obtain ⟨t, hm⟩ := hm
  exact (pe_glob (v := .str s) hg hm ⟨t, rfl⟩ hdb).weak fun σ H Q ⟨A, F, sl, ce, so, hs, p⟩ => fin_flat so p repS
theorem de_clsConI {C : Addr} {s : Int} (hm : X.mg x = some (.ref C)) (r : ClX.CRead X.K C (.type "type")) (c : ∃ t, ClX.CVal X.K C (.type "type") nm (.int s) (.int s t)) (hg : Gl X x := by rfl) (hdb : (x == ("__debug__" : Str)) = false := by decide)
    (hb : attributeBase (.Name x pn) nm X.env (eval (.Name x pn) X.env) = eval (.Name x pn) X.env := by rfl) : PE X (.Attribute (.Name x pn) nm pos) (tE Z W (eC (.int s))) :=
  (ClX.pe_cval (pe_glob (v := .ref C) hg hm rfl hdb) hb).weak fun σ H Q ⟨A, F, sl, ce, so, hs, p⟩ => by
    obtain ⟨t, c⟩ := c
    exact ⟨C, _, _, _, rfl, r, c, fin_flat so p repI⟩
/-- a list times a small number -/
def kRepL (v u : Val) : DE := fun _ ce => match v, u with
  | .im (.lst ds), .im (.int n) => if ds.length ≤ 1000 ∧ -1000 ≤ n ∧ n ≤ 1000 then .ok (.im (.lst (List.replicate n.toNat ds).flatten)) ce else .stuck
  | _, _ => .stuck
theorem reps_flat {Z : Zx} {F : Hp} {ds : List D} {vs : List V} (h : Reps Z F ds vs) : ∀ n : Nat, Reps Z F (List.replicate n ds).flatten (List.replicate n vs).flatten
  | 0 => reps_nil
  | n + 1 => by
    rw [List.replicate_succ, List.replicate_succ, List.flatten_cons, List.flatten_cons]
    exact h.append (reps_flat h n)
theorem de_repL (ha : PE X a (tE Z W f)) (hb : PE X b (tE Z W g)) : PE X (.BinOp a .Mult b pos) (tE Z W (eBin kRepL f g)) := de_op op_rep (fun A F sl ce v u x y H σ Q so hs rv ru p => by
  unfold kRepL at p
  split at p
  · rename_i ds n
    split at p
    · rename_i hc
      unfold VRep Rep at rv
      obtain ⟨l, vs, rfl, h1, h2⟩ := rv
      rw [rep_int ru]
      have hl : vs.length = ds.length := h2.length.symm
      have hm : ds.length * n.toNat ≤ 1000 * 1000 := Nat.mul_le_mul hc.1 (by omega)
      refine ⟨l, n, vs, rfl, rfl, so.sub _ _ h1, by omega, by omega, by rw [hl, sizeLine_eq]; show _ ≤ 16777216; omega, fun q hq => fin_newL so p (reps_flat h2 _) hq⟩
    · exact p.elim
  · exact p.elim) ha hb
end
end ZZ

/-! ### defs with defaults -/
namespace ZZ
open PySem PySem.Spec L2
section
variable {P : Program} {w : World} {K : PySem.W.Frag} {mg : Str → Option Value} {base : Heap} {Z : Zx} {x qual : Str} {st : Stmt} {f : Addr} {fd : FuncData} {N ps : List Str} {k nsl n : Nat} {body : DSt} {dvs : List V} {kws : List (Str × V)}
theorem fnDD (Fn : FunD K x qual (defArgs st) (defBody st) (defScope st) dvs kws f fd) (S : FnScope N ps (defScope st)) (hN : N.length = nsl) (hn : ps.length = n)
    (hbody : ∀ (cdv : Value) (A : Around) (outer : List Env) (s : Shared) (H : Hp) (E : XK), Room k (A.deeper (PyProof.Rows.envOfC qual (defScope st) s.heap.objs.size f cdv)) →
      PSs (cxOf (L2N.CX P w) P w K mg base N qual (defScope st) f cdv A outer s H E) (defBody st) (tS Z.z (fun cls d _ H => E cls d H) body)) : FnOk P w K mg base (L2N.CX P w) (k + 1) f fd ps (spD Z (mkD nsl body) n) := by
  subst hN hn
  obtain ⟨oc, od, dV, kV, doc, pm, an, cdv, ct, osl, rfl, lk, hcd, _, _⟩ := Fn.ex
  refine fn_of lk hcd S (fun vs H Q E ⟨A, F, ce, ds, so, r, l, p⟩ => by rw [← r.length]; exact l) fun A outer s H vs Q E hr ⟨A0, F0, ce, ds, so, r, l, p⟩ => ⟨_, hbody cdv A outer s H E hr, A0, F0, _, ce, so, vreps_start r, ?_⟩
  unfold mkD at p
  have hn := so.len
  cases e : body (ds.map some ++ List.replicate (N.length - ds.length) none) ce with
  | nx sl ce' => rw [e] at p; exact fun A' F' H' σ' pA eF so' hs' => fin_ok hn pA eF so' (show VRep Z.z A' F' (.im .non) .non by unfold VRep Rep; rfl) p
  | rt v ce' => rw [e] at p; exact fun A' F' H' x pA eF so' r' => fin_ok hn pA eF so' r' p
  | exc c es sl ce' => rw [e] at p; exact fun A' F' H' σ' dx pA eF so' hs' xo => p A0 F' H' dx (List.prefix_refl _) eF (so'.cut pA hn) xo
  | bk sl ce' => rw [e] at p; exact p.elim
  | ct sl ce' => rw [e] at p; exact p.elim
  | stuck => rw [e] at p; exact p.elim
theorem funD_mk {oc dV kV doc pm ct cdv : Value} {od an : Option Addr} {osl : Array (Option Value)} (lk : K.lookup f = some ⟨oc, od, .func (PySem.W.fnOf x qual (defArgs st) (defBody st) (defScope st) dV kV doc pm an cdv ct), osl⟩) (hcd : PySem.W.codeIn K cdv qual = true) (kp : PySem.W.keepIn K (.ref f) = true)
    (hD : DflV K dV dvs) (hK : KwdV K kV kws) : FunD K x qual (defArgs st) (defBody st) (defScope st) dvs kws f (PySem.W.fnOf x qual (defArgs st) (defBody st) (defScope st) dV kV doc pm an cdv ct) :=
  ⟨⟨oc, od, dV, kV, doc, pm, an, cdv, ct, osl, rfl, lk, hcd, hD, hK⟩, kp⟩
/-- one default, None; all is written -/
theorem FunD.all1 (F : FunD K x qual (defArgs st) (defBody st) (defScope st) [.non] kws f fd) (h : ∀ (T : Addr) (kV doc pm : Value) (an : Option Addr) (cdv ct : Value) (us its : List Value), us.length = ps.length → its.length = 1 →
      ∃ k, bindArgs (PySem.W.fnOf x qual (defArgs st) (defBody st) (defScope st) (.ref T) kV doc pm an cdv ct) ⟨us, []⟩ = seqItems? (.ref T) >>= k ∧ k (some its.toArray) = pure (ps.zip (us ++ its.drop 1))) : Binds K fd ps [] := by
  obtain ⟨ds, h1, h2⟩ := F.binds1 ps.length 1 (by simp) rfl h
  cases h1
  exact h2
end
end ZZ

set_option Elab.async false
set_option linter.all false
set_option maxRecDepth 100000
/-! Z21: a list of own lists. -/
namespace ZZ
open PySem PySem.Spec L2
def cellsOf : List Val → Option (List Nat)
  | [] => some []
  | .cell k :: vs => (cellsOf vs).map (k :: ·)
  | _ :: _ => none
/-- a display of own lists -/
def kLstP (vs : List Val) : DE := fun _ ce => match cellsOf vs with
  | some ks => if ks.length ≤ LINE then .ok (.cell ce.length) (ce ++ [.ptr ks]) else .stuck
  | none => .stuck
/-- a list times a small number: an own list -/
def kRepLC (v u : Val) : DE := fun _ ce => match v, u with
  | .im (.lst ds), .im (.int n) => if ds.length ≤ 1000 ∧ -1000 ≤ n ∧ n ≤ 1000 then .ok (.cell ce.length) (ce ++ [.lst (List.replicate n.toNat ds).flatten]) else .stuck
  | _, _ => .stuck
/-- an item of a list of own lists -/
def kIxP (v u : Val) : DE := fun _ ce => match v, u with
  | .cell k, .im (.int i) => match ce[k]? with
    | some (.ptr ks) => match atI ks i with
      | some j => .ok (.cell j) ce
      | none => .stuck
    | _ => .stuck
  | _, _ => .stuck
/-- a ghost step: the own lists ks are frozen -/
def frzAll : List Nat → List Cell → Option (List D × List Cell)
  | [], ce => some ([], ce)
  | k :: ks, ce => match ce[k]? with
    | some (.lst ds) => match frzAll ks (ce.set k .dead) with
      | some (es, ce') => some (.lst ds :: es, ce')
      | none => none
    | _ => none
def frzP (i : Nat) (f : DSt) : DSt := fun sl ce => match sl[i]? with
  | some (some (.cell k)) => match ce[k]? with
    | some (.ptr ks) => match frzAll ks ce with
      | some (ds, ce') => f (sl.set i (some (.im (.lst ds)))) (ce'.set k .dead)
      | none => .stuck
    | _ => .stuck
  | _ => .stuck
section
variable {Z : Zx} {A A' : List Addr} {F F' H : Hp} {ce : List Cell} {sl : Sl}
theorem cellsOf_rd {Y : Zy} (so : SO Y.toZx A F ce H) : ∀ {vs : List Val} {xs : List V} {ks : List Nat}, VReps Y A F vs xs → cellsOf vs = some ks → ∃ bs : List Addr, xs = bs.map V.ref ∧ PtrL A ce.length ks bs
  | [], xs, ks, r, h => by
    unfold VReps at r
    subst r
    unfold cellsOf at h
    cases h
    exact ⟨[], rfl, rfl⟩
  | v :: vs, xs, ks, r, h => by
    obtain ⟨x, t, rfl, r1, r2⟩ := r
    cases v with
    | cell k =>
      unfold cellsOf at h
      obtain ⟨ks', h1, rfl⟩ := Option.map_eq_some_iff.mp h
      obtain ⟨bs, rfl, hb⟩ := cellsOf_rd so r2 h1
      obtain ⟨a, ha, rfl⟩ := r1
      exact ⟨a :: bs, rfl, a, bs, rfl, by rw [← so.len]; exact (List.getElem?_eq_some_iff.mp ha).1, ha, hb⟩
    | im d => cases h
    | exn c ds => cases h
theorem ptrL_len {k : Nat} : ∀ {ks : List Nat} {bs : List Addr}, PtrL A k ks bs → ks.length = bs.length
  | [], bs, h => by
    unfold PtrL at h
    rw [h]
  | j :: js, bs, ⟨b, t, e, h1, h2, h3⟩ => by rw [e, List.length_cons, List.length_cons, ptrL_len h3]
theorem ptrL_get {k : Nat} : ∀ {ks : List Nat} {bs : List Addr} {i j : Nat}, PtrL A k ks bs → ks[i]? = some j → ∃ b, bs[i]? = some b ∧ A[j]? = some b
  | [], bs, i, j, h, q => by simp at q
  | j' :: js, bs, i, j, ⟨b, t, e, h1, h2, h3⟩, q => by
    cases i with
    | zero =>
      simp only [List.getElem?_cons_zero, Option.some.injEq] at q
      subst q
      exact ⟨b, by rw [e]; rfl, h2⟩
    | succ i =>
      rw [List.getElem?_cons_succ] at q
      obtain ⟨b', h4, h5⟩ := ptrL_get h3 q
      exact ⟨b', by rw [e, List.getElem?_cons_succ]; exact h4, h5⟩
theorem frzAll_ok {k0 : Nat} : ∀ {ks : List Nat} {bs : List Addr} {ce : List Cell} {F : Hp} {ds : List D} {ce' : List Cell}, SO Z A F ce H → PtrL A k0 ks bs → frzAll ks ce = some (ds, ce') →
    ∃ F', Same F F' ∧ SO Z A F' ce' H ∧ Reps Z F' ds (bs.map V.ref) ∧ ∀ a, F a = none → a ∉ bs → F' a = none
  | [], bs, ce, F, ds, ce', so, h, e => by
    unfold PtrL at h
    subst h
    unfold frzAll at e
    cases e
    exact ⟨F, Same.refl _, so, reps_nil, fun a ha _ => ha⟩
  | k :: ks, bs, ce, F, ds, ce', so, ⟨b, t, e, h1, h2, h3⟩, q => by
    unfold frzAll at q
    split at q
    · rename_i es hk
      split at q
      · rename_i es' ce2 hq
        cases q
        obtain ⟨hF, vs, hH, r⟩ := so.ok k b _ h2 hk
        have up := same_up (o := .lst vs) hF
        obtain ⟨F', s1, s2, s3, s4⟩ := frzAll_ok (so.freeze h2 hF hH) h3 hq
        subst e
        refine ⟨F', up.trans s1, s2, reps_cons ?_ s3, fun a ha hn => s4 a ?_ fun z => hn (List.mem_cons_of_mem _ z)⟩
        · unfold Rep
          exact ⟨b, vs, rfl, s1 _ _ upd_same, (r.mono up).mono s1⟩
        · rw [upd_ne fun z => hn (by rw [z]; exact List.mem_cons_self ..)]
          exact ha
      · cases q
    · cases q
theorem frzAll_other : ∀ {ks : List Nat} {ce : List Cell} {ds : List D} {ce' : List Cell} (k : Nat), frzAll ks ce = some (ds, ce') → k ∉ ks → ce'[k]? = ce[k]?
  | [], ce, ds, ce', k, e, h => by
    unfold frzAll at e
    cases e
    rfl
  | j :: ks, ce, ds, ce', k, e, h => by
    unfold frzAll at e
    split at e
    · split at e
      · rename_i es' ce2 hq
        cases e
        rw [frzAll_other k hq fun z => h (List.mem_cons_of_mem _ z), List.getElem?_set_ne fun z => h (by rw [z]; exact List.mem_cons_self ..)]
      · cases e
    · cases e
theorem ptrL_lt {k : Nat} : ∀ {ks : List Nat} {bs : List Addr}, PtrL A k ks bs → ∀ j ∈ ks, j < k
  | [], bs, h, j, hj => by cases hj
  | j' :: js, bs, ⟨b, t, e, h1, h2, h3⟩, j, hj => by
    rcases List.mem_cons.mp hj with rfl | hj
    · exact h1
    · exact ptrL_lt h3 j hj
theorem ptrL_addr {k : Nat} : ∀ {ks : List Nat} {bs : List Addr}, PtrL A k ks bs → ∀ b ∈ bs, ∃ j, j < k ∧ A[j]? = some b
  | [], bs, h, b, hb => by
    unfold PtrL at h
    subst h
    cases hb
  | j' :: js, bs, ⟨b', t, e, h1, h2, h3⟩, b, hb => by
    subst e
    rcases List.mem_cons.mp hb with rfl | hb
    · exact ⟨j', h1, h2⟩
    · exact ptrL_addr h3 b hb
end
section
variable {X : Cx} {Z : Zy} {W : WX} {a b : Expr} {es : List Expr} {f g : DE} {fs : List DE} {pos : Pos} {st : Stmt} {h : DSt}
theorem de_lstP (ha : PA X es (tArgs Z W fs)) : PE X (.List es pos) (tE Z W (eArgs fs kLstP)) := (pe_lst ha).weak fun σ H Q h => tArgs_imp (fun xs H1 ⟨A, F, sl, ce, vs, so, hs, r, _, p⟩ => by
  unfold kLstP at p
  split at p
  · rename_i ks e
    obtain ⟨bs, rfl, hb⟩ := cellsOf_rd so r e
    split at p
    · rename_i hl
      have hlen := ptrL_len hb
      refine ⟨by rw [sizeLine_eq, List.length_map, ← hlen]; exact hl, fun q hq => ?_⟩
      have so2 := so.newCell (o := .lst (bs.map V.ref)) (c := .ptr ks) hq ⟨so.fnone hq, ce.length, bs, by rw [← so.len]; simp, upd_same, hb.mono (List.prefix_append _ _)⟩
      exact p (A ++ [q]) F _ (.ref q) (List.prefix_append _ _) (Same.refl _) so2 ⟨q, by rw [← so.len]; simp, rfl⟩
    · exact p.elim
  · exact p.elim) (tN h)
theorem de_repLC (ha : PE X a (tE Z W f)) (hb : PE X b (tE Z W g)) : PE X (.BinOp a .Mult b pos) (tE Z W (eBin kRepLC f g)) := de_op op_rep (fun A F sl ce v u x y H σ Q so hs rv ru p => by
  unfold kRepLC at p
  split at p
  · rename_i ds n
    split at p
    · rename_i hc
      unfold VRep Rep at rv
      obtain ⟨l, vs, rfl, h1, h2⟩ := rv
      rw [rep_int ru]
      have hl : vs.length = ds.length := h2.length.symm
      have hm : ds.length * n.toNat ≤ 1000 * 1000 := Nat.mul_le_mul hc.1 (by omega)
      exact ⟨l, n, vs, rfl, rfl, so.sub _ _ h1, by omega, by omega, by rw [hl, sizeLine_eq]; show _ ≤ 16777216; omega, fun q hq => fin_newC so p (reps_flat h2 _) hq⟩
    · exact p.elim
  · exact p.elim) ha hb
theorem atI_map {α β : Type} {F : α → β} {xs : List α} {i : Int} : atI (xs.map F) i = (atI xs i).map F := by
  unfold atI
  rw [List.length_map]
  cases ixN xs.length i with
  | none => rfl
  | some j => simp
theorem ok_ixP : Ok2 Z W kIxP (rIx Z.K) := by
  intro A F sl ce v u x y H σ Q so hs rv ru p
  unfold kIxP at p
  split at p
  · rename_i k i
    split at p
    · rename_i ks hk
      split at p
      · rename_i j hj
        obtain ⟨a, ha, rfl⟩ := rv
        obtain ⟨hF, k0, bs, h1, h2, h3⟩ := so.ok k a _ ha hk
        rw [rep_int ru]
        have hl := ptrL_len h3
        unfold atI at hj
        obtain ⟨n, hn, hj⟩ := Option.bind_eq_some_iff.mp hj
        obtain ⟨b, hb, hAb⟩ := ptrL_get h3 hj
        refine .inl ⟨a, bs.map V.ref, i, .ref b, rfl, rfl, SqL.of h2, ?_, p A F H (.ref b) (List.prefix_refl _) (Same.refl _) so ⟨b, hAb, rfl⟩⟩
        unfold atI
        rw [List.length_map, ← hl, hn]
        simp [hb]
      · exact p.elim
    · exact p.elim
  · exact p.elim
theorem de_ixP (hK : X.K = Z.K) (ha : PE X a (tE Z W f)) (hb : PE X b (tE Z W g)) (hs : PlainIx b := by exact fun _ _ => rfl) : PE X (.Subscript a b pos) (tE Z W (eBin kIxP f g)) :=
  (pe_ix (r := rIx Z.K) (by rw [← hK]; exact ix_seq) ha hb hs).weak fun σ H Q h => t2 ok_ixP h
theorem tS_frzP {i : Nat} {D σ H} (q : tS Z W (frzP i h) D σ H) : tS Z W h D σ H := by
  obtain ⟨A, F, sl, ce, so, hs, p⟩ := q
  unfold frzP at p
  split at p
  · rename_i k e1
    split at p
    · rename_i ks e2
      split at p
      · rename_i ds ce' e3
        obtain ⟨x, h1, a, hA, rfl⟩ := hs.is i _ e1
        obtain ⟨hF, k0, bs, h2, h3, h4⟩ := so.ok k a _ hA e2
        have ek : k0 = k := (List.getElem?_inj (List.getElem?_eq_some_iff.mp h2).1 so.nd).mp (h2.trans hA.symm)
        subst ek
        obtain ⟨F', s1, s2, s3, s4⟩ := frzAll_ok so h4 e3
        have hF' : F' a = none := s4 a hF fun z => by
          obtain ⟨j, hj, hb⟩ := ptrL_addr h4 a z
          have := (List.getElem?_inj (List.getElem?_eq_some_iff.mp hb).1 so.nd).mp (hb.trans hA.symm)
          omega
        have up := same_up (o := .lst (bs.map V.ref)) hF'
        have up2 := s1.trans up
        have hs2 : SL Z A (upd F' a (.lst (bs.map V.ref))) (sl.set i (some (.im (.lst ds)))) σ := by
          have q := (hs.mono (List.prefix_refl _) up2).set (i := i) (v := .im (.lst ds)) (x := .ref a) (by unfold VRep Rep; exact ⟨a, _, rfl, upd_same, s3.mono up⟩)
          have e4 : σ.set i (some (.ref a)) = σ := List.ext_getElem? fun j => by
            by_cases hj : i = j
            · subst hj
              rw [List.getElem?_set_self (List.getElem?_eq_some_iff.mp h1).1, h1]
            · rw [List.getElem?_set_ne hj]
          rw [e4] at q
          exact q
        exact ⟨A, _, _, _, s2.freeze hA hF' h3, hs2, p.mono (List.prefix_refl _) up2⟩
      · exact p.elim
    · exact p.elim
  · exact p.elim
theorem ds_frzP {i : Nat} (q : PS X st (tS Z W h)) : PS X st (tS Z W (frzP i h)) := q.weak fun D σ H q => tS_frzP q
end
end ZZ

set_option Elab.async false
set_option linter.all false
set_option maxRecDepth 100000
/-! Z22: a tuple that stands in a module; code that is never reached. -/
namespace ZZ
open PySem PySem.Spec L2
def kDead : DE := fun _ _ => .stuck
/-- flat items as they stand in a constant -/
def relF : D → Value → Prop
  | .int i, u => ∃ t, u = .int i t
  | .str s, u => ∃ t, u = .str s t
  | .non, u => u = .none
  | _, _ => False
def relFs : List D → List Value → Prop
  | [], us => us = []
  | d :: ds, us => ∃ u t, us = u :: t ∧ relF d u ∧ relFs ds t
section
variable {X : Cx} {Z : Zy} {W : WX} {e : Expr} {p : Pos} {x : Str}
theorem de_dead : PE X e (tE Z W kDead) := ⟨fun pins s σ H Q I ⟨A, F, sl, ce, so, hs, p⟩ => p.elim⟩
theorem dt_dead : PT X e (tT Z W kDead) := ⟨fun pins s σ H Q I ⟨A, F, sl, ce, so, hs, p⟩ => p.elim⟩
theorem relFs_vals {Zz : Zx} {F : Hp} : ∀ {ds : List D} {us : List Value}, relFs ds us → ∃ vs : List V, Vals vs us ∧ Reps Zz F ds vs
  | [], us, h => by
    unfold relFs at h
    subst h
    exact ⟨[], .nil, reps_nil⟩
  | d :: ds, us, h => by
    obtain ⟨u, t, rfl, h1, h2⟩ := h
    obtain ⟨vs, v1, v2⟩ := relFs_vals (Zz := Zz) (F := F) h2
    cases d with
    | int i => exact ⟨.int i :: vs, .cons h1 v1, reps_cons (by unfold Rep; rfl) v2⟩
    | str s => exact ⟨.str s :: vs, .cons h1 v1, reps_cons (by unfold Rep; rfl) v2⟩
    | non => exact ⟨.non :: vs, .cons h1 v1, reps_cons (by unfold Rep; rfl) v2⟩
    | _ => exact h1.elim
structure GTup (K : PySem.W.Frag) (mg : Str → Option Value) (x : Str) (ds : List D) : Prop where
  ex : ∃ (p : Addr) (o : Obj) (its : List Value) (n : Nat), mg x = some (.ref p) ∧ K.lookup p = some o ∧ o.cls = .type "tuple" ∧ o.data = .seq its.toArray n ∧ its.length ≤ 1000 ∧ relFs ds its
theorem de_gtup {ds : List D} (hK : X.K = Z.K) (G : GTup X.K X.mg x ds) (hg : Gl X x := by rfl) (hdb : (x == ("__debug__" : Str)) = false := by decide) : PE X (.Name x p) (tE Z W (eC (.tup ds))) := by
  obtain ⟨q, o, its, n, hm, h1, h2, h3, h4, h5⟩ := G.ex
  exact (pe_glob (v := .ref q) hg hm rfl hdb).weak fun σ H Q ⟨A, F, sl, ce, so, hs, pp⟩ => fin_flat so pp (by
    obtain ⟨vs, v1, v2⟩ := relFs_vals (Zz := Z.toZx) (F := F) h5
    unfold Rep
    refine ⟨q, vs, rfl, .inr ⟨o, its.toArray, n, by rw [← hK]; exact h1, h2, h3, ?_, by simpa using v1⟩, v2⟩
    rw [List.size_toArray, sizeLine_eq]
    show _ ≤ 16777216
    omega)
end
end ZZ

set_option Elab.async false
set_option linter.all false
set_option maxRecDepth 100000
/-! Z23: defs with a star parameter. -/
namespace ZZ
open PySem PySem.Spec L2
theorem cxUpN {P : Program} {w : World} : StX.CXUp (L2N.CX P w) := by
  rintro outer s H s2 H2 E e s' un kp ho ⟨a, B, H', cls, d, ea, fl, hok, ub, na, os, ag, he⟩
  refine ⟨a, B, H', cls, d, ea, fl, hok, ⟨fun b o q n hb => ub.keep b o (kp b o q) (un.free b o q n (by simp)) hb, fun b o q hb => ub.slot b o (kp b o q) hb, fun b o q n => ub.free b o (kp b o q) (un.free b o q n (by simp)),
    fun b o q hb => ub.there b o (kp b o q) hb, fun b xs q => ub.tups b xs (un.tups b xs q), fun b o xs q => ub.frzs b o xs (un.frzs b o xs q), fun b ps q => ?_⟩, na, os.trans ho, ag, he⟩
  obtain ⟨m1, e1⟩ := un.tbls b ps q
  obtain ⟨m2, e2⟩ := ub.tbls b _ e1
  exact ⟨m1 ++ m2, by rw [e2, Array.append_assoc]⟩
theorem bind_star3 {B : List Value → Sem (List (Str × Value))} {p1 p2 p3 pv : Str} (h0 : ∀ a b c, B [a, b, c] = (newTuple [] >>= fun t => pure [(p1, a), (p2, b), (p3, c), (pv, t)])) (h1 : ∀ a b c r rs, B (a :: b :: c :: r :: rs) = (newTuple (r :: rs) >>= fun t => pure [(p1, a), (p2, b), (p3, c), (pv, t)])) :
    ∀ us rest : List Value, us.length = [p1, p2, p3].length → B (us ++ rest) = (newTuple rest >>= fun t => pure ([p1, p2, p3].zip us ++ [(pv, t)]))
  | [a, b, c], [], _ => h0 a b c
  | [a, b, c], r :: rs, _ => h1 a b c r rs
theorem bind_star0 {B : List Value → Sem (List (Str × Value))} {pv : Str} (h0 : B [] = (newTuple [] >>= fun t => pure [(pv, t)])) (h1 : ∀ r rs, B (r :: rs) = (newTuple (r :: rs) >>= fun t => pure [(pv, t)])) :
    ∀ us rest : List Value, us.length = ([] : List Str).length → B (us ++ rest) = (newTuple rest >>= fun t => pure (([] : List Str).zip us ++ [(pv, t)]))
  | [], [], _ => h0
  | [], r :: rs, _ => h1 r rs
structure FunS (K : PySem.W.Frag) (x qual : Str) (st : Stmt) (ps : List Str) (pv : Str) (f : Addr) : Prop where
  ex : ∃ (oc : Value) (od : Option Addr) (dV kV doc pm : Value) (an : Option Addr) (cdv ct : Value) (osl : Array (Option Value)), K.lookup f = some ⟨oc, od, .func (PySem.W.fnOf x qual (defArgs st) (defBody st) (defScope st) dV kV doc pm an cdv ct), osl⟩ ∧ PySem.W.codeIn K cdv qual = true ∧
    ∀ us rest : List Value, us.length = ps.length → bindArgs (PySem.W.fnOf x qual (defArgs st) (defBody st) (defScope st) dV kV doc pm an cdv ct) ⟨us ++ rest, []⟩ = (newTuple rest >>= fun t => pure (ps.zip us ++ [(pv, t)]))
  kp : PySem.W.keepIn K (.ref f) = true
/-- the values left over are a tuple -/
def mkDS (nsl n : Nat) (body : DSt) : DF := fun ds ce => match ims (ds.drop n) with
  | some xs => if n ≤ ds.length ∧ xs.length ≤ LINE then mkD nsl body (ds.take n ++ [.im (.tup xs)]) ce else .stuck
  | none => .stuck
def spS (Z : Zx) (fh : DF) : Sp := fun vs H Q E => ∃ A F ce ds, SO Z A F ce H ∧ VReps Z.z A F ds vs ∧ PostE Z.z A F (fun c d _ H => E c d H) [] Q (fh ds ce)
section
variable {Z : Zx} {A : List Addr} {F : Hp}
theorem VReps.split {Y : Zy} : ∀ (n : Nat) {ds : List Val} {vs : List V}, VReps Y A F ds vs → VReps Y A F (ds.take n) (vs.take n) ∧ VReps Y A F (ds.drop n) (vs.drop n)
  | 0, ds, vs, h => by
    rw [List.take_zero, List.take_zero]
    exact ⟨by unfold VReps; rfl, by simpa using h⟩
  | n + 1, [], vs, h => by
    unfold VReps at h
    subst h
    exact ⟨by unfold VReps; rfl, by unfold VReps; rfl⟩
  | n + 1, d :: ds, vs, h => by
    obtain ⟨x, r, rfl, h1, h2⟩ := h
    obtain ⟨a, b⟩ := VReps.split n h2
    exact ⟨⟨x, r.take n, rfl, h1, a⟩, b⟩
theorem VReps.append {Y : Zy} : ∀ {ds es : List Val} {vs ws : List V}, VReps Y A F ds vs → VReps Y A F es ws → VReps Y A F (ds ++ es) (vs ++ ws)
  | [], es, vs, ws, h, h' => by
    unfold VReps at h
    subst h
    exact h'
  | d :: ds, es, vs, ws, h, h' => by
    obtain ⟨x, r, rfl, h1, h2⟩ := h
    exact ⟨x, r ++ ws, rfl, h1, VReps.append h2 h'⟩
end
section
variable {P : Program} {w : World} {K : PySem.W.Frag} {mg : Str → Option Value} {base : Heap}
theorem fnS {Z : Zx} {x qual pv : Str} {st : Stmt} {f : Addr} {N ps : List Str} {k nsl n : Nat} {body : DSt} (Fn : FunS K x qual st ps pv f) (S : FnScope N (ps ++ [pv]) (defScope st)) (hN : N.length = nsl) (hn : ps.length = n)
    (hbody : ∀ (cdv : Value) (A : Around) (outer : List Env) (s : Shared) (H : Hp) (E : XK), Room k (A.deeper (PyProof.Rows.envOfC qual (defScope st) s.heap.objs.size f cdv)) →
      PSs (cxOf (L2N.CX P w) P w K mg base N qual (defScope st) f cdv A outer s H E) (defBody st) (tS Z.z (fun cls d _ H => E cls d H) body)) : FnR P w K mg base (L2N.CX P w) (k + 1) f (spS Z (mkDS nsl n body)) := by
  subst hN hn
  obtain ⟨oc, od, dV, kV, doc, pm, an, cdv, ct, osl, lk, hcd, hb⟩ := Fn.ex
  refine (StX.fn_star (sp := spD Z (mkD N.length body) (ps.length + 1)) lk hcd S cxUpN hb fun A outer s H vs Q E hr ⟨A0, F0, ce, ds, so, r, l, p⟩ => ⟨_, hbody cdv A outer s H E hr, A0, F0, _, ce, so, vreps_start r, ?_⟩).imp fun vs H Q E ⟨A, F, ce, ds, so, r, p⟩ => ?_
  · unfold mkD at p
    have hn := so.len
    cases e : body (ds.map some ++ List.replicate (N.length - ds.length) none) ce with
    | nx sl ce' => rw [e] at p; exact fun A' F' H' σ' pA eF so' hs' => fin_ok hn pA eF so' (show VRep Z.z A' F' (.im .non) .non by unfold VRep Rep; rfl) p
    | rt v ce' => rw [e] at p; exact fun A' F' H' x pA eF so' r' => fin_ok hn pA eF so' r' p
    | exc c es sl ce' => rw [e] at p; exact fun A' F' H' σ' dx pA eF so' hs' xo => p A0 F' H' dx (List.prefix_refl _) eF (so'.cut pA hn) xo
    | bk sl ce' => rw [e] at p; exact p.elim
    | ct sl ce' => rw [e] at p; exact p.elim
    | stuck => rw [e] at p; exact p.elim
  · unfold mkDS at p
    split at p
    · rename_i xs e
      split at p
      · rename_i h
        obtain ⟨r1, r2⟩ := VReps.split ps.length r
        have rr := ims_rd (Z := Z.z) r2 e
        have hl := r.length
        refine ⟨vs.take ps.length, vs.drop ps.length, (List.take_append_drop _ _).symm, ?_, ?_, fun q hq => ?_⟩
        · rw [List.length_take]
          omega
        · rw [← rr.length, sizeLine_eq]
          exact h.2
        · have up := same_up (o := .tup (vs.drop ps.length)) (so.fnone hq)
          refine ⟨A, upd F q (.tup (vs.drop ps.length)), ce, ds.take ps.length ++ [.im (.tup xs)], so.new hq, (r1.mono (List.prefix_refl _) up).append ⟨.ref q, [], rfl, ?_, by unfold VReps; rfl⟩, ?_, ?_⟩
          · unfold VRep Rep
            exact ⟨q, _, rfl, .inl (.inl upd_same), rr.mono up⟩
          · rw [List.length_append, List.length_take]
            simp
            omega
          · exact p.mono (List.prefix_refl _) up
      · exact p.elim
    · exact p.elim
/-- a def with a star parameter shows fh -/
structure DOkS (P : Program) (w : World) (K : PySem.W.Frag) (mg : Str → Option Value) (base : Heap) (k : Nat) (f : Addr) (sp : Sp) : Prop where
  F : FnR P w K mg base (L2N.CX P w) k f sp
  kp : PySem.W.keepIn K (.ref f) = true
end
section
variable {X : Cx} {Z : Zy} {W : WX} {k : Nat} {fa : Addr} {fh : DF} {x : Str} {p pos : Pos} {e : Expr} {es : List Expr} {fs : List DE}
theorem de_callS (G : DOkS X.prog X.w X.K X.mg X.base k fa (spS Z.toZx fh)) (hr : Room k X.A) (hm : X.mg x = some (.ref fa)) (tw : TW X W) (ha : PA X (e :: es) (tArgs Z W fs))
    (hg : Gl X x := by rfl) (hdb : (x == ("__debug__" : Str)) = false := by decide) (he : starEach (e :: es) X.env = (false, eval e X.env) :: starEach es X.env := by rfl) (hpl : (backTo pos (starEach es X.env)).any (·.1) = false := by rfl) :
    PE X (.Call (.Name x p) (e :: es) [] pos) (tE Z W (eArgs fs (kCall fh))) := by
  refine PE.weak (t := fun σ H Q => tArgs Z W fs σ H fun vs H1 => spS Z.toZx fh vs H1 Q (WE W σ)) ⟨fun pins s σ H Q I h => ?_⟩ fun σ H Q h => tArgs_imp (fun xs H1 ⟨A, F, sl, ce, vs, so, hs, r, l, q⟩ => by
    unfold kCall at q
    by_cases hp : vs.all plainV = true
    · rw [if_pos hp] at q
      refine ⟨A, F, ce, vs, so, r.nohd hp, ?_⟩
      cases e : fh vs ce with
      | ok v ce' => rw [e] at q; exact fun A' F' H' x pA eF so' r' => q A' F' H' x pA eF so' (vrep_z rfl r')
      | exc c ds ce' => rw [e] at q; exact q
      | stuck => rw [e] at q; exact q
    · rw [if_neg hp] at q
      exact q.elim) (tN h)
  refine wpAny_Call_Name_kw (ld_glob I hg hm ?_ hdb)
  refine PySem.W.callWith_K (h₀ := X.base) I.ok.mod.kin G.kp (thn (ha.run pos pins s σ H _ I h) fun us s1 ⟨vs, H1, I1, r, q⟩ => ⟨I1.kIn, ?_⟩) he hpl
  exact wpAny_call (codeAny_mono (G.F X.A X.stack s1 H1 us vs Q (WE W σ) hr I1.env0 r q) fun r s' hq => by
    cases r with
    | error e => exact tw σ pins H1 s1 e s' I1 hq
    | ok fl =>
      cases fl with
      | ret u => exact I1.after hq
      | next => exact False.elim hq
      | brk => exact False.elim hq
      | cont => exact False.elim hq)
end
end ZZ

set_option Elab.async false
set_option linter.all false
set_option maxRecDepth 100000
set_option maxHeartbeats 2000000
/-! Z24: several except clauses, named or not. -/
namespace L2N
open PySem PySem.Spec PyProof.Rows L2
structure Cl where
  c : Value
  i : Option Nat
  ts : Addr → Value → Option Addr → TS
/-- what stands behind a clause's suite: its name is gone -/
def bhd (io : Option Nat) (D : Ends) : Ends := match io with
  | none => D
  | some i => { nx := fun σ' H' => D.nx (σ'.set i none) H', rt := D.rt, bk := fun σ' H' => D.bk (σ'.set i none) H', ct := fun σ' H' => D.ct (σ'.set i none) H' }
def nmd (io : Option Nat) (σ : L2.St) (a : Addr) : L2.St := match io with
  | none => σ
  | some i => σ.set i (some (.ref a))
def wMn (K : PySem.W.Frag) (Wout : WX) (D : Ends) : List Cl → WX
  | [] => Wout
  | k :: r => fun cls d σ H => ∃ b, PySem.W.exmOne K cls k.c = some b ∧ (b = true → ∀ a, H a = none → k.ts a cls d (bhd k.i D) (nmd k.i σ a) H) ∧ (b = false → wMn K Wout D r cls d σ H)
inductive HdsN (X : Cx) : List ExceptHandler → List Cl → Prop
  | nil : HdsN X [] []
  | cons {x : Str} {c : Value} {ts : Addr → Value → Option Addr → TS} {b₀ : Stmt} {suite : List Stmt} {np pos' : Pos} {hds : List ExceptHandler} {l : List Cl} (hc : Names X x c)
      (hsu : ∀ (a : Addr) (oe : Obj) (cls : Value) (d : Option Addr) (pn : List (Addr × Obj)), Zn cls d oe → (∃ vs, oe.data = .fields vs) → PSs (X.suite a ((a, oe) :: pn)) (b₀ :: suite) (ts a cls d)) (r : HdsN X hds l) :
      HdsN X (.ExceptHandler (some (.Name x np)) none (b₀ :: suite) pos' :: hds) (⟨c, none, ts⟩ :: l)
  | named {x n : Str} {i : Nat} {c : Value} {ts : Addr → Value → Option Addr → TS} {b₀ : Stmt} {suite : List Stmt} {np pos' : Pos} {hds : List ExceptHandler} {l : List Cl} (hN : X.N.Nodup) (hi : X.N[i]? = some n) (hln : X.env.kindOf n = some .local) (hc : Names X x c)
      (hsu : ∀ (a : Addr) (oe : Obj) (cls : Value) (d : Option Addr) (pn : List (Addr × Obj)), Zn cls d oe → (∃ vs, oe.data = .fields vs) → PSs (X.suite a ((a, oe) :: pn)) (b₀ :: suite) (ts a cls d)) (r : HdsN X hds l) :
      HdsN X (.ExceptHandler (some (.Name x np)) (some n) (b₀ :: suite) pos' :: hds) (⟨c, some i, ts⟩ :: l)
section
variable {X : Cx} {body : List Stmt} {h₀ : ExceptHandler} {hds : List ExceptHandler} {l : List Cl} {pos : Pos} {tb : WX → TS} {Wout : WX}
theorem ps_try_mn (hs : X.stack = X.env :: X.outer) (hf : X.env.frame = some X.env.locals) (tk : Takes X Wout)
    (hb : ∀ (W : WX) (pn : List (Addr × Obj)) (xe : Value → Shared → Prop), Takes (X.tr pn xe) W → PassesOwn (model X.prog X.w) X.A X.env xe → PSs (X.tr pn xe) body (tb W))
    (hh : HdsN X (h₀ :: hds) l) : PS X (.Try body (h₀ :: hds) [] [] pos) (fun D σ H => tb (wMn X.K Wout D l) D σ H) := by
  refine ⟨fun pins s σ H D I h => ?_⟩
  have ok := I.ok
  have hfr : X.A.frames = some (X.env :: X.outer) := by rw [ok.frames, hs]
  refine wpAny_Try_except ?_
  refine wpAny_mono ((hb (wMn X.K Wout D l) (X.pn ++ pins) (fun e s₁ => wpAny (model X.prog X.w) X.A (noteFrame e X.env) (fun _ s₂ => wpAny (model X.prog X.w) X.A (setFlight e none) (fun _ s₃ =>
    wpAny (model X.prog X.w) X.A (handleBy e X.env (h₀ :: hds)) (SP X pins D) X.xe s₃) X.xe s₂) X.xe s₁) (fun u s' xx => ?_) PassesOwn.looking).run [] s σ H D (I.toTry _) h) (fun f s1 hsp => ?_) (fun e s1 he => he)
  · obtain ⟨a, B, sI, pins', σ', H', cls, d, rfl, J', nb, up, sky, na, os, ag, w⟩ := xx
    have J : Inv X pins σ' H' sI := J'.ofTry ok
    have sky' : Sky B (X.env :: X.outer) a (Zn cls d) X.env.locals s'.heap := by rw [← hs]; exact sky
    show wpAny (model X.prog X.w) X.A (noteFrame (.ref a) X.env) _ _ _
    refine Sky.land Zn.steady hfr hf sky' fun h3 fl3 up3 => ?_
    have J3 : Inv X pins σ' H' { s' with heap := h3 } := J.landed nb fl3.1 (up.trans up3) os ag
    obtain ⟨oe3, vs3, he3, hz3, hd3⟩ := fl3.there
    have notFr : ∀ {h : Heap} {o : Obj} {vs : Array Value}, h.FunFrames B (X.env :: X.outer) → h.get? a = some o → o.data = .fields vs → a ∉ frs (X.env :: X.outer) := fun {h o vs} ff e dd hm => by
      obtain ⟨_, o', e', hnf⟩ := ff.mem hm
      rw [e] at e'; cases e'
      exact hnf _ dd
    have nfr := notFr fl3.2.2.1 he3 hd3
    have nL : a ≠ X.env.locals := fun z => nfr (List.mem_filterMap.mpr ⟨X.env, List.mem_cons_self, by rw [hf, z]⟩)
    have nF : a ∉ X.fs := fun hm => by
      obtain ⟨e, he, q⟩ := List.mem_filterMap.mp hm
      exact nfr (List.mem_filterMap.mpr ⟨e, List.mem_cons_of_mem _ he, q⟩)
    have S3 := J3.suite he3 hd3 na nL nF
    have test : ∀ {x : Str} {c : Value} {np : Pos} {Q : Value → Shared → Prop} {E : Value → Shared → Prop}, Names X x c → Q c { s' with heap := h3 } → wpAny (model X.prog X.w) (X.A.mark (some (.ref a))) (eval (.Name x np) X.env) Q E { s' with heap := h3 } := fun {x c np Q E} hc q => by
      obtain ⟨hg, hdbg, hm | ⟨hm, hv, hnn⟩⟩ := hc
      · exact ld_glob (X := X.suite a ((a, oe3) :: (X.pn ++ pins))) S3 hg hm q hdbg
      · exact ld_blt (X := X.suite a ((a, oe3) :: (X.pn ++ pins))) S3 hg hm hv q hnn hdbg
    have LT : PySem.W.Looks (model X.prog X.w) h3 (typeOf (.ref a)) cls := fun A Q E s k q => wpAny_typeOf_ref (k _ _ he3) (by rw [hz3.1]; exact q)
    have go : ∀ {hds' : List ExceptHandler} {l' : List Cl}, HdsN X hds' l' → wMn X.K Wout D l' cls d σ' H' →
        wpAny (model X.prog X.w) X.A (handleBy (.ref a) X.env hds') (SP X pins D) X.xe { s' with heap := h3 } := by
      intro hds' l' hk
      induction hk with
      | nil =>
        intro w
        refine wpAny_handleBy_nil ?_
        obtain ⟨k1, k2, k3, oe, vs, T, oT, ts', he, hz, hd, h1, hr⟩ := id fl3
        unfold PySem.passOn
        refine wpAny_bind (wpAny_field he hd h1 ?_)
        rw [if_neg (show ¬ ((Value.ref T == Value.none) = true) from by simp)]
        have fin : wpAny (model X.prog X.w) X.A (setFlight (.ref a) X.env.frame) (fun _ s4 => wpAny (model X.prog X.w) X.A (throw (.ref a) : Sem Flow) (SP X pins D) X.xe s4) X.xe { s' with heap := h3 } := by
          rw [hf]
          refine HandSPX.setFlight_upZ fl3 fun h4 hh4 up4 => wpAny_throw (tk _ _ ?_)
          exact ⟨a, B, sI, pins, σ', H', cls, d, rfl, J, nb, (up.trans up3).trans up4, .inr (.inr (by rw [hs]; exact hh4)), na, os, ag, w⟩
        first
          | exact wpAny_bind (wpAny_pure (wpAny_bind fin))
          | exact wpAny_bind fin
      | @cons x c ts b₀ suite np pos' hds2 l2 hc hsu r ih =>
        intro w
        obtain ⟨b, hb1, hyes, hno⟩ := w
        refine wpAny_handleBy_cons (codeAny_handlers_test ?_) (by intro q; cases q)
        have LM := PySem.W.exm_one (M := model X.prog X.w) (J3.kIn) LT hb1
        refine test hc (LM.here ?_)
        cases b with
        | true =>
          refine codeAny_handlers_suite ?_
          refine HandSPX.lands_againZ fl3 fun h4 fl4 up4 => ?_
          have J4 : Inv X pins σ' H' { s' with heap := h4 } := J.landed nb fl4.1 ((up.trans up3).trans up4) os ag
          obtain ⟨oe4, vs4, he4, hz4, hd4⟩ := fl4.there
          have S4 := J4.suite he4 hd4 na nL nF
          refine wpAny_mono ((hsu a oe4 cls d (X.pn ++ pins) hz4 ⟨_, hd4⟩).run [] _ _ H' _ S4 (hyes rfl a na)) (fun f s6 hsp => ?_) (fun _ _ z => False.elim z)
          cases f with
          | next =>
            obtain ⟨σ6, H6, S6, q6⟩ := hsp
            exact ⟨_, _, S6.unsuite ok, q6⟩
          | brk =>
            obtain ⟨σ6, H6, S6, q6⟩ := hsp
            exact ⟨_, _, S6.unsuite ok, q6⟩
          | cont =>
            obtain ⟨σ6, H6, S6, q6⟩ := hsp
            exact ⟨_, _, S6.unsuite ok, q6⟩
          | ret u =>
            obtain ⟨v6, σ6, H6, S6, r6, q6⟩ := hsp
            exact ⟨_, _, _, S6.unsuite ok, r6, q6⟩
        | false =>
          show wpAny _ X.A (handleBy (.ref a) X.env hds2) _ _ _
          exact ih (hno rfl)
      | @named x n i c ts b₀ suite np pos' hds2 l2 hN hi hln hc hsu r ih =>
        intro w
        have hloc : Loc X.env.scope n := .inl hln
        obtain ⟨b, hb1, hyes, hno⟩ := w
        refine wpAny_handleBy_cons (codeAny_handlers_test ?_) (by intro q; cases q)
        have LM := PySem.W.exm_one (M := model X.prog X.w) (J3.kIn) LT hb1
        refine test hc (LM.here ?_)
        cases b with
        | true =>
          refine codeAny_handlers_suite_as ?_
          refine HandSPX.lands_againZ fl3 fun h4 fl4 up4 => ?_
          have J4 : Inv X pins σ' H' { s' with heap := h4 } := J.landed nb fl4.1 ((up.trans up3).trans up4) os ag
          obtain ⟨oe4, vs4, he4, hz4, hd4⟩ := fl4.there
          have S4 := J4.suite he4 hd4 na nL nF
          refine store_ok (X := X.suite a ((a, oe4) :: (X.pn ++ pins))) (v := .ref a) S4 hN hi hloc rfl (fun s5 S5 => ?_) (.inr hln)
          refine wpAny_mono ((hsu a oe4 cls d (X.pn ++ pins) hz4 ⟨_, hd4⟩).run [] s5 _ H' _ S5 (hyes rfl a na)) (fun f s6 hsp => ?_) (fun _ _ z => False.elim z)
          have end_ : ∀ {σ6 : L2.St} {H6 : Hp} {Q : Shared → Prop}, Inv (X.suite a ((a, oe4) :: (X.pn ++ pins))) [] σ6 H6 s6 → (∀ s7, Inv X pins (σ6.set i none) H6 s7 → Q s7) →
              wpAny (model X.prog X.w) X.A (do bindName X.env n .none; unbindBehindTheSuite X.env n pos') (fun _ s7 => Q s7) X.xe s6 := fun {σ6 H6 Q} S6 hq => gone_ok (S6.unsuite ok) hN hi hln hq
          cases f with
          | next =>
            obtain ⟨σ6, H6, S6, q6⟩ := hsp
            exact end_ S6 fun s7 J7 => ⟨_, _, J7, q6⟩
          | brk =>
            obtain ⟨σ6, H6, S6, q6⟩ := hsp
            exact end_ S6 fun s7 J7 => ⟨_, _, J7, q6⟩
          | cont =>
            obtain ⟨σ6, H6, S6, q6⟩ := hsp
            exact end_ S6 fun s7 J7 => ⟨_, _, J7, q6⟩
          | ret u =>
            obtain ⟨v6, σ6, H6, S6, r6, q6⟩ := hsp
            exact end_ S6 fun s7 J7 => ⟨_, _, _, J7, r6, q6⟩
        | false =>
          show wpAny _ X.A (handleBy (.ref a) X.env hds2) _ _ _
          exact ih (hno rfl)
    exact go hh w
  · cases f with
    | next =>
      obtain ⟨σ', H', J', q⟩ := hsp
      exact wpAny_execs_nil ⟨σ', H', J'.ofTry ok, q⟩
    | brk =>
      obtain ⟨σ', H', J', q⟩ := hsp
      exact ⟨σ', H', J'.ofTry ok, q⟩
    | cont =>
      obtain ⟨σ', H', J', q⟩ := hsp
      exact ⟨σ', H', J'.ofTry ok, q⟩
    | ret u =>
      obtain ⟨v, σ', H', J', r, q⟩ := hsp
      exact ⟨v, σ', H', J'.ofTry ok, r, q⟩
end
end L2N
namespace ZZ
open PySem PySem.Spec L2
/-- clauses: which classes, the name's slot, the suite -/
def hdl (c : Nat) (ds : List D) (sl1 : Sl) (ce1 : List Cell) : List ((Nat → Bool) × Option Nat × DSt) → Out
  | [] => .exc c ds sl1 ce1
  | (sub, io, fs) :: r => if sub c then offD io (fs (match io with
      | some i => sl1.set i (some (.exn c ds))
      | none => sl1) ce1) else hdl c ds sl1 ce1 r
def sTryM (nE : Nat) (hs : List ((Nat → Bool) × Option Nat × DSt)) (fb : DSt) : DSt := fun sl ce => match fb sl ce with
  | .exc c ds sl1 ce1 => if c < nE then hdl c ds sl1 ce1 hs else .stuck
  | o => o
section
variable {X : Cx} {Z : Zy} {Wout : WX} {nE : Nat} {body : List Stmt} {h₀ : ExceptHandler} {hds : List ExceptHandler} {pos : Pos} {fb : DSt}
/-- the clauses show their denotations -/
inductive HdD (X : Cx) (Z : Zy) (nE : Nat) : List ExceptHandler → List ((Nat → Bool) × Option Nat × DSt) → Prop
  | nil : HdD X Z nE [] []
  | cons {x : Str} {cv : Value} {sub : Nat → Bool} {fs : DSt} {b₀ : Stmt} {suite : List Stmt} {np pos' : Pos} {hds : List ExceptHandler} {l : List ((Nat → Bool) × Option Nat × DSt)} (hc : Names X x cv) (hexm : ∀ c, c < nE → PySem.W.exmOne X.K (.ref (Z.cl c)) cv = some (sub c))
      (hsu : ∀ (a : Addr) (oe : Obj) (c : Nat) (d : Option Addr) (pn : List (Addr × Obj)), c < nE → L2N.Zn (.ref (Z.cl c)) d oe → (∃ vs, oe.data = .fields vs) → PSs (X.suite a ((a, oe) :: pn)) (b₀ :: suite) (tS (Z.hdl a c d) WF fs)) (r : HdD X Z nE hds l) :
      HdD X Z nE (.ExceptHandler (some (.Name x np)) none (b₀ :: suite) pos' :: hds) ((sub, none, fs) :: l)
  | named {x n : Str} {i : Nat} {cv : Value} {sub : Nat → Bool} {fs : DSt} {b₀ : Stmt} {suite : List Stmt} {np pos' : Pos} {hds : List ExceptHandler} {l : List ((Nat → Bool) × Option Nat × DSt)} (hN : X.N.Nodup) (hc : Names X x cv) (hexm : ∀ c, c < nE → PySem.W.exmOne X.K (.ref (Z.cl c)) cv = some (sub c))
      (hsu : ∀ (a : Addr) (oe : Obj) (c : Nat) (d : Option Addr) (pn : List (Addr × Obj)), c < nE → L2N.Zn (.ref (Z.cl c)) d oe → (∃ vs, oe.data = .fields vs) → PSs (X.suite a ((a, oe) :: pn)) (b₀ :: suite) (tS (Z.hdl a c d) WF fs)) (r : HdD X Z nE hds l)
      (hi : X.N[i]? = some n) (hln : X.env.kindOf n = some .local) :
      HdD X Z nE (.ExceptHandler (some (.Name x np)) (some n) (b₀ :: suite) pos' :: hds) ((sub, some i, fs) :: l)
/-- the hand layer's clauses, with what they mean -/
theorem hdD_ok (hz : Z.hd = none) {hs : List ExceptHandler} {l : List ((Nat → Bool) × Option Nat × DSt)} (h : HdD X Z nE hs l) : ∃ cs, L2N.HdsN X hs cs ∧ ∀ (A1 : List Addr) (F1 : Hp) (E : Ends) (c : Nat) (ds : List D) (sl1 : Sl) (ce1 : List Cell) (H1 : Hp) (σ1 : L2.St) (dx : Option Addr), c < nE → SO Z.toZx A1 F1 ce1 H1 → SL Z A1 F1 sl1 σ1 → ExcOk Z.toZx F1 c ds dx →
    PostS Z A1 F1 Wout E (hdl c ds sl1 ce1 l) → L2N.wMn X.K Wout E cs (.ref (Z.cl c)) dx σ1 H1 := by
  induction h with
  | nil => exact ⟨[], .nil, fun A1 F1 E c ds sl1 ce1 H1 σ1 dx hc so hs xo p => p A1 F1 H1 σ1 dx (List.prefix_refl _) (Same.refl _) so hs xo⟩
  | @cons x cv sub fs b₀ suite np pos' hds l hc hexm hsu r ih =>
    obtain ⟨cs, h1, h2⟩ := ih
    refine ⟨⟨cv, none, fun a cls d => fun D σ H => ∃ c, c < nE ∧ cls = .ref (Z.cl c) ∧ tS (Z.hdl a c d) WF fs D σ H⟩ :: cs, .cons hc (fun a oe cls d pn hzn hfl => ⟨fun pins s σ H D I h => ?_⟩) h1, fun A1 F1 E c ds sl1 ce1 H1 σ1 dx hcn so hs xo p => ?_⟩
    · obtain ⟨c, hc, rfl, h⟩ := h
      exact (hsu a oe c d pn hc hzn hfl).run pins s σ H D I h
    · unfold hdl at p
      refine ⟨sub c, hexm c hcn, fun hb a ha => ?_, fun hb => ?_⟩
      · rw [if_pos hb] at p
        refine ⟨c, hcn, rfl, A1, F1, _, ce1, so, hs.on (a := a) (c := c) (d := dx) hz, ?_⟩
        exact suite_ok hz p (fun _ _ h => h) (fun _ _ h => h) (fun _ _ h => h) rfl
      · rw [hb] at p
        exact h2 A1 F1 E c ds sl1 ce1 H1 σ1 dx hcn so hs xo p
  | @named x n i cv sub fs b₀ suite np pos' hds l hN hc hexm hsu r hi hln ih =>
    obtain ⟨cs, h1, h2⟩ := ih
    refine ⟨⟨cv, some i, fun a cls d => fun D σ H => ∃ c, c < nE ∧ cls = .ref (Z.cl c) ∧ tS (Z.hdl a c d) WF fs D σ H⟩ :: cs, .named hN hi hln hc (fun a oe cls d pn hzn hfl => ⟨fun pins s σ H D I h => ?_⟩) h1, fun A1 F1 E c ds sl1 ce1 H1 σ1 dx hcn so hs xo p => ?_⟩
    · obtain ⟨c, hc, rfl, h⟩ := h
      exact (hsu a oe c d pn hc hzn hfl).run pins s σ H D I h
    · unfold hdl at p
      refine ⟨sub c, hexm c hcn, fun hb a ha => ?_, fun hb => ?_⟩
      · rw [if_pos hb] at p
        refine ⟨c, hcn, rfl, A1, F1, _, ce1, so, ((hs.on (a := a) (c := c) (d := dx) hz).set (v := .exn c ds) (x := .ref a) ⟨a, dx, rfl, rfl, xo⟩), ?_⟩
        exact suite_ok hz p (fun _ _ h => h) (fun _ _ h => h) (fun _ _ h => h) rfl
      · rw [hb] at p
        exact h2 A1 F1 E c ds sl1 ce1 H1 σ1 dx hcn so hs xo p
theorem ds_try_mn {l : List ((Nat → Bool) × Option Nat × DSt)} (hs : X.stack = X.env :: X.outer) (hf : X.env.frame = some X.env.locals) (hz : Z.hd = none) (tk : L2N.Takes X Wout)
    (hb : ∀ (W : WX) (pn : List (Addr × Obj)) (xe : Value → Shared → Prop), L2N.Takes (X.tr pn xe) W → PassesOwn (model X.prog X.w) X.A X.env xe → PSs (X.tr pn xe) body (tS Z W fb))
    (hh : HdD X Z nE (h₀ :: hds) l) : PS X (.Try body (h₀ :: hds) [] [] pos) (tS Z Wout (sTryM nE l fb)) := by
  obtain ⟨cs, h1, h2⟩ := hdD_ok (Wout := Wout) hz hh
  refine (L2N.ps_try_mn hs hf tk hb h1).weak fun D σ H ⟨A, F, sl, ce, so, hs, p⟩ => ⟨A, F, sl, ce, so, hs, ?_⟩
  unfold sTryM at p
  cases e : fb sl ce with
  | nx sl ce => rw [e] at p; exact p
  | bk sl ce => rw [e] at p; exact p
  | ct sl ce => rw [e] at p; exact p
  | rt v ce => rw [e] at p; exact p
  | stuck => rw [e] at p; exact p
  | exc c ds sl1 ce1 =>
    rw [e] at p
    intro A1 F1 H1 σ1 dx pA eF so1 hs1 xo
    dsimp only at p
    by_cases hcn : c < nE
    · rw [if_pos hcn] at p
      exact h2 A1 F1 D c ds sl1 ce1 H1 σ1 dx hcn so1 hs1 xo (p.mono pA eF)
    · rw [if_neg hcn] at p
      exact p.elim
end
end ZZ

set_option Elab.async false
set_option linter.all false
set_option maxRecDepth 100000
/-! Z25: methods with two keyword-only parameters that have defaults. -/
namespace ZZ
open PySem PySem.Spec L2
/-- a default's image stands anywhere -/
def FlatV (d : D) (v : V) : Prop := ∀ (Z : Zy) (A : List Addr) (F : Hp), VRep Z A F (.im d) v
theorem flat_int {i : Int} : FlatV (.int i) (.int i) := fun Z A F => by unfold VRep Rep; rfl
theorem flat_non : FlatV .non .non := fun Z A F => by unfold VRep Rep; rfl
abbrev gK0 (d1 d2 : D) (vs zs : List Val) : List Val := vs ++ ([.im d1, .im d2] ++ zs)
abbrev gKa (d2 : D) (vs zs : List Val) : List Val := vs ++ (zs ++ [.im d2])
abbrev gKb (d1 : D) (vs zs : List Val) : List Val := vs ++ ([.im d1] ++ zs)
theorem grel_k0 {n : Nat} {d1 d2 : D} {v1 v2 : V} (h1 : FlatV d1 v1) (h2 : FlatV d2 v2) : GRel n 0 (gK0 d1 d2) (fun vs zs => vs ++ ([v1, v2] ++ zs)) (n + 2) :=
  ⟨fun r1 r2 _ _ => vreps_append r1 (vreps_append ⟨_, _, rfl, h1 _ _ _, _, _, rfl, h2 _ _ _, rfl⟩ r2), fun h1 h2 _ _ => by rw [gK0, List.all_append, List.all_append, h1, h2]; rfl, fun h1 h2 => by rw [gK0, List.length_append, List.length_append, h1, h2]; rfl⟩
theorem grel_ka {n m : Nat} {d2 : D} {v2 : V} (h2 : FlatV d2 v2) : GRel n m (gKa d2) (fun vs zs => vs ++ (zs ++ [v2])) (n + (m + 1)) :=
  ⟨fun r1 r2 _ _ => vreps_append r1 (vreps_append r2 ⟨_, _, rfl, h2 _ _ _, rfl⟩), fun h1 h2 _ _ => by rw [gKa, List.all_append, List.all_append, h1, h2]; rfl, fun h1 h2 => by rw [gKa, List.length_append, List.length_append, h1, h2]; rfl⟩
theorem grel_kb {n m : Nat} {d1 : D} {v1 : V} (h1 : FlatV d1 v1) : GRel n m (gKb d1) (fun vs zs => vs ++ ([v1] ++ zs)) (n + (1 + m)) :=
  ⟨fun r1 r2 _ _ => vreps_append r1 (vreps_append ⟨_, _, rfl, h1 _ _ _, rfl⟩ r2), fun h1 h2 _ _ => by rw [gKb, List.all_append, List.all_append, h1, h2]; rfl, fun h1 h2 => by rw [gKb, List.length_append, List.length_append, h1, h2]; rfl⟩
end ZZ

set_option Elab.async false
set_option linter.all false
set_option maxRecDepth 100000
/-! Z26: the head by one kernel run: what follows from what is told. -/
namespace ZH
open PySem PySem.Spec PyProof.Rows L2 ZZ
theorem valD_rel {u : Value} {d : D} (h : valD u = some d) : relD d u := by
  unfold valD at h
  split at h
  · cases h; exact ⟨_, rfl⟩
  · cases h; exact ⟨_, rfl⟩
  · cases h; rfl
  · cases h
theorem tb_lit {P : Params} : ∀ {l : List DictEntry} {ks : List (Str × D)}, l.map enO = ks.map (enV P) → PySem.W.KeysLit P l ∧ Ents l ks
  | [], [], _ => ⟨trivial, trivial⟩
  | [], _ :: _, h => by cases h
  | _ :: _, [], h => by cases h
  | e :: r, k :: ks, h => by
    have h1 : enO e :: r.map enO = enV P k :: ks.map (enV P) := h
    injection h1 with h2 h3
    obtain ⟨q1, q2⟩ := tb_lit h3
    unfold enO enV at h2
    split at h2
    · rename_i x t q
      simp only [Option.some.injEq, Prod.mk.injEq] at h2
      obtain ⟨e1, e2, e3⟩ := h2
      exact ⟨⟨⟨x, t, q, by rw [e2, e1]⟩, q1⟩, ⟨t, by rw [q, e1]⟩, valD_rel e3, q2⟩
    · cases h2
theorem tb_ok {K : Fr} {w : World} {a : Addr} {ks : List (Str × D)} (h : tbO K a = some (ks.map (enV w.params))) : ∃ es n, KDict K w a es n ∧ Ents es.toList ks := by
  unfold tbO at h
  cases q : K.lookup a with
  | none =>
    rw [q] at h
    cases h
  | some o =>
    obtain ⟨oc, od, dt, osl⟩ := o
    rw [q] at h
    cases oc with
    | type c =>
      cases od with
      | none =>
        cases dt with
        | dict es n =>
          have h1 : (match decide (c = "dict") && (osl.isEmpty && !(a == sysModules)) with
            | true => some (es.toList.map enO)
            | false => none) = some (ks.map (enV w.params)) := h
          cases z : decide (c = "dict") && (osl.isEmpty && !(a == sysModules)) with
          | false =>
            rw [z] at h1
            cases h1
          | true =>
            rw [z] at h1
            obtain ⟨z1, z2⟩ := ba z
            obtain ⟨z3, z4⟩ := ba z2
            have e1 : c = "dict" := of_decide_eq_true z1
            have e2 : osl = #[] := Array.isEmpty_iff.mp z3
            have e3 : (a == sysModules) = false := by
              cases y : a == sysModules with
              | false => rfl
              | true =>
                rw [y] at z4
                cases z4
            subst e1 e2
            obtain ⟨l1, l2⟩ := tb_lit (Option.some.inj h1)
            exact ⟨es, n, ⟨q, l1, e3⟩, l2⟩
        | _ => cases h
      | some b => cases dt <;> cases h
    | _ => cases od <;> cases dt <;> cases h
section
variable {bs : Bs} {fn : List DefZ} {tb : List Tab} {w : World} {K : Fr}
theorem SaysZ.tab (c : SaysZ bs fn tb w K) {i : Nat} {t : Tab} (h : tb[i]? = some t) : ∃ es n, KDict K w t.1 es n ∧ Ents es.toList t.2 := by
  have e : tb.map (fun t => tbO K t.1) = tb.map fun t => some (t.2.map (enV w.params)) := congrArg (fun z : AlZ => z.2.2) c
  have e2 : (tb.map fun t => tbO K t.1)[i]? = (tb.map fun t => some (t.2.map (enV w.params)))[i]? := by rw [e]
  rw [List.getElem?_map, List.getElem?_map, h] at e2
  exact tb_ok (Option.some.inj e2)
end
/-! ### kinds of defs -/
section
variable {K : Fr}
theorem fun_z {d : DefZ} (h : FnAt K d) (h1 : d.clo = []) (h2 : d.dfl = none) : ∃ fd, Fun K d.name d.qual d.st d.a fd := by
  obtain ⟨oc, od, doc, pm, an, ct, osl, q, c, kp⟩ := h
  rw [h1, h2] at q
  exact ⟨_, fun_mk (st := d.st) q c kp⟩
theorem relFB_ok : ∀ {d : D} {u : Value}, relFB d u = true → (∀ b, d ≠ .bl b) → relF d u := by
  intro d u h hb
  unfold relFB at h
  split at h
  · rw [of_decide_eq_true h]; exact ⟨_, rfl⟩
  · rw [of_decide_eq_true h]; exact ⟨_, rfl⟩
  · rfl
  · exact absurd rfl (hb _)
  · cases h
def noBl : List D → Bool
  | [] => true
  | .bl _ :: _ => false
  | _ :: r => noBl r
theorem relFsB_ok : ∀ {ds : List D} {us : List Value}, relFsB ds us = true → noBl ds = true → relFs ds us
  | [], [], _, _ => rfl
  | [], _ :: _, h, _ => by cases h
  | _ :: _, [], h, _ => by cases h
  | d :: ds, u :: us, h, hb => by
    obtain ⟨h1, h2⟩ := ba (show (relFB d u && relFsB ds us) = true from h)
    have hd : (∀ b, d ≠ .bl b) ∧ noBl ds = true := by
      cases d <;> first | exact ⟨(fun _ e => nomatch e), hb⟩ | exact nomatch hb
    exact ⟨u, us, rfl, relFB_ok h1 hd.1, relFsB_ok h2 hd.2⟩
theorem gtup_z {mg : Str → Option Value} {x : Str} {a : Addr} {ds : List D} (hm : mg x = some (.ref a)) (h : tupB K a ds = true) (hb : noBl ds = true) : GTup K mg x ds := by
  unfold tupB at h
  cases q : K.lookup a with
  | none =>
    rw [q] at h
    cases h
  | some o =>
    obtain ⟨oc, od, dt, osl⟩ := o
    rw [q] at h
    cases oc with
    | type c =>
      cases dt with
      | seq its n =>
        obtain ⟨h1, h2⟩ := ba (show (decide (c = "tuple") && (decide (its.size ≤ 1000) && relFsB ds its.toList)) = true from h)
        obtain ⟨h3, h4⟩ := ba h2
        refine ⟨a, _, its.toList, n, hm, q, congrArg Value.type (of_decide_eq_true h1), ?_, by simpa using of_decide_eq_true h3, relFsB_ok h4 hb⟩
        simp
      | _ => cases h
    | _ => cases dt <;> cases h
def relVB : D → Value → Bool
  | .bl b, .bool c => b == c
  | d, u => relFB d u
/-- a def with positional defaults (a tuple) and keyword-only ones (a dict) -/
def vOf : D → V
  | .non => .non | .bl b => .bl b | .int i => .int i | .str s => .str s | _ => .non
theorem relFB_v {d : D} {u : Value} (h : relFB d u = true) : RelV (vOf d) u := by
  unfold relFB at h
  split at h
  · rw [of_decide_eq_true h]; exact ⟨_, rfl⟩
  · rw [of_decide_eq_true h]; exact ⟨_, rfl⟩
  · rfl
  · rw [eq_of_beq h]; rfl
  · cases h
theorem relFsB_v : ∀ {ds : List D} {us : List Value}, relFsB ds us = true → Vals (ds.map vOf) us
  | [], [], _ => .nil
  | [], _ :: _, h => by cases h
  | _ :: _, [], h => by cases h
  | d :: ds, u :: us, h => by
    obtain ⟨h1, h2⟩ := ba (show (relFB d u && relFsB ds us) = true from h)
    exact .cons (relFB_v h1) (relFsB_v h2)
theorem dflZ_ok {o : Option Addr} {ds : List D} (h : dflZ K o ds = true) : DflV K (vO o) (ds.map vOf) := by
  cases ds with
  | nil =>
    cases o with
    | none => exact .inl ⟨rfl, rfl⟩
    | some a => cases h
  | cons d ds =>
    cases o with
    | none => cases h
    | some a =>
      have h1 : tupB K a (d :: ds) = true := h
      unfold tupB at h1
      cases q : K.lookup a with
      | none =>
        rw [q] at h1
        cases h1
      | some o =>
        obtain ⟨oc, od, dt, osl⟩ := o
        rw [q] at h1
        cases oc with
        | type c =>
          cases dt with
          | seq its n =>
            obtain ⟨_, h2⟩ := ba (show (decide (c = "tuple") && (decide (its.size ≤ 1000) && relFsB (d :: ds) its.toList)) = true from h1)
            obtain ⟨_, h4⟩ := ba h2
            exact .inr ⟨List.cons_ne_nil _ _, a, _, its.toList, n, rfl, q, by simp, relFsB_v h4⟩
          | _ => cases h1
        | _ => cases dt <;> cases h1
theorem kwdZ_ok {o : Option Addr} {qs : List (Str × D)} (h : kwdZ K o qs = true) : KwdV K (vO o) (qs.map fun q => (q.1, vOf q.2)) := by
  cases qs with
  | nil => exact .inl rfl
  | cons q qs =>
    cases o with
    | none => cases h
    | some a =>
      refine .inr ⟨a, rfl, fun z hz => ?_⟩
      obtain ⟨y, hy, rfl⟩ := List.mem_map.mp hz
      have h2 := List.all_eq_true.mp (show ((q :: qs).all fun q => (match PySem.W.nsIn K a q.1 with
        | some (some u) => relFB q.2 u
        | _ => false)) = true from h) y hy
      cases e : PySem.W.nsIn K a y.1 with
      | none =>
        rw [e] at h2
        cases h2
      | some r =>
        rw [e] at h2
        cases r with
        | none => cases h2
        | some u => exact ⟨u, rfl, relFB_v h2⟩
theorem funD_z {d : DefZ} {ds : List D} {qs : List (Str × D)} (h : FnAt K d) (h1 : d.clo = []) (h2 : dflZ K d.dfl ds = true) (h3 : kwdZ K d.kwd qs = true) :
    ∃ fd, FunD K d.name d.qual (defArgs d.st) (defBody d.st) (defScope d.st) (ds.map vOf) (qs.map fun q => (q.1, vOf q.2)) d.a fd := by
  obtain ⟨oc, od, doc, pm, an, ct, osl, q, c, kp⟩ := h
  rw [h1] at q
  exact ⟨_, ⟨oc, od, _, _, doc, pm, an, _, ct, osl, rfl, q, c, dflZ_ok h2, kwdZ_ok h3⟩, kp⟩
theorem cellB_ok {cc D : Addr} (h : cellB K cc D = true) : ∃ cl cld csl, K.lookup cc = some ⟨cl, cld, .cell (some (.ref D)), csl⟩ := by
  unfold cellB at h
  split at h
  · rename_i e
    rw [← of_decide_eq_true h]
    exact ⟨_, _, _, e⟩
  · cases h
theorem fileB_ok {cda : Addr} {file : Str} (h : fileB K cda file = true) : ∃ ccl cdd vs ccs tf, K.lookup cda = some ⟨ccl, cdd, .fields vs, ccs⟩ ∧ vs[2]? = some (.str file tf) := by
  unfold fileB at h
  split at h
  · rename_i vs _ e
    split at h
    · rename_i f t e2
      rw [← of_decide_eq_true h]
      exact ⟨_, _, _, _, _, e, e2⟩
    · cases h
  · cases h
theorem sup_z {d : DefZ} {cc D : Addr} {file : Str} {ps : List Str} (h : FnAt K d) (h1 : d.clo = [(("__class__" : Str), cc)]) (h2 : d.dfl = none) (h3 : supB K d cc D file = true)
    (hb : ∀ kV doc pm an ct, ∀ us : List Value, us.length = ps.length → bindArgs (PySem.W.ksFn d.name d.qual (defArgs d.st) (defBody d.st) (defScope d.st) .none kV doc pm an (.ref d.cda) ct cc) ⟨us, []⟩ = pure (ps.zip us)) :
    ∃ fd cc cda, SupDef K file d.name d.qual d.st d.a fd D cc cda ∧ Binds K fd ps [] ∧ PySem.W.keepIn K (.ref d.a) = true := by
  obtain ⟨oc, od, doc, pm, an, ct, osl, q, c, kp⟩ := h
  rw [h1, h2] at q
  obtain ⟨b1, b2⟩ := ba h3
  obtain ⟨b3, b4⟩ := ba b2
  obtain ⟨cd, hcd⟩ := Option.isSome_iff_exists.mp b4
  exact ⟨_, cc, d.cda, ⟨⟨_, _, _, _, _, _, _, _, rfl, q⟩, c, fileB_ok b3, cellB_ok b1, ⟨cd, hcd⟩⟩, .all (hb _ _ _ _ _), kp⟩
/-- with *args behind n parameters -/
theorem funS_z {d : DefZ} {ps : List Str} {pv x qual : Str} {st : Stmt} (h : FnAt K d) (h1 : d.clo = []) (h2 : d.dfl = none) (e1 : d.name = x) (e2 : d.qual = qual) (e3 : d.st = st)
    (hb : ∀ kV doc pm an cdv ct, ∀ us rest : List Value, us.length = ps.length → bindArgs (PySem.W.fnOf x qual (defArgs st) (defBody st) (defScope st) .none kV doc pm an cdv ct) ⟨us ++ rest, []⟩ = (newTuple rest >>= fun t => pure (ps.zip us ++ [(pv, t)]))) :
    FunS K x qual st ps pv d.a := by
  subst e1 e2 e3
  obtain ⟨oc, od, doc, pm, an, ct, osl, q, c, kp⟩ := h
  rw [h1, h2] at q
  exact ⟨⟨oc, od, _, _, doc, pm, an, _, ct, osl, q, c, hb _ _ _ _ _ _⟩, kp⟩
/-! ### other facts -/
theorem excB_ok {C : Addr} (h : excB K C = true) : ∃ nm q N bs bm sn sub ab col dd k0 k1 k2 k3 k5, K.lookup C = some (excClassObj nm q C N bs bm true sn sub ab col dd k0 k1 k2 k3 k5 "ValueError.__new__") ∧ PySem.HandSPX.refsVE bm = true := by
  unfold excB at h
  split at h
  · rename_i t dd cd sl e
    obtain ⟨h1, h⟩ := ba h
    obtain ⟨h2, h⟩ := ba h
    obtain ⟨h3, h⟩ := ba h
    obtain ⟨h4, h5⟩ := ba h
    obtain ⟨nm, bs, mro, N, q, hd, sn, sub, ab, col, hdel⟩ := cd
    have e1 : t = "type" := of_decide_eq_true h1
    have e2 : hd = true := h2
    have e3 : hdel = false := by simpa using h3
    subst e1 e2 e3
    cases mro with
    | nil => cases h4
    | cons m bm =>
      cases m with
      | ref c =>
        obtain ⟨h6, h7⟩ := ba h4
        have e4 : c = C := of_decide_eq_true h6
        subst e4
        split at h5
        · rename_i k0 k1 k2 k3 id k5 e5
          have e6 : id = "ValueError.__new__" := of_decide_eq_true h5
          subst e6
          obtain ⟨l⟩ := sl
          have e7 : l = [k0, k1, k2, k3, some (.builtin "ValueError.__new__"), k5] := e5
          subst e7
          exact ⟨nm, q, N, bs, bm, sn, sub, ab, col, dd, k0, k1, k2, k3, k5, e, h7⟩
        · cases h5
      | _ => cases h4
  · cases h
theorem recB_ok {p v : Addr} {T : String} (h : recB K p T v = true) : ∃ l, PySem.W.recIn K p T = some (.ref v :: l) := by
  unfold recB at h
  split at h
  · rename_i u l e
    rw [← of_decide_eq_true h]
    exact ⟨_, e⟩
  · cases h
theorem strB_ok {h : Heap} {mg : Str → Option Value} (X : K.In h) (G : h.Ns mainGlobals mg) {x s : Str} (c : strB K x s = true) : ∃ t, mg x = some (.str s t) := by
  unfold strB at c
  split at c
  · rename_i y t e
    rw [← of_decide_eq_true c]
    exact ⟨t, PySem.W.mg_of X G e⟩
  · cases c
theorem conB_ok {C : Addr} {a s : Str} (h : conB K C a s = true) : ∃ t, PySem.W.findIn K (.ref C) a = some (some (.str s t)) ∧ PySem.W.specialIn K (.str s t) "__get__" = some none := by
  unfold conB at h
  split at h
  · rename_i y t e
    obtain ⟨h1, h2⟩ := ba h
    have := of_decide_eq_true h1
    subst this
    exact ⟨t, e, of_decide_eq_true h2⟩
  · cases h
theorem cvB_ok {C : Addr} {a : Str} {d : D} (h : cvB K C a d = true) : ∃ u, PySem.W.findCls K (.ref C) (.type "type") a = some (.val u) ∧ RelV (vOf d) u := by
  unfold cvB at h
  split at h
  · rename_i u e
    exact ⟨u, e, relFB_v h⟩
  · cases h
theorem law_binds {d : DefZ} {fd : FuncData} {x : Str} (F : Fun K d.name d.qual d.st d.a fd) (hb : ∀ (kV doc pm : Value) (an : Option Addr) (cdv ct : Value) (s : Shared) (v : Value), BindsTo s (PySem.W.fnOf d.name d.qual (defArgs d.st) (defBody d.st) (defScope d.st) .none kV doc pm an cdv ct) ⟨[v], []⟩ [(x, v)]) :
    ∀ (s : Shared) (v : Value), BindsTo s fd ⟨[v], []⟩ [(x, v)] := by
  obtain ⟨oc, od, kV, doc, pm, an, cdv, ct, osl, rfl, lk, hcd⟩ := F.ex
  exact fun s v => hb _ _ _ _ _ _ s v
end
/-- a law's end: the written part is what the hook tells -/
theorem walk_ofZ {l : PySem.W.OpenLaw} {n k : Nat} {q : Program} {loose : List Str} {XP : (Str → Option Value) → Heap → Prop} {YP : World → Heap → Prop} {d : DefRec} {CX : World → CXT} {x : Str}
    (hn : l.most = some n) (hn2 : n ≤ sizeLine) (hdf : d.params.defaults = []) (hr : Room k callerA)
    (F : ∀ (w : World) (mg : Str → Option Value) (fa : Addr) (h : Heap), YP w h → h.Ns mainGlobals mg → mg d.name = some (.ref fa) →
      ∃ (K : Fr) (fd : FuncData) (sp : Sp), K.In h ∧ (∀ (s : Shared) (u : Value), BindsTo s fd ⟨[u], []⟩ [(x, u)]) ∧ (∀ (H : Hp) (a : Addr) (ns : List Int), ns.length ≤ n → Only H → SqL K H a (ns.map V.int) → sp [.ref a] H (fun v _ => v = .bl true) fun _ _ _ => False) ∧
        ∀ base : Heap, K.In base → base.Ns mainGlobals mg → FnOk l.prog w K mg base (CX w) k fa fd [x] sp)
    (E : ∀ (w : World) (H : Hp) (s : Shared) (e : Value) (s' : Shared), CX w [] H s (fun _ _ _ => False) e s' → False) :
    PySem.W.WalkO q loose XP YP l.row.toRowW d [] (fun f vs => PySem.call f vs) := by
  refine Att.attach_call hn hdf fun w s0 s1 mg mb fa o pm cd doc a vs ns G Y h1 h2 h3 hm h4 h5 hl hS => ?_
  obtain ⟨K, fd, sp, KX, hb, hs, hF⟩ := F w mg fa _ Y G.T.g hm
  exact law_call KX G.T.g G.T.b G.T.builtins G.T.nolimit hS h4 h5 (Nat.le_trans hl hn2) hr hF hb (fun H hO hq => hs H a ns hl hO hq) fun H e s' => E w H s1 e s'
end ZH

set_option Elab.async false
set_option linter.all false
set_option maxRecDepth 100000
/-! Z27: dicts whose keys are None, whole numbers and tuples: rules over the hand layer. -/
namespace L2
open PySem PySem.Spec PyProof.Rows ZZ
/-- the value stands for the key -/
def KyAt (X : Cx) (H : Hp) (y : V) (k : NestedKey) : Prop := ∀ pins σ s u, Inv X pins σ H s → RelV y u → KeyIs s.heap k u
/-- the dict at a -/
def DcAt (X : Cx) (H : Hp) (a : Addr) (xs : List (NestedKey × Value × Value)) : Prop :=
  (a == sysModules) = false ∧ xs.length ≤ sizeLine ∧ (∃ ep, H a = some (.ext (rawV X.w a xs ep))) ∧ ∀ pins σ s, Inv X pins σ H s → DictV X.w s.heap a xs
theorem raw_ok {P : Program} {w : World} {H : Hp} {h : Heap} {a : Addr} {xs : List (NestedKey × Value × Value)} {o : Obj} {es : Array DictEntry} {ep : Nat} (ho : h.get? a = some o) (hc : o.ExactDict) (hd : o.data = .dict es ep) (he : es.toList = xs.map (entV w)) :
    ObjOk P w H h a (.ext (rawV w a xs ep)) :=
  ⟨⟨o, es, ho, hc, hd, he⟩, ⟨o, ho⟩, fun h1 h2 ⟨o1, es1, e1, r⟩ k => ⟨o1, es1, k _ e1, r⟩⟩
section
variable {X : Cx} {pins : List (Addr × Obj)} {σ : L2.St} {H : Hp} {s : Shared} {a : Addr} {xs : List (NestedKey × Value × Value)} {k : NestedKey} {u : Value}
theorem DcAt.none (g : DcAt X H a xs) : ∃ o, H a = some o := let ⟨_, _, ⟨ep, e⟩, _⟩ := g; ⟨_, e⟩
theorem DcAt.typ (g : DcAt X H a xs) (I : Inv X pins σ H s) : s.TypeIs (.ref a) "dict" := (g.2.2.2 pins σ s I).typeIs
theorem DcAt.nod (g : DcAt X H a xs) (I : Inv X pins σ H s) : ∀ b, Value.ref a = .ref b → ∃ ob, s.heap.get? b = some ob ∧ ob.dict = .none := fun b q => by
  cases q
  obtain ⟨ob, _, _, h1, h2, _⟩ := g.2.2.2 pins σ s I
  exact ⟨ob, h1, h2.2.1⟩
theorem stored_len (xs : List (NestedKey × Value × Value)) (k : NestedKey) (x v : Value) : (storedV xs k x v).length ≤ xs.length + 1 := by
  unfold storedV
  split <;> simp
end
section
variable {X : Cx} {o e f i value : Expr} {apos cpos pos pos' : Pos} {td ty tx tv : TE}
def tVGet2 (X : Cx) (td ty tx : TE) : TE := fun σ H Q => td σ H fun x H1 => ∃ a, x = .ref a ∧ (∃ xs, DcAt X H1 a xs) ∧ ty σ H1 fun y H2 => tx σ H2 fun z H3 => ∃ k xs, DcAt X H3 a xs ∧ KyAt X H3 y k ∧ ((∃ u r, atV xs k = some u ∧ RelV r u ∧ Q r H3) ∨ (atV xs k = none ∧ Q z H3))
theorem in1u {A : Around} {n : Nat} (h : A.units + 64 < cLine) (hn : n < 64) : A.in1.units + n < cLine := by
  rw [Around.in1_units]
  omega
theorem pe_vget2 (hu : X.A.units + 64 < cLine) (ho : PE X o td) (he : PE X e ty) (hf : PE X f tx) (m : M2 X o "get" apos e f cpos) : PE X (.Call (.Attribute o "get" apos) [e, f] [] cpos) (tVGet2 X td ty tx) := by
  refine ⟨fun pins s σ H Q I h => ?_⟩
  refine wpAny_Call_method m.base m.few m.line PySem.F.plainAttrs_dict PySem.F.slot_dict_get PySem.F.type_dict_get (thn (ho.run pins s σ H _ I h) fun u s1 ⟨x, H1, I1, rx, a, ex, ⟨xs0, g0⟩, q1⟩ => ?_)
  subst ex
  obtain rfl : u = Value.ref a := rx
  refine ⟨g0.typ I1, g0.nod I1, ?_⟩
  rw [m.trees]
  refine Calls.callWith_builtin rfl (Calls.evalArgs_plain (Calls.spliced_cons (thn (he.run pins s1 σ H1 _ I1 q1) fun iv s2 ⟨y, H2, I2, ry, q2⟩ =>
    Calls.spliced_cons (thn (hf.run pins s2 σ H2 _ I2 q2) fun fv s3 ⟨z, H3, I3, rz, k, xs, g, ky, q3⟩ => Calls.spliced_nil ?_))))
  refine get2_v (in1u hu (by decide)) (ky _ _ _ _ I3 ry) g.1 (g.2.2.2 _ _ _ I3) ?_
  rcases q3 with ⟨v, r, e1, rr, q⟩ | ⟨e1, q⟩
  · rw [e1]
    exact ⟨r, H3, I3.tok _, rr, q⟩
  · rw [e1]
    exact ⟨z, H3, I3.tok _, rz, q⟩
/-- y in d -/
def tVIn (X : Cx) (ng : Bool) (ty td : TE) : TE := fun σ H Q => ty σ H fun y H1 => td σ H1 fun x H2 => ∃ a k xs, x = .ref a ∧ DcAt X H2 a xs ∧ KyAt X H2 y k ∧ Q (.bl (if ng = true then !(atV xs k).isSome else (atV xs k).isSome)) H2
theorem pc_vin (hu : X.A.units + 64 < cLine) (hi : PE X i ty) (ho : PE X o td) : PC X .In i o (tVIn X false ty td) := by
  refine ⟨fun pins s σ H Q I h => ?_⟩
  refine thn (hi.run pins s σ H _ I h) fun iv s1 ⟨y, H1, I1, ry, q1⟩ => thn (ho.run pins s1 σ H1 _ I1 q1) fun u s2 ⟨x, H2, I2, rx, a, k, xs, ex, g, ky, q2⟩ => ?_
  subst ex
  obtain rfl : u = Value.ref a := rx
  exact in_v (in1u hu (by decide)) (ky _ _ _ _ I2 ry) g.1 (g.2.2.2 _ _ _ I2) ⟨.bl (atV xs k).isSome, H2, I2.tok _, rfl, by simpa using q2⟩
theorem pc_vnotin (hu : X.A.units + 64 < cLine) (hi : PE X i ty) (ho : PE X o td) : PC X .NotIn i o (tVIn X true ty td) := by
  refine ⟨fun pins s σ H Q I h => ?_⟩
  refine thn (hi.run pins s σ H _ I h) fun iv s1 ⟨y, H1, I1, ry, q1⟩ => thn (ho.run pins s1 σ H1 _ I1 q1) fun u s2 ⟨x, H2, I2, rx, a, k, xs, ex, g, ky, q2⟩ => ?_
  subst ex
  obtain rfl : u = Value.ref a := rx
  exact notIn_v (in1u hu (by decide)) (ky _ _ _ _ I2 ry) g.1 (g.2.2.2 _ _ _ I2) ⟨.bl (!(atV xs k).isSome), H2, I2.tok _, rfl, by simpa using q2⟩
/-- d[y] -/
def tVGet (X : Cx) (td ty : TE) : TE := fun σ H Q => td σ H fun x H1 => ty σ H1 fun y H2 => ∃ a k xs u r, x = .ref a ∧ DcAt X H2 a xs ∧ KyAt X H2 y k ∧ atV xs k = some u ∧ RelV r u ∧ Q r H2
theorem pe_vget (hu : X.A.units + 64 < cLine) (ho : PE X o td) (hi : PE X i ty) (hs : NoSl i) : PE X (.Subscript o i pos) (tVGet X td ty) := by
  refine ⟨fun pins s σ H Q I h => ?_⟩
  refine subD_of PySem.F.slot_dict_getitem.lookup hs (thn (ho.run pins s σ H _ I h) fun u s1 ⟨x, H1, I1, rx, q1⟩ => thn (hi.run pins s1 σ H1 _ I1 q1) fun iv s2 ⟨y, H2, I2, ry, a, k, xs, v, r, ex, g, ky, e1, rr, q2⟩ => ?_)
  subst ex
  obtain rfl : u = Value.ref a := rx
  exact ⟨g.typ I2, getItem_v (in1u hu (by decide)) (ky _ _ _ _ I2 ry) (g.2.2.2 _ _ _ I2) e1 ⟨r, H2, I2.tok _, rr, q2⟩⟩
/-- d[y] = v -/
def sVPut (X : Cx) (td ty tv : TE) : TS := fun D σ H => tv σ H fun v H1 => td σ H1 fun x H2 => ty σ H2 fun y H3 => ∃ a k xs, x = .ref a ∧ DcAt X H3 a xs ∧ xs.length < sizeLine ∧ KyAt X H3 y k ∧ ∀ u w ep, RelV y u → RelV v w → D.nx σ (upd H3 a (.ext (rawV X.w a (storedV xs k u w) ep)))
theorem ps_vput (hu : X.A.units + 64 < cLine) (ho : PE X o td) (hi : PE X i ty) (hv : PE X value tv) (hs : swapsWith value (some (.Subscript o i pos')) pos.line X.env = pure false) :
    PS X (.Assign [.Subscript o i pos'] value pos) (sVPut X td ty tv) := by
  refine ⟨fun pins s σ H D I h => ?_⟩
  refine wpAny_Assign_Subscript (thn (hv.run pins s σ H _ I h) fun r s1 ⟨v, H1, I1, rv, q1⟩ => thn (ho.run pins s1 σ H1 _ I1 q1) fun u s2 ⟨x, H2, I2, rx, q2⟩ => thn (hi.run pins s2 σ H2 _ I2 q2) fun iv s3 ⟨y, H3, I3, ry, a, k, xs, ex, g, hl, ky, q3⟩ => ?_) hs
  subst ex
  obtain rfl : u = Value.ref a := rx
  refine setItem_v (hsz := Nat.le_of_lt hl) (in1u hu (by decide)) (ky _ _ _ _ I3 ry) (g.2.2.2 _ _ _ I3) fun h' hm' hsb => ?_
  obtain ⟨ob, es, ep, h1, h2, h3, h4, h5, h6⟩ := hm'
  obtain ⟨_, _, ⟨ep0, e0⟩, _⟩ := g
  refine ⟨σ, _, d_write I3 (by rw [e0]; exact True.intro) hsb ⟨ob, h1⟩ (raw_ok (ep := ep) h1 h2 h3 h4), q3 iv r ep ry rv⟩
/-- {} -/
def tVNew (X : Cx) : TE := fun _ H Q => ∀ p, H p = none → (p == sysModules) = false → Q (.ref p) (upd H p (.ext (rawV X.w p [] 0)))
theorem raw_new {P : Program} {w : World} {H : Hp} (h : Heap) : ObjOk P w H (h.push { cls := .type "dict", data := .dict #[] }) h.objs.size (.ext (rawV w h.objs.size [] 0)) :=
  raw_ok (es := #[]) (Heap.get?_push_size _ rfl) ⟨rfl, rfl, rfl⟩ rfl rfl
theorem pe_vnew : PE X (.Dict [] [] pos) (tVNew X) := ⟨fun pins s σ H Q I h =>
  wpAny_Dict_empty ⟨.ref s.heap.objs.size, _, I.laid (a := s.heap.objs.size) (o := .ext (rawV X.w s.heap.objs.size [] 0)) (t' := s.toks) (fun _ _ q => Heap.get?_push_of_some _ q) (Nat.le_refl _) (raw_new s.heap), rfl, h _ (I.hok.fresh (Nat.le_refl _)) (beq_eq_false_iff_ne.mpr (Ne.symm (Nat.ne_of_lt I.big)))⟩⟩
/-- {k: v} -/
def tVDisp (X : Cx) (tk tv : TE) : TE := fun σ H Q => ∀ p, H p = none → (p == sysModules) = false → tPairs [(tk, tv)] σ (upd H p (.ext (rawV X.w p [] 0))) fun ps H2 => (∃ e0, H2 p = some (.ext (rawV X.w p [] e0))) ∧ ∃ x y k, ps = [(x, y)] ∧ KyAt X H2 x k ∧ ∀ u w ep, RelV x u → RelV y w → Q (.ref p) (upd H2 p (.ext (rawV X.w p [(k, u, w)] ep)))
theorem pe_vdisp (hu : X.A.units + 64 < cLine) (hk : PE X e ty) (hv : PE X f tv) : PE X (.Dict [some e] [f] pos) (tVDisp X ty tv) := by
  refine ⟨fun pins s σ H Q I q => ?_⟩
  have hn := I.hok.fresh (Nat.le_refl s.heap.objs.size)
  have hb : (s.heap.objs.size == sysModules) = false := beq_eq_false_iff_ne.mpr (Ne.symm (Nat.ne_of_lt I.big))
  have I1 := I.laid (a := s.heap.objs.size) (o := .ext (rawV X.w s.heap.objs.size [] 0)) (h' := s.heap.push { cls := .type "dict", data := .dict #[] }) (t' := s.toks) (fun _ _ q => Heap.get?_push_of_some _ q) (Nat.le_refl _) (raw_new s.heap)
  refine Dict1_v (by omega) (thn ((pps_cons hk hv pps_nil).run pins _ σ _ _ I1 (q _ hn hb)) fun ws s2 ⟨ps, H2, I2, rel, ⟨e0, e⟩, x, y, k, ep, ky, q2⟩ => ?_)
  subst ep
  cases rel with
  | @cons a b as bs h t =>
    cases t
    obtain ⟨b1, b2⟩ := b
    obtain ⟨r1, r2⟩ := h
    obtain ⟨⟨ob, es, h1, h2, h3, h4⟩, _⟩ := I2.hok _ _ e
    refine ⟨b1, b2, k, rfl, ky _ _ _ _ I2 r1, ⟨ob, es, e0, h1, h2, h3, h4, fun x hx => (nomatch hx), List.nodup_nil⟩, fun h' tk hm' hsb => ?_⟩
    obtain ⟨ob', es', ep', g1, g2, g3, g4, g5, g6⟩ := hm'
    exact ⟨.ref s.heap.objs.size, _, d_write I2 (by rw [e]; exact True.intro) hsb ⟨ob', g1⟩ (raw_ok (ep := ep') g1 g2 g3 g4), rfl, q2 b1 b2 ep' r1 r2⟩
end
end L2

set_option Elab.async false
set_option linter.all false
set_option maxRecDepth 100000
/-! Z28: dicts in the value layer. -/
namespace L2
open PySem PySem.Spec PyProof.Rows ZZ
section
variable {X : Cx}
def rVIn (X : Cx) (ng : Bool) : R2 := fun y x H Q => ∃ a k xs, x = .ref a ∧ DcAt X H a xs ∧ KyAt X H y k ∧ Q (.bl (if ng = true then !(atV xs k).isSome else (atV xs k).isSome)) H
theorem op_vin (hu : X.A.units + 64 < cLine) : OpR X (compareOp .In) (rVIn X false) := by
  intro pins s σ H y x v u Q I ry rx ⟨a, k, xs, ex, g, ky, q⟩
  subst ex
  obtain rfl : u = Value.ref a := rx
  exact in_v (in1u hu (by decide)) (ky _ _ _ _ I ry) g.1 (g.2.2.2 _ _ _ I) ⟨.bl (atV xs k).isSome, H, I.tok _, rfl, by simpa using q⟩
theorem op_vnotin (hu : X.A.units + 64 < cLine) : OpR X (compareOp .NotIn) (rVIn X true) := by
  intro pins s σ H y x v u Q I ry rx ⟨a, k, xs, ex, g, ky, q⟩
  subst ex
  obtain rfl : u = Value.ref a := rx
  exact notIn_v (in1u hu (by decide)) (ky _ _ _ _ I ry) g.1 (g.2.2.2 _ _ _ I) ⟨.bl (!(atV xs k).isSome), H, I.tok _, rfl, by simpa using q⟩
end
end L2
namespace ZZ
open PySem PySem.Spec L2
/-- what stands at a key -/
def dFind : List D → List D → NestedKey → Option D
  | k :: ks, v :: vs, q => if nk k = some q then some v else dFind ks vs q
  | _, _, _ => none
def dSet : List D → List D → NestedKey → D → List D
  | k :: ks, v :: vs, q, x => (if nk k = some q then x else v) :: dSet ks vs q x
  | _, vs, _, _ => vs
def dPutK (ks vs : List D) (q : NestedKey) (d : D) : List D := if (dFind ks vs q).isSome then ks else ks ++ [d]
def dPutV (ks vs : List D) (q : NestedKey) (x : D) : List D := if (dFind ks vs q).isSome then dSet ks vs q x else vs ++ [x]
def keyD (d : D) : Option NestedKey := match nk d with
  | some k => if k.depth ≤ 8 ∧ notText k = true then some k else none
  | none => none
def asDc (ce : List Cell) : Val → Option (List D × List D)
  | .im (.dct ks vs) => some (ks, vs)
  | .cell k => match ce[k]? with
    | some (.dct ks vs) => some (ks, vs)
    | _ => none
  | _ => none
def keyV : Val → Option NestedKey
  | .im d => keyD d
  | _ => none
def eDctC : DE := fun _ ce => .ok (.cell ce.length) (ce ++ [.dct [] []])
def eDctI : DE := fun _ ce => .ok (.im (.dct [] [])) ce
/-- {k: v} -/
def eDisp (f g : DE) : DE := fun sl ce => match f sl (ce ++ [.dct [] []]) with
  | .ok (.im d) ce1 => match g sl ce1 with
    | .ok (.im x) ce2 => match ce2[ce.length]?, keyD d with
      | some (.dct [] []), some _ => .ok (.cell ce.length) (ce2.set ce.length (.dct [d] [x]))
      | _, _ => .stuck
    | _ => .stuck
  | _ => .stuck
def tyDc (ce : List Cell) (v : Val) : Bool := (asDc ce v).isSome
/-- d.get(k, x) -/
def kGet2 (v : Val) (vs : List Val) : DE := fun _ ce => match asDc ce v, vs with
  | some (ks, xs), [kv, dv] => match keyV kv with
    | some q => match dFind ks xs q with
      | some x => .ok (.im x) ce
      | none => .ok dv ce
    | none => .stuck
  | _, _ => .stuck
/-- d[k] -/
def kGetV (v u : Val) : DE := fun _ ce => match asDc ce v, keyV u with
  | some (ks, xs), some q => match dFind ks xs q with
    | some x => .ok (.im x) ce
    | none => .stuck
  | _, _ => .stuck
def kInV (ng : Bool) (u v : Val) : DE := fun _ ce => match asDc ce v, keyV u with
  | some (ks, xs), some q => .ok (.im (.bl (if ng = true then !(dFind ks xs q).isSome else (dFind ks xs q).isSome))) ce
  | _, _ => .stuck
/-- d[k] = v -/
def sSetK (fo fi fv : DE) : DSt := sExp fv fun v => sExp fo fun u => sExp fi fun i sl ce => match u, v, i with
  | .cell k, .im x, .im d => match ce[k]?, keyD d with
    | some (.dct ks vs), some q => if ks.length < LINE then .nx sl (ce.set k (.dct (dPutK ks vs q d) (dPutV ks vs q x))) else .stuck
    | _, _ => .stuck
  | _, _, _ => .stuck
section
variable {X : Cx} {pins : List (Addr × Obj)} {σ : L2.St} {F H : Hp} {s : Shared} {Z : Zx}
mutual
theorem nested_of (hK : X.K = Z.K) (I : Inv X pins σ H s) (e : Same F H) : ∀ {d : D} {v : V} {u : Value} {k : NestedKey}, Rep Z F d v → nk d = some k → RelV v u → NestedIs s.heap k u
  | .non, v, u, k, r, t, q => by
    unfold Rep at r; unfold nk at t; cases t; subst r; cases q; exact .none
  | .bl b, v, u, k, r, t, q => by
    unfold Rep at r; unfold nk at t; cases t; subst r; cases q; exact .bool rfl
  | .int i, v, u, k, r, t, q => by
    unfold Rep at r; unfold nk at t; cases t; subst r; obtain ⟨t, rfl⟩ := q; exact .int i t
  | .str i, v, u, k, r, t, q => by
    unfold Rep at r; unfold nk at t; cases t; subst r; obtain ⟨t, rfl⟩ := q; exact .text i t
  | .tup ds, v, u, k, r, t, q => by
    unfold Rep at r; unfold nk at t
    obtain ⟨a, vs, rfl, h1, h2⟩ := r
    cases e1 : nks ds with
    | none => rw [e1] at t; cases t
    | some ks =>
      rw [e1] at t
      cases t
      cases q
      obtain ⟨its, rv, ⟨o, ho, hc, n, hd⟩, _⟩ := I.tuple (show SqT X.K H a vs by rw [hK]; exact same_seqT e h1)
      exact .tup ho hc hd (nesteds_of hK I e h2 e1 (by simpa using rv))
  | .lst _, _, _, _, _, t, _ => by unfold nk at t; cases t
  | .ins _ _, _, _, _, _, t, _ => by unfold nk at t; cases t
  | .wl _, _, _, _, _, t, _ => by unfold nk at t; cases t
  | .dct _ _, _, _, _, _, t, _ => by unfold nk at t; cases t
theorem nesteds_of (hK : X.K = Z.K) (I : Inv X pins σ H s) (e : Same F H) : ∀ {ds : List D} {vs : List V} {us : List Value} {ks : List NestedKey}, Reps Z F ds vs → nks ds = some ks → Vals vs us → NestedAll s.heap ks us
  | [], vs, us, ks, r, t, q => by
    rw [reps_nil_inv r] at q; unfold nks at t; cases t; cases q; exact .nil
  | d :: ds, vs, us, ks, r, t, q => by
    obtain ⟨v, r', rfl, h1, h2⟩ := reps_cons_inv r
    unfold nks at t
    split at t
    · rename_i p ps e1 e2
      cases t
      cases q with
      | cons q1 q2 => exact .cons (nested_of hK I e h1 e1 q1) (nesteds_of hK I e h2 e2 q2)
    · cases t
end
theorem keyD_of {d : D} {q : NestedKey} (h : keyD d = some q) : nk d = some q ∧ q.depth ≤ 8 ∧ notText q = true := by
  unfold keyD at h
  split at h
  · rename_i k e
    split at h
    · rename_i hc
      cases h
      exact ⟨e, hc⟩
    · cases h
  · cases h
theorem kyAt_of {Z : Zy} {A : List Addr} (hK : X.K = Z.K) (e : Same F H) {v : Val} {y : V} {q : NestedKey} (r : VRep Z A F v y) (h : keyV v = some q) : KyAt X H y q := by
  cases v with
  | im d =>
    obtain ⟨h1, h2, h3⟩ := keyD_of h
    exact fun pins σ s u I ry => ⟨nested_of (Z := Z.toZx) hK I e r h1 ry, h2, h3⟩
  | cell k => cases h
  | exn c ds => cases h
theorem ent3_len : ∀ {ks : List D} {kvs vvs : List V} {xs : List (NestedKey × Value × Value)}, Ent3 ks kvs vvs xs → ks.length = xs.length
  | [], [], [], [], _ => rfl
  | k :: ks, x :: kvs, y :: vvs, e :: xs, h => by
    obtain ⟨_, _, _, _, _, h⟩ := h
    simp [ent3_len h]
theorem ent3_keys (hK : X.K = Z.K) (I : Inv X pins σ H s) (e : Same F H) : ∀ {ks : List D} {kvs vvs : List V} {xs : List (NestedKey × Value × Value)}, Reps Z F ks kvs → Ent3 ks kvs vvs xs → ∀ x ∈ xs, KeyIs s.heap x.1 x.2.1
  | [], [], [], [], _, _ => fun x h => nomatch h
  | k :: ks, y :: kvs, z :: vvs, w :: xs, r, h => by
    obtain ⟨v, r', e1, h1, h2⟩ := reps_cons_inv r
    cases e1
    obtain ⟨q1, q2, q3, q4, _, h⟩ := h
    intro x hx
    rcases List.mem_cons.mp hx with rfl | hx
    · exact ⟨nested_of hK I e h1 q1 q4, q2, q3⟩
    · exact ent3_keys hK I e h2 h x hx
theorem dcAt_of {ks : List D} {kvs vvs : List V} {a : Addr} {o : HO} (hK : X.K = Z.K) (hw : X.w = Z.wd) (e : Same F H) (ha : H a = some o) (sh : DShape Z.wd ks kvs vvs a o) (r : Reps Z F ks kvs) : ∃ xs, DcAt X H a xs ∧ Ent3 ks kvs vvs xs ∧ (xs.map (·.1)).Nodup := by
  obtain ⟨h1, h2, xs, ep, rfl, h3, h4⟩ := sh
  refine ⟨xs, ⟨h1, by rw [sizeLine_eq, ← ent3_len h3]; exact h2, ⟨ep, by rw [hw]; exact ha⟩, fun pins σ s I => ?_⟩, h3, h4⟩
  obtain ⟨⟨ob, es, g1, g2, g3, g4⟩, _⟩ := I.hok a _ ha
  exact ⟨ob, es, ep, g1, g2, g3, by rw [hw]; exact g4, ent3_keys hK I e r h3, h4⟩
theorem asDc_rd {Z : Zy} {A : List Addr} {ce : List Cell} {v : Val} {x : V} {ks vs : List D} (hK : X.K = Z.K) (hw : X.w = Z.wd) (so : SO Z.toZx A F ce H) (r : VRep Z A F v x) (e : asDc ce v = some (ks, vs)) :
    ∃ a kvs vvs xs, x = .ref a ∧ DcAt X H a xs ∧ Ent3 ks kvs vvs xs ∧ Reps Z.toZx F ks kvs ∧ Reps Z.toZx F vs vvs ∧ (xs.map (·.1)).Nodup := by
  unfold asDc at e
  split at e
  · cases e
    unfold VRep Rep at r
    obtain ⟨a, o, kvs, vvs, rfl, h1, h2, h3, h4⟩ := r
    obtain ⟨xs, g, g2, g3⟩ := dcAt_of hK hw so.sub (so.sub _ _ h1) h2 h3
    exact ⟨a, kvs, vvs, xs, rfl, g, g2, h3, h4, g3⟩
  · split at e
    · rename_i hk
      cases e
      obtain ⟨a, h1, rfl⟩ := r
      obtain ⟨_, o, kvs, vvs, h2, h3, h4, h5⟩ := so.ok _ a _ h1 hk
      obtain ⟨xs, g, g2, g3⟩ := dcAt_of hK hw so.sub h2 h3 h4
      exact ⟨a, kvs, vvs, xs, rfl, g, g2, h4, h5, g3⟩
    · cases e
  · cases e
theorem dFind_at : ∀ {ks vs : List D} {kvs vvs : List V} {xs : List (NestedKey × Value × Value)} {q : NestedKey}, Ent3 ks kvs vvs xs → Reps Z F vs vvs → match dFind ks vs q with
    | some d => ∃ u r, atV xs q = some u ∧ RelV r u ∧ Rep Z F d r
    | none => atV xs q = none
  | [], vs, [], [], [], q, h, r => by
    cases vs with
    | nil => rfl
    | cons v vs => obtain ⟨_, _, e, _⟩ := reps_cons_inv r; cases e
  | k :: ks, vs, x :: kvs, y :: vvs, e :: xs, q, h, r => by
    obtain ⟨q1, q2, q3, q4, q5, h⟩ := h
    cases vs with
    | nil => exact absurd (reps_nil_inv r) (by simp)
    | cons v vs =>
      obtain ⟨v', r', e1, r1, r2⟩ := reps_cons_inv r
      cases e1
      unfold dFind
      by_cases hk : nk k = some q
      · rw [if_pos hk]
        have : e.1 = q := by rw [hk] at q1; exact (Option.some.inj q1).symm
        exact ⟨e.2.2, y, by simp [atV, this], q5, r1⟩
      · rw [if_neg hk]
        have hne : ¬ e.1 = q := fun z => hk (by rw [q1, z])
        have ih := dFind_at (q := q) h r2
        have e2 : atV (e :: xs) q = atV xs q := by simp [atV, List.find?_cons, hne]
        rw [e2]
        exact ih
theorem dSet_ent {q : NestedKey} {x : D} {z : V} {w : Value} (rz : Rep Z F x z) (rw_ : RelV z w) : ∀ {ks vs : List D} {kvs vvs : List V} {xs : List (NestedKey × Value × Value)}, Ent3 ks kvs vvs xs → Reps Z F vs vvs → ∃ vvs', Ent3 ks kvs vvs' (xs.map (putV q w)) ∧ Reps Z F (dSet ks vs q x) vvs'
  | [], vs, [], [], [], h, r => ⟨[], trivial, by unfold dSet; exact r⟩
  | k :: ks, vs, y :: kvs, t :: vvs, e :: xs, h, r => by
    obtain ⟨q1, q2, q3, q4, q5, h⟩ := h
    cases vs with
    | nil => exact absurd (reps_nil_inv r) (by simp)
    | cons v vs =>
      obtain ⟨v', r', e1, r1, r2⟩ := reps_cons_inv r
      cases e1
      obtain ⟨vvs', g1, g2⟩ := dSet_ent rz rw_ h r2
      by_cases hk : nk k = some q
      · have hq : e.1 = q := by rw [hk] at q1; exact (Option.some.inj q1).symm
        refine ⟨z :: vvs', ?_, by unfold dSet; rw [if_pos hk]; exact reps_cons rz g2⟩
        rw [List.map_cons, putV, if_pos hq]
        exact ⟨q1, q2, q3, q4, rw_, g1⟩
      · have hne : ¬ e.1 = q := fun z => hk (by rw [q1, z])
        refine ⟨t :: vvs', ?_, by unfold dSet; rw [if_neg hk]; exact reps_cons r1 g2⟩
        rw [List.map_cons, putV, if_neg hne]
        exact ⟨q1, q2, q3, q4, q5, g1⟩
theorem ent3_snoc {d : D} {x z : V} {q : NestedKey} {u w : Value} (h1 : nk d = some q) (h2 : q.depth ≤ 8) (h3 : notText q = true) (h4 : RelV x u) (h5 : RelV z w) : ∀ {ks : List D} {kvs vvs : List V} {xs : List (NestedKey × Value × Value)}, Ent3 ks kvs vvs xs → Ent3 (ks ++ [d]) (kvs ++ [x]) (vvs ++ [z]) (xs ++ [(q, u, w)])
  | [], [], [], [], _ => ⟨h1, h2, h3, h4, h5, trivial⟩
  | k :: ks, y :: kvs, t :: vvs, e :: xs, h => by
    obtain ⟨q1, q2, q3, q4, q5, h⟩ := h
    exact ⟨q1, q2, q3, q4, q5, ent3_snoc h1 h2 h3 h4 h5 h⟩
theorem atV_none_keys : ∀ {xs : List (NestedKey × Value × Value)} {q : NestedKey}, atV xs q = none → q ∉ xs.map (·.1)
  | [], q, _ => by simp
  | e :: xs, q, h => by
    by_cases he : e.1 = q
    · simp [atV, he] at h
    · have : atV xs q = none := by simpa [atV, List.find?_cons, he] using h
      have ih := atV_none_keys this
      rw [List.map_cons, List.mem_cons]
      rintro (z | z)
      · exact he z.symm
      · exact ih z
/-- the dict behind a store -/
theorem put_shape {wd : World} {a : Addr} {ks vs : List D} {kvs vvs : List V} {xs : List (NestedKey × Value × Value)} {d x : D} {y z : V} {q : NestedKey} {u w : Value} {ep : Nat} (hs : (a == sysModules) = false) (hl : ks.length < 16777216) (h : Ent3 ks kvs vvs xs) (hn : (xs.map (·.1)).Nodup) (rk : Reps Z F ks kvs) (rv : Reps Z F vs vvs)
    (hd : keyD d = some q) (ry : Rep Z F d y) (ryu : RelV y u) (rz : Rep Z F x z) (rzw : RelV z w) :
    ∃ kvs' vvs', DShape wd (dPutK ks vs q d) kvs' vvs' a (.ext (rawV wd a (storedV xs q u w) ep)) ∧ Reps Z F (dPutK ks vs q d) kvs' ∧ Reps Z F (dPutV ks vs q x) vvs' := by
  obtain ⟨k1, k2, k3⟩ := keyD_of hd
  have hf := dFind_at (q := q) h rv
  unfold dPutK dPutV storedV
  cases e : dFind ks vs q with
  | some v =>
    rw [e] at hf
    obtain ⟨u', r', e1, _, _⟩ := hf
    obtain ⟨vvs', g1, g2⟩ := dSet_ent (q := q) rz rzw h rv
    rw [e1]
    refine ⟨kvs, vvs', ⟨hs, by simpa using Nat.le_of_lt hl, _, ep, rfl, by simpa using g1, ?_⟩, by simpa using rk, by simpa using g2⟩
    simp only [Option.isSome_some, if_true]
    rw [keys_map_putV]
    exact hn
  | none =>
    rw [e] at hf
    rw [show atV xs q = none from hf]
    refine ⟨kvs ++ [y], vvs ++ [z], ⟨hs, by simp; omega, _, ep, rfl, by simpa using ent3_snoc k1 k2 k3 ryu rzw h, ?_⟩, by simpa using rk.append (reps_cons ry reps_nil), by simpa using rv.append (reps_cons rz reps_nil)⟩
    simp only [Option.isSome_none, Bool.false_eq_true, if_false, List.map_append, List.map_cons, List.map_nil]
    refine List.nodup_append.mpr ⟨hn, by simp, fun b hb c hc e => ?_⟩
    simp only [List.mem_singleton] at hc
    rw [e, hc] at hb
    exact atV_none_keys (show atV xs q = none from hf) hb
end
section
variable {X : Cx} {Z : Zy} {W : WX} {o e i value c : Expr} {f g h fo fi fv : DE} {pos pos' apos cpos : Pos}
theorem de_dctC (hw : X.w = Z.wd) : PE X (.Dict [] [] pos) (tE Z W eDctC) := pe_vnew.weak fun σ H Q ⟨A, F, sl, ce, so, hs, p⟩ q hq hb =>
  p (A ++ [q]) F _ _ (List.prefix_append _ _) (Same.refl _) (so.newCell hq ⟨so.fnone hq, _, [], [], upd_same, ⟨hb, by decide, [], 0, by rw [hw], trivial, List.nodup_nil⟩, reps_nil, reps_nil⟩) ⟨q, by rw [← so.len]; simp, rfl⟩
theorem de_dctI (hw : X.w = Z.wd) : PE X (.Dict [] [] pos) (tE Z W eDctI) := pe_vnew.weak fun σ H Q ⟨A, F, sl, ce, so, hs, p⟩ q hq hb => by
  refine p A (upd F q _) _ _ (List.prefix_refl _) (same_up (so.fnone hq)) (so.new hq) ?_
  unfold VRep Rep
  exact ⟨q, _, [], [], rfl, upd_same, ⟨hb, by decide, [], 0, by rw [hw], trivial, List.nodup_nil⟩, reps_nil, reps_nil⟩
theorem de_vget2 {k : Nat} (hK : X.K = Z.K) (hw : X.w = Z.wd) (hr : Room k X.A) (ho : PE X o (tE Z W f)) (he : PE X e (tE Z W g)) (hf : PE X c (tE Z W h))
    (hb : attributeBase o "get" X.env (eval o X.env) = eval o X.env := by rfl) (hl : (apos.endLine == cpos.line) = true := by rfl) (hfew : ((backTo cpos (starEach [e, c] X.env)).all (fun x => !x.1) && (backToKw cpos (keywordEach [] X.env)).all (fun x => x.1.isSome)
      && decide ([e, c].length + ([] : List Keyword).length + (if ([] : List Keyword).isEmpty then 0 else 1) < 30)) = true := by rfl) (htr : backTo cpos (starEach [e, c] X.env) = [(false, eval e X.env), (false, eval c X.env)] := by rfl) :
    PE X (.Call (.Attribute o "get" apos) [e, c] [] cpos) (tE Z W (eMth tyDc kGet2 f [g, h])) :=
  (pe_vget2 (Nat.lt_of_le_of_lt (Nat.le_refl _) hr.units) ho he hf ⟨hb, hfew, hl, htr⟩).weak fun σ H Q q => tE_imp (fun x H1 ⟨A, F, sl, ce, v, so, hs, r, p⟩ => by
    by_cases ht : tyDc ce v = true
    · rw [if_pos ht] at p
      unfold tyDc at ht
      obtain ⟨⟨ks, vs⟩, e0⟩ := Option.isSome_iff_exists.mp ht
      obtain ⟨a, kvs, vvs, xs, rfl, g0, _⟩ := asDc_rd hK hw so r e0
      refine ⟨a, rfl, ⟨xs, g0⟩, A, F, sl, ce, so, hs, (PostE.bind so hs p).imp fun y H2 ⟨A1, F1, ce1, vy, p1, e1, s1, r1, q1⟩ => ?_⟩
      refine ⟨A1, F1, sl, ce1, s1, hs.mono p1 e1, (PostE.bind s1 (hs.mono p1 e1) q1).imp fun z H3 ⟨A2, F2, ce2, vz, p2, e2, s2, r2, q2⟩ => ?_⟩
      unfold eArgs kGet2 at q2
      dsimp only at q2
      split at q2
      · rename_i ks2 xs2 kv dv e3 e4
        cases e4
        split at q2
        · rename_i qk ek
          obtain ⟨a', kvs', vvs', zs, ea, g2, en, _, rv, _⟩ := asDc_rd hK hw s2 ((r.mono p1 e1).mono p2 e2) e3
          cases ea
          refine ⟨qk, zs, g2, kyAt_of hK s2.sub (r1.mono p2 e2) ek, ?_⟩
          have hf := dFind_at (q := qk) en rv
          cases e5 : dFind ks2 xs2 qk with
          | some d =>
            rw [e5] at hf q2
            obtain ⟨u, t, h1, h2, h3⟩ := hf
            exact .inl ⟨u, t, h1, h2, fin_flat s2 q2 h3⟩
          | none =>
            rw [e5] at hf q2
            exact .inr ⟨hf, q2 A2 F2 H3 z (List.prefix_refl _) (Same.refl _) s2 r2⟩
        · exact q2.elim
      · exact q2.elim
    · rw [if_neg ht] at p
      exact p.elim) (tE1 q)
theorem de_vget {k : Nat} (hK : X.K = Z.K) (hw : X.w = Z.wd) (hr : Room k X.A) (ho : PE X o (tE Z W f)) (hi : PE X i (tE Z W g)) (hs : NoSl i := by exact fun _ _ => rfl) : PE X (.Subscript o i pos) (tE Z W (eBin kGetV f g)) :=
  (pe_vget (Nat.lt_of_le_of_lt (Nat.le_refl _) hr.units) ho hi hs).weak fun σ H Q q => tE_imp (fun x H1 q1 => tE_imp (fun y H2 ⟨A, F, sl, ce, v, u, so, hs, rv, ru, p⟩ => by
    unfold kGetV at p
    split at p
    · rename_i ks vs q e1 e2
      obtain ⟨a, kvs, vvs, xs, rfl, g0, en, _, r2, _⟩ := asDc_rd hK hw so rv e1
      have hf := dFind_at (q := q) en r2
      split at p
      · rename_i d e3
        rw [e3] at hf
        obtain ⟨u, t, h1, h2, h3⟩ := hf
        exact ⟨a, q, xs, u, t, rfl, g0, kyAt_of hK so.sub ru e2, h1, h2, fin_flat so p h3⟩
      · exact p.elim
    · exact p.elim) q1) (tE2 q)
theorem ok_inV (hK : X.K = Z.K) (hw : X.w = Z.wd) (ng : Bool) : Ok2 Z W (kInV ng) (rVIn X ng) := by
  intro A F sl ce u v y x H σ Q so hs ru rv p
  unfold kInV at p
  split at p
  · rename_i ks vs q e1 e2
    obtain ⟨a, kvs, vvs, xs, rfl, g0, en, _, r2, _⟩ := asDc_rd hK hw so rv e1
    have hf := dFind_at (q := q) en r2
    refine ⟨a, q, xs, rfl, g0, kyAt_of hK so.sub ru e2, fin_flat so p ?_⟩
    have hh : (dFind ks vs q).isSome = (atV xs q).isSome := by
      cases e3 : dFind ks vs q with
      | some d => rw [e3] at hf; obtain ⟨u, t, h1, _⟩ := hf; rw [h1]; rfl
      | none => rw [e3] at hf; rw [show atV xs q = none from hf]; rfl
    rw [hh]
    exact repB
  · exact p.elim
theorem c_inV {k : Nat} (hK : X.K = Z.K) (hw : X.w = Z.wd) (hr : Room k X.A) : CmpK X Z W .In (kInV false) := ⟨_, op_vin (Nat.lt_of_le_of_lt (Nat.le_refl _) hr.units), ok_inV hK hw false⟩
theorem c_notInV {k : Nat} (hK : X.K = Z.K) (hw : X.w = Z.wd) (hr : Room k X.A) : CmpK X Z W .NotIn (kInV true) := ⟨_, op_vnotin (Nat.lt_of_le_of_lt (Nat.le_refl _) hr.units), ok_inV hK hw true⟩
theorem ds_setK {k : Nat} (hK : X.K = Z.K) (hw : X.w = Z.wd) (hr : Room k X.A) (ho : PE X o (tE Z W fo)) (hi : PE X i (tE Z W fi)) (hv : PE X value (tE Z W fv)) (hs : swapsWith value (some (.Subscript o i pos')) pos.line X.env = pure false := by rfl) : PS X (.Assign [.Subscript o i pos'] value pos) (tS Z W (sSetK fo fi fv)) :=
  (ps_vput (Nat.lt_of_le_of_lt (Nat.le_refl _) hr.units) ho hi hv hs).weak fun D σ H h => tE_imp (fun v H1 ⟨A, F, sl, ce, vv, so, hs, rv, p⟩ => by
    refine ⟨A, F, sl, ce, so, hs, (PostS.exp so hs p).imp fun x H2 ⟨A1, F1, ce1, vx, p1, e1, so1, rx, q1⟩ => ?_⟩
    have rv1 := rv.mono p1 e1
    have hs1 := hs.mono p1 e1
    refine ⟨A1, F1, sl, ce1, so1, hs1, (PostS.exp so1 hs1 q1).imp fun y H3 ⟨A2, F2, ce2, vy, p2, e2, so2, ry, q2⟩ => ?_⟩
    have rv2 := rv1.mono p2 e2
    have rx2 := rx.mono p2 e2
    have hs2 := hs1.mono p2 e2
    split at q2
    · rename_i n d kk _ _
      split at q2
      · rename_i ks vs q hk hkey
        split at q2
        · rename_i hl
          obtain ⟨a, hA, rfl⟩ := rx2
          obtain ⟨hF, ob, kvs, vvs, h2, h3, h4, h5⟩ := so2.ok _ a _ hA hk
          obtain ⟨xs, g0, en, nd⟩ := dcAt_of hK hw so2.sub h2 h3 h4
          refine ⟨a, q, xs, rfl, g0, by rw [sizeLine_eq, ← ent3_len en]; exact hl, kyAt_of (v := .im kk) hK so2.sub ry hkey, fun u w ep ru rw_ => ?_⟩
          obtain ⟨kvs', vvs', g1, g2, g3⟩ := put_shape (wd := Z.wd) (ep := ep) g0.1 hl en nd h4 h5 hkey ry ru rv2 rw_
          rw [hw]
          exact nxS (so2.write (c := .dct (dPutK ks vs q kk) (dPutV ks vs q d)) hA hF ⟨hF, _, kvs', vvs', upd_same, g1, g2, g3⟩) hs2 q2
        · exact q2.elim
      · exact q2.elim
    · exact q2.elim) (tS1 h)
theorem de_disp {k : Nat} (hK : X.K = Z.K) (hw : X.w = Z.wd) (hr : Room k X.A) (hk : PE X e (tE Z W f)) (hv : PE X c (tE Z W g)) : PE X (.Dict [some e] [c] pos) (tE Z W (eDisp f g)) :=
  (pe_vdisp (Nat.lt_of_le_of_lt (Nat.le_refl _) hr.units) hk hv).weak fun σ H Q ⟨A, F, sl, ce, so, hs, p⟩ q hq hb => by
    have so1 : SO Z.toZx (A ++ [q]) F (ce ++ [.dct [] []]) (upd H q (.ext (rawV X.w q [] 0))) := so.newCell hq ⟨so.fnone hq, _, [], [], upd_same, ⟨hb, by decide, [], 0, by rw [hw], trivial, List.nodup_nil⟩, reps_nil, reps_nil⟩
    have hs1 := hs.mono (List.prefix_append A [q]) (Same.refl F)
    refine ⟨A ++ [q], F, sl, _, so1, hs1, ?_⟩
    unfold eDisp at p
    cases e1 : f sl (ce ++ [.dct [] []]) with
    | stuck => rw [e1] at p; exact p.elim
    | exc c ds ce' => rw [e1] at p; exact p.elim
    | ok v ce1 =>
      rw [e1] at p
      cases v with
      | cell n => exact p.elim
      | exn c ds => exact p.elim
      | im d =>
        intro A1 F1 H1 x p1 q1 s1 r1
        refine ⟨A1, F1, sl, ce1, s1, hs1.mono p1 q1, ?_⟩
        dsimp only at p
        cases e2 : g sl ce1 with
        | stuck => rw [e2] at p; exact p.elim
        | exc c ds ce' => rw [e2] at p; exact p.elim
        | ok v ce2 =>
          rw [e2] at p
          cases v with
          | cell n => exact p.elim
          | exn c ds => exact p.elim
          | im t =>
            intro A2 F2 H2 y p2 q2 s2 r2
            dsimp only at p
            split at p
            · rename_i kk hc hkey
              have hA : A2[ce.length]? = some q := pre_get p2 (pre_get p1 (by rw [← so.len]; simp))
              obtain ⟨hF, ob, kvs, vvs, h2, h3, h4, h5⟩ := s2.ok _ q _ hA hc
              obtain ⟨hsm, _, xs, ep, rfl, en, _⟩ := h3
              have hxs : xs = [] := List.length_eq_zero_iff.mp (ent3_len en).symm
              subst hxs
              have hkd := keyD_of hkey
              refine ⟨⟨ep, by rw [hw]; exact h2⟩, x, y, kk, rfl, kyAt_of (v := .im d) hK s2.sub (r1.mono p2 q2) hkey, fun u w ep' ru rw_ => ?_⟩
              refine p A2 F2 _ (.ref q) ((List.prefix_append A [q]).trans (p1.trans p2)) (q1.trans q2) (s2.write (c := .dct [d] [t]) hA hF ⟨hF, _, [x], [y], upd_same, ⟨hb, by simp, _, ep', by rw [hw], ?_, by simp⟩, reps_cons (r1.mono p2 q2) reps_nil, reps_cons r2 reps_nil⟩) ⟨q, hA, rfl⟩
              exact ⟨hkd.1, hkd.2.1, hkd.2.2, ru, rw_, trivial⟩
            · exact p.elim
end
end ZZ

set_option Elab.async false
set_option linter.all false
set_option maxRecDepth 100000
/-! Z29: while; x += text. -/
namespace ZZ
open PySem PySem.Spec L2
/-- a while, so many turns at most -/
def whD (t : DE) (b : DSt) : Nat → DSt
  | 0 => sStuck
  | n + 1 => sExp t fun v => match v with
    | .im (.bl c) => if c then (fun sl ce => match b sl ce with
      | .nx sl' ce' => whD t b n sl' ce'
      | .ct sl' ce' => whD t b n sl' ce'
      | .bk sl' ce' => .nx sl' ce'
      | o => o) else sNil
    | _ => sStuck
theorem whD_mono {t : DE} {b : DSt} : ∀ {n m : Nat} {sl : Sl} {ce : List Cell}, n ≤ m → whD t b n sl ce ≠ .stuck → whD t b m sl ce = whD t b n sl ce
  | 0, m, sl, ce, _, h => absurd rfl h
  | n + 1, 0, sl, ce, hl, _ => absurd hl (by omega)
  | n + 1, m + 1, sl, ce, hl, h => by
    have ih := @whD_mono t b n m
    unfold whD at h ⊢
    unfold sExp at h ⊢
    cases e1 : t sl ce with
    | stuck => rfl
    | exc c ds ce' => rfl
    | ok v ce1 =>
      rw [e1] at h
      dsimp only at h ⊢
      cases v with
      | cell k => rfl
      | exn c ds => rfl
      | im d => cases d with
        | bl c =>
          cases c with
          | false => rfl
          | true =>
            simp only [if_true] at h ⊢
            cases e2 : b sl ce1 with
            | nx sl2 ce2 => rw [e2] at h; exact ih (by omega) h
            | ct sl2 ce2 => rw [e2] at h; exact ih (by omega) h
            | bk sl2 ce2 => rfl
            | rt v ce2 => rfl
            | exc c ds sl2 ce2 => rfl
            | stuck => rfl
        | _ => rfl
open Classical in
noncomputable def sWhile (t : DE) (b : DSt) : DSt := fun sl ce => if h : ∃ n, whD t b n sl ce ≠ .stuck then whD t b (Classical.choose h) sl ce else .stuck
theorem while_eq {t : DE} {b : DSt} {n : Nat} {sl : Sl} {ce : List Cell} (h : whD t b n sl ce ≠ .stuck) : sWhile t b sl ce = whD t b n sl ce := by
  unfold sWhile
  have hx : ∃ n, whD t b n sl ce ≠ .stuck := ⟨n, h⟩
  rw [dif_pos hx]
  have hc := Classical.choose_spec hx
  rcases Nat.le_total n (Classical.choose hx) with q | q
  · exact whD_mono q h
  · exact (whD_mono q hc).symm
theorem while_run {t : DE} {b : DSt} {n : Nat} {sl : Sl} {ce : List Cell} {r : Out} (h : whD t b n sl ce = r) (hr : r ≠ .stuck) : sWhile t b sl ce = r := by
  rw [while_eq (n := n) (by rw [h]; exact hr), h]
section
variable {X : Cx} {Z : Zy} {W : WX} {c : Expr} {body : List Stmt} {ft : DE} {fb : DSt} {pos : Pos}
theorem ds_while (hp : PassesOwn (model X.prog X.w) X.A X.env X.xe) (hc : PT X c (tT Z W ft)) (hb : PSs X body (tS Z W fb)) : PS X (.While c body [] pos) (tS Z W (sWhile ft fb)) := by
  refine (ps_while hp hc hb).weak fun D σ H ⟨A, F, sl, ce, so, hs, p⟩ => ?_
  unfold sWhile at p
  split at p
  · rename_i hx
    generalize hn : Classical.choose hx = n at p
    refine ⟨fun m σ H => ∃ A F sl ce, SO Z.toZx A F ce H ∧ SL Z A F sl σ ∧ PostS Z A F W D (whD ft fb m sl ce), ⟨n, A, F, sl, ce, so, hs, p⟩, ?_⟩
    rintro m σ H ⟨A, F, sl, ce, so, hs, p⟩
    cases m with
    | zero => exact p.elim
    | succ m =>
      refine tE_imp (fun x H1 ⟨A, F, sl, ce, v, so, hs, r, p⟩ => ?_) (tS1 ⟨A, F, sl, ce, so, hs, p⟩)
      split at p
      · rename_i c
        refine ⟨c, rep_bl r, ?_⟩
        cases c with
        | false => exact iteF (nxS so hs p)
        | true =>
          refine iteT ⟨fun σ H => ∃ A F sl ce, SO Z.toZx A F ce H ∧ SL Z A F sl σ ∧ PostS Z A F W D (whD ft fb m sl ce), fun σ' H' q => ⟨m, Nat.lt_succ_self m, q⟩, A, F, sl, ce, so, hs, ?_⟩
          simp only [if_true] at p
          cases eb : fb sl ce with
          | nx sl2 ce2 => rw [eb] at p; exact fun A3 F3 H3 σ3 p3 e3 so3 hs3 => ⟨A3, F3, sl2, ce2, so3, hs3, p.mono p3 e3⟩
          | ct sl2 ce2 => rw [eb] at p; exact fun A3 F3 H3 σ3 p3 e3 so3 hs3 => ⟨A3, F3, sl2, ce2, so3, hs3, p.mono p3 e3⟩
          | bk sl2 ce2 => rw [eb] at p; exact p
          | rt v ce2 => rw [eb] at p; exact p
          | exc c es sl2 ce2 => rw [eb] at p; exact p
          | stuck => rw [eb] at p; exact p.elim
      · exact p.elim
  · exact p.elim
/-- text += text -/
def kAddS (v u : Val) : DE := fun _ ce => match v, u with
  | .im (.str a), .im (.str b) => if a.length + b.length ≤ LINE then .ok (.im (.str (a ++ b))) ce else .stuck
  | _, _ => .stuck
theorem ip_addS : PIp X .Add rAddS := fun pins s σ H x y u v Q I rx ry h => iop_add_str pins s σ H x y u v Q I rx ry h
theorem ok_addS : Ok2 Z W kAddS rAddS := by
  intro A F sl ce v u x y H σ Q so hs rv ru p
  unfold kAddS at p
  split at p
  · split at p
    · rename_i hl
      exact ⟨_, _, rep_str rv, rep_str ru, by rw [sizeLine_eq]; exact hl, fin_flat so p repS⟩
    · exact p.elim
  · exact p.elim
end
end ZZ

set_option Elab.async false
set_option linter.all false
set_option maxRecDepth 100000
/-! Z30: text < text; two names and a star. -/
namespace ZZ
open PySem PySem.Spec L2
def kLtS (v u : Val) : DE := fun _ ce => match v, u with
  | .im (.str a), .im (.str b) => .ok (.im (.bl (decide (a.cps.toList < b.cps.toList)))) ce
  | _, _ => .stuck
section
variable {X : Cx} {Z : Zy} {W : WX}
theorem ok_ltS : Ok2 Z W kLtS (fun x y H Q => ∃ i j, x = .str i ∧ y = .str j ∧ Q (.bl (decide (i.cps.toList < j.cps.toList))) H) := by
  intro A F sl ce v u x y H σ Q so hs rv ru p
  unfold kLtS at p
  split at p
  · exact ⟨_, _, rep_str rv, rep_str ru, fin_flat so p repB⟩
  · exact p.elim
theorem c_ltS : CmpK X Z W .Lt kLtS := ⟨_, op_lt_str, ok_ltS⟩
end
/-! ### for over a list that stays a cell, left alone meanwhile -/
open Classical in
noncomputable def forC (g : GD) (body : DSt) (n : Nat) (ds : List D) : List D → DSt
  | [], sl, ce => if ce[n]? = some (.lst ds) then .nx sl ce else .stuck
  | d :: rs, sl, ce => if ce[n]? = some (.lst ds) then (match g d sl with
    | none => .stuck
    | some sl1 => match body sl1 ce with
      | .nx sl2 ce2 => forC g body n ds rs sl2 ce2
      | .ct sl2 ce2 => forC g body n ds rs sl2 ce2
      | .bk sl2 ce2 => .nx sl2 ce2
      | o => o) else .stuck
open Classical in
noncomputable def sForC (f : DE) (g : GD) (body : DSt) : DSt := fun sl ce => match f sl ce with
  | .ok (.cell n) ce' => match ce'[n]? with
    | some (.lst ds) => forC g body n ds ds sl ce'
    | _ => .stuck
  | .exc c ds ce' => .exc c ds sl ce'
  | _ => .stuck
theorem cell_seq {Z : Zx} {A : List Addr} {F H : Hp} {ce : List Cell} {n : Nat} {a : Addr} {ds : List D} (so : SO Z A F ce H) (ha : A[n]? = some a) (hc : ce[n]? = some (.lst ds)) : ∃ vs, SqL Z.K H a vs ∧ Reps Z F ds vs := by
  obtain ⟨_, vs, h2, h3⟩ := so.ok n a _ ha hc
  exact ⟨vs, SqL.of h2, h3⟩
section
variable {X : Cx} {Z : Zy} {W : WX} {tg e : Expr} {f : DE} {ix : List Nat} {g : GD} {fb : DSt} {body : List Stmt} {pos : Pos}
theorem ds_forC (hK : X.K = Z.K) (hp : PassesOwn (model X.prog X.w) X.A X.env X.xe) (he : PE X e (tE Z W f)) (hg : PG X tg (tG Z ix g)) (hb : PSs X body (tS Z W fb)) (hc : X.calm = true := by rfl)
    (hs : ∀ x, foldedSetIterable e X.env x = pure x := by intro _; rfl) : PS X (.For tg e body [] pos) (tS Z W (sForC f g fb)) := by
  refine (ps_for hp hc (pi_list he) hg hb hs).weak fun D σ H ⟨A, F, sl, ce, so, hs, p⟩ => ⟨A, F, sl, ce, so, hs, ?_⟩
  unfold sForC at p
  cases ef : f sl ce with
  | stuck => rw [ef] at p; exact p.elim
  | exc c ds ce1 =>
    rw [ef] at p
    exact fun A1 F1 H1 dx p1 e1 s1 x1 => p A1 F1 H1 σ dx p1 e1 s1 (hs.mono p1 e1) x1
  | ok v ce1 =>
    rw [ef] at p
    intro A1 F1 H1 x p1 e1 so1 r1
    cases v with
    | im d => exact p.elim
    | exn c ds => exact p.elim
    | cell n =>
      dsimp only at p
      split at p
      · rename_i ds hn
        obtain ⟨a, ha, rfl⟩ := r1
        obtain ⟨vs, hl, _⟩ := cell_seq so1 ha hn
        refine ⟨a, rfl, ⟨vs, by rw [hK]; exact hl⟩, ?_⟩
        rw [hK]
        refine ⟨fun i m σ H => m = ds.length - i ∧ i ≤ ds.length ∧ ∃ A F sl ce, A1 <+: A ∧ Same F1 F ∧ SO Z.toZx A F ce H ∧ SL Z A F sl σ ∧ PostS Z A F W D (forC g fb n ds (ds.drop i) sl ce),
          ⟨ds.length, rfl, Nat.zero_le _, A1, F1, sl, ce1, List.prefix_refl _, Same.refl _, so1, hs.mono p1 e1, p.mono p1 e1⟩, ?_⟩
        rintro i m σ H ⟨rfl, hi, A, F, sl, ce, pA, eF, so, hs, p⟩
        have ha' : A[n]? = some a := by
          obtain ⟨t, rfl⟩ := pA
          rw [List.getElem?_append_left (List.getElem?_eq_some_iff.mp ha).1]
          exact ha
        by_cases hlt : i < ds.length
        · rw [List.drop_eq_getElem_cons hlt] at p
          unfold forC at p
          by_cases hc : ce[n]? = some (.lst ds)
          · rw [if_pos hc] at p
            obtain ⟨vs, hl, rr⟩ := cell_seq so ha' hc
            have hd : ds[i]? = some ds[i] := List.getElem?_eq_getElem hlt
            obtain ⟨v, hv, rv⟩ := rr.get' hd
            refine .inr ⟨⟨vs, v, hl, hv⟩, fun σ H => i + 1 ≤ ds.length ∧ ∃ A F sl ce, A1 <+: A ∧ Same F1 F ∧ SO Z.toZx A F ce H ∧ SL Z A F sl σ ∧ PostS Z A F W D (forC g fb n ds (ds.drop (i + 1)) sl ce), fun σ' H' q => ⟨ds.length - (i + 1), by omega, rfl, q⟩, fun x H' ⟨eH, hy⟩ => ?_⟩
            subst eH
            have hx := hy vs hl
            rw [hv] at hx
            cases hx
            refine ⟨A, F, sl, ce, ds[i], so, hs, rv, ?_⟩
            cases eg : g ds[i] sl with
            | none => rw [eg] at p; exact p.elim
            | some sl1 =>
              rw [eg] at p
              refine ⟨sl1, rfl, fun σ' hs' _ => ⟨A, F, sl1, ce, so, hs', ?_⟩⟩
              simp only at p
              cases eb : fb sl1 ce with
              | nx sl2 ce2 => rw [eb] at p; exact fun A3 F3 H3 σ3 p3 e3 so3 hs3 => ⟨hlt, A3, F3, sl2, ce2, pA.trans p3, eF.trans e3, so3, hs3, p.mono p3 e3⟩
              | ct sl2 ce2 => rw [eb] at p; exact fun A3 F3 H3 σ3 p3 e3 so3 hs3 => ⟨hlt, A3, F3, sl2, ce2, pA.trans p3, eF.trans e3, so3, hs3, p.mono p3 e3⟩
              | bk sl2 ce2 => rw [eb] at p; exact p
              | rt v ce2 => rw [eb] at p; exact p
              | exc c es sl2 ce2 => rw [eb] at p; exact p
              | stuck => rw [eb] at p; exact p.elim
          · rw [if_neg hc] at p
            exact p.elim
        · have : i = ds.length := by omega
          subst this
          rw [List.drop_length] at p
          unfold forC at p
          by_cases hc : ce[n]? = some (.lst ds)
          · rw [if_pos hc] at p
            obtain ⟨vs, hl, rr⟩ := cell_seq so ha' hc
            exact .inl ⟨⟨vs, hl, by rw [rr.length]; exact Nat.le_refl _⟩, p A F H σ (List.prefix_refl _) (Same.refl _) so hs⟩
          · rw [if_neg hc] at p
            exact p.elim
      · exact p.elim
end
theorem bind_star2 {B : List Value → Sem (List (Str × Value))} {p1 p2 pv : Str} (h0 : ∀ a b, B [a, b] = (newTuple [] >>= fun t => pure [(p1, a), (p2, b), (pv, t)])) (h1 : ∀ a b r rs, B (a :: b :: r :: rs) = (newTuple (r :: rs) >>= fun t => pure [(p1, a), (p2, b), (pv, t)])) :
    ∀ us rest : List Value, us.length = [p1, p2].length → B (us ++ rest) = (newTuple rest >>= fun t => pure ([p1, p2].zip us ++ [(pv, t)]))
  | [a, b], [], _ => h0 a b
  | [a, b], r :: rs, _ => h1 a b r rs
end ZZ

set_option Elab.async false
set_option linter.all false
set_option maxRecDepth 100000
/-! Z31: zip(list, text). -/
namespace RZ
open PySem PySem.Spec PyProof.Rows L2
/-- the list at a as it stands at each turn and the text's signs, in new pairs -/
def ItzS (K : PySem.W.Frag) (a : Addr) (z : Str) : It :=
  ⟨fun i H => ∃ (xs : List V) (x : V) (c : Nat), SqL K H a xs ∧ xs[i]? = some x ∧ z.cps[i]? = some c,
    fun i H v H' => ∃ T x c, v = .ref T ∧ H T = none ∧ H' = upd H T (.tup [x, .str ⟨#[c]⟩]) ∧ (∀ xs, SqL K H a xs → xs[i]? = some x) ∧ z.cps[i]? = some c,
    fun i H => ∃ xs : List V, SqL K H a xs ∧ i ≤ xs.length ∧ i ≤ z.cps.size ∧ (xs.length = i ∨ z.cps.size = i)⟩
theorem sep_of {a b z TI TO i1 i2 : Addr} (D : ZipApart z TI TO i1 i2 a b) : ZipSep2 z TI TO i1 i2 [i1, a] [i2] where
  TIz := D.TIz
  TOz := D.TOz
  TITO := D.TITO
  TIi1 := D.TIi1
  mem1 := by simp
  zf1 := by simp only [List.mem_cons, List.not_mem_nil, or_false, not_or]; exact ⟨D.i1z.symm, D.l1z.symm⟩
  Tf1 := by simp only [List.mem_cons, List.not_mem_nil, or_false, not_or]; exact ⟨D.TOi1, D.l1TO.symm⟩
  TIi2 := D.TIi2
  mem2 := by simp
  zf2 := by simp only [List.mem_cons, List.not_mem_nil, or_false]; exact D.i2z.symm
  Tf2 := by simp only [List.mem_cons, List.not_mem_nil, or_false]; exact D.TOi2
  sep1_2 := by simp only [List.mem_cons, List.not_mem_nil, or_false]; exact D.i12
  sep2_1 := by simp only [List.mem_cons, List.not_mem_nil, or_false, not_or]; exact ⟨D.i12.symm, D.l1i2.symm⟩
theorem turn_zipS {P : Program} {w : World} {K : PySem.W.Frag} {elts : List Expr} {kk : Nat} {tpos : Pos} {a b z TI TO i1 i2 : Addr} {y : Str} {t : Tok} (D : ZipApart z TI TO i1 i2 a b) :
    Turn P w K (.Tuple elts kk tpos) (ItzS K a y) [z, TI, TO, i1, i2] z (fun i h => IsZip h z TI TO .none ∧ IsPair h TI (.ref i1) (.ref i2) ∧ (∃ x y, IsPair h TO x y) ∧ h.IsListIter i1 a i ∧ h.IsStrIter i2 (strIterType y) y t i) where
  mem := by simp
  obj := fun i h st c hc => by
    obtain ⟨hz, hTI, ⟨x, y, hTO⟩, ⟨o1, e1, _, d1⟩, ⟨o2, e2, _, d2⟩⟩ := st
    have e' : c = z ∨ c = TI ∨ c = TO ∨ c = i1 ∨ c = i2 := by simpa using hc
    rcases e' with q | q | q | q | q
    · rw [q]; exact ⟨_, hz, fun v q => nomatch q⟩
    · rw [q]; exact ⟨_, hTI, fun v q => nomatch q⟩
    · rw [q]; exact ⟨_, hTO, fun v q => nomatch q⟩
    · rw [q]; exact ⟨o1, e1, fun v q => by rw [d1] at q; cases q⟩
    · rw [q]; exact ⟨o2, e2, fun v q => by rw [d2] at q; cases q⟩
  keep := fun i h h' st k => by
    obtain ⟨hz, hTI, ⟨x, y, hTO⟩, h1, h2⟩ := st
    exact ⟨k z (by simp) _ hz, k TI (by simp) _ hTI, ⟨x, y, k TO (by simp) _ hTO⟩, h1.at fun o q => k i1 (by simp) o q, (let ⟨o, e, c, d⟩ := h2; ⟨o, k i2 (by simp) o e, c, d⟩)⟩
  item := by
    intro X hP hw hK hc i pins s σ H E I hf st hg
    subst hP hw hK
    obtain ⟨hz, hTI, ⟨x0, y0, hTO⟩, h1, h2⟩ := st
    obtain ⟨xs, x, c, hqx, hx, hy⟩ := hg
    obtain ⟨its, rv, p, _⟩ := I.list hqx
    obtain ⟨u, hu, ru⟩ := rv.get hx
    have hzl : z < s.heap.objs.size := Heap.lt_size hz
    have lt1 : i < its.toArray.size := by
      have := (List.getElem?_eq_some_iff.mp hu).1
      simpa using this
    have lt2 : i < y.cps.size := (Array.getElem?_eq_some_iff.mp hy).1
    have d1 := Draws.list (prog := X.prog) (w := X.w) (A := X.A.in1) (I.ok.hd hc) i1 a (fun e => D.l1i1 e) its.toArray
    have d2 := Draws.text (prog := X.prog) (w := X.w) (A := X.A.in1) (I.ok.hd hc) i2 y t
    refine wpAny_pyNext_zipD2_item (sep_of D) d1 d2 hz hTI hTO (And.intro h1 p.isList) h2 lt1 lt2 fun v1 v2 h' tk P1 P2 z' TO' h1' h2' hT hsz hk => ?_
    obtain ⟨c', u', hc', rfl⟩ := P2
    have ec : c' = c := by
      rw [hy] at hc'
      exact (Option.some.inj hc').symm
    subst ec
    have ev : v1 = u := by
      have P1 : its.toArray[i]? = some v1 := P1
      simp only [List.getElem?_toArray] at P1
      rw [hu] at P1
      exact (Option.some.inj P1).symm
    subst ev
    refine ⟨_, rfl, wpAny_letOwnedTupleGo_zip (s := { s with heap := h', toks := tk }) z' fun h'' z'' sb => ?_⟩
    have hT2 : h''.get? s.heap.objs.size = some { cls := .type "tuple", data := .seq #[v1, .str ⟨#[c']⟩ u'] } := (sb.2 _ (Nat.ne_of_gt hzl)).trans hT
    have new : ObjOk X.prog X.w (upd H s.heap.objs.size (.tup [x, .str ⟨#[c']⟩])) h'' s.heap.objs.size (.tup [x, .str ⟨#[c']⟩]) :=
      ⟨by show 2 ≤ sizeLine; decide, [v1, .str ⟨#[c']⟩ u'], .cons ru (.cons ⟨u', rfl⟩ .nil), ⟨_, hT2, rfl, _, rfl⟩⟩
    have I1 : Inv X pins σ (upd H s.heap.objs.size (.tup [x, .str ⟨#[c']⟩])) { s with heap := h'', toks := tk } :=
      I.turnedNew (t' := tk) (ch := [z, TI, TO, i1, i2]) (fun c o hb q => (sb.2 c (fun q' => hb (by simp [q']))).trans (hk c o (fun q' => hb (by simp [q'])) (fun q' => hb (by simp [q'])) (fun q' => hb (by simp [q'])) (fun q' => hb (by simp [q'])) q)) hf (Nat.le_refl _) new
    refine ⟨.ref s.heap.objs.size, _, I1, rfl, ⟨_, x, c', rfl, I.hok.fresh (Nat.le_refl _), rfl, fun l hl => by rw [I.list_inj hl hqx]; exact hx, hy⟩, ⟨z'', ?_, ⟨v1, .str ⟨#[c']⟩ u', ?_⟩, ?_, ?_⟩, fun c hcm => ?_⟩
    · exact (sb.2 _ D.TIz).trans (hk _ _ D.TIz D.TITO D.TIi1 D.TIi2 hTI)
    · exact (sb.2 _ D.TOz).trans TO'
    · exact h1'.1.at fun o q => (sb.2 _ D.i1z).trans q
    · exact (let ⟨o, e, c, d⟩ := h2'; ⟨o, (sb.2 _ D.i2z).trans e, c, d⟩)
    · have hlt : c < s.heap.objs.size := by
        have e' : c = z ∨ c = TI ∨ c = TO ∨ c = i1 ∨ c = i2 := by simpa using hcm
        rcases e' with q | q | q | q | q
        · rw [q]; exact hzl
        · rw [q]; exact Heap.lt_size hTI
        · rw [q]; exact Heap.lt_size hTO
        · rw [q]; obtain ⟨_, e1, _⟩ := h1; exact Heap.lt_size e1
        · rw [q]; obtain ⟨_, e2, _⟩ := h2; exact Heap.lt_size e2
      rw [upd_ne (Nat.ne_of_lt hlt)]
      exact (hf c hcm).1
  done := by
    intro X hP hw hK hc i pins s σ H E I hf st hg
    subst hP hw hK
    obtain ⟨hz, hTI, ⟨x0, y0, hTO⟩, h1, h2⟩ := st
    obtain ⟨xs, hqx, le1, le2, hend⟩ := hg
    obtain ⟨its, rv, p, _⟩ := I.list hqx
    have l1 := rv.length
    have d1 := Draws.list (prog := X.prog) (w := X.w) (A := X.A.in1) (I.ok.hd hc) i1 a (fun e => D.l1i1 e) its.toArray
    have d2 := Draws.text (prog := X.prog) (w := X.w) (A := X.A.in1) (I.ok.hd hc) i2 y t
    refine wpAny_pyNext_zipD2_end (sep_of D) d1 d2 hz hTI hTO (And.intro h1 p.isList) h2 (show i ≤ its.toArray.size by simp; omega) le2 (show i = its.toArray.size ∨ i = y.cps.size by
      rcases hend with q | q
      · exact .inl (by simp; omega)
      · exact .inr q.symm) fun h' tk hk => ⟨rfl, I.turnedL (t' := tk) (ch := [z, TI, TO, i1, i2]) (fun c o hb q =>
      hk c o (fun q' => hb (by simp [q'])) (fun q' => hb (by simp [q'])) (fun q' => hb (by simp [q'])) (fun q' => hb (by simp [q'])) q) hf⟩
  self := fun A i s Q E st h => wpAny_pyIter_zip st.1 h
def iZipS (K : PySem.W.Frag) (ta : TA) : TI := fun σ H R => ta σ H fun vs H1 => ∃ a y xs, vs = [.ref a, .str y] ∧ SqL K H1 a xs ∧ R (ItzS K a y) H1
theorem pi_zipS {X : Cx} {e e2 : Expr} {ta : TA} {p pos tpos : Pos} {elts : List Expr} {kk : Nat} (hg : Gl X "zip") (hm : X.mg "zip" = none) (ha : PA X [e, e2] ta)
    (hs : starEach [e, e2] X.env = (false, eval e X.env) :: starEach [e2] X.env := by rfl) (hpl : (backTo pos (starEach [e2] X.env)).any (·.1) = false := by rfl) :
    PI X (.Tuple elts kk tpos) (.Call (.Name "zip" p) [e, e2] [] pos) (iZipS X.K ta) := by
  refine ⟨fun pins s σ H R I h => ?_⟩
  refine Call_ (ld_blt I hg hm PyProof.Rows.boot_zip (PyProof.Rows.callWith_type1 (thn (ha.run pos pins s σ H _ I h) fun us s1 ⟨vs, H1, I1, r1, q1⟩ => ?_) hs hpl))
  obtain ⟨a, y, xs, ex, hqx, q⟩ := q1
  subst ex
  cases r1 with
  | cons r rr =>
    cases rr with
    | cons r' rr =>
      cases rr
      cases r
      obtain ⟨t, rfl⟩ := r'
      have fresh5 : ∀ c, c ∈ [s1.heap.objs.size + 4, s1.heap.objs.size + 2, s1.heap.objs.size + 3, s1.heap.objs.size, s1.heap.objs.size + 1] → FpOk X pins H1 c := fun c hcm => by
        have e' : c = s1.heap.objs.size + 4 ∨ c = s1.heap.objs.size + 2 ∨ c = s1.heap.objs.size + 3 ∨ c = s1.heap.objs.size ∨ c = s1.heap.objs.size + 1 := by simpa using hcm
        have hle : s1.heap.objs.size ≤ c := by
          rcases e' with z | z | z | z | z
          · rw [z]; exact Nat.le_add_right _ _
          · rw [z]; exact Nat.le_add_right _ _
          · rw [z]; exact Nat.le_add_right _ _
          · rw [z]; exact Nat.le_refl _
          · rw [z]; exact Nat.le_add_right _ _
        exact I1.fpOk hle (I1.hok.fresh hle)
      obtain ⟨its, rv, p1, _⟩ := I1.list hqx
      refine zip_begins2 (begins_list a its.toArray) (begins_text y t) p1.isList trivial fun h' hz hTI hTO h1 h2 hsz hk => wpAny_pyIter_zip hz ?_
      have I2 : Inv X pins σ H1 { s1 with heap := h' } := I1.kept (t' := s1.toks) hk
      exact ⟨s1.heap.objs.size + 4, [s1.heap.objs.size + 4, s1.heap.objs.size + 2, s1.heap.objs.size + 3, s1.heap.objs.size, s1.heap.objs.size + 1], _, _, H1, rfl, I2, turn_zipS (t := t) (PySem.W.ktu_apart s1.heap.objs.size a a p1.lt p1.lt), ⟨hz, hTI, ⟨_, _, hTO⟩, ⟨_, h1, rfl, rfl⟩, ⟨_, h2, rfl, rfl⟩⟩, fresh5, q⟩
end RZ
namespace ZZ
open PySem PySem.Spec L2
def kZipS : List Val → Option (List D)
  | [v, .im (.str z)] => match wlst v with
    | some xs => some (zipD xs (signs z))
    | _ => none
  | _ => none
section
variable {X : Cx} {Z : Zy} {W : WX}
theorem jok_zS {F : Hp} {a : Addr} {ws : List V} {xs : List D} {z : Str} (h1 : SqL Z.K F a ws) (h2 : Reps Z.toZx F xs ws) : JOk Z.toZx F (RZ.ItzS Z.K a z) (zipD xs (signs z)) := by
  intro F1 H i e1 e2
  have hl := e2.seq (e1.seq h1)
  have ll := h2.length
  have hsz : (signs z).length = z.cps.size := by simp [signs]
  have hz : (zipD xs (signs z)).length = min xs.length z.cps.size := by simp [zipD, hsz]
  refine ⟨fun h => ⟨ws, hl, by omega, by omega, by omega⟩, fun d hd => ?_⟩
  have hi : i < min xs.length z.cps.size := by rw [← hz]; exact (List.getElem?_eq_some_iff.mp hd).1
  obtain ⟨v, hv, rv⟩ := h2.get' (List.getElem?_eq_getElem (show i < xs.length by omega))
  have hc : z.cps[i]? = some (z.cps[i]'(by omega)) := Array.getElem?_eq_getElem (by omega)
  refine ⟨⟨ws, v, _, hl, hv, hc⟩, fun x H' ⟨T, y, c, ex, hT, eH, hy, hc'⟩ => .inr ⟨T, _, hT, eH, ?_⟩⟩
  have e3 := hy ws hl
  rw [hv] at e3
  cases e3
  have es : (signs z)[i]? = some (.str ⟨#[c]⟩) := by
    unfold signs
    rw [List.getElem?_map, Array.getElem?_toList, hc']
    rfl
  have ex' : xs[i]? = some (xs[i]'(by omega)) := List.getElem?_eq_getElem (by omega)
  have ed : d = .tup [xs[i]'(by omega), .str ⟨#[c]⟩] := by
    unfold zipD at hd
    rw [List.getElem?_map] at hd
    have : (List.zip xs (signs z))[i]? = some (xs[i]'(by omega), .str ⟨#[c]⟩) := List.getElem?_zip_eq_some.mpr ⟨ex', es⟩
    rw [this] at hd
    exact (Option.some.inj hd).symm
  subst ed
  rw [ex]
  exact rep_pair (same_none e2 hT) (rv.mono e1) repS
theorem di_zipS {e e2 : Expr} {p tpos pos : Pos} {elts : List Expr} {kk : Nat} {f g : DE} (hK : X.K = Z.K) (hm : X.mg "zip" = none) (ha : PA X [e, e2] (tArgs Z W [f, g])) (hg : Gl X "zip" := by rfl)
    (hs : starEach [e, e2] X.env = (false, eval e X.env) :: starEach [e2] X.env := by rfl) (hpl : (backTo pos (starEach [e2] X.env)).any (·.1) = false := by rfl) :
    PI X (.Tuple elts kk tpos) (.Call (.Name "zip" p) [e, e2] [] pos) (tI Z W (iArgs [f, g] kZipS)) :=
  (RZ.pi_zipS hg hm ha hs hpl).weak fun σ H R h => tArgs_imp (fun xs H1 ⟨A, F, ce, vs, ds, so, r, hk, q⟩ => by
    rw [hK]
    unfold kZipS at hk
    split at hk
    · split at hk
      · rename_i z xs e1
        cases hk
        replace r := vreps2 r
        obtain ⟨x, y, rfl, r, r'⟩ := r
        obtain ⟨a, ws, rfl, h1, h2⟩ := wlst_rd so r e1
        obtain rfl := rep_str r'
        exact ⟨a, _, ws, rfl, so.sub.seq h1, q _ (jok_zS h1 h2)⟩
      · cases hk
    · cases hk) (tIN h)
end
end ZZ

set_option Elab.async false
set_option linter.all false
set_option maxRecDepth 100000
/-! M0: texts and equality on the value layer, with no program in sight. -/
namespace ZZ
open PySem PySem.Spec L2
def st (l : List Nat) : Str := ⟨l.toArray⟩
theorem st_len (l : List Nat) : (st l).length = l.length := by simp [st, Str.length]
theorem st_app (a b : List Nat) : st a ++ st b = st (a ++ b) := by
  show Str.append (st a) (st b) = _
  simp [st, Str.append]
theorem st_inj {a b : List Nat} (h : st a = st b) : a = b := by
  have := congrArg (fun s : Str => s.cps.toList) h
  simpa [st] using this
theorem st_eq {a b : List Nat} : (st a = st b) ↔ a = b := ⟨st_inj, fun h => by rw [h]⟩
theorem st_signs (l : List Nat) : ZZ.signs (st l) = l.map fun c => .str (st [c]) := by simp [ZZ.signs, st]
open PySem.StrLaws Builtin.Str in
theorem occ_cnt (l : List Nat) (c : Nat) : ∀ (n i : Nat) (acc : Array Nat) (free : Nat), i + n = l.length + 1 → free ≤ i → acc.size ≤ i →
    (forIn (List.range' i n) (acc, free) (occBody (st l) ⟨#[c]⟩ (st l).length ((st l).length + 1))).run.fst.size = acc.size + (l.drop i).count c
  | 0, i, acc, free, h1, h2, h3 => by
    rw [List.drop_eq_nil_of_le (by omega)]
    simp
  | n + 1, i, acc, free, h1, h2, h3 => by
    rw [List.range'_succ, List.forIn_cons]
    unfold occBody
    have key : (i + (⟨#[c]⟩ : Str).length ≤ (st l).length ∧ subAt (st l) ⟨#[c]⟩ i = true) ↔ l[i]? = some c := by
      have := subAt_one (st l) c i
      simpa [st] using this
    by_cases hc : l[i]? = some c
    · have hk := key.mpr hc
      have hi : i < l.length := (List.getElem?_eq_some_iff.mp hc).1
      rw [if_pos ⟨⟨⟨by rw [st_len]; simp only; omega, h2⟩, hk.1⟩, hk.2⟩]
      have e : l.drop i = c :: l.drop (i + 1) := by
        rw [List.drop_eq_getElem_cons hi]
        congr 1
        exact (List.getElem?_eq_some_iff.mp hc).2
      have ih := occ_cnt l c n (i + 1) (acc.push i) (i + (⟨#[c]⟩ : Str).length) (by omega) (by show i + 1 ≤ i + 1; omega) (by simp; omega)
      rw [e, List.count_cons_self]
      show (forIn (List.range' (i + 1) n) (acc.push i, i + (⟨#[c]⟩ : Str).length) (occBody (st l) ⟨#[c]⟩ (st l).length ((st l).length + 1))).run.fst.size = _
      rw [ih]
      simp
      omega
    · rw [if_neg fun h => hc (key.mp ⟨h.1.2, h.2⟩)]
      have ih := occ_cnt l c n (i + 1) acc free (by omega) (by omega) (by omega)
      show (forIn (List.range' (i + 1) n) (acc, free) (occBody (st l) ⟨#[c]⟩ (st l).length ((st l).length + 1))).run.fst.size = _
      rw [ih]
      by_cases hi : i < l.length
      · rw [List.drop_eq_getElem_cons hi, List.count_cons_of_ne]
        intro h
        exact hc (by rw [List.getElem?_eq_getElem hi, h])
      · rw [List.drop_eq_nil_of_le (by omega), List.drop_eq_nil_of_le (by omega)]
theorem st_count (l : List Nat) (c : Nat) : Txt.count (st l) (st [c]) = (l.count c : Nat) := by
  unfold Txt.count
  have e : st [c] = ⟨#[c]⟩ := rfl
  rw [e, StrLaws.occ_eq]
  have := occ_cnt l c (l.length + 1) 0 #[] 0 (by omega) (by omega) (by simp)
  rw [st_len] at this ⊢
  simp only [Nat.sub_zero]
  rw [Array.length_toList, this]
  simp
theorem foldl_app (c : Nat) : ∀ (n : Nat) (a : Array Nat), (List.replicate n #[c]).foldl (· ++ ·) a = a ++ (List.replicate n c).toArray
  | 0, a => by simp
  | n + 1, a => by
    rw [List.replicate_succ, List.foldl_cons, foldl_app c n, List.replicate_succ]
    apply Array.ext'
    simp
theorem st_mul (c : Nat) (n : Int) : Txt.mul (st [c]) n = st (List.replicate n.toNat c) := by
  unfold Txt.mul
  split
  · have : n.toNat = 0 := by omega
    rw [this]
    rfl
  · split
    · rename_i h1 h2
      simp [st_len] at h2
      rw [h2]
      rfl
    · have e : (st [c]).cps = #[c] := rfl
      rw [e, foldl_app]
      simp [st]
theorem join_flat : ∀ ls : List (List Nat), Str.join (st []) (ls.map st) = st ls.flatten
  | [] => rfl
  | [a] => by simp [Str.join]
  | a :: b :: ls => by
    show st a ++ st [] ++ Str.join (st []) ((b :: ls).map st) = _
    rw [join_flat (b :: ls), st_app, st_app]
    simp
theorem st_join (ls : List (List Nat)) : Txt.join (st []) (ls.map st) = st ls.flatten := by
  rw [TL.join_eq, join_flat]
/-! ### equality -/
theorem eq_int {i j : Int} {neg : Bool} {sl : Sl} {ce : List Cell} : kEqG neg (.im (.int i)) (.im (.int j)) sl ce = .ok (.im (.bl (if neg then !decide (i = j) else decide (i = j)))) ce := by
  unfold kEqG
  simp only [asIm, pyEq, toPy]
  rw [if_pos ⟨rfl, rfl⟩]
  simp only [PyData.eqv]
  have : (i == j) = decide (i = j) := by rw [Bool.eq_iff_iff]; simp
  rw [this]
theorem shaped_str {s : Str} (h : PyData.strOk s = true) : SeqAt.shaped (.str s) = true := by
  unfold SeqAt.shaped
  rw [Bool.and_eq_true]
  exact ⟨h, rfl⟩
theorem eq_str {a b : Str} {neg : Bool} {sl : Sl} {ce : List Cell} (ha : PyData.strOk a = true) (hb : PyData.strOk b = true) : kEqG neg (.im (.str a)) (.im (.str b)) sl ce = .ok (.im (.bl (if neg then !decide (a = b) else decide (a = b)))) ce := by
  unfold kEqG
  simp only [asIm, pyEq, toPy]
  rw [if_pos ⟨shaped_str ha, shaped_str hb⟩]
  simp only [PyData.eqv]
  have : (a == b) = decide (a = b) := by rw [Bool.eq_iff_iff]; simp
  rw [this]
/-! ### the store -/
theorem ce_get (ce l : List Cell) (k : Nat) : (ce ++ l)[ce.length + k]? = l[k]? := by
  rw [List.getElem?_append_right (by omega)]
  congr 1
  omega
theorem ce_get0 (ce l : List Cell) : (ce ++ l)[ce.length]? = l[0]? := ce_get ce l 0
theorem ce_set (ce l : List Cell) (k : Nat) (c : Cell) : (ce ++ l).set (ce.length + k) c = ce ++ l.set k c := by
  rw [List.set_append_right _ _ (by omega)]
  congr 2
  omega
theorem ce_set0 (ce l : List Cell) (c : Cell) : (ce ++ l).set ce.length c = ce ++ l.set 0 c := ce_set ce l 0 c
theorem ce_take (ce l : List Cell) : (ce ++ l).take ce.length = ce := by simp
end ZZ

set_option Elab.async false
set_option linter.all false
set_option maxRecDepth 100000
/-! M1: records as lists of signs, their heights, meet and join: plain mathematics. -/
namespace ZZ
open PySem PySem.Spec L2
inductive Sg where
  | l | e | g
  deriving DecidableEq
def Sg.code : Sg → Nat
  | .l => 60 | .e => 61 | .g => 62
def txt (s : List Sg) : Str := st (s.map Sg.code)
theorem code_inj {a b : Sg} (h : a.code = b.code) : a = b := by cases a <;> cases b <;> first | rfl | cases h
theorem map_code_inj : ∀ {a b : List Sg}, a.map Sg.code = b.map Sg.code → a = b
  | [], [], _ => rfl
  | [], _ :: _, h => by simp at h
  | _ :: _, [], h => by simp at h
  | x :: a, y :: b, h => by
    simp only [List.map_cons, List.cons.injEq] at h
    rw [code_inj h.1, map_code_inj h.2]
theorem txt_inj {a b : List Sg} (h : txt a = txt b) : a = b := map_code_inj (st_inj h)
theorem txt_eq {a b : List Sg} : (txt a = txt b) ↔ a = b := ⟨txt_inj, fun h => by rw [h]⟩
theorem txt_ok (s : List Sg) : PyData.strOk (txt s) = true := by
  unfold PyData.strOk txt st
  rw [← Array.all_toList]
  simp only [List.all_map, List.all_eq_true]
  intro x _
  cases x <;> decide
theorem txt_len (s : List Sg) : (txt s).length = s.length := by rw [txt, st_len, List.length_map]
theorem txt_app (a b : List Sg) : txt a ++ txt b = txt (a ++ b) := by rw [txt, txt, st_app, txt, List.map_append]
theorem txt_nil : txt [] = ("" : Str) := by decide +kernel
theorem txt_l : txt [.l] = ("<" : Str) := by decide +kernel
theorem txt_e : txt [.e] = ("=" : Str) := by decide +kernel
theorem txt_g : txt [.g] = (">" : Str) := by decide +kernel
theorem txt_signs (s : List Sg) : ZZ.signs (txt s) = s.map fun c => .str (txt [c]) := by rw [txt, st_signs, List.map_map]; rfl
theorem txt_count (s : List Sg) (c : Sg) : Txt.count (txt s) (txt [c]) = (s.count c : Nat) := by
  rw [txt, txt, List.map_cons, List.map_nil, st_count]
  congr 1
  induction s with
  | nil => rfl
  | cons a s ih =>
    rw [List.map_cons, List.count_cons, List.count_cons, ih]
    congr 1
    by_cases h : a = c
    · rw [h]; simp
    · have : ¬ a.code = c.code := fun z => h (code_inj z)
      simp [h, this]
theorem txt_mul (c : Sg) (n : Int) : Txt.mul (txt [c]) n = txt (List.replicate n.toNat c) := by
  rw [txt, List.map_cons, List.map_nil, st_mul, txt, List.map_replicate]
theorem txt_join (ls : List (List Sg)) : Txt.join (txt []) (ls.map txt) = txt ls.flatten := by
  have e : ls.map txt = (ls.map fun s => s.map Sg.code).map st := by rw [List.map_map]; rfl
  rw [e, txt, List.map_nil, st_join, txt]
  congr 1
  induction ls with
  | nil => rfl
  | cons a ls ih => simp [ih]
def lefts (s : List Sg) : Nat := s.length - s.count .g
def rights (s : List Sg) : Nat := s.length - s.count .l
theorem cnt_le (s : List Sg) (c : Sg) : s.count c ≤ s.length := List.count_le_length
theorem lefts_cons (c : Sg) (s : List Sg) : lefts (c :: s) = lefts s + (if c = .g then 0 else 1) := by
  have := cnt_le s .g
  unfold lefts
  rw [List.count_cons, List.length_cons]
  cases c <;> simp <;> omega
theorem rights_cons (c : Sg) (s : List Sg) : rights (c :: s) = rights s + (if c = .l then 0 else 1) := by
  have := cnt_le s .l
  unfold rights
  rw [List.count_cons, List.length_cons]
  cases c <;> simp <;> omega
theorem lefts_app (a b : List Sg) : lefts (a ++ b) = lefts a + lefts b := by
  have h1 := cnt_le a .g
  have h2 := cnt_le b .g
  unfold lefts
  rw [List.count_append, List.length_append]
  omega
theorem rights_app (a b : List Sg) : rights (a ++ b) = rights a + rights b := by
  have h1 := cnt_le a .l
  have h2 := cnt_le b .l
  unfold rights
  rw [List.count_append, List.length_append]
  omega
theorem len_le (s : List Sg) : s.length ≤ lefts s + rights s := by
  induction s with
  | nil => simp
  | cons c s ih =>
    rw [lefts_cons, rights_cons, List.length_cons]
    cases c <;> simp <;> omega
/-! ### heights -/
def hts : Nat → List Sg → List (Nat × Nat)
  | _, [] => []
  | r, .l :: s => (r, r) :: hts r s
  | r, .e :: s => (r, r + 1) :: hts (r + 1) s
  | r, .g :: s => hts (r + 1) s
def fh : Nat → List (Nat × Nat) → Nat → List Sg
  | r, [], R => List.replicate (R - r) .g
  | r, (a, b) :: ps, R => List.replicate (a - r) .g ++ (if a = b then Sg.l else Sg.e) :: fh b ps R
def Okh : Nat → List (Nat × Nat) → Nat → Prop
  | r, [], R => r ≤ R
  | r, (a, b) :: ps, R => r ≤ a ∧ a ≤ b ∧ b ≤ a + 1 ∧ Okh b ps R
theorem hts_len : ∀ (r : Nat) (s : List Sg), (hts r s).length = lefts s
  | _, [] => rfl
  | r, .l :: s => by rw [hts, List.length_cons, hts_len, lefts_cons]; rfl
  | r, .e :: s => by rw [hts, List.length_cons, hts_len, lefts_cons]; rfl
  | r, .g :: s => by rw [hts, hts_len, lefts_cons]; rfl
theorem okh_mono : ∀ {r r' : Nat} {ps : List (Nat × Nat)} {R : Nat}, r' ≤ r → Okh r ps R → Okh r' ps R
  | r, r', [], R, h, k => Nat.le_trans h k
  | r, r', (a, b) :: ps, R, h, k => ⟨Nat.le_trans h k.1, k.2⟩
theorem hts_ok : ∀ (r : Nat) (s : List Sg), Okh r (hts r s) (r + rights s)
  | r, [] => Nat.le_add_right _ _
  | r, .l :: s => ⟨Nat.le_refl _, Nat.le_refl _, Nat.le_succ _, by rw [rights_cons]; exact hts_ok r s⟩
  | r, .e :: s => ⟨Nat.le_refl _, Nat.le_succ _, Nat.le_refl _, by
      have := hts_ok (r + 1) s
      have e : r + rights (.e :: s) = r + 1 + rights s := by rw [rights_cons]; simp; omega
      rw [e]
      exact this⟩
  | r, .g :: s => by
    rw [rights_cons]
    have := hts_ok (r + 1) s
    rw [show r + 1 + rights s = r + (rights s + 1) by omega] at this
    exact okh_mono (Nat.le_succ _) this
theorem okh_le : ∀ {r : Nat} {ps : List (Nat × Nat)} {R : Nat}, Okh r ps R → r ≤ R
  | r, [], R, h => h
  | r, (a, b) :: ps, R, h => by
    have := okh_le h.2.2.2
    have := h.1
    have := h.2.1
    omega
theorem fh_g {r : Nat} {ps : List (Nat × Nat)} {R : Nat} (h : Okh (r + 1) ps R) : fh r ps R = .g :: fh (r + 1) ps R := by
  cases ps with
  | nil =>
    have : r + 1 ≤ R := h
    rw [fh, fh, show R - r = (R - (r + 1)) + 1 by omega, List.replicate_succ]
  | cons p ps =>
    obtain ⟨a, b⟩ := p
    have : r + 1 ≤ a := h.1
    rw [fh, fh, show a - r = (a - (r + 1)) + 1 by omega, List.replicate_succ]
    rfl
theorem fh_hts : ∀ (r : Nat) (s : List Sg), fh r (hts r s) (r + rights s) = s
  | r, [] => by simp [hts, fh, rights]
  | r, .l :: s => by
    rw [hts, fh, rights_cons]
    simp [fh_hts r s]
  | r, .e :: s => by
    rw [hts, fh, rights_cons]
    have := fh_hts (r + 1) s
    rw [show r + 1 + rights s = r + (rights s + 1) by omega] at this
    simp [this]
  | r, .g :: s => by
    have h := hts_ok (r + 1) s
    have := fh_hts (r + 1) s
    rw [hts, rights_cons]
    rw [show r + 1 + rights s = r + (rights s + 1) by omega] at h this
    show fh r (hts (r + 1) s) (r + (rights s + 1)) = _
    rw [fh_g h, this]
theorem hts_rep : ∀ (n r : Nat) (s : List Sg), hts r (List.replicate n .g ++ s) = hts (r + n) s
  | 0, r, s => by simp
  | n + 1, r, s => by
    rw [List.replicate_succ, List.cons_append, hts, hts_rep n (r + 1) s]
    congr 1
    omega
theorem hts_fh : ∀ {r : Nat} {ps : List (Nat × Nat)} {R : Nat}, Okh r ps R → hts r (fh r ps R) = ps
  | r, [], R, h => by
    have := hts_rep (R - r) r []
    rw [List.append_nil] at this
    rw [fh, this]
    rfl
  | r, (a, b) :: ps, R, ⟨h1, h2, h3, h4⟩ => by
    rw [fh, hts_rep]
    have ih := hts_fh h4
    rw [show r + (a - r) = a by omega]
    by_cases hab : a = b
    · subst hab
      simp only [if_true, hts, ih]
    · have : b = a + 1 := by omega
      subst this
      simp only [if_neg hab, hts, ih]
theorem rights_fh : ∀ {r : Nat} {ps : List (Nat × Nat)} {R : Nat}, Okh r ps R → r + rights (fh r ps R) = R
  | r, [], R, h => by
    have : r ≤ R := h
    rw [fh]
    simp [rights, List.count_replicate]
    omega
  | r, (a, b) :: ps, R, ⟨h1, h2, h3, h4⟩ => by
    have ih := rights_fh h4
    rw [fh, rights_app, rights_cons]
    have : rights (List.replicate (a - r) Sg.g) = a - r := by simp [rights, List.count_replicate]
    rw [this]
    by_cases hab : a = b
    · subst hab
      simp
      omega
    · simp [hab]
      omega
theorem lefts_fh {r : Nat} {ps : List (Nat × Nat)} {R : Nat} (h : Okh r ps R) : lefts (fh r ps R) = ps.length := by
  rw [← hts_len r, hts_fh h]
/-! ### meet, join, order -/
def mnp (p q : Nat × Nat) : Nat × Nat := (min p.1 q.1, min p.2 q.2)
def mxp (p q : Nat × Nat) : Nat × Nat := (max p.1 q.1, max p.2 q.2)
def lep (p q : Nat × Nat) : Bool := decide (p.1 ≤ q.1) && decide (p.2 ≤ q.2)
def H (s : List Sg) : List (Nat × Nat) := hts 0 s
def meet (s t : List Sg) : List Sg := fh 0 (List.zipWith mnp (H s) (H t)) (rights s)
def join (s t : List Sg) : List Sg := fh 0 (List.zipWith mxp (H s) (H t)) (rights s)
def leb (s t : List Sg) : Bool := (List.zipWith lep (H s) (H t)).all id
theorem ok_mn : ∀ {r r' : Nat} {ps qs : List (Nat × Nat)} {R : Nat}, Okh r ps R → Okh r' qs R → ps.length = qs.length → Okh (min r r') (List.zipWith mnp ps qs) R
  | r, r', [], [], R, h, h', _ => by have : r ≤ R := h; show min r r' ≤ R; omega
  | r, r', (a, b) :: ps, (c, d) :: qs, R, ⟨h1, h2, h3, h4⟩, ⟨k1, k2, k3, k4⟩, hl => by
    refine ⟨?_, ?_, ?_, ok_mn h4 k4 (by simpa using hl)⟩ <;> simp only [mnp] <;> omega
  | _, _, [], _ :: _, _, _, _, hl => by simp at hl
  | _, _, _ :: _, [], _, _, _, hl => by simp at hl
theorem ok_mx : ∀ {r r' : Nat} {ps qs : List (Nat × Nat)} {R : Nat}, Okh r ps R → Okh r' qs R → ps.length = qs.length → Okh (max r r') (List.zipWith mxp ps qs) R
  | r, r', [], [], R, h, h', _ => by have : r ≤ R := h; have : r' ≤ R := h'; show max r r' ≤ R; omega
  | r, r', (a, b) :: ps, (c, d) :: qs, R, ⟨h1, h2, h3, h4⟩, ⟨k1, k2, k3, k4⟩, hl => by
    refine ⟨?_, ?_, ?_, ok_mx h4 k4 (by simpa using hl)⟩ <;> simp only [mxp] <;> omega
  | _, _, [], _ :: _, _, _, _, hl => by simp at hl
  | _, _, _ :: _, [], _, _, _, hl => by simp at hl
/-- of the shape L, R -/
def In (L R : Nat) (s : List Sg) : Prop := lefts s = L ∧ rights s = R
section
variable {L R : Nat} {a b c : List Sg}
theorem In.ok (h : In L R a) : Okh 0 (H a) R := by
  have := hts_ok 0 a
  rwa [h.2, Nat.zero_add] at this
theorem In.len (h : In L R a) : (H a).length = L := by rw [H, hts_len, h.1]
theorem In.inj (ha : In L R a) (hb : In L R b) (h : H a = H b) : a = b := by
  have h1 := fh_hts 0 a
  have h2 := fh_hts 0 b
  unfold H at h
  rw [← h1, ← h2, h, ha.2, hb.2]
theorem meet_H (ha : In L R a) (hb : In L R b) : H (meet a b) = List.zipWith mnp (H a) (H b) ∧ In L R (meet a b) := by
  have ok : Okh 0 _ R := ok_mn ha.ok hb.ok (by rw [ha.len, hb.len])
  refine ⟨?_, ?_, ?_⟩
  · unfold meet
    rw [ha.2]
    exact hts_fh ok
  · unfold meet
    rw [ha.2, lefts_fh ok, List.length_zipWith, ha.len, hb.len, Nat.min_self]
  · unfold meet
    rw [ha.2]
    have := rights_fh ok
    simpa using this
theorem join_H (ha : In L R a) (hb : In L R b) : H (join a b) = List.zipWith mxp (H a) (H b) ∧ In L R (join a b) := by
  have ok : Okh 0 _ R := ok_mx ha.ok hb.ok (by rw [ha.len, hb.len])
  refine ⟨?_, ?_, ?_⟩
  · unfold join
    rw [ha.2]
    exact hts_fh ok
  · unfold join
    rw [ha.2, lefts_fh ok, List.length_zipWith, ha.len, hb.len, Nat.min_self]
  · unfold join
    rw [ha.2]
    have := rights_fh ok
    simpa using this
theorem In.meet (ha : In L R a) (hb : In L R b) : In L R (meet a b) := (meet_H ha hb).2
theorem In.join (ha : In L R a) (hb : In L R b) : In L R (join a b) := (join_H ha hb).2
theorem zw_idem (f : Nat × Nat → Nat × Nat → Nat × Nat) (hf : ∀ p, f p p = p) : ∀ ps : List (Nat × Nat), List.zipWith f ps ps = ps
  | [] => rfl
  | p :: ps => by rw [List.zipWith_cons_cons, hf, zw_idem f hf ps]
theorem zw_comm (f : Nat × Nat → Nat × Nat → Nat × Nat) (hf : ∀ p q, f p q = f q p) : ∀ ps qs : List (Nat × Nat), List.zipWith f ps qs = List.zipWith f qs ps
  | [], _ => by simp
  | _ :: _, [] => by simp
  | p :: ps, q :: qs => by rw [List.zipWith_cons_cons, List.zipWith_cons_cons, hf, zw_comm f hf ps qs]
theorem zw_assoc (f : Nat × Nat → Nat × Nat → Nat × Nat) (hf : ∀ p q r, f (f p q) r = f p (f q r)) : ∀ ps qs rs : List (Nat × Nat), List.zipWith f (List.zipWith f ps qs) rs = List.zipWith f ps (List.zipWith f qs rs)
  | [], _, _ => by simp
  | _ :: _, [], _ => by simp
  | _ :: _, _ :: _, [] => by simp
  | p :: ps, q :: qs, r :: rs => by simp only [List.zipWith_cons_cons, hf, zw_assoc f hf ps qs rs]
theorem zw_absorb (f g : Nat × Nat → Nat × Nat → Nat × Nat) (hf : ∀ p q, f p (g p q) = p) : ∀ ps qs : List (Nat × Nat), ps.length = qs.length → List.zipWith f ps (List.zipWith g ps qs) = ps
  | [], _, _ => by simp
  | _ :: _, [], h => by simp at h
  | p :: ps, q :: qs, h => by simp only [List.zipWith_cons_cons, hf]; rw [zw_absorb f g hf ps qs (by simpa using h)]
theorem zw_distr (f g : Nat × Nat → Nat × Nat → Nat × Nat) (hf : ∀ p q r, f p (g q r) = g (f p q) (f p r)) : ∀ ps qs rs : List (Nat × Nat), List.zipWith f ps (List.zipWith g qs rs) = List.zipWith g (List.zipWith f ps qs) (List.zipWith f ps rs)
  | [], _, _ => by simp
  | _ :: _, [], _ => by simp
  | _ :: _, _ :: _, [] => by simp
  | p :: ps, q :: qs, r :: rs => by simp only [List.zipWith_cons_cons, hf, zw_distr f g hf ps qs rs]
theorem mn_comm (p q : Nat × Nat) : mnp p q = mnp q p := by simp only [mnp, Prod.mk.injEq]; omega
theorem mx_comm (p q : Nat × Nat) : mxp p q = mxp q p := by simp only [mxp, Prod.mk.injEq]; omega
theorem meet_comm (ha : In L R a) (hb : In L R b) : meet a b = meet b a := (ha.meet hb).inj (hb.meet ha) (by rw [(meet_H ha hb).1, (meet_H hb ha).1]; exact zw_comm _ mn_comm _ _)
theorem join_comm (ha : In L R a) (hb : In L R b) : join a b = join b a := (ha.join hb).inj (hb.join ha) (by rw [(join_H ha hb).1, (join_H hb ha).1]; exact zw_comm _ mx_comm _ _)
theorem meet_idem (ha : In L R a) : meet a a = a := (ha.meet ha).inj ha (by rw [(meet_H ha ha).1]; exact zw_idem _ (fun p => by simp [mnp]) _)
theorem join_idem (ha : In L R a) : join a a = a := (ha.join ha).inj ha (by rw [(join_H ha ha).1]; exact zw_idem _ (fun p => by simp [mxp]) _)
theorem meet_assoc (ha : In L R a) (hb : In L R b) (hc : In L R c) : meet (meet a b) c = meet a (meet b c) := ((ha.meet hb).meet hc).inj (ha.meet (hb.meet hc)) (by
  rw [(meet_H (ha.meet hb) hc).1, (meet_H ha hb).1, (meet_H ha (hb.meet hc)).1, (meet_H hb hc).1]
  exact zw_assoc _ (fun p q r => by simp only [mnp, Prod.mk.injEq]; omega) _ _ _)
theorem join_assoc (ha : In L R a) (hb : In L R b) (hc : In L R c) : join (join a b) c = join a (join b c) := ((ha.join hb).join hc).inj (ha.join (hb.join hc)) (by
  rw [(join_H (ha.join hb) hc).1, (join_H ha hb).1, (join_H ha (hb.join hc)).1, (join_H hb hc).1]
  exact zw_assoc _ (fun p q r => by simp only [mxp, Prod.mk.injEq]; omega) _ _ _)
theorem meet_absorb (ha : In L R a) (hb : In L R b) : meet a (join a b) = a := (ha.meet (ha.join hb)).inj ha (by
  rw [(meet_H ha (ha.join hb)).1, (join_H ha hb).1]
  exact zw_absorb _ _ (fun p q => by obtain ⟨x, y⟩ := p; simp only [mnp, mxp, Prod.mk.injEq]; omega) _ _ (by rw [ha.len, hb.len]))
theorem join_absorb (ha : In L R a) (hb : In L R b) : join a (meet a b) = a := (ha.join (ha.meet hb)).inj ha (by
  rw [(join_H ha (ha.meet hb)).1, (meet_H ha hb).1]
  exact zw_absorb _ _ (fun p q => by obtain ⟨x, y⟩ := p; simp only [mnp, mxp, Prod.mk.injEq]; omega) _ _ (by rw [ha.len, hb.len]))
theorem meet_distr (ha : In L R a) (hb : In L R b) (hc : In L R c) : meet a (join b c) = join (meet a b) (meet a c) := (ha.meet (hb.join hc)).inj ((ha.meet hb).join (ha.meet hc)) (by
  rw [(meet_H ha (hb.join hc)).1, (join_H hb hc).1, (join_H (ha.meet hb) (ha.meet hc)).1, (meet_H ha hb).1, (meet_H ha hc).1]
  exact zw_distr _ _ (fun p q r => by simp only [mnp, mxp, Prod.mk.injEq]; omega) _ _ _)
theorem join_distr (ha : In L R a) (hb : In L R b) (hc : In L R c) : join a (meet b c) = meet (join a b) (join a c) := (ha.join (hb.meet hc)).inj ((ha.join hb).meet (ha.join hc)) (by
  rw [(join_H ha (hb.meet hc)).1, (meet_H hb hc).1, (meet_H (ha.join hb) (ha.join hc)).1, (join_H ha hb).1, (join_H ha hc).1]
  exact zw_distr _ _ (fun p q r => by simp only [mnp, mxp, Prod.mk.injEq]; omega) _ _ _)
theorem le_zw_mn : ∀ ps qs : List (Nat × Nat), ps.length = qs.length → ((List.zipWith lep ps qs).all id = true ↔ List.zipWith mnp ps qs = ps)
  | [], [], _ => by simp
  | [], _ :: _, h => by simp at h
  | _ :: _, [], h => by simp at h
  | (a, b) :: ps, (c, d) :: qs, h => by
    rw [List.zipWith_cons_cons, List.zipWith_cons_cons, List.all_cons, Bool.and_eq_true, List.cons.injEq, le_zw_mn ps qs (by simpa using h)]
    refine and_congr ?_ Iff.rfl
    simp only [id, lep, mnp, Bool.and_eq_true, decide_eq_true_eq, Prod.mk.injEq]
    omega
theorem leb_iff (ha : In L R a) (hb : In L R b) : leb a b = true ↔ meet a b = a := by
  unfold leb
  rw [le_zw_mn _ _ (by rw [ha.len, hb.len]), ← (meet_H ha hb).1]
  exact ⟨fun h => (ha.meet hb).inj ha h, fun h => by rw [h]⟩
theorem leb_iff_join (ha : In L R a) (hb : In L R b) : leb a b = true ↔ join a b = b := by
  rw [leb_iff ha hb]
  constructor
  · intro h
    rw [← h, join_comm (ha.meet hb) hb, meet_comm ha hb]
    exact join_absorb hb ha
  · intro h
    rw [← h]
    exact meet_absorb ha hb
theorem leb_meet_l (ha : In L R a) (hb : In L R b) : leb (meet a b) a = true := (leb_iff (ha.meet hb) ha).mpr (by rw [meet_comm (ha.meet hb) ha, ← meet_assoc ha ha hb, meet_idem ha])
theorem leb_meet_r (ha : In L R a) (hb : In L R b) : leb (meet a b) b = true := (leb_iff (ha.meet hb) hb).mpr (by rw [meet_assoc ha hb hb, meet_idem hb])
theorem leb_join_l (ha : In L R a) (hb : In L R b) : leb a (join a b) = true := (leb_iff ha (ha.join hb)).mpr (meet_absorb ha hb)
theorem leb_join_r (ha : In L R a) (hb : In L R b) : leb b (join a b) = true := by rw [join_comm ha hb]; exact leb_join_l hb ha
theorem leb_meet (ha : In L R a) (hb : In L R b) (hc : In L R c) (h1 : leb a b = true) (h2 : leb a c = true) : leb a (meet b c) = true := (leb_iff ha (hb.meet hc)).mpr (by
  rw [← meet_assoc ha hb hc, (leb_iff ha hb).mp h1, (leb_iff ha hc).mp h2])
theorem leb_join (ha : In L R a) (hb : In L R b) (hc : In L R c) (h1 : leb b a = true) (h2 : leb c a = true) : leb (join b c) a = true := (leb_iff_join (hb.join hc) ha).mpr (by
  rw [join_assoc hb hc ha, (leb_iff_join hc ha).mp h2, (leb_iff_join hb ha).mp h1])
def lowR (L R : Nat) : List Sg := List.replicate L .l ++ List.replicate R .g
def highR (L R : Nat) : List Sg := List.replicate R .g ++ List.replicate L .l
theorem in_low : In L R (lowR L R) := by
  unfold In lowR
  rw [lefts_app, rights_app]
  simp [lefts, rights, List.count_replicate]
theorem in_high : In L R (highR L R) := by
  unfold In highR
  rw [lefts_app, rights_app]
  simp [lefts, rights, List.count_replicate]
theorem hts_lrep : ∀ (n r : Nat) (s : List Sg), hts r (List.replicate n .l ++ s) = List.replicate n (r, r) ++ hts r s
  | 0, r, s => by simp
  | n + 1, r, s => by rw [List.replicate_succ, List.cons_append, hts, hts_lrep n r s]; rfl
theorem H_low : H (lowR L R) = List.replicate L (0, 0) := by
  unfold H lowR
  rw [hts_lrep]
  have := hts_rep R 0 []
  rw [List.append_nil] at this
  rw [this]
  simp [hts]
theorem H_high : H (highR L R) = List.replicate L (R, R) := by
  unfold H highR
  rw [hts_rep]
  have := hts_lrep L (0 + R) []
  rw [List.append_nil] at this
  rw [this]
  simp [hts]
theorem okh_all : ∀ {r : Nat} {ps : List (Nat × Nat)} {R : Nat}, Okh r ps R → ∀ p ∈ ps, p.1 ≤ R ∧ p.2 ≤ R
  | _, [], _, _, p, hp => by simp at hp
  | r, (a, b) :: ps, R, ⟨h1, h2, h3, h4⟩, p, hp => by
    rcases List.mem_cons.mp hp with rfl | hp
    · have := okh_le h4
      exact ⟨by simp only; omega, this⟩
    · exact okh_all h4 p hp
theorem zw_low : ∀ ps : List (Nat × Nat), List.zipWith mnp (List.replicate ps.length (0, 0)) ps = List.replicate ps.length (0, 0)
  | [] => rfl
  | p :: ps => by rw [List.length_cons, List.replicate_succ, List.zipWith_cons_cons, zw_low ps]; simp [mnp]
theorem zw_high {R : Nat} : ∀ ps : List (Nat × Nat), (∀ p ∈ ps, p.1 ≤ R ∧ p.2 ≤ R) → List.zipWith mnp ps (List.replicate ps.length (R, R)) = ps
  | [], _ => rfl
  | p :: ps, h => by
    rw [List.length_cons, List.replicate_succ, List.zipWith_cons_cons, zw_high ps fun q hq => h q (List.mem_cons_of_mem _ hq)]
    have := h p (List.mem_cons_self ..)
    congr 1
    obtain ⟨x, y⟩ := p
    simp only [mnp, Prod.mk.injEq] at *
    omega
theorem meet_low (ha : In L R a) : meet (lowR L R) a = lowR L R := (in_low.meet ha).inj in_low (by
  rw [(meet_H in_low ha).1, H_low]
  have := zw_low (H a)
  rwa [ha.len] at this)
theorem leb_low (ha : In L R a) : leb (lowR L R) a = true := (leb_iff in_low ha).mpr (meet_low ha)
theorem leb_high (ha : In L R a) : leb a (highR L R) = true := (leb_iff ha in_high).mpr ((ha.meet in_high).inj ha (by
  rw [(meet_H ha in_high).1, H_high]
  have := zw_high (H a) (okh_all ha.ok)
  rwa [ha.len] at this))
theorem join_low (ha : In L R a) : join (lowR L R) a = a := (leb_iff_join in_low ha).mp (leb_low ha)
theorem meet_high (ha : In L R a) : meet (highR L R) a = a := by
  rw [meet_comm in_high ha]
  exact (leb_iff ha in_high).mp (leb_high ha)
end
end ZZ

set_option Elab.async false
set_option linter.all false
set_option maxRecDepth 100000
/-! M2: equality of values, comprehensions, places in lists. -/
namespace ZZ
open PySem PySem.Spec L2
mutual
/-- strings in order, no instance, at most n deep -/
def okD : Nat → D → Bool
  | _, .non => true
  | _, .bl _ => true
  | _, .int _ => true
  | _, .str s => PyData.strOk s
  | 0, .tup _ => false
  | 0, .lst _ => false
  | 0, .wl _ => false
  | n + 1, .tup ds => okDs n ds
  | n + 1, .lst ds => okDs n ds
  | n + 1, .wl ds => okDs n ds
  | _, .ins _ _ => false
  | _, .dct _ _ => false
def okDs : Nat → List D → Bool
  | _, [] => true
  | n, d :: ds => okD n d && okDs n ds
end
mutual
/-- == on values without instances -/
def eqD : D → D → Bool
  | .non, .non => true
  | .bl a, .bl b => a == b
  | .bl a, .int j => (if a then 1 else 0) == j
  | .int i, .bl b => i == (if b then 1 else 0)
  | .int i, .int j => i == j
  | .str x, .str y => x == y
  | .lst xs, .lst ys => eqDs xs ys
  | .lst xs, .wl ys => eqDs xs ys
  | .wl xs, .lst ys => eqDs xs ys
  | .wl xs, .wl ys => eqDs xs ys
  | .tup xs, .tup ys => eqDs xs ys
  | _, _ => false
def eqDs : List D → List D → Bool
  | [], [] => true
  | x :: xs, y :: ys => eqD x y && eqDs xs ys
  | _, _ => false
end
mutual
theorem okD_py : ∀ (n : Nat) (d : D), okD n d = true → ∃ p, toPy d = some p ∧ p.canLay0 = true ∧ p.depth ≤ n + 1
  | _, .non, _ => ⟨.none, rfl, rfl, by simp [PyData.depth]⟩
  | _, .bl b, _ => ⟨.bool b, rfl, rfl, by simp [PyData.depth]⟩
  | _, .int b, _ => ⟨.int b, rfl, rfl, by simp [PyData.depth]⟩
  | _, .str b, h => ⟨.str b, rfl, by rw [PyData.canLay0]; simpa [okD] using h, by simp [PyData.depth]⟩
  | 0, .tup _, h => by simp [okD] at h
  | 0, .lst _, h => by simp [okD] at h
  | 0, .wl _, h => by simp [okD] at h
  | n + 1, .tup ds, h => by
    obtain ⟨ps, h1, h2, h3⟩ := okDs_py n ds (by simpa [okD] using h)
    exact ⟨.tuple ps, by rw [toPy, h1]; rfl, by rw [PyData.canLay0]; exact h2, by rw [PyData.depth]; omega⟩
  | n + 1, .lst ds, h => by
    obtain ⟨ps, h1, h2, h3⟩ := okDs_py n ds (by simpa [okD] using h)
    exact ⟨.list ps, by rw [toPy, h1]; rfl, by rw [PyData.canLay0]; exact h2, by rw [PyData.depth]; omega⟩
  | n + 1, .wl ds, h => by
    obtain ⟨ps, h1, h2, h3⟩ := okDs_py n ds (by simpa [okD] using h)
    exact ⟨.list ps, by rw [toPy, h1]; rfl, by rw [PyData.canLay0]; exact h2, by rw [PyData.depth]; omega⟩
  | 0, .ins _ _, h => by simp [okD] at h
  | _ + 1, .ins _ _, h => by simp [okD] at h
  | 0, .dct _ _, h => by simp [okD] at h
  | _ + 1, .dct _ _, h => by simp [okD] at h
theorem okDs_py : ∀ (n : Nat) (ds : List D), okDs n ds = true → ∃ ps, toPys ds = some ps ∧ PyData.canLayAll0 ps = true ∧ PyData.depthAll ps ≤ n + 1
  | _, [], _ => ⟨[], rfl, rfl, by simp [PyData.depthAll]⟩
  | n, d :: ds, h => by
    have h' : okD n d = true ∧ okDs n ds = true := by simpa [okDs] using h
    obtain ⟨p, a1, a2, a3⟩ := okD_py n d h'.1
    obtain ⟨ps, b1, b2, b3⟩ := okDs_py n ds h'.2
    refine ⟨p :: ps, by rw [toPys, a1, b1], by rw [PyData.canLayAll0, a2, b2]; rfl, by rw [PyData.depthAll]; omega⟩
end
mutual
theorem eqv_eqD : ∀ (d e : D) (p q : PyData), toPy d = some p → toPy e = some q → PyData.eqv p q = eqD d e
  | .non, e, p, q, hp, hq => by
    cases hp
    cases e <;> simp only [toPy, Option.map_eq_some_iff, Option.some.injEq, reduceCtorEq] at hq <;> first | (cases hq; rfl) | (obtain ⟨_, _, rfl⟩ := hq; rfl) | (subst hq; rfl)
  | .bl b, e, p, q, hp, hq => by
    cases hp
    cases e <;> simp only [toPy, Option.map_eq_some_iff, Option.some.injEq, reduceCtorEq] at hq <;> first | (cases hq; rfl) | (obtain ⟨_, _, rfl⟩ := hq; rfl) | (subst hq; rfl)
  | .int b, e, p, q, hp, hq => by
    cases hp
    cases e <;> simp only [toPy, Option.map_eq_some_iff, Option.some.injEq, reduceCtorEq] at hq <;> first | (cases hq; rfl) | (obtain ⟨_, _, rfl⟩ := hq; rfl) | (subst hq; rfl)
  | .str b, e, p, q, hp, hq => by
    cases hp
    cases e <;> simp only [toPy, Option.map_eq_some_iff, Option.some.injEq, reduceCtorEq] at hq <;> first | (cases hq; rfl) | (obtain ⟨_, _, rfl⟩ := hq; rfl) | (subst hq; rfl)
  | .ins _ _, e, p, q, hp, hq => by simp [toPy] at hp
  | .tup xs, e, p, q, hp, hq => by
    simp only [toPy, Option.map_eq_some_iff] at hp
    obtain ⟨ps, hps, rfl⟩ := hp
    cases e <;> simp only [toPy, Option.map_eq_some_iff, Option.some.injEq, reduceCtorEq] at hq
    case tup ys =>
      obtain ⟨qs, hqs, rfl⟩ := hq
      rw [PyData.eqv, eqD]
      exact eqvs_eqDs xs ys ps qs hps hqs
    all_goals first | (cases hq; rfl) | (obtain ⟨_, _, rfl⟩ := hq; rfl) | (subst hq; rfl)
  | .lst xs, e, p, q, hp, hq => by
    simp only [toPy, Option.map_eq_some_iff] at hp
    obtain ⟨ps, hps, rfl⟩ := hp
    cases e <;> simp only [toPy, Option.map_eq_some_iff, Option.some.injEq, reduceCtorEq] at hq
    case lst ys =>
      obtain ⟨qs, hqs, rfl⟩ := hq
      rw [PyData.eqv, eqD]
      exact eqvs_eqDs xs ys ps qs hps hqs
    case wl ys =>
      obtain ⟨qs, hqs, rfl⟩ := hq
      rw [PyData.eqv, eqD]
      exact eqvs_eqDs xs ys ps qs hps hqs
    all_goals first | (cases hq; rfl) | (obtain ⟨_, _, rfl⟩ := hq; rfl) | (subst hq; rfl)
  | .wl xs, e, p, q, hp, hq => by
    simp only [toPy, Option.map_eq_some_iff] at hp
    obtain ⟨ps, hps, rfl⟩ := hp
    cases e <;> simp only [toPy, Option.map_eq_some_iff, Option.some.injEq, reduceCtorEq] at hq
    case lst ys =>
      obtain ⟨qs, hqs, rfl⟩ := hq
      rw [PyData.eqv, eqD]
      exact eqvs_eqDs xs ys ps qs hps hqs
    case wl ys =>
      obtain ⟨qs, hqs, rfl⟩ := hq
      rw [PyData.eqv, eqD]
      exact eqvs_eqDs xs ys ps qs hps hqs
    all_goals first | (cases hq; rfl) | (obtain ⟨_, _, rfl⟩ := hq; rfl) | (subst hq; rfl)
theorem eqvs_eqDs : ∀ (ds es : List D) (ps qs : List PyData), toPys ds = some ps → toPys es = some qs → PyData.eqvAll ps qs = eqDs ds es
  | [], [], ps, qs, hp, hq => by cases hp; cases hq; rfl
  | [], e :: es, ps, qs, hp, hq => by
    cases hp
    rw [toPys] at hq
    split at hq
    · cases hq; rfl
    · cases hq
  | d :: ds, [], ps, qs, hp, hq => by
    cases hq
    rw [toPys] at hp
    split at hp
    · cases hp; rfl
    · cases hp
  | d :: ds, e :: es, ps, qs, hp, hq => by
    rw [toPys] at hp hq
    split at hp
    · rename_i p ps' h1 h2
      cases hp
      split at hq
      · rename_i q qs' h3 h4
        cases hq
        rw [PyData.eqvAll, eqDs, eqv_eqD d e p q h1 h3, eqvs_eqDs ds es ps' qs' h2 h4]
      · cases hq
    · cases hp
end
theorem pyEq_ok {d e : D} (hd : okD 60 d = true) (he : okD 60 e = true) : pyEq d e = some (eqD d e) := by
  obtain ⟨p, a1, a2, a3⟩ := okD_py 60 d hd
  obtain ⟨q, b1, b2, b3⟩ := okD_py 60 e he
  unfold pyEq
  simp only [a1, b1]
  have sh : ∀ r : PyData, r.canLay0 = true → r.depth ≤ 60 + 1 → SeqAt.shaped r = true := fun r h1 h2 => by
    unfold SeqAt.shaped
    rw [Bool.and_eq_true]
    exact ⟨h1, by rw [decide_eq_true_eq]; omega⟩
  rw [if_pos ⟨sh p a2 a3, sh q b2 b3⟩, eqv_eqD d e p q a1 b1]
theorem eq_gd {d e : D} {neg : Bool} {sl : Sl} {ce : List Cell} (hd : okD 60 d = true) (he : okD 60 e = true) : kEqG neg (.im d) (.im e) sl ce = .ok (.im (.bl (if neg then !eqD d e else eqD d e))) ce := by
  unfold kEqG
  simp only [asIm, pyEq_ok hd he]
mutual
theorem eqD_refl : ∀ (d : D) (n : Nat), okD n d = true → eqD d d = true
  | .non, _, _ => rfl
  | .bl b, _, _ => by simp [eqD]
  | .int b, _, _ => by simp [eqD]
  | .str b, _, _ => by simp [eqD]
  | .tup ds, 0, h => by simp [okD] at h
  | .lst ds, 0, h => by simp [okD] at h
  | .wl ds, 0, h => by simp [okD] at h
  | .tup ds, n + 1, h => by rw [eqD]; exact eqDs_refl ds n (by simpa [okD] using h)
  | .lst ds, n + 1, h => by rw [eqD]; exact eqDs_refl ds n (by simpa [okD] using h)
  | .wl ds, n + 1, h => by rw [eqD]; exact eqDs_refl ds n (by simpa [okD] using h)
  | .ins _ _, 0, h => by simp [okD] at h
  | .ins _ _, n + 1, h => by simp [okD] at h
  | .dct _ _, 0, h => by simp [okD] at h
  | .dct _ _, n + 1, h => by simp [okD] at h
theorem eqDs_refl : ∀ (ds : List D) (n : Nat), okDs n ds = true → eqDs ds ds = true
  | [], _, _ => rfl
  | d :: ds, n, h => by
    have h' : okD n d = true ∧ okDs n ds = true := by simpa [okDs] using h
    rw [eqDs, eqD_refl d n h'.1, eqDs_refl ds n h'.2]
    rfl
end
theorem eqDs_map {α : Type} [DecidableEq α] (F : α → D) (h : ∀ a b, eqD (F a) (F b) = decide (a = b)) : ∀ xs ys : List α, eqDs (xs.map F) (ys.map F) = decide (xs = ys)
  | [], [] => by simp [eqDs]
  | [], y :: ys => by simp [eqDs]
  | x :: xs, [] => by simp [eqDs]
  | x :: xs, y :: ys => by
    rw [List.map_cons, List.map_cons, eqDs, h, eqDs_map F h xs ys]
    by_cases h1 : x = y <;> by_cases h2 : xs = ys <;> simp [h1, h2]
theorem okDs_map {α : Type} (F : α → D) (n : Nat) (h : ∀ a, okD n (F a) = true) : ∀ xs : List α, okDs n (xs.map F) = true
  | [] => by simp [okDs]
  | x :: xs => by rw [List.map_cons, okDs, h, okDs_map F n h xs]; rfl
theorem okDs_all {n : Nat} : ∀ {ds : List D}, (∀ d ∈ ds, okD n d = true) → okDs n ds = true
  | [], _ => by simp [okDs]
  | x :: xs, h => by rw [okDs, h x (List.mem_cons_self ..), okDs_all fun d hd => h d (List.mem_cons_of_mem _ hd)]; rfl
/-! ### ranges, places -/
theorem rng1 (n : Nat) (h : n < 2 ^ 60) : kRng1 [.im (.int (n : Int))] = some ((List.range n).map fun (i : Nat) => D.int (i : Int)) := by
  have hz : isz (n : Int) = true := isz_of (by omega)
  unfold kRng1
  simp only [hz, if_true, Int.toNat_natCast]
  unfold rangeD
  refine congrArg some (List.map_congr_left fun i _ => ?_)
  rw [Int.zero_add, Int.mul_one]
theorem atI_nat {α : Type} (l : List α) (k : Nat) (v : α) (h : l[k]? = some v) : atI l (k : Int) = some v := by
  have hlt := (List.getElem?_eq_some_iff.mp h).1
  unfold atI ixN
  rw [if_pos (by omega), if_pos (by omega), Int.toNat_natCast, Option.bind_some, h]
theorem ix_lst {l : List D} {k : Nat} {v : D} (h : l[k]? = some v) {sl : Sl} {ce : List Cell} : kIx (.im (.lst l)) (.im (.int k)) sl ce = .ok (.im v) ce := by
  unfold kIx
  simp only [asSq, atI_nat l k v h]
theorem ix_wl {l : List D} {k : Nat} {v : D} (h : l[k]? = some v) {sl : Sl} {ce : List Cell} : kIx (.im (.wl l)) (.im (.int k)) sl ce = .ok (.im v) ce := by
  unfold kIx
  simp only [asSq, atI_nat l k v h]
theorem ix_tup {l : List D} {k : Nat} {v : D} (h : l[k]? = some v) {sl : Sl} {ce : List Cell} : kIx (.im (.tup l)) (.im (.int k)) sl ce = .ok (.im v) ce := by
  unfold kIx
  simp only [asSq, atI_nat l k v h]
theorem ix_cell {n : Nat} {l : List D} {k : Nat} {v : D} {ce : List Cell} (hc : ce[n]? = some (.lst l)) (h : l[k]? = some v) {sl : Sl} : kIx (.cell n) (.im (.int k)) sl ce = .ok (.im v) ce := by
  unfold kIx
  simp only [asSq, hc, atI_nat l k v h]
theorem set_same {ce : List Cell} {k : Nat} {c : Cell} (h : ce[k]? = some c) : ce.set k c = ce := by
  refine List.ext_getElem? fun j => ?_
  by_cases hj : k = j
  · subst hj
    rw [List.getElem?_set_self (List.getElem?_eq_some_iff.mp h).1, h]
  · rw [List.getElem?_set_ne hj]
theorem set_take {ce : List Cell} {k : Nat} {c : Cell} : (ce.set k c).take ce.length = ce.set k c := List.take_of_length_le (by simp)
theorem app_at {ce : List Cell} {n : Nat} {acc : List D} {d : D} {sl : Sl} (hc : ce[n]? = some (.lst acc)) (h : acc.length < LINE) : kAppend (.cell n) [.im d] sl ce = .ok (.im .non) (ce.set n (.lst (acc ++ [d]))) := by
  unfold kAppend
  simp only [hc, h, if_true]
/-! ### comprehensions -/
/-- a comprehension whose items change nothing -/
theorem lcD_map {β : Type} {own : List Nat} {g : GD} {t f : DE} {sl : Sl} (ce : List Cell) (F φ : β → D) (p : β → Bool) : ∀ (bs : List β) (acc : List D), acc.length + bs.length < 16777216 →
    (∀ b ∈ bs, ∀ acc : List D, ∃ sl1, g (F b) (wipeD sl own) = some sl1 ∧ t sl1 (ce ++ [.lst acc]) = .ok (.im (.bl (p b))) (ce ++ [.lst acc]) ∧ (p b = true → f sl1 (ce ++ [.lst acc]) = .ok (.im (φ b)) (ce ++ [.lst acc]))) →
    lcD own g t f ce.length (bs.map F) sl (ce ++ [.lst acc]) = .ok (.cell ce.length) (ce ++ [.lst (acc ++ (bs.filter p).map φ)])
  | [], acc, hl, h => by rw [List.map_nil, lcD]; simp
  | d :: ds, acc, hl, h => by
    rw [List.length_cons] at hl
    obtain ⟨sl1, h1, h2, h3⟩ := h d (List.mem_cons_self ..) acc
    rw [List.map_cons, lcD]
    simp only [h1, h2]
    cases hp : p d with
    | true =>
      have ih := lcD_map ce F φ p ds (acc ++ [φ d]) (by rw [List.length_append, List.length_singleton]; omega) fun d hd => h d (List.mem_cons_of_mem _ hd)
      rw [if_pos rfl]
      simp only [h3 hp, ce_get0, List.getElem?_cons_zero, ce_set0, List.set_cons_zero]
      rw [if_pos (by show acc.length < 16777216; omega), ih, List.filter_cons_of_pos hp, List.map_cons, List.append_assoc, List.singleton_append]
    | false =>
      have ih := lcD_map ce F φ p ds acc (by omega) fun d hd => h d (List.mem_cons_of_mem _ hd)
      rw [if_neg (by decide), ih, List.filter_cons_of_neg (by simp [hp])]
theorem lc_filter {β : Type} {own : List Nat} {fi : DI} {g : GD} {t f : DE} {sl : Sl} {ce : List Cell} (bs : List β) (F φ : β → D) (p : β → Bool) (hi : fi sl ce = .ok (bs.map F) ce) (hl : bs.length < 16777216)
    (h : ∀ b ∈ bs, ∀ acc : List D, ∃ sl1, g (F b) (wipeD sl own) = some sl1 ∧ t sl1 (ce ++ [.lst acc]) = .ok (.im (.bl (p b))) (ce ++ [.lst acc]) ∧ (p b = true → f sl1 (ce ++ [.lst acc]) = .ok (.im (φ b)) (ce ++ [.lst acc]))) :
    eSettle (eLcC own fi g t f) sl ce = .ok (.im (.lst ((bs.filter p).map φ))) ce := by
  unfold eSettle eLcC
  simp only [hi]
  rw [lcD_map ce F φ p bs [] (by rw [List.length_nil]; omega) h]
  simp only [ce_get0, List.getElem?_cons_zero, List.nil_append, ce_set0, ce_take]
theorem lc_map {β : Type} {own : List Nat} {fi : DI} {g : GD} {f : DE} {sl : Sl} {ce : List Cell} (bs : List β) (F φ : β → D) (hi : fi sl ce = .ok (bs.map F) ce) (hl : bs.length < 16777216)
    (h : ∀ b ∈ bs, ∀ acc : List D, ∃ sl1, g (F b) (wipeD sl own) = some sl1 ∧ f sl1 (ce ++ [.lst acc]) = .ok (.im (φ b)) (ce ++ [.lst acc])) :
    eSettle (eLcC own fi g (eC (.bl true)) f) sl ce = .ok (.im (.lst (bs.map φ))) ce := by
  have := lc_filter (own := own) (fi := fi) (g := g) (t := eC (.bl true)) (f := f) (sl := sl) (ce := ce) bs F φ (fun _ => true) hi hl (fun d hd acc => by
    obtain ⟨sl1, h1, h2⟩ := h d hd acc
    exact ⟨sl1, h1, rfl, fun _ => h2⟩)
  rw [this]
  congr 4
  simp
theorem eq_any {v u : Val} {d e : D} {neg : Bool} {sl : Sl} {ce : List Cell} (h1 : asIm ce v = some d) (h2 : asIm ce u = some e) (hd : okD 60 d = true) (he : okD 60 e = true) : kEqG neg v u sl ce = .ok (.im (.bl (if neg then !eqD d e else eqD d e))) ce := by
  unfold kEqG
  simp only [h1, h2, pyEq_ok hd he]
theorem range_getD {α : Type} (l : List α) (a : α) : (List.range l.length).map (fun k => l.getD k a) = l := by
  refine List.ext_getElem? fun k => ?_
  rw [List.getElem?_map]
  by_cases hk : k < l.length
  · rw [List.getElem?_range hk, List.getElem?_eq_getElem hk]
    simp [List.getD, hk]
  · rw [List.getElem?_eq_none (by simpa using hk), List.getElem?_eq_none (by omega)]
    rfl
/-- a comprehension whose items draw from the store -/
theorem lcD_thread {own : List Nat} {g : GD} {f : DE} {sl : Sl} (I : List Cell → Prop) (R : D → D → Prop) (n : Nat) (hn : ∀ ce, I ce → ce.length = n) : ∀ (ds acc : List D) (ce : List Cell), acc.length + ds.length < 16777216 → I ce →
    (∀ d ∈ ds, ∀ (acc : List D) (ce : List Cell), I ce → ∃ sl1 ce2 y, g d (wipeD sl own) = some sl1 ∧ f sl1 (ce ++ [.lst acc]) = .ok (.im y) (ce2 ++ [.lst acc]) ∧ I ce2 ∧ R d y) →
    ∃ ys ce2, lcD own g (eC (.bl true)) f n ds sl (ce ++ [.lst acc]) = .ok (.cell n) (ce2 ++ [.lst (acc ++ ys)]) ∧ I ce2 ∧ ys.length = ds.length ∧ ∀ (i : Nat) (d y : D), ds[i]? = some d → ys[i]? = some y → R d y
  | [], acc, ce, hl, hI, h => ⟨[], ce, by rw [lcD]; simp, hI, rfl, fun i d y h1 _ => by simp at h1⟩
  | d :: ds, acc, ce, hl, hI, h => by
    rw [List.length_cons] at hl
    obtain ⟨sl1, ce1, y, h1, h2, h3, h4⟩ := h d (List.mem_cons_self ..) acc ce hI
    obtain ⟨ys, ce2, e, i2, l2, r2⟩ := lcD_thread I R n hn ds (acc ++ [y]) ce1 (by rw [List.length_append, List.length_singleton]; omega) h3 fun d hd => h d (List.mem_cons_of_mem _ hd)
    refine ⟨y :: ys, ce2, ?_, i2, by rw [List.length_cons, List.length_cons, l2], fun i d' y' q1 q2 => ?_⟩
    · rw [lcD]
      have hn1 := hn ce1 h3
      subst hn1
      simp only [h1, eC, if_true, h2, ce_get0, List.getElem?_cons_zero, ce_set0, List.set_cons_zero]
      rw [if_pos (by show acc.length < 16777216; omega), e, List.append_assoc, List.singleton_append]
    · cases i with
      | zero =>
        simp only [List.getElem?_cons_zero, Option.some.injEq] at q1 q2
        subst q1 q2
        exact h4
      | succ i =>
        simp only [List.getElem?_cons_succ] at q1 q2
        exact r2 i d' y' q1 q2
theorem lc_thread {own : List Nat} {fi : DI} {g : GD} {f : DE} {sl : Sl} {ce : List Cell} (ds : List D) (I : List Cell → Prop) (R : D → D → Prop) (hi : fi sl ce = .ok ds ce) (hl : ds.length < 16777216) (hI : I ce) (hn : ∀ ce', I ce' → ce'.length = ce.length)
    (h : ∀ d ∈ ds, ∀ (acc : List D) (ce : List Cell), I ce → ∃ sl1 ce2 y, g d (wipeD sl own) = some sl1 ∧ f sl1 (ce ++ [.lst acc]) = .ok (.im y) (ce2 ++ [.lst acc]) ∧ I ce2 ∧ R d y) :
    ∃ ys ce2, eSettle (eLcC own fi g (eC (.bl true)) f) sl ce = .ok (.im (.lst ys)) ce2 ∧ I ce2 ∧ ys.length = ds.length ∧ ∀ (i : Nat) (d y : D), ds[i]? = some d → ys[i]? = some y → R d y := by
  obtain ⟨ys, ce2, e, i2, l2, r2⟩ := lcD_thread (own := own) (g := g) (f := f) (sl := sl) I R ce.length hn ds [] ce (by rw [List.length_nil]; omega) hI h
  refine ⟨ys, ce2, ?_, i2, l2, r2⟩
  unfold eSettle eLcC
  simp only [hi, e]
  have hn2 := hn ce2 i2
  rw [← hn2]
  simp only [ce_get0, List.getElem?_cons_zero, List.nil_append, ce_set0, ce_take]
end ZZ

set_option Elab.async false
set_option linter.all false
set_option maxRecDepth 100000
set_option maxHeartbeats 4000000
/-! M3: texts of signs, appended lists. -/
namespace ZZ
open PySem PySem.Spec L2
theorem enum_ps (F : Sg → D) (s : List Sg) : ∃ ps : List (Int × Sg), ps.map Prod.snd = s ∧ enumD (s.map F) = ps.map fun p => D.tup [.int p.1, F p.2] := by
  have key : ∀ (s pre : List Sg), ∃ ps : List (Int × Sg), ps.map Prod.snd = s ∧ (List.range' pre.length s.length).filterMap (fun (i : Nat) => ((pre ++ s).map F)[i]?.map fun d => D.tup [.int (i : Int), d]) = ps.map fun p => D.tup [.int p.1, F p.2] := by
    intro s
    induction s with
    | nil => intro pre; exact ⟨[], rfl, rfl⟩
    | cons c s ih =>
      intro pre
      obtain ⟨ps, h1, h2⟩ := ih (pre ++ [c])
      refine ⟨((pre.length : Int), c) :: ps, by rw [List.map_cons, h1], ?_⟩
      rw [List.length_cons, List.range'_succ, List.filterMap_cons]
      have e : ((pre ++ c :: s).map F)[pre.length]? = some (F c) := by simp
      rw [e, Option.map_some]
      simp only
      rw [List.length_append, List.length_singleton, List.append_assoc, List.singleton_append] at h2
      rw [h2]
      rfl
  obtain ⟨ps, h1, h2⟩ := key s []
  refine ⟨ps, h1, ?_⟩
  unfold enumD
  rw [List.range_eq_range', List.length_map]
  exact h2
theorem sl1 : ("<" : Str) = txt [.l] := txt_l.symm
theorem sl2 : ("=" : Str) = txt [.e] := txt_e.symm
theorem sl3 : (">" : Str) = txt [.g] := txt_g.symm
theorem eq_txt {a b : List Sg} {neg : Bool} {sl : Sl} {ce : List Cell} : kEqG neg (.im (.str (txt a))) (.im (.str (txt b))) sl ce = .ok (.im (.bl (if neg then !decide (a = b) else decide (a = b)))) ce := by
  rw [eq_str (txt_ok a) (txt_ok b)]
  simp only [txt_eq]
theorem app_ok {ce : List Cell} {acc : List D} {d : D} {sl : Sl} (h : acc.length < LINE) : kAppend (.cell ce.length) [.im d] sl (ce ++ [.lst acc]) = .ok (.im .non) (ce ++ [.lst (acc ++ [d])]) := by
  unfold kAppend
  simp only [ce_get0, List.getElem?_cons_zero, h, if_true, ce_set0, List.set_cons_zero]
theorem strs_map (ls : List (List Sg)) : asStrs (ls.map fun s => D.str (txt s)) = some (ls.map txt) := by
  induction ls with
  | nil => rfl
  | cons a ls ih =>
    rw [List.map_cons, asStrs, ih]
    rfl
theorem sum_len : ∀ ls : List (List Sg), ((ls.map txt).map (·.length)).sum = ls.flatten.length
  | [] => rfl
  | a :: ls => by
    rw [List.map_cons, List.map_cons, List.sum_cons, sum_len ls, txt_len, List.flatten_cons, List.length_append]
theorem kcount {s : List Sg} {c : Sg} {sl : Sl} {ce : List Cell} : kCount (.im (.str (txt s))) [.im (.str (txt [c]))] sl ce = .ok (.im (.int (s.count c : Nat))) ce := by
  unfold kCount
  simp only [txt_count]
theorem bls_map (bs : List Bool) : asBls (bs.map D.bl) = some bs := by
  induction bs with
  | nil => rfl
  | cons b bs ih => rw [List.map_cons, asBls, ih]; rfl
section
variable {sl : Sl} {ce : List Cell}
theorem rep_s (c : Sg) (n : Nat) (h : n ≤ 1000) : kRepS (.im (.str (txt [c]))) (.im (.int n)) sl ce = .ok (.im (.str (txt (List.replicate n c)))) ce := by
  unfold kRepS
  simp only [txt_len, List.length_singleton]
  rw [if_pos ⟨by omega, by omega, by omega⟩, txt_mul, Int.toNat_natCast]
theorem add_s (x y : List Sg) (h : x.length + y.length ≤ 16777216) : kAdd (.im (.str (txt x))) (.im (.str (txt y))) sl ce = .ok (.im (.str (txt (x ++ y)))) ce := by
  unfold kAdd
  simp only [txt_len, txt_app]
  rw [if_pos h]
end
end ZZ
namespace ZZ
open PySem PySem.Spec L2
theorem txt_cut (s : List Sg) (lo hi : Option Int) : L2.cutS (txt s) lo hi = txt ((s.drop (HT.sIx s.length 0 lo)).take (HT.sIx s.length s.length hi - HT.sIx s.length 0 lo)) := by
  unfold L2.cutS
  rw [txt_len]
  unfold txt st
  simp only [List.toList_toArray, List.map_take, List.map_drop]
theorem sl_to (s : List Sg) (k : Nat) (h : k ≤ s.length) (h2 : s.length ≤ 16777216) {sl : Sl} {ce : List Cell} : kSlL (.im (.str (txt s))) none (some (k : Int)) sl ce = .ok (.im (.str (txt (s.take k)))) ce := by
  unfold kSlL
  simp only [txt_len, h2, if_true, txt_cut, HT.sIx_nat, HT.sIx_none, List.drop_zero, Nat.sub_zero]
  rw [Nat.min_eq_left h]
theorem sl_from (s : List Sg) (k : Nat) (h : k ≤ s.length) (h2 : s.length ≤ 16777216) {sl : Sl} {ce : List Cell} : kSlL (.im (.str (txt s))) (some (k : Int)) none sl ce = .ok (.im (.str (txt (s.drop k)))) ce := by
  unfold kSlL
  simp only [txt_len, h2, if_true, txt_cut, HT.sIx_nat, HT.sIx_none]
  rw [Nat.min_eq_left h, List.take_of_length_le (by simp)]
theorem ix_txt (s : List Sg) (k : Nat) (c : Sg) (h : s[k]? = some c) (h2 : s.length ≤ 16777216) {sl : Sl} {ce : List Cell} : kIx (.im (.str (txt s))) (.im (.int (k : Int))) sl ce = .ok (.im (.str (txt [c]))) ce := by
  unfold kIx
  simp only [txt_len, h2, if_true]
  have e : (txt s).cps.toList = s.map Sg.code := by unfold txt st; simp
  have h3 : (s.map Sg.code)[k]? = some c.code := by rw [List.getElem?_map, h]; rfl
  rw [e, atI_nat _ _ _ h3]
  rfl
theorem cnt_all (s : List Sg) : s.count .l + s.count .e + s.count .g = s.length := by
  induction s with
  | nil => rfl
  | cons c s ih =>
    rw [List.count_cons, List.count_cons, List.count_cons, List.length_cons]
    cases c <;> simp <;> omega
theorem rights_cnt (s : List Sg) : s.count .g + s.count .e = rights s := by
  have := cnt_all s
  unfold rights
  omega
theorem lefts_cnt (s : List Sg) : s.count .l + s.count .e = lefts s := by
  have := cnt_all s
  unfold lefts
  omega
/-- a loop that tests: it goes on or returns -/
theorem forD_all {β : Type} {i : Nat} {body : DSt} {sl : Sl} {ce : List Cell} {v : Val} (F : β → D) (p : β → Bool) : ∀ (bs : List β) (y : Option Val),
    (∀ b ∈ bs, (p b = true → body (sl.set i (some (.im (F b)))) ce = .nx (sl.set i (some (.im (F b)))) ce) ∧ (p b = false → body (sl.set i (some (.im (F b)))) ce = .rt v ce)) →
    ∃ y', (bs.all p = true → forD (gN i) body (bs.map F) (sl.set i y) ce = .nx (sl.set i y') ce) ∧ (bs.all p = false → forD (gN i) body (bs.map F) (sl.set i y) ce = .rt v ce)
  | [], y, h => ⟨y, fun _ => by rw [List.map_nil, forD], fun h => by cases h⟩
  | b :: bs, y, h => by
    obtain ⟨y', e1, e2⟩ := forD_all F p bs (some (.im (F b))) fun d hd => h d (List.mem_cons_of_mem _ hd)
    have h1 := h b (List.mem_cons_self ..)
    refine ⟨y', fun hb => ?_, fun hb => ?_⟩
    · rw [List.all_cons, Bool.and_eq_true] at hb
      rw [List.map_cons, forD]
      simp only [gN, List.set_set, h1.1 hb.1]
      exact e1 hb.2
    · rw [List.all_cons] at hb
      rw [List.map_cons, forD]
      simp only [gN, List.set_set]
      by_cases hp : p b = true
      · rw [hp, Bool.true_and] at hb
        simp only [h1.1 hp]
        exact e2 hb
      · simp only [h1.2 (Bool.eq_false_iff.mpr hp)]
theorem zw_range {α β γ : Type} (f : α → β → γ) (a0 : α) (b0 : β) : ∀ (ps : List α) (qs : List β), ps.length = qs.length → (List.range ps.length).map (fun k => f (ps.getD k a0) (qs.getD k b0)) = List.zipWith f ps qs := by
  intro ps qs h
  refine List.ext_getElem? fun k => ?_
  rw [List.getElem?_map, List.getElem?_zipWith]
  by_cases hk : k < ps.length
  · rw [List.getElem?_range hk, List.getElem?_eq_getElem hk, List.getElem?_eq_getElem (by omega)]
    simp [List.getD, hk, show k < qs.length by omega]
  · rw [List.getElem?_eq_none (by simpa using hk), List.getElem?_eq_none (by omega : ps.length ≤ k)]
    rfl
end ZZ

set_option Elab.async false
set_option linter.all false
set_option maxRecDepth 100000
set_option maxHeartbeats 4000000
/-! M4: records turned over, with the sides exchanged, one on another. -/
namespace ZZ
open PySem PySem.Spec L2
def swp : Sg → Sg
  | .l => .g
  | .e => .e
  | .g => .l
def swap (s : List Sg) : List Sg := s.map swp
theorem swp_swp (c : Sg) : swp (swp c) = c := by cases c <;> rfl
theorem swap_swap (s : List Sg) : swap (swap s) = s := by
  unfold swap
  rw [List.map_map]
  conv => rhs; rw [← List.map_id s]
  exact List.map_congr_left fun c _ => swp_swp c
theorem swap_app (s t : List Sg) : swap (s ++ t) = swap s ++ swap t := by unfold swap; rw [List.map_append]
theorem swap_rev (s : List Sg) : swap s.reverse = (swap s).reverse := by unfold swap; rw [List.map_reverse]
theorem lefts_nil : lefts [] = 0 := rfl
theorem rights_nil : rights [] = 0 := rfl
theorem sizes_swap (s : List Sg) : lefts (swap s) = rights s ∧ rights (swap s) = lefts s := by
  induction s with
  | nil => exact ⟨rfl, rfl⟩
  | cons c s ih =>
    unfold swap at ih ⊢
    rw [List.map_cons, lefts_cons, rights_cons, lefts_cons, rights_cons, ih.1, ih.2]
    cases c <;> simp [swp]
theorem sizes_rev (s : List Sg) : lefts s.reverse = lefts s ∧ rights s.reverse = rights s := by
  induction s with
  | nil => exact ⟨rfl, rfl⟩
  | cons c s ih =>
    rw [List.reverse_cons, lefts_app, rights_app, ih.1, ih.2]
    simp only [lefts_cons, rights_cons, lefts_nil, rights_nil, Nat.zero_add]
    exact ⟨trivial, trivial⟩
theorem In.swap {L R : Nat} {a : List Sg} (h : In L R a) : In R L (ZZ.swap a) := ⟨(sizes_swap a).1.trans h.2, (sizes_swap a).2.trans h.1⟩
theorem In.rev {L R : Nat} {a : List Sg} (h : In L R a) : In L R a.reverse := ⟨(sizes_rev a).1.trans h.1, (sizes_rev a).2.trans h.2⟩
theorem In.app {L R L2 R2 : Nat} {a b : List Sg} (h : In L R a) (h' : In L2 R2 b) : In (L + L2) (R + R2) (a ++ b) := ⟨by rw [lefts_app, h.1, h'.1], by rw [rights_app, h.2, h'.2]⟩
def sh (k : Nat) (p : Nat × Nat) : Nat × Nat := (p.1 + k, p.2 + k)
theorem hts_sh : ∀ (s : List Sg) (r k : Nat), hts (r + k) s = (hts r s).map (sh k)
  | [], r, k => by rw [hts, hts, List.map_nil]
  | .l :: s, r, k => by rw [hts, hts, List.map_cons, hts_sh s r k]; rfl
  | .e :: s, r, k => by rw [hts, hts, List.map_cons, show r + k + 1 = (r + 1) + k by omega, hts_sh s (r + 1) k]; rfl
  | .g :: s, r, k => by rw [hts, hts, show r + k + 1 = (r + 1) + k by omega, hts_sh s (r + 1) k]
theorem hts_app : ∀ (s t : List Sg) (r : Nat), hts r (s ++ t) = hts r s ++ hts (r + rights s) t
  | [], t, r => by rw [hts, rights_nil]; rfl
  | .l :: s, t, r => by rw [List.cons_append, hts, hts, hts_app s t r, rights_cons]; simp
  | .e :: s, t, r => by rw [List.cons_append, hts, hts, hts_app s t (r + 1), rights_cons, List.cons_append]; simp; congr 1; omega
  | .g :: s, t, r => by rw [List.cons_append, hts, hts, hts_app s t (r + 1), rights_cons]; simp; congr 1; omega
theorem H_app (s t : List Sg) : H (s ++ t) = H s ++ (H t).map (sh (rights s)) := by
  unfold H
  rw [hts_app, hts_sh]
theorem zw_app {α β γ : Type} (f : α → β → γ) : ∀ (a : List α) (b : List β) (a' : List α) (b' : List β), a.length = b.length → List.zipWith f (a ++ a') (b ++ b') = List.zipWith f a b ++ List.zipWith f a' b'
  | [], [], _, _, _ => rfl
  | [], _ :: _, _, _, h => by cases h
  | _ :: _, [], _, _, h => by cases h
  | x :: a, y :: b, a', b', h => by rw [List.cons_append, List.cons_append, List.zipWith_cons_cons, List.zipWith_cons_cons, zw_app f a b a' b' (by simpa using h), List.cons_append]
theorem zw_map {f : Nat × Nat → Nat × Nat → Nat × Nat} (k : Nat) (hf : ∀ p q, f (sh k p) (sh k q) = sh k (f p q)) : ∀ (a b : List (Nat × Nat)), List.zipWith f (a.map (sh k)) (b.map (sh k)) = (List.zipWith f a b).map (sh k)
  | [], _ => rfl
  | _ :: _, [] => rfl
  | x :: a, y :: b => by rw [List.map_cons, List.map_cons, List.zipWith_cons_cons, List.zipWith_cons_cons, List.map_cons, hf, zw_map k hf a b]
section
variable {L R L2 R2 : Nat} {a b c d : List Sg}
theorem meet_app (ha : In L R a) (hb : In L R b) (hc : In L2 R2 c) (hd : In L2 R2 d) : meet (a ++ c) (b ++ d) = meet a b ++ meet c d := by
  refine ((ha.app hc).meet (hb.app hd)).inj ((ha.meet hb).app (hc.meet hd)) ?_
  rw [(meet_H (ha.app hc) (hb.app hd)).1, H_app, H_app, H_app, (meet_H ha hb).1, (meet_H hc hd).1, ha.2, hb.2, (ha.meet hb).2, zw_app _ _ _ _ _ (by rw [ha.len, hb.len]), zw_map]
  intro p q
  simp only [mnp, sh, Prod.mk.injEq]
  omega
theorem join_app (ha : In L R a) (hb : In L R b) (hc : In L2 R2 c) (hd : In L2 R2 d) : join (a ++ c) (b ++ d) = join a b ++ join c d := by
  refine ((ha.app hc).join (hb.app hd)).inj ((ha.join hb).app (hc.join hd)) ?_
  rw [(join_H (ha.app hc) (hb.app hd)).1, H_app, H_app, H_app, (join_H ha hb).1, (join_H hc hd).1, ha.2, hb.2, (ha.join hb).2, zw_app _ _ _ _ _ (by rw [ha.len, hb.len]), zw_map]
  intro p q
  simp only [mxp, sh, Prod.mk.injEq]
  omega
end
/-- how a left and a right layer lie: -1 older, 0 one, 1 younger -/
def rel : List Sg → Nat → Nat → Int
  | [], _, _ => 0
  | .l :: _, 0, _ => -1
  | .l :: s, i + 1, j => rel s i j
  | .g :: _, _, 0 => 1
  | .g :: s, i, j + 1 => rel s i j
  | .e :: _, 0, 0 => 0
  | .e :: _, 0, _ + 1 => -1
  | .e :: _, _ + 1, 0 => 1
  | .e :: s, i + 1, j + 1 => rel s i j
def relP (p : Nat × Nat) (j : Nat) : Int := if j < p.1 then 1 else if p.2 ≤ j then -1 else 0
theorem rel_swap : ∀ (s : List Sg) (i j : Nat), rel (swap s) j i = - rel s i j
  | [], i, j => by simp [swap, rel]
  | .l :: s, 0, j => by simp [swap, swp, rel]
  | .l :: s, i + 1, j => by
    have := rel_swap s i j
    simp only [swap, List.map_cons, swp, rel] at this ⊢
    exact this
  | .g :: s, i, 0 => by simp [swap, swp, rel]
  | .g :: s, i, j + 1 => by
    have := rel_swap s i j
    simp only [swap, List.map_cons, swp, rel] at this ⊢
    exact this
  | .e :: s, 0, 0 => by simp [swap, swp, rel]
  | .e :: s, 0, j + 1 => by simp [swap, swp, rel]
  | .e :: s, i + 1, 0 => by simp [swap, swp, rel]
  | .e :: s, i + 1, j + 1 => by
    have := rel_swap s i j
    simp only [swap, List.map_cons, swp, rel] at this ⊢
    exact this
theorem hts_ge : ∀ (s : List Sg) (r : Nat), ∀ p ∈ hts r s, r ≤ p.1
  | [], r, p, h => by rw [hts] at h; cases h
  | .l :: s, r, p, h => by
    rw [hts] at h
    rcases List.mem_cons.mp h with rfl | h
    · exact Nat.le_refl _
    · exact hts_ge s r p h
  | .e :: s, r, p, h => by
    rw [hts] at h
    rcases List.mem_cons.mp h with rfl | h
    · exact Nat.le_refl _
    · have := hts_ge s (r + 1) p h; omega
  | .g :: s, r, p, h => by
    rw [hts] at h
    have := hts_ge s (r + 1) p h; omega
theorem rel_hts : ∀ (s : List Sg) (r i j : Nat) (p : Nat × Nat), (hts r s)[i]? = some p → rel s i j = relP p (j + r)
  | [], r, i, j, p, h => by rw [hts] at h; simp at h
  | .l :: s, r, 0, j, p, h => by
    rw [hts] at h
    simp only [List.getElem?_cons_zero, Option.some.injEq] at h
    subst h
    simp only [rel, relP]
    rw [if_neg (by omega), if_pos (by omega)]
  | .l :: s, r, i + 1, j, p, h => by
    rw [hts, List.getElem?_cons_succ] at h
    rw [rel]
    exact rel_hts s r i j p h
  | .g :: s, r, i, 0, p, h => by
    rw [hts] at h
    have := hts_ge s (r + 1) p (List.mem_of_getElem? h)
    simp only [rel, relP]
    rw [if_pos (by omega)]
  | .g :: s, r, i, j + 1, p, h => by
    rw [hts] at h
    rw [rel, rel_hts s (r + 1) i j p h]
    congr 1
    omega
  | .e :: s, r, 0, 0, p, h => by
    rw [hts] at h
    simp only [List.getElem?_cons_zero, Option.some.injEq] at h
    subst h
    simp only [rel, relP]
    rw [if_neg (by omega), if_neg (by omega)]
  | .e :: s, r, 0, j + 1, p, h => by
    rw [hts] at h
    simp only [List.getElem?_cons_zero, Option.some.injEq] at h
    subst h
    simp only [rel, relP]
    rw [if_neg (by omega), if_pos (by omega)]
  | .e :: s, r, i + 1, 0, p, h => by
    rw [hts, List.getElem?_cons_succ] at h
    have := hts_ge s (r + 1) p (List.mem_of_getElem? h)
    simp only [rel, relP]
    rw [if_pos (by omega)]
  | .e :: s, r, i + 1, j + 1, p, h => by
    rw [hts, List.getElem?_cons_succ] at h
    rw [rel, rel_hts s (r + 1) i j p h]
    congr 1
    omega
theorem rel_H {s : List Sg} {i : Nat} {p : Nat × Nat} (h : (H s)[i]? = some p) (j : Nat) : rel s i j = relP p j := rel_hts s 0 i j p h
theorem hts_step : ∀ (s : List Sg) (r : Nat), ∀ p ∈ hts r s, p.2 = p.1 ∨ p.2 = p.1 + 1
  | [], r, p, h => by rw [hts] at h; cases h
  | .l :: s, r, p, h => by
    rw [hts] at h
    rcases List.mem_cons.mp h with rfl | h
    · exact .inl rfl
    · exact hts_step s r p h
  | .e :: s, r, p, h => by
    rw [hts] at h
    rcases List.mem_cons.mp h with rfl | h
    · exact .inr rfl
    · exact hts_step s (r + 1) p h
  | .g :: s, r, p, h => by
    rw [hts] at h
    exact hts_step s (r + 1) p h
section
variable {L R : Nat} {a b c : List Sg}
theorem leb_ix (ha : In L R a) (hb : In L R b) : leb a b = true ↔ ∀ (i : Nat) (p q : Nat × Nat), (H a)[i]? = some p → (H b)[i]? = some q → p.1 ≤ q.1 ∧ p.2 ≤ q.2 := by
  unfold leb
  rw [List.all_eq_true]
  refine ⟨fun h i p q h1 h2 => ?_, fun h x hx => ?_⟩
  · have := h (lep p q) (List.mem_iff_getElem?.mpr ⟨i, by rw [List.getElem?_zipWith, h1, h2]⟩)
    simpa [lep] using this
  · obtain ⟨i, hi⟩ := List.mem_iff_getElem?.mp hx
    rw [List.getElem?_zipWith] at hi
    cases h1 : (H a)[i]? with
    | none => rw [h1] at hi; cases hi
    | some p =>
      cases h2 : (H b)[i]? with
      | none => rw [h1, h2] at hi; cases hi
      | some q =>
        rw [h1, h2] at hi
        have := h i p q h1 h2
        cases hi
        simp [lep, this.1, this.2]
theorem H_bound (ha : In L R a) {i : Nat} {p : Nat × Nat} (h : (H a)[i]? = some p) : p.1 ≤ R ∧ p.2 ≤ R ∧ p.1 ≤ p.2 ∧ p.2 ≤ p.1 + 1 ∧ i < L := by
  have hm := List.mem_of_getElem? h
  have h1 := okh_all ha.ok p hm
  have h2 := hts_step a 0 p hm
  have h3 := (List.getElem?_eq_some_iff.mp h).1
  rw [ha.len] at h3
  omega
theorem leb_rel (ha : In L R a) (hb : In L R b) : leb a b = true ↔ ∀ i j, i < L → j < R → rel a i j ≤ rel b i j := by
  rw [leb_ix ha hb]
  refine ⟨fun h i j hi hj => ?_, fun h i p q h1 h2 => ?_⟩
  · obtain ⟨p, h1⟩ : ∃ p, (H a)[i]? = some p := ⟨_, List.getElem?_eq_getElem (by rw [ha.len]; exact hi)⟩
    obtain ⟨q, h2⟩ : ∃ q, (H b)[i]? = some q := ⟨_, List.getElem?_eq_getElem (by rw [hb.len]; exact hi)⟩
    have := h i p q h1 h2
    have b1 := H_bound ha h1
    have b2 := H_bound hb h2
    rw [rel_H h1, rel_H h2]
    unfold relP
    split <;> split <;> (try split) <;> (try split) <;> omega
  · have b1 := H_bound ha h1
    have b2 := H_bound hb h2
    refine ⟨?_, ?_⟩
    · by_cases hlt : q.1 < p.1
      · have := h i q.1 b1.2.2.2.2 (by omega)
        rw [rel_H h1, rel_H h2] at this
        unfold relP at this
        rw [if_pos hlt, if_neg (by omega)] at this
        split at this <;> omega
      · omega
    · by_cases hlt : q.2 < p.2
      · have := h i (p.2 - 1) b1.2.2.2.2 (by omega)
        rw [rel_H h1, rel_H h2] at this
        unfold relP at this
        rw [if_neg (show ¬ p.2 - 1 < q.1 by omega), if_pos (show q.2 ≤ p.2 - 1 by omega), if_neg (show ¬ p.2 ≤ p.2 - 1 by omega)] at this
        split at this <;> omega
      · omega
theorem bool_iff {x y : Bool} (h : x = true ↔ y = true) : x = y := by
  cases x <;> cases y <;> simp_all
theorem leb_swap (ha : In L R a) (hb : In L R b) : leb (swap b) (swap a) = leb a b := by
  refine bool_iff ?_
  rw [leb_rel hb.swap ha.swap, leb_rel ha hb]
  refine ⟨fun h i j hi hj => ?_, fun h j i hj hi => ?_⟩
  · have := h j i hj hi
    rw [rel_swap, rel_swap] at this
    omega
  · have := h i j hi hj
    rw [rel_swap, rel_swap]
    omega
theorem H_rev (s : List Sg) : H s.reverse = ((H s).map fun p => (rights s - p.2, rights s - p.1)).reverse := by
  induction s with
  | nil => rfl
  | cons c s ih =>
    rw [List.reverse_cons, H_app, ih, (sizes_rev s).2]
    have sub : ∀ x k y : Nat, x + k - (y + k) = x - y := fun x k y => by omega
    cases c with
    | l =>
      have h1 : H [Sg.l] = [(0, 0)] := rfl
      have h2 : H (Sg.l :: s) = (0, 0) :: H s := by unfold H; rw [hts]
      have h3 : rights (Sg.l :: s) = rights s := by rw [rights_cons]; simp
      rw [h1, h2, h3]
      simp [sh]
    | e =>
      have h1 : H [Sg.e] = [(0, 1)] := rfl
      have h2 : H (Sg.e :: s) = (0, 1) :: (H s).map (sh 1) := by unfold H; rw [hts, hts_sh]
      have h3 : rights (Sg.e :: s) = rights s + 1 := by rw [rights_cons]; simp
      have hm : (H s).map ((fun p : Nat × Nat => (rights s + 1 - p.2, rights s + 1 - p.1)) ∘ sh 1) = (H s).map fun p => (rights s - p.2, rights s - p.1) := List.map_congr_left fun p _ => by simp [sh]
      rw [h1, h2, h3]
      simp only [List.map_cons, List.reverse_cons, List.map_map, hm, List.map_nil]
      congr 1
      simp [sh]
      try omega
    | g =>
      have h1 : H [Sg.g] = [] := rfl
      have h2 : H (Sg.g :: s) = (H s).map (sh 1) := by unfold H; rw [hts, hts_sh]
      have h3 : rights (Sg.g :: s) = rights s + 1 := by rw [rights_cons]; simp
      rw [h1, h2, h3, List.map_nil, List.append_nil, List.map_map]
      congr 1
      refine List.map_congr_left fun p _ => ?_
      simp [sh]
theorem leb_rev (ha : In L R a) (hb : In L R b) : leb b.reverse a.reverse = leb a b := by
  refine bool_iff ?_
  rw [leb_ix hb.rev ha.rev, leb_ix ha hb]
  have key : ∀ (s : List Sg), In L R s → ∀ i, i < L → (H s.reverse)[i]? = ((H s)[L - 1 - i]?).map fun p => (R - p.2, R - p.1) := fun s hs i hi => by
    rw [H_rev, hs.2, List.getElem?_reverse (by rw [List.length_map, hs.len]; exact hi), List.getElem?_map, List.length_map, hs.len]
  refine ⟨fun h i p q h1 h2 => ?_, fun h i p q h1 h2 => ?_⟩
  · have b1 := H_bound ha h1
    have b2 := H_bound hb h2
    have e : L - 1 - (L - 1 - i) = i := by omega
    have := h (L - 1 - i) (R - q.2, R - q.1) (R - p.2, R - p.1) (by rw [key b hb _ (by omega), e, h2]; rfl) (by rw [key a ha _ (by omega), e, h1]; rfl)
    simp only at this
    omega
  · have b1 := H_bound hb.rev h1
    rw [key b hb i b1.2.2.2.2] at h1
    rw [key a ha i b1.2.2.2.2] at h2
    cases e1 : (H b)[L - 1 - i]? with
    | none => rw [e1] at h1; cases h1
    | some p' =>
      cases e2 : (H a)[L - 1 - i]? with
      | none => rw [e2] at h2; cases h2
      | some q' =>
        rw [e1] at h1
        rw [e2] at h2
        cases h1
        cases h2
        have := h (L - 1 - i) q' p' e2 e1
        simp only
        omega
theorem leb_anti (ha : In L R a) (hb : In L R b) (h1 : leb a b = true) (h2 : leb b a = true) : a = b := by
  rw [leb_iff ha hb] at h1
  rw [leb_iff hb ha] at h2
  rw [← h1, meet_comm ha hb, h2]
/-- an involution that turns the order round exchanges meet and join -/
theorem dual {L' R' : Nat} (φ : List Sg → List Sg) (hi : ∀ s, In L R s → In L' R' (φ s)) (hj : ∀ s, In L' R' s → In L R (φ s)) (h2 : ∀ s, φ (φ s) = s) (hl : ∀ a b, In L R a → In L R b → leb (φ b) (φ a) = leb a b) (ha : In L R a) (hb : In L R b) :
    φ (meet a b) = join (φ a) (φ b) ∧ φ (join a b) = meet (φ a) (φ b) := by
  have hl' : ∀ a b, In L' R' a → In L R b → leb (φ b) a = leb (φ a) b := fun x y hx hy => by rw [← hl (φ x) y (hj x hx) hy, h2]
  have hl'' : ∀ a b, In L R a → In L' R' b → leb b (φ a) = leb a (φ b) := fun x y hx hy => by rw [← hl x (φ y) hx (hj y hy), h2]
  have ia := hi a ha
  have ib := hi b hb
  have im := ha.meet hb
  have ij := ha.join hb
  have jj := ia.join ib
  have mm := ia.meet ib
  refine ⟨leb_anti (hi _ im) jj ?_ ?_, leb_anti (hi _ ij) mm ?_ ?_⟩
  · rw [hl' _ _ jj im]
    refine leb_meet (hj _ jj) ha hb ?_ ?_
    · rw [← hl' _ _ jj ha]; exact leb_join_l ia ib
    · rw [← hl' _ _ jj hb]; exact leb_join_r ia ib
  · refine leb_join (hi _ im) ia ib ?_ ?_
    · rw [hl _ _ im ha]; exact leb_meet_l ha hb
    · rw [hl _ _ im hb]; exact leb_meet_r ha hb
  · refine leb_meet (hi _ ij) ia ib ?_ ?_
    · rw [hl _ _ ha ij]; exact leb_join_l ha hb
    · rw [hl _ _ hb ij]; exact leb_join_r ha hb
  · rw [hl'' _ _ ij mm]
    refine leb_join (hj _ mm) ha hb ?_ ?_
    · rw [← hl'' _ _ ha mm]; exact leb_meet_l ia ib
    · rw [← hl'' _ _ hb mm]; exact leb_meet_r ia ib
theorem rev_dual (ha : In L R a) (hb : In L R b) : (meet a b).reverse = join a.reverse b.reverse ∧ (join a b).reverse = meet a.reverse b.reverse :=
  dual List.reverse (fun _ h => h.rev) (fun _ h => h.rev) List.reverse_reverse (fun _ _ h1 h2 => leb_rev h1 h2) ha hb
theorem swap_dual (ha : In L R a) (hb : In L R b) : swap (meet a b) = join (swap a) (swap b) ∧ swap (join a b) = meet (swap a) (swap b) :=
  dual swap (fun _ h => h.swap) (fun _ h => h.swap) swap_swap (fun _ _ h1 h2 => leb_swap h1 h2) ha hb
end
/-! ### texts -/
theorem txt_rev (s : List Sg) : L2.revS (txt s) = txt s.reverse := by
  unfold L2.revS txt st
  rw [List.map_reverse]
end ZZ

set_option Elab.async false
set_option linter.all false
set_option maxRecDepth 100000
set_option maxHeartbeats 4000000
/-! M5: texts of any signs; `in` over rows. -/
namespace ZZ
open PySem PySem.Spec L2
/-- no sign of a step -/
def bad (c : Nat) : Bool := !(c == 60 || c == 61 || c == 62)
theorem txt_st (s : List Sg) : txt s = st (s.map Sg.code) := rfl
section
variable {sl : Sl} {ce : List Cell}
theorem st_cut (s : List Nat) (lo hi : Option Int) : L2.cutS (st s) lo hi = st ((s.drop (HT.sIx s.length 0 lo)).take (HT.sIx s.length s.length hi - HT.sIx s.length 0 lo)) := by
  unfold L2.cutS
  rw [st_len]
  unfold st
  simp only [List.toList_toArray]
theorem st_to (s : List Nat) (k : Nat) (h : k ≤ s.length) (h2 : s.length ≤ 16777216) : kSlL (.im (.str (st s))) none (some (k : Int)) sl ce = .ok (.im (.str (st (s.take k)))) ce := by
  unfold kSlL
  simp only [st_len, h2, if_true, st_cut, HT.sIx_nat, HT.sIx_none, List.drop_zero, Nat.sub_zero]
  rw [Nat.min_eq_left h]
theorem st_from (s : List Nat) (k : Nat) (h : k ≤ s.length) (h2 : s.length ≤ 16777216) : kSlL (.im (.str (st s))) (some (k : Int)) none sl ce = .ok (.im (.str (st (s.drop k)))) ce := by
  unfold kSlL
  simp only [st_len, h2, if_true, st_cut, HT.sIx_nat, HT.sIx_none]
  rw [Nat.min_eq_left h, List.take_of_length_le (by simp)]
theorem ix_st (s : List Nat) (k c : Nat) (h : s[k]? = some c) (h2 : s.length ≤ 16777216) : kIx (.im (.str (st s))) (.im (.int (k : Int))) sl ce = .ok (.im (.str (st [c]))) ce := by
  unfold kIx
  simp only [st_len, h2, if_true]
  have e : (st s).cps.toList = s := by unfold st; simp
  rw [e, atI_nat _ _ _ h]
  rfl
theorem add_st (x y : List Nat) (h : x.length + y.length ≤ 16777216) : kAdd (.im (.str (st x))) (.im (.str (st y))) sl ce = .ok (.im (.str (st (x ++ y)))) ce := by
  unfold kAdd
  simp only [st_len, st_app]
  rw [if_pos h]
theorem steps_cps : ("<=>" : Str).cps.toList = [60, 61, 62] := by decide +kernel
theorem inS_bad (neg : Bool) (c : Nat) : kInS neg (.im (.str (st [c]))) (.im (.str "<=>")) sl ce = .ok (.im (.bl (if neg then bad c else !bad c))) ce := by
  unfold kInS st
  simp only [steps_cps]
  have : decide (c ∈ [60, 61, 62]) = !bad c := by
    unfold bad
    by_cases h1 : c = 60 <;> by_cases h2 : c = 61 <;> by_cases h3 : c = 62 <;> simp [h1, h2, h3]
  rw [this]
  cases neg <;> simp
theorem dash : ("-" : Str) = st [45] := by decide +kernel
end
/-! enumerations with their numbers -/
def enF : Nat → List D → List D
  | _, [] => []
  | k, d :: ds => .tup [.int (k : Nat), d] :: enF (k + 1) ds
theorem enF_eq (ds : List D) : enumD ds = enF 0 ds := by
  have key : ∀ (ds pre : List D), (List.range' pre.length ds.length).filterMap (fun (i : Nat) => (pre ++ ds)[i]?.map fun d => D.tup [.int (i : Int), d]) = enF pre.length ds := by
    intro ds
    induction ds with
    | nil => intro pre; rfl
    | cons d ds ih =>
      intro pre
      have h2 := ih (pre ++ [d])
      rw [List.length_cons, List.range'_succ, List.filterMap_cons]
      have e : (pre ++ d :: ds)[pre.length]? = some d := by simp
      rw [e, Option.map_some, enF]
      simp only
      rw [List.length_append, List.length_singleton, List.append_assoc, List.singleton_append] at h2
      rw [h2]
  have := key ds []
  rw [List.nil_append, List.length_nil] at this
  unfold enumD
  rw [List.range_eq_range']
  exact this
def ixs : Nat → List Sg → List (Int × Sg)
  | _, [] => []
  | k, c :: s => ((k : Int), c) :: ixs (k + 1) s
theorem ixs_snd : ∀ (k : Nat) (s : List Sg), (ixs k s).map Prod.snd = s
  | _, [] => rfl
  | k, c :: s => by rw [ixs, List.map_cons, ixs_snd]
theorem enF_ixs (F : Sg → D) (tl : List D) : ∀ (s : List Sg) (k : Nat), enF k (s.map F ++ tl) = (ixs k s).map (fun p => D.tup [.int p.1, F p.2]) ++ enF (k + s.length) tl
  | [], k => by simp [ixs]
  | c :: s, k => by
    rw [List.map_cons, List.cons_append, enF, enF_ixs F tl s (k + 1), ixs, List.map_cons, List.length_cons, List.cons_append, show k + 1 + s.length = k + (s.length + 1) by omega]
/-- signs, then one that is none -/
theorem bad_split : ∀ (cs : List Nat), cs.any bad = true → ∃ (s : List Sg) (b : Nat) (rest : List Nat), cs = s.map Sg.code ++ b :: rest ∧ bad b = true ∧ cs.findIdx bad = s.length
  | [], h => by simp at h
  | c :: cs, h => by
    by_cases hb : bad c = true
    · exact ⟨[], c, cs, rfl, hb, by rw [List.findIdx_cons, hb]; rfl⟩
    · have hb' : bad c = false := by simpa using hb
      rw [List.any_cons, hb', Bool.false_or] at h
      obtain ⟨s, b, rest, h1, h2, h3⟩ := bad_split cs h
      have : ∃ g : Sg, g.code = c := by
        unfold bad at hb'
        by_cases q1 : c = 60
        · exact ⟨.l, by rw [q1]; rfl⟩
        · by_cases q2 : c = 61
          · exact ⟨.e, by rw [q2]; rfl⟩
          · by_cases q3 : c = 62
            · exact ⟨.g, by rw [q3]; rfl⟩
            · simp [q1, q2, q3] at hb'
      obtain ⟨g, rfl⟩ := this
      exact ⟨g :: s, b, rest, by rw [h1]; rfl, h2, by rw [List.findIdx_cons, hb', h3]; rfl⟩
def down : Nat → List D
  | 0 => []
  | n + 1 => .int (n : Nat) :: down n
theorem range_down : ∀ (n : Nat), rangeD ((n : Int) - 1) (-1) n = down n
  | 0 => rfl
  | n + 1 => by
    have ih := range_down n
    unfold rangeD at ih ⊢
    rw [List.range_succ_eq_map, List.map_cons, List.map_map, down, ← ih]
    congr 1
    · congr 1
      push_cast
      omega
    · refine List.map_congr_left fun i _ => ?_
      simp only [Function.comp]
      congr 1
      push_cast
      omega
theorem rngB_down (n : Nat) (h : n < 2 ^ 60) : kRngB [.im (.int ((n : Int) - 1)), .im (.int (-1)), .im (.int (-1))] = some (down n) := by
  have h1 : isz ((n : Int) - 1) = true := isz_of (by constructor <;> omega)
  have h2 : isz (-1) = true := by decide
  unfold kRngB
  simp only [h1, h2, Bool.and_self, decide_true, if_true]
  rw [show (((n : Int) - 1) - (-1)).toNat = n by omega, range_down]
theorem rng2_ints (a b : Int) (h : -(2 ^ 60) < a ∧ a < 2 ^ 60) (h2 : -(2 ^ 60) < b ∧ b < 2 ^ 60) : ∃ l : List Int, kRng2 [.im (.int a), .im (.int b)] = some (l.map .int) := by
  have h1 : isz a = true := isz_of (by constructor <;> omega)
  have h2 : isz b = true := isz_of (by constructor <;> omega)
  unfold kRng2
  simp only [h1, h2, Bool.and_self, if_true]
  unfold rangeD
  exact ⟨(List.range _).map fun (i : Nat) => a + (i : Int) * 1, by rw [List.map_map]; rfl⟩
/-! in -/
theorem toPys_ok : ∀ (ds : List D), (∀ d ∈ ds, okD 60 d = true) → ∃ ps, toPys ds = some ps ∧ ps.all SeqAt.shaped = true ∧ ∀ (e : D) (q : PyData), toPy e = some q → ps.any (fun p => PyData.eqv p q) = ds.any fun d => eqD d e
  | [], h => ⟨[], rfl, rfl, fun e q _ => rfl⟩
  | d :: ds, h => by
    obtain ⟨p, h1, h2, h3⟩ := okD_py 60 d (h d (List.mem_cons_self ..))
    obtain ⟨ps, k1, k2, k3⟩ := toPys_ok ds fun x hx => h x (List.mem_cons_of_mem _ hx)
    refine ⟨p :: ps, by rw [toPys, h1, k1], ?_, fun e q hq => ?_⟩
    · rw [List.all_cons, k2, Bool.and_true]
      unfold SeqAt.shaped
      rw [h2, Bool.true_and, decide_eq_true_eq]
      omega
    · rw [List.any_cons, List.any_cons, k3 e q hq, eqv_eqD d e p q h1 hq]
theorem inO_ok {c i : Nat} {u : Val} {es : List D} {d : D} {sl : Sl} {ce : List Cell} (h1 : itO c i u = some es) (h2 : ∀ e ∈ es, okD 60 e = true) (h3 : okD 60 d = true) : kInO c i (.im d) u sl ce = .ok (.im (.bl (es.any fun e => eqD e d))) ce := by
  obtain ⟨p, p1, p2, p3⟩ := okD_py 60 d h3
  obtain ⟨ps, k1, k2, k3⟩ := toPys_ok es h2
  have sp : SeqAt.shaped p = true := by
    unfold SeqAt.shaped
    rw [p2, Bool.true_and, decide_eq_true_eq]
    omega
  unfold kInO
  simp only [h1, asIm, p1, k1, sp, k2, and_self, if_true, k3 d p p1]
end ZZ

set_option Elab.async false
set_option linter.all false
set_option maxRecDepth 100000
set_option maxHeartbeats 4000000
namespace ZZ
open PySem PySem.Spec L2 L2H
noncomputable section
abbrev G_Core_narrowed_1_most_least : List Val → List Val → List Val := gRev

abbrev G_Core_narrowed_1_most : List Val → List Val → List Val := gKb (.int 0)

abbrev G_Core_narrowed_1_least : List Val → List Val → List Val := gKa (.non)

abbrev G_Core_narrowed_1 : List Val → List Val → List Val := gK0 (.int 0) (.non)

def flds : Nat → List Str
  | 1 => ["index"]
  | 2 => ["index"]
  | 3 => ["index"]
  | 4 => ["index"]
  | 5 => ["layers", "joints"]
  | _ => []

abbrev Zz (w : World) (K : PySem.W.Frag) (cl : Nat → Addr) : Zx := ⟨K, cl, flds, w⟩

abbrev e_BadCore : Nat := 0

abbrev e_BadLayer : Nat := 1

abbrev e_BadJoint : Nat := 2

abbrev e_NoLayer : Nat := 3

abbrev e_NoJoint : Nat := 4

abbrev c_Core : Nat := 5

def x_BadCore (c : Nat) : Bool := [true, true, true, false, false].getD c false

def x_BadJoint (c : Nat) : Bool := [false, false, true, false, false].getD c false

def x_BadLayer (c : Nat) : Bool := [false, true, false, false, false].getD c false

def x_NoJoint (c : Nat) : Bool := [false, false, false, false, true].getD c false

def x_NoLayer (c : Nat) : Bool := [false, false, false, true, false].getD c false

def i_Core : Ty → Option Bool
  | .t "NoneType" => some false
  | .t "bool" => some false
  | .t "int" => some false
  | .t "str" => some false
  | .t "tuple" => some false
  | .t "list" => some false
  | .c 5 => some true
  | _ => none

def i_bool : Ty → Option Bool
  | .t "NoneType" => some false
  | .t "bool" => some true
  | .t "int" => some false
  | .t "str" => some false
  | .t "tuple" => some false
  | .t "list" => some false
  | .c 5 => some false
  | _ => none

def i_int : Ty → Option Bool
  | .t "NoneType" => some false
  | .t "bool" => some true
  | .t "int" => some true
  | .t "str" => some false
  | .t "tuple" => some false
  | .t "list" => some false
  | .c 5 => some false
  | _ => none

def i_tuple : Ty → Option Bool
  | .t "NoneType" => some false
  | .t "bool" => some false
  | .t "int" => some false
  | .t "str" => some false
  | .t "tuple" => some true
  | .t "list" => some false
  | .c 5 => some false
  | _ => none

def el_is_layer_0 : DE :=
  (eBin (kInS false) (eV 3) (eC (.str "abcdefghijklmnopqrstuvwxyz")))
def b_is_layer : DSt :=
  (sSeq (sAsg (gT [(gN 1), (gN 2)]) (eV 0)) (sRet (eAnd (eChain kLe kLe (eC (.int 1)) (eArgs [(eV 1)] kLen) (eC (.int 12))) (eAnd (eArgs [(eSettle (eLcC [3] (iExp (eV 1) itS) (gN 3) (eC (.bl true)) el_is_layer_0))] kAll) (eBin kGe (eV 2) (eC (.int 1)))))))
def f_is_layer : DF := mkD 4 b_is_layer

def b_is_joint : DSt :=
  (sSeq (sAsg (gT [(gN 1), (gN 2)]) (eV 0)) (sRet (eAnd (eBin kGe (eV 1) (eC (.int 0))) (eOr (eBin (kIsN false) (eV 2) (eC .non)) (eBin kLe (eV 1) (eV 2))))))
def f_is_joint : DF := mkD 3 b_is_joint

def lp_Core___init___0 : DSt :=
  (sIf (eNot (eArgs [(eV 4)] (kCall f_is_layer)))
    (sRaise e_BadLayer [(eV 3)])
    sNil)
def lp_Core___init___1 : DSt :=
  (sIf (eNot (eArgs [(eV 5)] (kCall f_is_joint)))
    (sRaise e_BadJoint [(eV 3)])
    sNil)
def b_Core___init__ : DSt :=
  (sSeq (sIf (eBin kGt (eArgs [(eV 1)] kLen) (eC (.int 20)))
    (sRaiseT e_BadCore)
    sNil) (sSeq (sFor (iArgs [(eV 1)] kEnum) (gT [(gN 3), (gN 4)]) lp_Core___init___0) (sSeq (sIf (eBin (kIsN false) (eV 2) (eC .non))
    (sSet 2 (eBin kRepL (eArgs [(eArgs [(eC (.int 0)), (eC .non)] kTup)] kLst) (eBin kAdd (eArgs [(eV 1)] kLen) (eC (.int 1)))))
    sNil) (sSeq (sIf (eBin kNe (eArgs [(eV 2)] kLen) (eBin kAdd (eArgs [(eV 1)] kLen) (eC (.int 1))))
    (sRaiseT e_BadCore)
    sNil) (sSeq (sFor (iArgs [(eV 2)] kEnum) (gT [(gN 3), (gN 5)]) lp_Core___init___1) (sSeq (sFldSet c_Core 0 (eV 0) (eArgs [(eV 1)] kListI)) (sFldSet c_Core 1 (eV 0) (eArgs [(eV 2)] kListI))))))))
def f_Core___init__ : DF := mkD 6 b_Core___init__

def b_Core___len__ : DSt :=
  (sRet (eArgs [(eUn (kFld c_Core 0) (eV 0))] kLen))
def f_Core___len__ : DF := mkD 1 b_Core___len__

def b_Core___getitem__ : DSt :=
  (sSeq (sIf (eNot (eChain kLe kLt (eC (.int 0)) (eV 1) (eArgs [(eUn (kFld c_Core 0) (eV 0))] kLen)))
    (sRaise e_NoLayer [(eV 1)])
    sNil) (sRet (eBin kIx (eUn (kFld c_Core 0) (eV 0)) (eV 1))))
def f_Core___getitem__ : DF := mkD 2 b_Core___getitem__

def b_Core_joint : DSt :=
  (sSeq (sIf (eNot (eChain kLe kLt (eC (.int 0)) (eV 1) (eArgs [(eUn (kFld c_Core 1) (eV 0))] kLen)))
    (sRaise e_NoJoint [(eV 1)])
    sNil) (sRet (eBin kIx (eUn (kFld c_Core 1) (eV 0)) (eV 1))))
def f_Core_joint : DF := mkD 2 b_Core_joint

def el_Core_thickness_0 : DE :=
  (eBin kIx (eV 1) (eC (.int 1)))
def b_Core_thickness : DSt :=
  (sRet (eArgs [(eSettle (eLcC [1] (iExp (eUn (kFld c_Core 0) (eV 0)) itL) (gN 1) (eC (.bl true)) el_Core_thickness_0))] kSum))
def f_Core_thickness : DF := mkD 2 b_Core_thickness

def b_Core_narrowed : DSt :=
  (sSeq (sAsg (gT [(gN 4), (gN 5)]) (eMth (isC c_Core) (kMeth f_Core_joint) (eV 0) [(eV 1)])) (sSeq (sIf (eBin kGt (eV 2) (eV 4))
    (sSet 4 (eV 2))
    sNil) (sSeq (sIf (eOr (eBin (kIsN false) (eV 5) (eC .non)) (eAnd (eBin (kIsN true) (eV 3) (eC .non)) (eBin kLt (eV 3) (eV 5))))
    (sSet 5 (eV 3))
    sNil) (sSeq (sIf (eAnd (eBin (kIsN true) (eV 5) (eC .non)) (eBin kLt (eV 5) (eV 4)))
    (sRaise e_BadJoint [(eV 1)])
    sNil) (sSeq (sSet 6 (eArgs [(eUn (kFld c_Core 1) (eV 0))] kListC)) (sSeq (sSetIx (eV 6) (eV 1) (eArgs [(eV 4), (eV 5)] kTup)) (frz 6 (sRet (eArgs [(eUn (kFld c_Core 0) (eV 0)), (eV 6)] (kMake c_Core 2 f_Core___init__))))))))))
def f_Core_narrowed : DF := mkD 7 b_Core_narrowed

def b__law_mix : DSt :=
  (sSeq (sSet 2 (eBin kMod (eArgs [(eBin kAdd (eBin kMul (eBin kMul (eV 0) (eC (.int 97))) (eBin kAdd (eV 1) (eC (.int 1)))) (eBin kMul (eC (.int 31)) (eV 1)))] kInt) (eC (.int 1000003)))) (sRet (eBin kAdd (eV 2) (eBin kDiv (eBin kMul (eV 2) (eV 2)) (eC (.int 1013))))))
def f__law_mix : DF := mkD 3 b__law_mix

def lp__law_pool_0 : DSt :=
  (sIf (eAnd (eTru (eV 6)) (eBin kGt (eV 5) (eC (.int 0))))
    (sSeq (sDrop (eMth tyL kAppend (eV 2) [(eBin kMod (eArgs [(eV 5)] kInt) (eC (.int 1000003)))])) (sSet 5 (eBin kDiv (eV 5) (eC (.int 1000003)))))
    (sIf (eAnd (eNot (eTru (eV 6))) (eBin kLt (eV 7) (eC (.int 6))))
    (sDrop (eMth tyL kAppend (eV 2) [(eArgs [(eBin kIx (eV 0) (eV 4)), (eV 7)] (kCall f__law_mix))]))
    sNil))
def lp__law_pool_1 : DSt :=
  (sSeq (sSet 3 (eBin kMod (eArgs [(eBin kAdd (eV 3) (eBin kMul (eBin kIx (eV 0) (eV 4)) (eBin kAdd (eV 4) (eC (.int 1)))))] kInt) (eC (.int 1000003)))) (sSeq (sSet 5 (eArgs [(eBin kIx (eV 0) (eV 4))] kAbs)) (sSeq (sSet 6 (eBin kGe (eV 5) (eBin kPow (eC (.int 10)) (eC (.int 18))))) (sFor (iArgs [(eC (.int 60))] kRng1) (gN 7) lp__law_pool_0))))
def lp__law_pool_2 : DSt :=
  (sIf (eBin kLt (eArgs [(eV 2)] kLen) (eV 1))
    (sDrop (eMth tyL kAppend (eV 2) [(eArgs [(eV 3), (eArgs [(eV 2)] kLen)] (kCall f__law_mix))]))
    sNil)
def b__law_pool : DSt :=
  (sSeq (sSet 2 (eArgs [] kLstC)) (sSeq (sSet 3 (eC (.int 0))) (sSeq (sFor (iArgs [(eArgs [(eArgs [(eV 0)] kLen), (eC (.int 63))] kMin)] kRng1) (gN 4) lp__law_pool_1) (sSeq (sFor (iArgs [(eV 1)] kRng1) (gN 7) lp__law_pool_2) (sRet (eV 2))))))
def f__law_pool : DF := mkD 8 b__law_pool

def b__law_draw : DSt :=
  (sSeq (sIf (eBin kEq (eArgs [(eV 0)] kLen) (eC (.int 0)))
    (sRet (eC (.int 0)))
    sNil) (sRet (eBin kMod (eArgs [(eMth tyL kPopAt (eV 0) [(eC (.int 0))])] kInt) (eV 1))))
def f__law_draw : DF := mkD 2 b__law_draw

def lp__law_number_0 : DSt :=
  (sSet 2 (eBin kAdd (eBin kMul (eV 2) (eC (.int 1000003))) (eArgs [(eV 0), (eC (.int 1000003))] (kCall f__law_draw))))
def b__law_number : DSt :=
  (sSeq (sSet 1 (eArgs [(eV 0), (eC (.int 8))] (kCall f__law_draw))) (sSeq (sSet 2 (eArgs [(eV 0), (eC (.int 5))] (kCall f__law_draw))) (sSeq (sIf (eBin kEq (eV 1) (eC (.int 4)))
    (sFor (iArgs [(eC (.int 5))] kRng1) (gN 3) lp__law_number_0)
    sNil) (sRet (eBin kMod (eArgs [(eV 2)] kInt) (eBin kPow (eC (.int 10)) (eC (.int 30))))))))
def f__law_number : DF := mkD 4 b__law_number

def b__law_kind : DSt :=
  (sSeq (sSet 1 (eBin kIx (eArgs [(eC (.int 1)), (eC (.int 1)), (eC (.int 1)), (eC (.int 2)), (eC (.int 3)), (eC (.int 12))] kLst) (eArgs [(eV 0), (eC (.int 6))] (kCall f__law_draw)))) (sSeq (sSet 2 (eArgs [(eV 0), (eV 1)] (kCall f__law_draw))) (sSeq (sSet 3 (eC (.str "abcdefghijklmnopqrstuvwxyz"))) (sSeq (sSet 4 (eBin kIx (eV 3) (eArgs [(eV 0), (eBin kIx (eArgs [(eC (.int 2)), (eC (.int 3)), (eC (.int 26))] kLst) (eArgs [(eV 0), (eC (.int 3))] (kCall f__law_draw)))] (kCall f__law_draw)))) (sRet (eBin kAdd (eBin kAdd (eBin kRepS (eC (.str "b")) (eV 2)) (eV 4)) (eBin kRepS (eC (.str "b")) (eBin kSub (eBin kSub (eV 1) (eC (.int 1))) (eV 2)))))))))
def f__law_kind : DF := mkD 5 b__law_kind

def b__law_bounds : DSt :=
  (sSeq (sSet 1 (eArgs [(eV 0)] (kCall f__law_number))) (sSeq (sSet 2 (eBin kAdd (eV 1) (eArgs [(eV 0)] (kCall f__law_number)))) (sSeq (sIf (eBin kEq (eArgs [(eV 0), (eC (.int 3))] (kCall f__law_draw)) (eC (.int 0)))
    (sRet (eArgs [(eV 1), (eC .non)] kTup))
    sNil) (sRet (eArgs [(eV 1), (eV 2)] kTup)))))
def f__law_bounds : DF := mkD 3 b__law_bounds

def b__law_whole : DSt :=
  (sRet (eAnd (eUn (kIsi i_int) (eV 0)) (eNot (eUn (kIsi i_bool) (eV 0)))))
def f__law_whole : DF := mkD 1 b__law_whole

def el__law_same_0 : DE :=
  (eV 5)
def lp__law_same_1 : DSt :=
  (sSeq (sSet 5 (eBin (kOwnIx c_Core f_Core___getitem__) (eV 0) (eV 4))) (sSeq (sIf (eOr (eNot (eUn (kIsi i_tuple) (eV 5))) (eOr (eBin kNe (eV 5) (eBin kIx (eV 1) (eV 4))) (eNot (eArgs [(eBin kIx (eV 5) (eC (.int 1)))] (kCall f__law_whole)))))
    (sRet (eC (.bl false)))
    sNil) (sSet 3 (eBin kAdd (eV 3) (eBin kIx (eBin kIx (eV 1) (eV 4)) (eC (.int 1)))))))
def lp__law_same_2 : DSt :=
  (sSeq (sSet 6 (eMth (isC c_Core) (kMeth f_Core_joint) (eV 0) [(eV 4)])) (sSeq (sIf (eOr (eNot (eUn (kIsi i_tuple) (eV 6))) (eOr (eBin kNe (eV 6) (eBin kIx (eV 2) (eV 4))) (eNot (eArgs [(eBin kIx (eV 6) (eC (.int 0)))] (kCall f__law_whole)))))
    (sRet (eC (.bl false)))
    sNil) (sIf (eAnd (eBin (kIsN true) (eBin kIx (eV 6) (eC (.int 1))) (eC .non)) (eNot (eArgs [(eBin kIx (eV 6) (eC (.int 1)))] (kCall f__law_whole))))
    (sRet (eC (.bl false)))
    sNil)))
def b__law_same : DSt :=
  (sSeq (sIf (eOr (eNot (eUn (kIsi i_Core) (eV 0))) (eBin kNe (eUn (kLenO c_Core f_Core___len__) (eV 0)) (eArgs [(eV 1)] kLen)))
    (sRet (eC (.bl false)))
    sNil) (sSeq (sIf (eBin kNe (eSettle (eLcC [5] (iExp (eV 0) (itO c_Core 0)) (gN 5) (eC (.bl true)) el__law_same_0)) (eV 1))
    (sRet (eC (.bl false)))
    sNil) (sSeq (sSet 3 (eC (.int 0))) (sSeq (sFor (iArgs [(eArgs [(eV 1)] kLen)] kRng1) (gN 4) lp__law_same_1) (sSeq (sFor (iArgs [(eArgs [(eV 2)] kLen)] kRng1) (gN 4) lp__law_same_2) (sRet (eAnd (eArgs [(eUn (kProp c_Core f_Core_thickness) (eV 0))] (kCall f__law_whole)) (eBin kEq (eUn (kProp c_Core f_Core_thickness) (eV 0)) (eV 3)))))))))
def f__law_same : DF := mkD 7 b__law_same

def b__law_call : DSt :=
  (sSeq (sIf (eBin kEq (eV 4) (eC (.int 0)))
    (sRet (eMthK c_Core f_Core_narrowed G_Core_narrowed_1 (eV 0) [(eV 1)] []))
    sNil) (sSeq (sIf (eBin kEq (eV 4) (eC (.int 1)))
    (sRet (eMthK c_Core f_Core_narrowed G_Core_narrowed_1_least (eV 0) [(eV 1)] [(eV 2)]))
    sNil) (sSeq (sIf (eBin kEq (eV 4) (eC (.int 2)))
    (sRet (eMthK c_Core f_Core_narrowed G_Core_narrowed_1_most (eV 0) [(eV 1)] [(eV 3)]))
    sNil) (sRet (eMthK c_Core f_Core_narrowed G_Core_narrowed_1_most_least (eV 0) [(eV 1)] [(eV 3), (eV 2)])))))
def f__law_call : DF := mkD 5 b__law_call

def b__law_due : DSt :=
  (sSeq (sIf (eBin kEq (eBin kMod (eArgs [(eV 3)] kInt) (eC (.int 2))) (eC (.int 0)))
    (sSet 1 (eC (.int 0)))
    sNil) (sSeq (sIf (eBin kLt (eV 3) (eC (.int 2)))
    (sSet 2 (eC .non))
    sNil) (sSeq (sSet 1 (eArgs [(eArgs [(eBin kIx (eV 0) (eC (.int 0)))] kInt), (eArgs [(eV 1)] kInt)] kMax)) (sSeq (sIf (eOr (eBin (kIsN false) (eV 2) (eC .non)) (eAnd (eBin (kIsN true) (eBin kIx (eV 0) (eC (.int 1))) (eC .non)) (eBin kLt (eBin kIx (eV 0) (eC (.int 1))) (eV 2))))
    (sSet 2 (eBin kIx (eV 0) (eC (.int 1))))
    sNil) (sSeq (sIf (eAnd (eBin (kIsN true) (eV 2) (eC .non)) (eBin kLt (eV 2) (eV 1)))
    (sRet (eC .non))
    sNil) (sRet (eArgs [(eV 1), (eV 2)] kTup)))))))
def f__law_due : DF := mkD 4 b__law_due

def b__law_near : DSt :=
  (sSeq (sSet 2 (eArgs [(eBin kIx (eV 1) (eC (.int 0))), (eBin kIx (eV 1) (eC (.int 0))), (eArgs [(eV 0)] (kCall f__law_number))] kLstC)) (sSeq (sIf (eBin (kIsN true) (eBin kIx (eV 1) (eC (.int 1))) (eC .non))
    (sSetIx (eV 2) (eC (.int 1)) (eBin kIx (eV 1) (eC (.int 1))))
    sNil) (sSeq (sSet 3 (eBin kSub (eBin kAdd (eBin kIx (eV 2) (eArgs [(eV 0), (eC (.int 3))] (kCall f__law_draw))) (eArgs [(eV 0), (eC (.int 5))] (kCall f__law_draw))) (eC (.int 2)))) (sSeq (sSet 4 (eBin kSub (eBin kAdd (eBin kIx (eV 2) (eArgs [(eV 0), (eC (.int 3))] (kCall f__law_draw))) (eArgs [(eV 0), (eC (.int 5))] (kCall f__law_draw))) (eC (.int 2)))) (sSeq (sIf (eBin kEq (eArgs [(eV 0), (eC (.int 5))] (kCall f__law_draw)) (eC (.int 0)))
    (sRet (eArgs [(eV 3), (eC .non)] kLst))
    sNil) (sRet (eArgs [(eV 3), (eV 4)] kLst)))))))
def f__law_near : DF := mkD 5 b__law_near

def b__law_told : DSt :=
  (sSeq (sTryM 5 [(x_NoJoint, some 5,
    (sIf (eAnd (eArgs [(eUn (kXf [1, 2, 3, 4] 0) (eV 5))] (kCall f__law_whole)) (eAnd (eBin kEq (eUn (kXf [1, 2, 3, 4] 0) (eV 5)) (eV 1)) (eAnd (eNot (eUn (kIsE (fun c => some (x_BadCore c))) (eV 5))) (eNot (eUn (kIsE (fun c => some (x_NoLayer c))) (eV 5))))))
    (sRet (eC (.str "no joint")))
    sNil)), (x_BadJoint, some 5,
    (sSeq (sIf (eAnd (eArgs [(eUn (kXf [1, 2, 3, 4] 0) (eV 5))] (kCall f__law_whole)) (eAnd (eBin kEq (eUn (kXf [1, 2, 3, 4] 0) (eV 5)) (eV 1)) (eAnd (eUn (kIsE (fun c => some (x_BadCore c))) (eV 5)) (eNot (eUn (kIsE (fun c => some (x_BadLayer c))) (eV 5))))))
    (sRet (eC (.str "bad joint")))
    sNil) (sRet (eC (.str "another index")))))]
    (sDrop (eArgs [(eV 0), (eV 1), (eV 2), (eV 3), (eV 4)] (kCall f__law_call)))) (sRet (eC (.str "narrowed"))))
def f__law_told : DF := mkD 6 b__law_told

def b__law_beside : DSt :=
  (sSeq (sSet 6 (eArgs [(eBin kIx (eV 2) (eV 3)), (eBin kIx (eV 4) (eC (.int 0))), (eBin kIx (eV 4) (eC (.int 1))), (eV 5)] (kCall f__law_due))) (sSeq (sIf (eBin (kIsN false) (eV 6) (eC .non))
    (sRet (eBin kEq (eArgs [(eV 0), (eV 3), (eBin kIx (eV 4) (eC (.int 0))), (eBin kIx (eV 4) (eC (.int 1))), (eV 5)] (kCall f__law_told)) (eC (.str "bad joint"))))
    sNil) (sSeq (sSet 7 (eArgs [(eV 0), (eV 3), (eBin kIx (eV 4) (eC (.int 0))), (eBin kIx (eV 4) (eC (.int 1))), (eV 5)] (kCall f__law_call))) (sRet (eArgs [(eV 7), (eV 1), (eBin kAdd (eBin kAdd (eSlice (eV 2) none (some (eV 3))) (eArgs [(eV 6)] kLst)) (eSlice (eV 2) (some (eBin kAdd (eV 3) (eC (.int 1)))) none))] (kCall f__law_same))))))
def f__law_beside : DF := mkD 8 b__law_beside

def el_law_0 : DE :=
  (eArgs [(eArgs [(eV 1)] (kCall f__law_kind)), (eBin kAdd (eC (.int 1)) (eArgs [(eV 1)] (kCall f__law_number)))] kTup)
def el_law_1 : DE :=
  (eArgs [(eV 1)] (kCall f__law_bounds))
def lp_law_2 : DSt :=
  (sSeq (sSet 8 (eArgs [(eV 1), (eBin kIx (eV 4) (eArgs [(eArgs [(eC (.int 0)), (eV 6)] kMax), (eBin kSub (eArgs [(eV 4)] kLen) (eC (.int 1)))] kMin))] (kCall f__law_near))) (sSeq (sSet 9 (eArgs [(eV 1), (eC (.int 4))] (kCall f__law_draw))) (sSeq (sIf (eNot (eChain kLe kLe (eC (.int 0)) (eV 6) (eV 2)))
    (sRet (eBin kEq (eArgs [(eV 5), (eV 6), (eBin kIx (eV 8) (eC (.int 0))), (eBin kIx (eV 8) (eC (.int 1))), (eV 9)] (kCall f__law_told)) (eC (.str "no joint"))))
    sNil) (sSeq (sSet 10 (eArgs [(eBin kIx (eV 4) (eV 6)), (eBin kIx (eV 8) (eC (.int 0))), (eBin kIx (eV 8) (eC (.int 1))), (eV 9)] (kCall f__law_due))) (sSeq (sIf (eBin (kIsN false) (eV 10) (eC .non))
    (sSeq (sSet 11 (eArgs [(eV 5), (eV 6), (eBin kIx (eV 8) (eC (.int 0))), (eBin kIx (eV 8) (eC (.int 1))), (eV 9)] (kCall f__law_told))) (sRet (eAnd (eBin kEq (eV 11) (eC (.str "bad joint"))) (eArgs [(eV 5), (eV 3), (eV 4)] (kCall f__law_same)))))
    sNil) (sSeq (sSet 12 (eArgs [(eV 5), (eV 6), (eBin kIx (eV 8) (eC (.int 0))), (eBin kIx (eV 8) (eC (.int 1))), (eV 9)] (kCall f__law_call))) (sSeq (sIf (eNot (eArgs [(eV 5), (eV 3), (eV 4)] (kCall f__law_same)))
    (sRet (eC (.bl false)))
    sNil) (sSeq (sIf (eNot (eArgs [(eV 5), (eV 3), (eV 4), (eBin kMod (eArgs [(eBin kAdd (eV 6) (eC (.int 1)))] kInt) (eBin kAdd (eV 2) (eC (.int 1)))), (eV 8), (eV 9)] (kCall f__law_beside)))
    (sRet (eC (.bl false)))
    sNil) (sSeq (sSet 4 (eBin kAdd (eBin kAdd (eSlice (eV 4) none (some (eV 6))) (eArgs [(eV 10)] kLst)) (eSlice (eV 4) (some (eBin kAdd (eV 6) (eC (.int 1)))) none))) (sSeq (sSet 5 (eV 12)) (sIf (eNot (eArgs [(eV 5), (eV 3), (eV 4)] (kCall f__law_same)))
    (sRet (eC (.bl false)))
    sNil)))))))))))
def b_law : DSt :=
  (sSeq (sSet 1 (eArgs [(eV 0), (eC (.int 400))] (kCall f__law_pool))) (sSeq (sSet 2 (eArgs [(eV 1), (eBin kIx (eArgs [(eC (.int 4)), (eC (.int 21))] kLst) (eArgs [(eV 1), (eC (.int 2))] (kCall f__law_draw)))] (kCall f__law_draw))) (sSeq (sSet 3 (eSettle (eLcC [13] (iArgs [(eV 2)] kRng1) (gN 13) (eC (.bl true)) el_law_0))) (sSeq (sSet 4 (eSettle (eLcC [13] (iArgs [(eBin kAdd (eV 2) (eC (.int 1)))] kRng1) (gN 13) (eC (.bl true)) el_law_1))) (sSeq (sSet 5 (eArgs [(eArgs [(eV 3)] kListI), (eArgs [(eV 4)] kListI)] (kMake c_Core 2 f_Core___init__))) (sSeq (sSet 6 (eArgs [(eV 1), (eBin kAdd (eV 2) (eC (.int 1)))] (kCall f__law_draw))) (sSeq (sIf (eBin kEq (eArgs [(eV 1), (eC (.int 4))] (kCall f__law_draw)) (eC (.int 0)))
    (sSet 6 (eBin kSub (eArgs [(eV 1), (eBin kAdd (eV 2) (eC (.int 5)))] (kCall f__law_draw)) (eC (.int 2))))
    sNil) (sSeq (sFor (iArgs [(eC (.int 2))] kRng1) (gN 7) lp_law_2) (sRet (eC (.bl true)))))))))))
def f_law : DF := mkD 14 b_law
end
end ZZ

set_option Elab.async false
set_option linter.all false
set_option maxRecDepth 100000
set_option maxHeartbeats 4000000
namespace ZZ
open PySem PySem.Spec L2 L2H
theorem sc_Core___iter__ : FnScope ["self"] ["self"] (defScope s_Core___iter__) := ⟨rfl, rfl, rfl, by decide +kernel, rfl, by decide +kernel, by decide +kernel⟩
theorem sc_BadLayer___init__ : FnScope ["self", "index"] ["self", "index"] (defScope s_BadLayer___init__) := ⟨rfl, rfl, rfl, by decide +kernel, rfl, by decide +kernel, by decide +kernel⟩
theorem sc_BadJoint___init__ : FnScope ["self", "index"] ["self", "index"] (defScope s_BadJoint___init__) := ⟨rfl, rfl, rfl, by decide +kernel, rfl, by decide +kernel, by decide +kernel⟩
theorem sc_NoLayer___init__ : FnScope ["self", "index"] ["self", "index"] (defScope s_NoLayer___init__) := ⟨rfl, rfl, rfl, by decide +kernel, rfl, by decide +kernel, by decide +kernel⟩
theorem sc_NoJoint___init__ : FnScope ["self", "index"] ["self", "index"] (defScope s_NoJoint___init__) := ⟨rfl, rfl, rfl, by decide +kernel, rfl, by decide +kernel, by decide +kernel⟩
theorem sc_is_layer : FnScope n_is_layer ["layer"] (defScope s_is_layer) := ⟨rfl, rfl, rfl, by decide +kernel, rfl, by decide +kernel, by decide +kernel⟩
theorem sc_is_joint : FnScope n_is_joint ["joint"] (defScope s_is_joint) := ⟨rfl, rfl, rfl, by decide +kernel, rfl, by decide +kernel, by decide +kernel⟩
theorem sc_Core___init__ : FnScope n_Core___init__ ["self", "layers", "joints"] (defScope s_Core___init__) := ⟨rfl, rfl, rfl, by decide +kernel, rfl, by decide +kernel, by decide +kernel⟩
theorem sc_Core___len__ : FnScope n_Core___len__ ["self"] (defScope s_Core___len__) := ⟨rfl, rfl, rfl, by decide +kernel, rfl, by decide +kernel, by decide +kernel⟩
theorem sc_Core___getitem__ : FnScope n_Core___getitem__ ["self", "k"] (defScope s_Core___getitem__) := ⟨rfl, rfl, rfl, by decide +kernel, rfl, by decide +kernel, by decide +kernel⟩
theorem sc_Core_joint : FnScope n_Core_joint ["self", "k"] (defScope s_Core_joint) := ⟨rfl, rfl, rfl, by decide +kernel, rfl, by decide +kernel, by decide +kernel⟩
theorem sc_Core_thickness : FnScope n_Core_thickness ["self"] (defScope s_Core_thickness) := ⟨rfl, rfl, rfl, by decide +kernel, rfl, by decide +kernel, by decide +kernel⟩
theorem sc_Core_narrowed : FnScope n_Core_narrowed ["self", "joint", "least", "most"] (defScope s_Core_narrowed) := ⟨rfl, rfl, rfl, by decide +kernel, rfl, by decide +kernel, by decide +kernel⟩
theorem sc__law_mix : FnScope n__law_mix ["_law_cell", "_law_turn"] (defScope s__law_mix) := ⟨rfl, rfl, rfl, by decide +kernel, rfl, by decide +kernel, by decide +kernel⟩
theorem sc__law_pool : FnScope n__law_pool ["_law_script", "_law_many"] (defScope s__law_pool) := ⟨rfl, rfl, rfl, by decide +kernel, rfl, by decide +kernel, by decide +kernel⟩
theorem sc__law_draw : FnScope n__law_draw ["_law_pool_here", "_law_bound"] (defScope s__law_draw) := ⟨rfl, rfl, rfl, by decide +kernel, rfl, by decide +kernel, by decide +kernel⟩
theorem sc__law_number : FnScope n__law_number ["_law_pool_here"] (defScope s__law_number) := ⟨rfl, rfl, rfl, by decide +kernel, rfl, by decide +kernel, by decide +kernel⟩
theorem sc__law_kind : FnScope n__law_kind ["_law_pool_here"] (defScope s__law_kind) := ⟨rfl, rfl, rfl, by decide +kernel, rfl, by decide +kernel, by decide +kernel⟩
theorem sc__law_bounds : FnScope n__law_bounds ["_law_pool_here"] (defScope s__law_bounds) := ⟨rfl, rfl, rfl, by decide +kernel, rfl, by decide +kernel, by decide +kernel⟩
theorem sc__law_whole : FnScope n__law_whole ["_law_number_here"] (defScope s__law_whole) := ⟨rfl, rfl, rfl, by decide +kernel, rfl, by decide +kernel, by decide +kernel⟩
theorem sc__law_same : FnScope n__law_same ["_law_core", "_law_layers", "_law_joints"] (defScope s__law_same) := ⟨rfl, rfl, rfl, by decide +kernel, rfl, by decide +kernel, by decide +kernel⟩
theorem sc__law_call : FnScope n__law_call ["_law_core", "_law_at", "_law_low", "_law_high", "_law_shape"] (defScope s__law_call) := ⟨rfl, rfl, rfl, by decide +kernel, rfl, by decide +kernel, by decide +kernel⟩
theorem sc__law_due : FnScope n__law_due ["_law_joint", "_law_low", "_law_high", "_law_shape"] (defScope s__law_due) := ⟨rfl, rfl, rfl, by decide +kernel, rfl, by decide +kernel, by decide +kernel⟩
theorem sc__law_near : FnScope n__law_near ["_law_pool_here", "_law_joint"] (defScope s__law_near) := ⟨rfl, rfl, rfl, by decide +kernel, rfl, by decide +kernel, by decide +kernel⟩
theorem sc__law_told : FnScope n__law_told ["_law_core", "_law_at", "_law_low", "_law_high", "_law_shape"] (defScope s__law_told) := ⟨rfl, rfl, rfl, by decide +kernel, rfl, by decide +kernel, by decide +kernel⟩
theorem sc__law_beside : FnScope n__law_beside ["_law_core", "_law_layers", "_law_joints", "_law_at", "_law_near_here", "_law_shape"] (defScope s__law_beside) := ⟨rfl, rfl, rfl, by decide +kernel, rfl, by decide +kernel, by decide +kernel⟩
theorem sc_law : FnScope n_law ["_law_script"] (defScope s_law) := ⟨rfl, rfl, rfl, by decide +kernel, rfl, by decide +kernel, by decide +kernel⟩
/-- what the top has written -/
structure Tx (P : Program) (w : World) (K : PySem.W.Frag) (mg : Str → Option Value) (ad cl : Nat → Addr) : Prop where
  b_abs : mg "abs" = none
  b_all : mg "all" = none
  b_bool : mg "bool" = none
  b_enumerate : mg "enumerate" = none
  b_int : mg "int" = none
  b_isinstance : mg "isinstance" = none
  b_len : mg "len" = none
  b_list : mg "list" = none
  b_max : mg "max" = none
  b_min : mg "min" = none
  b_range : mg "range" = none
  b_sum : mg "sum" = none
  b_tuple : mg "tuple" = none
  f_is_layer : ∃ fd, Fun K "is_layer" "is_layer" s_is_layer (ad 0) fd ∧ Binds K fd ["layer"] []
  g_is_layer : mg "is_layer" = some (.ref (ad 0))
  f_is_joint : ∃ fd, Fun K "is_joint" "is_joint" s_is_joint (ad 1) fd ∧ Binds K fd ["joint"] []
  g_is_joint : mg "is_joint" = some (.ref (ad 1))
  f_Core___init__ : ∃ fd, FunD K "__init__" "Core.__init__" (defArgs s_Core___init__) (defBody s_Core___init__) (defScope s_Core___init__) [.non] [] (ad 2) fd ∧ Binds K fd ["self", "layers", "joints"] []
  f_Core___len__ : ∃ fd, Fun K "__len__" "Core.__len__" s_Core___len__ (ad 3) fd ∧ Binds K fd ["self"] []
  o1_Core___len__ : Op1 K (cl 5) "__len__" (ad 3)
  f_Core___getitem__ : ∃ fd, Fun K "__getitem__" "Core.__getitem__" s_Core___getitem__ (ad 4) fd ∧ Binds K fd ["self", "k"] []
  m_Core___getitem__ : Meth K (cl 5) "__getitem__" (ad 4)
  f_Core_joint : ∃ fd, Fun K "joint" "Core.joint" s_Core_joint (ad 5) fd ∧ Binds K fd ["self", "k"] []
  m_Core_joint : Meth K (cl 5) "joint" (ad 5)
  f_Core_thickness : ∃ fd, Fun K "thickness" "Core.thickness" s_Core_thickness (ad 6) fd ∧ Binds K fd ["self"] []
  p_Core_thickness : PropOf K (cl 5) "thickness" (ad 27) (ad 6)
  f_Core_narrowed : ∃ fd, FunD K "narrowed" "Core.narrowed" (defArgs s_Core_narrowed) (defBody s_Core_narrowed) (defScope s_Core_narrowed) [] [("least", .int 0), ("most", .non)] (ad 7) fd
  m_Core_narrowed : Meth K (cl 5) "narrowed" (ad 7)
  f__law_mix : ∃ fd, Fun K "_law_mix" "_law_mix" s__law_mix (ad 8) fd ∧ Binds K fd ["_law_cell", "_law_turn"] []
  g__law_mix : mg "_law_mix" = some (.ref (ad 8))
  f__law_pool : ∃ fd, Fun K "_law_pool" "_law_pool" s__law_pool (ad 9) fd ∧ Binds K fd ["_law_script", "_law_many"] []
  g__law_pool : mg "_law_pool" = some (.ref (ad 9))
  f__law_draw : ∃ fd, Fun K "_law_draw" "_law_draw" s__law_draw (ad 10) fd ∧ Binds K fd ["_law_pool_here", "_law_bound"] []
  g__law_draw : mg "_law_draw" = some (.ref (ad 10))
  f__law_number : ∃ fd, Fun K "_law_number" "_law_number" s__law_number (ad 11) fd ∧ Binds K fd ["_law_pool_here"] []
  g__law_number : mg "_law_number" = some (.ref (ad 11))
  f__law_kind : ∃ fd, Fun K "_law_kind" "_law_kind" s__law_kind (ad 12) fd ∧ Binds K fd ["_law_pool_here"] []
  g__law_kind : mg "_law_kind" = some (.ref (ad 12))
  f__law_bounds : ∃ fd, Fun K "_law_bounds" "_law_bounds" s__law_bounds (ad 13) fd ∧ Binds K fd ["_law_pool_here"] []
  g__law_bounds : mg "_law_bounds" = some (.ref (ad 13))
  f__law_whole : ∃ fd, Fun K "_law_whole" "_law_whole" s__law_whole (ad 14) fd ∧ Binds K fd ["_law_number_here"] []
  g__law_whole : mg "_law_whole" = some (.ref (ad 14))
  f__law_same : ∃ fd, Fun K "_law_same" "_law_same" s__law_same (ad 15) fd ∧ Binds K fd ["_law_core", "_law_layers", "_law_joints"] []
  g__law_same : mg "_law_same" = some (.ref (ad 15))
  f__law_call : ∃ fd, Fun K "_law_call" "_law_call" s__law_call (ad 16) fd ∧ Binds K fd ["_law_core", "_law_at", "_law_low", "_law_high", "_law_shape"] []
  g__law_call : mg "_law_call" = some (.ref (ad 16))
  f__law_due : ∃ fd, Fun K "_law_due" "_law_due" s__law_due (ad 17) fd ∧ Binds K fd ["_law_joint", "_law_low", "_law_high", "_law_shape"] []
  g__law_due : mg "_law_due" = some (.ref (ad 17))
  f__law_near : ∃ fd, Fun K "_law_near" "_law_near" s__law_near (ad 18) fd ∧ Binds K fd ["_law_pool_here", "_law_joint"] []
  g__law_near : mg "_law_near" = some (.ref (ad 18))
  f__law_told : ∃ fd, Fun K "_law_told" "_law_told" s__law_told (ad 19) fd ∧ Binds K fd ["_law_core", "_law_at", "_law_low", "_law_high", "_law_shape"] []
  g__law_told : mg "_law_told" = some (.ref (ad 19))
  f__law_beside : ∃ fd, Fun K "_law_beside" "_law_beside" s__law_beside (ad 20) fd ∧ Binds K fd ["_law_core", "_law_layers", "_law_joints", "_law_at", "_law_near_here", "_law_shape"] []
  g__law_beside : mg "_law_beside" = some (.ref (ad 20))
  f_law : ∃ fd, Fun K "law" "law" s_law (ad 21) fd ∧ Binds K fd ["_law_script"] []
  g_law : mg "law" = some (.ref (ad 21))
  g_Core : mg "Core" = some (.ref (cl 5))
  k_Core : ClsOk K (Zz w K cl) 5
  na_Core_layers : NoAttr K (cl 5) "layers"
  na_Core_joints : NoAttr K (cl 5) "joints"
  mk_Core : Mk K (cl 5) (ad 2)
  g_SiltError : mg "SiltError" = some (.ref (cl 6))
  gs_LETTERS : ∃ t, mg "LETTERS" = some (.str "abcdefghijklmnopqrstuvwxyz" t)
  gi_Core : GetOk K (cl 5) (ad 4)
  cr_Core : ClX.CRead K (cl 5) (.type "type")
  cv_Core_MOST : ∃ t, ClX.CVal K (cl 5) (.type "type") "MOST" (.int 20) (.int 20 t)
  f_Core___iter__ : ∃ fd, Fun K "__iter__" "Core.__iter__" s_Core___iter__ (ad 26) fd ∧ Binds K fd ["self"] []
  b_iter : mg "iter" = none
  it_Core : Op1 K (cl 5) "__iter__" (ad 26)
  g_BadCore : mg "BadCore" = some (.ref (cl 0))
  xt_BadCore : ExT K (cl 0)
  g_BadLayer : mg "BadLayer" = some (.ref (cl 1))
  o_BadLayer : OexC K (cl 1)
  i_BadLayer : PySem.W.findIn K (.ref (cl 1)) "__init__" = some (some (.ref (ad 22)))
  t_BadLayer : PySem.W.typeIn K (.ref (ad 22)) = some (.type "function")
  nx_BadLayer_index : PySem.W.findIn K (.ref (cl 1)) "index" = some none
  f_BadLayer___init__ : ∃ fd, Fun K "__init__" "BadLayer.__init__" s_BadLayer___init__ (ad 22) fd ∧ Binds K fd ["self", "index"] []
  g_BadJoint : mg "BadJoint" = some (.ref (cl 2))
  o_BadJoint : OexC K (cl 2)
  i_BadJoint : PySem.W.findIn K (.ref (cl 2)) "__init__" = some (some (.ref (ad 23)))
  t_BadJoint : PySem.W.typeIn K (.ref (ad 23)) = some (.type "function")
  nx_BadJoint_index : PySem.W.findIn K (.ref (cl 2)) "index" = some none
  f_BadJoint___init__ : ∃ fd, Fun K "__init__" "BadJoint.__init__" s_BadJoint___init__ (ad 23) fd ∧ Binds K fd ["self", "index"] []
  g_NoLayer : mg "NoLayer" = some (.ref (cl 3))
  o_NoLayer : OexC K (cl 3)
  i_NoLayer : PySem.W.findIn K (.ref (cl 3)) "__init__" = some (some (.ref (ad 24)))
  t_NoLayer : PySem.W.typeIn K (.ref (ad 24)) = some (.type "function")
  nx_NoLayer_index : PySem.W.findIn K (.ref (cl 3)) "index" = some none
  f_NoLayer___init__ : ∃ fd, Fun K "__init__" "NoLayer.__init__" s_NoLayer___init__ (ad 24) fd ∧ Binds K fd ["self", "index"] []
  g_NoJoint : mg "NoJoint" = some (.ref (cl 4))
  o_NoJoint : OexC K (cl 4)
  i_NoJoint : PySem.W.findIn K (.ref (cl 4)) "__init__" = some (some (.ref (ad 25)))
  t_NoJoint : PySem.W.typeIn K (.ref (ad 25)) = some (.type "function")
  nx_NoJoint_index : PySem.W.findIn K (.ref (cl 4)) "index" = some none
  f_NoJoint___init__ : ∃ fd, Fun K "__init__" "NoJoint.__init__" s_NoJoint___init__ (ad 25) fd ∧ Binds K fd ["self", "index"] []
  xi : ∀ c, c < 5 → XiC K (cl c)
  xe_BadJoint : ∀ c, c < 5 → PySem.W.exmOne K (.ref (cl c)) (.ref (cl 2)) = some (x_BadJoint c)
  xe_NoJoint : ∀ c, c < 5 → PySem.W.exmOne K (.ref (cl c)) (.ref (cl 4)) = some (x_NoJoint c)
  xk_BadCore : ∀ c, c < 5 → PySem.W.kitOne K (.ref (cl c)) (.ref (cl 0)) = some (x_BadCore c)
  xk_BadLayer : ∀ c, c < 5 → PySem.W.kitOne K (.ref (cl c)) (.ref (cl 1)) = some (x_BadLayer c)
  xk_NoLayer : ∀ c, c < 5 → PySem.W.kitOne K (.ref (cl c)) (.ref (cl 3)) = some (x_NoLayer c)
  ik_Core : ∀ ty b, i_Core ty = some b → PySem.W.kitOne K (tyVal (Zz w K cl) ty) (.ref (cl 5)) = some b
  ic_Core : ∀ c b, i_Core (.c c) = some b → IsiC K (cl c)
  ik_bool : ∀ ty b, i_bool ty = some b → PySem.W.kitOne K (tyVal (Zz w K cl) ty) (.type "bool") = some b
  ic_bool : ∀ c b, i_bool (.c c) = some b → IsiC K (cl c)
  ik_int : ∀ ty b, i_int ty = some b → PySem.W.kitOne K (tyVal (Zz w K cl) ty) (.type "int") = some b
  ic_int : ∀ c b, i_int (.c c) = some b → IsiC K (cl c)
  ik_tuple : ∀ ty b, i_tuple ty = some b → PySem.W.kitOne K (tyVal (Zz w K cl) ty) (.type "tuple") = some b
  ic_tuple : ∀ c b, i_tuple (.c c) = some b → IsiC K (cl c)

section
variable {P : Program} {w : World} {K : PySem.W.Frag} {mg : Str → Option Value} {base : Heap} {ad cl : Nat → Addr}

theorem it_Core (T : Tx P w K mg ad cl) : ItOk P w K mg base (cl 5) (ad 26) "layers" := by
  obtain ⟨fd, F, bd⟩ := T.f_Core___iter__
  exact ⟨T.it_Core.hs, T.it_Core.fn, fd, itN F sc_Core___iter__ T.b_iter rfl rfl rfl, bd⟩

theorem io_BadLayer (T : Tx P w K mg ad cl) : IOk P w K mg base (ad 22) ["self", "index"] (spI1 K "index") := by
  obtain ⟨fd, F, bd⟩ := T.f_BadLayer___init__
  refine ⟨⟨fd, F.ok sc_BadLayer___init__ (fun vs H Q E h => ?_) (fun cdv A outer s H vs Q E hr h => ?_), bd⟩⟩
  · obtain ⟨a, C, v, rfl, _⟩ := h
    rfl
  · obtain ⟨a, C, v, rfl, TT, nf, hx, k⟩ := h
    refine ⟨_, pss_one (ps_ost (pv 0) (pv 1)), ?_⟩
    exact ⟨_, rfl, _, rfl, a, C, rfl, TT, nf, .inl ⟨hx, fun dx h1 h2 => k dx h1 h2⟩⟩
theorem x1_BadLayer (T : Tx P w K mg ad cl) : Ex1 P w K mg base (Zz w K cl) 1 "index" (ad 22) ["self", "index"] := ⟨T.o_BadLayer, T.i_BadLayer, T.t_BadLayer, T.nx_BadLayer_index, rfl, io_BadLayer T⟩

theorem io_BadJoint (T : Tx P w K mg ad cl) : IOk P w K mg base (ad 23) ["self", "index"] (spI1 K "index") := by
  obtain ⟨fd, F, bd⟩ := T.f_BadJoint___init__
  refine ⟨⟨fd, F.ok sc_BadJoint___init__ (fun vs H Q E h => ?_) (fun cdv A outer s H vs Q E hr h => ?_), bd⟩⟩
  · obtain ⟨a, C, v, rfl, _⟩ := h
    rfl
  · obtain ⟨a, C, v, rfl, TT, nf, hx, k⟩ := h
    refine ⟨_, pss_one (ps_ost (pv 0) (pv 1)), ?_⟩
    exact ⟨_, rfl, _, rfl, a, C, rfl, TT, nf, .inl ⟨hx, fun dx h1 h2 => k dx h1 h2⟩⟩
theorem x1_BadJoint (T : Tx P w K mg ad cl) : Ex1 P w K mg base (Zz w K cl) 2 "index" (ad 23) ["self", "index"] := ⟨T.o_BadJoint, T.i_BadJoint, T.t_BadJoint, T.nx_BadJoint_index, rfl, io_BadJoint T⟩

theorem io_NoLayer (T : Tx P w K mg ad cl) : IOk P w K mg base (ad 24) ["self", "index"] (spI1 K "index") := by
  obtain ⟨fd, F, bd⟩ := T.f_NoLayer___init__
  refine ⟨⟨fd, F.ok sc_NoLayer___init__ (fun vs H Q E h => ?_) (fun cdv A outer s H vs Q E hr h => ?_), bd⟩⟩
  · obtain ⟨a, C, v, rfl, _⟩ := h
    rfl
  · obtain ⟨a, C, v, rfl, TT, nf, hx, k⟩ := h
    refine ⟨_, pss_one (ps_ost (pv 0) (pv 1)), ?_⟩
    exact ⟨_, rfl, _, rfl, a, C, rfl, TT, nf, .inl ⟨hx, fun dx h1 h2 => k dx h1 h2⟩⟩
theorem x1_NoLayer (T : Tx P w K mg ad cl) : Ex1 P w K mg base (Zz w K cl) 3 "index" (ad 24) ["self", "index"] := ⟨T.o_NoLayer, T.i_NoLayer, T.t_NoLayer, T.nx_NoLayer_index, rfl, io_NoLayer T⟩

theorem io_NoJoint (T : Tx P w K mg ad cl) : IOk P w K mg base (ad 25) ["self", "index"] (spI1 K "index") := by
  obtain ⟨fd, F, bd⟩ := T.f_NoJoint___init__
  refine ⟨⟨fd, F.ok sc_NoJoint___init__ (fun vs H Q E h => ?_) (fun cdv A outer s H vs Q E hr h => ?_), bd⟩⟩
  · obtain ⟨a, C, v, rfl, _⟩ := h
    rfl
  · obtain ⟨a, C, v, rfl, TT, nf, hx, k⟩ := h
    refine ⟨_, pss_one (ps_ost (pv 0) (pv 1)), ?_⟩
    exact ⟨_, rfl, _, rfl, a, C, rfl, TT, nf, .inl ⟨hx, fun dx h1 h2 => k dx h1 h2⟩⟩
theorem x1_NoJoint (T : Tx P w K mg ad cl) : Ex1 P w K mg base (Zz w K cl) 4 "index" (ad 25) ["self", "index"] := ⟨T.o_NoJoint, T.i_NoJoint, T.t_NoJoint, T.nx_NoJoint_index, rfl, io_NoJoint T⟩

theorem xf_index (T : Tx P w K mg ad cl) : ∀ c ∈ [1, 2, 3, 4], XfC K ((Zz w K cl).cl c) ∧ PySem.W.findIn K (.ref ((Zz w K cl).cl c)) "index" = some none ∧ ((Zz w K cl).fl c)[0]? = some ("index" : Str) ∧ ((Zz w K cl).fl c).Nodup := by
  intro c h
  simp only [List.mem_cons, List.not_mem_nil, or_false] at h
  rcases h with rfl | rfl | rfl | rfl
  · exact ⟨(T.xi 1 (by decide)).xf, T.nx_BadLayer_index, rfl, by show (flds 1).Nodup; decide +kernel⟩
  · exact ⟨(T.xi 2 (by decide)).xf, T.nx_BadJoint_index, rfl, by show (flds 2).Nodup; decide +kernel⟩
  · exact ⟨(T.xi 3 (by decide)).xf, T.nx_NoLayer_index, rfl, by show (flds 3).Nodup; decide +kernel⟩
  · exact ⟨(T.xi 4 (by decide)).xf, T.nx_NoJoint_index, rfl, by show (flds 4).Nodup; decide +kernel⟩

theorem ok_is_layer (T : Tx P w K mg ad cl) : DOk P w K mg base 1 (ad 0) ["layer"] (spD (Zz w K cl) f_is_layer 1) := by
  obtain ⟨fd, F, bd⟩ := T.f_is_layer
  refine ⟨⟨fd, fnD F sc_is_layer (body := b_is_layer) rfl rfl fun cdv A outer s H E hr => ?_, bd⟩, F.kp⟩
  have tk := L2N.takes_of (X := cxOf (L2N.CX P w) P w K mg base n_is_layer "is_layer" (defScope s_is_layer) (ad 0) cdv A outer s H E) (E := E) rfl rfl rfl rfl
  have tw := tw_of tk
  exact (ds_cons (ds_asg (dv 0) (dg_tup rfl rfl (dgs_cons (dg_name (i := 1) sc_is_layer.nd) (dgs_cons (dg_name (i := 2) sc_is_layer.nd) dgs_nil)))) (ds_one (ds_ret (de_and (de_chain c_le c_le de_int (de_callB call_len (ok_len rfl) T.b_len PySem.boot_len (da_cons (dv 1) da_nil)) de_int) (de_and (de_callB (cr_all rfl) (ok_all rfl) T.b_all (by decide +kernel) (da_cons (de_settle (de_lcC (own := [("char", 3)]) rfl sc_is_layer.nd (blkOk_by (own := [("char", 3)]) (N := n_is_layer) (sc := defScope s_is_layer) (by decide +kernel)) (by decide) (di_str (dv 1)) (fun _ _ _ _ _ => (dg_name (i := 3) sc_is_layer.nd)) (fun _ _ _ _ _ => dts_nil) (fun _ _ _ _ _ => (de_cmpK c_inS (dv 3) (de_gstr T.gs_LETTERS))))) da_nil)) (de_one (de_cmpK c_ge (dv 2) de_int)))))))

theorem ok_is_joint (T : Tx P w K mg ad cl) : DOk P w K mg base 1 (ad 1) ["joint"] (spD (Zz w K cl) f_is_joint 1) := by
  obtain ⟨fd, F, bd⟩ := T.f_is_joint
  refine ⟨⟨fd, fnD F sc_is_joint (body := b_is_joint) rfl rfl fun cdv A outer s H E hr => ?_, bd⟩, F.kp⟩
  have tk := L2N.takes_of (X := cxOf (L2N.CX P w) P w K mg base n_is_joint "is_joint" (defScope s_is_joint) (ad 1) cdv A outer s H E) (E := E) rfl rfl rfl rfl
  have tw := tw_of tk
  exact (ds_cons (ds_asg (dv 0) (dg_tup rfl rfl (dgs_cons (dg_name (i := 1) sc_is_joint.nd) (dgs_cons (dg_name (i := 2) sc_is_joint.nd) dgs_nil)))) (ds_one (ds_ret (de_and (de_cmpK c_ge (dv 1) de_int) (de_one (de_or (de_cmpK c_isN (dv 2) de_non) (de_one (de_cmpK c_le (dv 1) (dv 2)))))))))

theorem ok_Core___init__ (T : Tx P w K mg ad cl) : DOk P w K mg base 3 (ad 2) ["self", "layers", "joints"] (spD (Zz w K cl) f_Core___init__ 3) := by
  obtain ⟨fd, F, bd⟩ := T.f_Core___init__
  refine ⟨⟨fd, fnDD F sc_Core___init__ (body := b_Core___init__) rfl rfl fun cdv A outer s H E hr => ?_, bd⟩, F.kp⟩
  have tk := L2N.takes_of (X := cxOf (L2N.CX P w) P w K mg base n_Core___init__ "Core.__init__" (defScope s_Core___init__) (ad 2) cdv A outer s H E) (E := E) rfl rfl rfl rfl
  have tw := tw_of tk
  exact (ds_cons (ds_if (dt_cmp c_gt (de_callB call_len (ok_len rfl) T.b_len PySem.boot_len (da_cons (dv 1) da_nil)) (de_clsConI T.g_Core T.cr_Core T.cv_Core_MOST)) (ds_one (ds_raiseT rfl tk T.xt_BadCore T.g_BadCore)) ds_nil) (ds_cons (ds_for (passes_of rfl) (di_enum rfl T.b_enumerate (da_cons (dv 1) da_nil)) (dg_tup rfl rfl (dgs_cons (dg_name (i := 3) sc_Core___init__.nd) (dgs_cons (dg_name (i := 4) sc_Core___init__.nd) dgs_nil))) (ds_one (ds_if (dt_not (dt_val (de_callD (ok_is_layer (P := P) (w := w) (base := base) T) (hr.mono (by decide)) T.g_is_layer tw (da_cons (dv 4) da_nil)))) (ds_one (ds_raise1D rfl rfl tk (x1_BadLayer (P := P) (w := w) (base := base) T) (hr.mono (by decide)) T.g_BadLayer (da_cons (dv 3) da_nil))) ds_nil))) (ds_cons (ds_if (dt_cmp c_isN (dv 2) de_non) (ds_one (ds_set (i := 2) sc_Core___init__.nd (de_repL (de_lst (da_cons (de_tup (da_cons de_int (da_cons de_non da_nil))) da_nil)) (de_add (de_callB call_len (ok_len rfl) T.b_len PySem.boot_len (da_cons (dv 1) da_nil)) de_int)))) ds_nil) (ds_cons (ds_if (dt_cmp (c_ne rfl hr) (de_callB call_len (ok_len rfl) T.b_len PySem.boot_len (da_cons (dv 2) da_nil)) (de_add (de_callB call_len (ok_len rfl) T.b_len PySem.boot_len (da_cons (dv 1) da_nil)) de_int)) (ds_one (ds_raiseT rfl tk T.xt_BadCore T.g_BadCore)) ds_nil) (ds_cons (ds_for (passes_of rfl) (di_enum rfl T.b_enumerate (da_cons (dv 2) da_nil)) (dg_tup rfl rfl (dgs_cons (dg_name (i := 3) sc_Core___init__.nd) (dgs_cons (dg_name (i := 5) sc_Core___init__.nd) dgs_nil))) (ds_one (ds_if (dt_not (dt_val (de_callD (ok_is_joint (P := P) (w := w) (base := base) T) (hr.mono (by decide)) T.g_is_joint tw (da_cons (dv 5) da_nil)))) (ds_one (ds_raise1D rfl rfl tk (x1_BadJoint (P := P) (w := w) (base := base) T) (hr.mono (by decide)) T.g_BadJoint (da_cons (dv 3) da_nil))) ds_nil))) (ds_cons (ds_fld (dv 0) (de_callTy call_list_of (ok_listI rfl) T.b_list (by decide +kernel) (da_cons (dv 1) da_nil)) rfl T.k_Core T.na_Core_layers rfl (by show (flds 5).length < 1000; decide)) (ds_one (ds_fld (dv 0) (de_callTy call_list_of (ok_listI rfl) T.b_list (by decide +kernel) (da_cons (dv 2) da_nil)) rfl T.k_Core T.na_Core_joints rfl (by show (flds 5).length < 1000; decide)))))))))

theorem ok_Core___len__ (T : Tx P w K mg ad cl) : DOk P w K mg base 1 (ad 3) ["self"] (spD (Zz w K cl) f_Core___len__ 1) := by
  obtain ⟨fd, F, bd⟩ := T.f_Core___len__
  refine ⟨⟨fd, fnD F sc_Core___len__ (body := b_Core___len__) rfl rfl fun cdv A outer s H E hr => ?_, bd⟩, F.kp⟩
  have tk := L2N.takes_of (X := cxOf (L2N.CX P w) P w K mg base n_Core___len__ "Core.__len__" (defScope s_Core___len__) (ad 3) cdv A outer s H E) (E := E) rfl rfl rfl rfl
  have tw := tw_of tk
  exact (ds_one (ds_ret (de_callB call_len (ok_len rfl) T.b_len PySem.boot_len (da_cons (de_fld (dv 0) rfl T.k_Core T.na_Core_layers rfl) da_nil))))

theorem ok_Core___getitem__ (T : Tx P w K mg ad cl) : DOk P w K mg base 3 (ad 4) ["self", "k"] (spD (Zz w K cl) f_Core___getitem__ 2) := by
  obtain ⟨fd, F, bd⟩ := T.f_Core___getitem__
  refine ⟨⟨fd, fnD F sc_Core___getitem__ (body := b_Core___getitem__) rfl rfl fun cdv A outer s H E hr => ?_, bd⟩, F.kp⟩
  have tk := L2N.takes_of (X := cxOf (L2N.CX P w) P w K mg base n_Core___getitem__ "Core.__getitem__" (defScope s_Core___getitem__) (ad 4) cdv A outer s H E) (E := E) rfl rfl rfl rfl
  have tw := tw_of tk
  exact (ds_cons (ds_if (dt_not (dt_chain c_le c_lt de_int (dv 1) (de_callB call_len (ok_len rfl) T.b_len PySem.boot_len (da_cons (de_fld (dv 0) rfl T.k_Core T.na_Core_layers rfl) da_nil)))) (ds_one (ds_raise1D rfl rfl tk (x1_NoLayer (P := P) (w := w) (base := base) T) (hr.mono (by decide)) T.g_NoLayer (da_cons (dv 1) da_nil))) ds_nil) (ds_one (ds_ret (de_ix rfl (de_fld (dv 0) rfl T.k_Core T.na_Core_layers rfl) (dv 1)))))

theorem ok_Core_joint (T : Tx P w K mg ad cl) : DOk P w K mg base 3 (ad 5) ["self", "k"] (spD (Zz w K cl) f_Core_joint 2) := by
  obtain ⟨fd, F, bd⟩ := T.f_Core_joint
  refine ⟨⟨fd, fnD F sc_Core_joint (body := b_Core_joint) rfl rfl fun cdv A outer s H E hr => ?_, bd⟩, F.kp⟩
  have tk := L2N.takes_of (X := cxOf (L2N.CX P w) P w K mg base n_Core_joint "Core.joint" (defScope s_Core_joint) (ad 5) cdv A outer s H E) (E := E) rfl rfl rfl rfl
  have tw := tw_of tk
  exact (ds_cons (ds_if (dt_not (dt_chain c_le c_lt de_int (dv 1) (de_callB call_len (ok_len rfl) T.b_len PySem.boot_len (da_cons (de_fld (dv 0) rfl T.k_Core T.na_Core_joints rfl) da_nil)))) (ds_one (ds_raise1D rfl rfl tk (x1_NoJoint (P := P) (w := w) (base := base) T) (hr.mono (by decide)) T.g_NoJoint (da_cons (dv 1) da_nil))) ds_nil) (ds_one (ds_ret (de_ix rfl (de_fld (dv 0) rfl T.k_Core T.na_Core_joints rfl) (dv 1)))))

theorem ok_Core_thickness (T : Tx P w K mg ad cl) : DOk P w K mg base 1 (ad 6) ["self"] (spD (Zz w K cl) f_Core_thickness 1) := by
  obtain ⟨fd, F, bd⟩ := T.f_Core_thickness
  refine ⟨⟨fd, fnD F sc_Core_thickness (body := b_Core_thickness) rfl rfl fun cdv A outer s H E hr => ?_, bd⟩, F.kp⟩
  have tk := L2N.takes_of (X := cxOf (L2N.CX P w) P w K mg base n_Core_thickness "Core.thickness" (defScope s_Core_thickness) (ad 6) cdv A outer s H E) (E := E) rfl rfl rfl rfl
  have tw := tw_of tk
  exact (ds_one (ds_ret (de_callB (cr_sum rfl) (ok_sum rfl) T.b_sum (by decide +kernel) (da_cons (de_settle (de_lcC (own := [("layer", 1)]) rfl sc_Core_thickness.nd (blkOk_by (own := [("layer", 1)]) (N := n_Core_thickness) (sc := defScope s_Core_thickness) (by decide +kernel)) (by decide) (di_list rfl (de_fld (dv 0) rfl T.k_Core T.na_Core_layers rfl)) (fun _ _ _ _ _ => (dg_name (i := 1) sc_Core_thickness.nd)) (fun _ _ _ _ _ => dts_nil) (fun _ _ _ _ _ => (de_ix rfl (dv 1) de_int)))) da_nil))))

/- theorem ok_Core_narrowed
  exact (ds_cons (ds_asg (de_methD (dv 0) T.k_Core T.m_Core_joint (show ("joint" : Str) ∉ flds 5 by decide +kernel) (ok_Core_joint (P := P) (w := w) (base := base) T) (hr.mono (by decide)) tw (da_cons (dv 1) da_nil)) (dg_tup rfl rfl (dgs_cons (dg_name (i := 4) sc_Core_narrowed.nd) (dgs_cons (dg_name (i := 5) sc_Core_narrowed.nd) dgs_nil)))) (ds_cons (ds_if (dt_cmp c_gt (dv 2) (dv 4)) (ds_one (ds_set (i := 4) sc_Core_narrowed.nd (dv 2))) ds_nil) (ds_cons (ds_if (PW.pt (dw_or (dt_cmp c_isN (dv 5) de_non) (dw_or1 (PW.pt (dw_and (dt_cmp c_notN (dv 3) de_non) (dw_and1 (dt_cmp c_lt (dv 3) (dv 5)))))))) (ds_one (ds_set (i := 5) sc_Core_narrowed.nd (dv 3))) ds_nil) (ds_cons (ds_if (PW.pt (dw_and (dt_cmp c_notN (dv 5) de_non) (dw_and1 (dt_cmp c_lt (dv 5) (dv 4))))) (ds_one (ds_raise1D rfl rfl tk (x1_BadJoint (P := P) (w := w) (base := base) T) (hr.mono (by decide)) T.g_BadJoint (da_cons (dv 1) da_nil))) ds_nil) (ds_cons (ds_set (i := 6) sc_Core_narrowed.nd (de_callTy call_list_of (ok_listC rfl) T.b_list (by decide +kernel) (da_cons (de_fld (dv 0) rfl T.k_Core T.na_Core_joints rfl) da_nil))) (ds_cons (ds_setIx (dv 6) (dv 1) (de_tup (da_cons (dv 4) (da_cons (dv 5) da_nil)))) (ds_one (ds_frz (ds_ret (de_makeD T.mk_Core (ok_Core___init__ (P := P) (w := w) (base := base) T) (hr.mono (by decide)) T.g_Core tw (da_cons (de_fld (dv 0) rfl T.k_Core T.na_Core_layers rfl) (da_cons (dv 6) da_nil)) rfl)))))))))) -/

theorem kw_Core_narrowed_1 (T : Tx P w K mg ad cl) : MKw P w K mg base (Zz w K cl) 5 (ad 7) 2 [] G_Core_narrowed_1 f_Core_narrowed 4 := by
  obtain ⟨fd, F⟩ := T.f_Core_narrowed
  obtain ⟨mv, kb⟩ := L2.FunD.kbinds0 (ps := ["self", "joint", "least", "most"]) F 2 [] [("least", .int 0), ("most", .non)] (fun us mv ws => us ++ (mv ++ ws)) (by simp) (fun q hq => by simp at hq ⊢; try simp [hq]) (fun r1 r2 r3 => r1.append (r2.append r3)) (fun _ _ _ _ _ _ us mv ws h1 h2 h3 => match us, mv, ws, h1, h2, h3 with | [_, _], [_, _], [], _, _, _ => ⟨_, _, _, _, _, _, rfl, rfl, ⟨_, _, _, _, _, _, rfl, rfl, rfl⟩⟩)
  refine ⟨fd, _, _, _, fnDD F sc_Core_narrowed (body := b_Core_narrowed) rfl rfl fun cdv A outer s H E hr => ?_, kb, grel_k0 flat_int flat_non⟩
  have tk := L2N.takes_of (X := cxOf (L2N.CX P w) P w K mg base n_Core_narrowed "Core.narrowed" (defScope s_Core_narrowed) (ad 7) cdv A outer s H E) (E := E) rfl rfl rfl rfl
  have tw := tw_of tk
  exact (ds_cons (ds_asg (de_methD (dv 0) T.k_Core T.m_Core_joint (show ("joint" : Str) ∉ flds 5 by decide +kernel) (ok_Core_joint (P := P) (w := w) (base := base) T) (hr.mono (by decide)) tw (da_cons (dv 1) da_nil)) (dg_tup rfl rfl (dgs_cons (dg_name (i := 4) sc_Core_narrowed.nd) (dgs_cons (dg_name (i := 5) sc_Core_narrowed.nd) dgs_nil)))) (ds_cons (ds_if (dt_cmp c_gt (dv 2) (dv 4)) (ds_one (ds_set (i := 4) sc_Core_narrowed.nd (dv 2))) ds_nil) (ds_cons (ds_if (PW.pt (dw_or (dt_cmp c_isN (dv 5) de_non) (dw_or1 (PW.pt (dw_and (dt_cmp c_notN (dv 3) de_non) (dw_and1 (dt_cmp c_lt (dv 3) (dv 5)))))))) (ds_one (ds_set (i := 5) sc_Core_narrowed.nd (dv 3))) ds_nil) (ds_cons (ds_if (PW.pt (dw_and (dt_cmp c_notN (dv 5) de_non) (dw_and1 (dt_cmp c_lt (dv 5) (dv 4))))) (ds_one (ds_raise1D rfl rfl tk (x1_BadJoint (P := P) (w := w) (base := base) T) (hr.mono (by decide)) T.g_BadJoint (da_cons (dv 1) da_nil))) ds_nil) (ds_cons (ds_set (i := 6) sc_Core_narrowed.nd (de_callTy call_list_of (ok_listC rfl) T.b_list (by decide +kernel) (da_cons (de_fld (dv 0) rfl T.k_Core T.na_Core_joints rfl) da_nil))) (ds_cons (ds_setIx (dv 6) (dv 1) (de_tup (da_cons (dv 4) (da_cons (dv 5) da_nil)))) (ds_one (ds_frz (ds_ret (de_makeD T.mk_Core (ok_Core___init__ (P := P) (w := w) (base := base) T) (hr.mono (by decide)) T.g_Core tw (da_cons (de_fld (dv 0) rfl T.k_Core T.na_Core_layers rfl) (da_cons (dv 6) da_nil)) rfl))))))))))

theorem kw_Core_narrowed_1_least (T : Tx P w K mg ad cl) : MKw P w K mg base (Zz w K cl) 5 (ad 7) 2 ["least"] G_Core_narrowed_1_least f_Core_narrowed 4 := by
  obtain ⟨fd, F⟩ := T.f_Core_narrowed
  obtain ⟨mv, kb⟩ := L2.FunD.kbinds0 (ps := ["self", "joint", "least", "most"]) F 2 ["least"] [("most", .non)] (fun us mv ws => us ++ (ws ++ mv)) (by simp) (fun q hq => by simp at hq ⊢; try simp [hq]) (fun r1 r2 r3 => r1.append (r3.append r2)) (fun _ _ _ _ _ _ us mv ws h1 h2 h3 => match us, mv, ws, h1, h2, h3 with | [_, _], [_], [_], _, _, _ => ⟨_, _, _, _, _, _, rfl, rfl, rfl⟩)
  refine ⟨fd, _, _, _, fnDD F sc_Core_narrowed (body := b_Core_narrowed) rfl rfl fun cdv A outer s H E hr => ?_, kb, grel_ka flat_non⟩
  have tk := L2N.takes_of (X := cxOf (L2N.CX P w) P w K mg base n_Core_narrowed "Core.narrowed" (defScope s_Core_narrowed) (ad 7) cdv A outer s H E) (E := E) rfl rfl rfl rfl
  have tw := tw_of tk
  exact (ds_cons (ds_asg (de_methD (dv 0) T.k_Core T.m_Core_joint (show ("joint" : Str) ∉ flds 5 by decide +kernel) (ok_Core_joint (P := P) (w := w) (base := base) T) (hr.mono (by decide)) tw (da_cons (dv 1) da_nil)) (dg_tup rfl rfl (dgs_cons (dg_name (i := 4) sc_Core_narrowed.nd) (dgs_cons (dg_name (i := 5) sc_Core_narrowed.nd) dgs_nil)))) (ds_cons (ds_if (dt_cmp c_gt (dv 2) (dv 4)) (ds_one (ds_set (i := 4) sc_Core_narrowed.nd (dv 2))) ds_nil) (ds_cons (ds_if (PW.pt (dw_or (dt_cmp c_isN (dv 5) de_non) (dw_or1 (PW.pt (dw_and (dt_cmp c_notN (dv 3) de_non) (dw_and1 (dt_cmp c_lt (dv 3) (dv 5)))))))) (ds_one (ds_set (i := 5) sc_Core_narrowed.nd (dv 3))) ds_nil) (ds_cons (ds_if (PW.pt (dw_and (dt_cmp c_notN (dv 5) de_non) (dw_and1 (dt_cmp c_lt (dv 5) (dv 4))))) (ds_one (ds_raise1D rfl rfl tk (x1_BadJoint (P := P) (w := w) (base := base) T) (hr.mono (by decide)) T.g_BadJoint (da_cons (dv 1) da_nil))) ds_nil) (ds_cons (ds_set (i := 6) sc_Core_narrowed.nd (de_callTy call_list_of (ok_listC rfl) T.b_list (by decide +kernel) (da_cons (de_fld (dv 0) rfl T.k_Core T.na_Core_joints rfl) da_nil))) (ds_cons (ds_setIx (dv 6) (dv 1) (de_tup (da_cons (dv 4) (da_cons (dv 5) da_nil)))) (ds_one (ds_frz (ds_ret (de_makeD T.mk_Core (ok_Core___init__ (P := P) (w := w) (base := base) T) (hr.mono (by decide)) T.g_Core tw (da_cons (de_fld (dv 0) rfl T.k_Core T.na_Core_layers rfl) (da_cons (dv 6) da_nil)) rfl))))))))))

theorem kw_Core_narrowed_1_most (T : Tx P w K mg ad cl) : MKw P w K mg base (Zz w K cl) 5 (ad 7) 2 ["most"] G_Core_narrowed_1_most f_Core_narrowed 4 := by
  obtain ⟨fd, F⟩ := T.f_Core_narrowed
  obtain ⟨mv, kb⟩ := L2.FunD.kbinds0 (ps := ["self", "joint", "least", "most"]) F 2 ["most"] [("least", .int 0)] (fun us mv ws => us ++ (mv ++ ws)) (by simp) (fun q hq => by simp at hq ⊢; try simp [hq]) (fun r1 r2 r3 => r1.append (r2.append r3)) (fun _ _ _ _ _ _ us mv ws h1 h2 h3 => match us, mv, ws, h1, h2, h3 with | [_, _], [_], [_], _, _, _ => ⟨_, _, _, _, _, _, rfl, rfl, rfl⟩)
  refine ⟨fd, _, _, _, fnDD F sc_Core_narrowed (body := b_Core_narrowed) rfl rfl fun cdv A outer s H E hr => ?_, kb, grel_kb flat_int⟩
  have tk := L2N.takes_of (X := cxOf (L2N.CX P w) P w K mg base n_Core_narrowed "Core.narrowed" (defScope s_Core_narrowed) (ad 7) cdv A outer s H E) (E := E) rfl rfl rfl rfl
  have tw := tw_of tk
  exact (ds_cons (ds_asg (de_methD (dv 0) T.k_Core T.m_Core_joint (show ("joint" : Str) ∉ flds 5 by decide +kernel) (ok_Core_joint (P := P) (w := w) (base := base) T) (hr.mono (by decide)) tw (da_cons (dv 1) da_nil)) (dg_tup rfl rfl (dgs_cons (dg_name (i := 4) sc_Core_narrowed.nd) (dgs_cons (dg_name (i := 5) sc_Core_narrowed.nd) dgs_nil)))) (ds_cons (ds_if (dt_cmp c_gt (dv 2) (dv 4)) (ds_one (ds_set (i := 4) sc_Core_narrowed.nd (dv 2))) ds_nil) (ds_cons (ds_if (PW.pt (dw_or (dt_cmp c_isN (dv 5) de_non) (dw_or1 (PW.pt (dw_and (dt_cmp c_notN (dv 3) de_non) (dw_and1 (dt_cmp c_lt (dv 3) (dv 5)))))))) (ds_one (ds_set (i := 5) sc_Core_narrowed.nd (dv 3))) ds_nil) (ds_cons (ds_if (PW.pt (dw_and (dt_cmp c_notN (dv 5) de_non) (dw_and1 (dt_cmp c_lt (dv 5) (dv 4))))) (ds_one (ds_raise1D rfl rfl tk (x1_BadJoint (P := P) (w := w) (base := base) T) (hr.mono (by decide)) T.g_BadJoint (da_cons (dv 1) da_nil))) ds_nil) (ds_cons (ds_set (i := 6) sc_Core_narrowed.nd (de_callTy call_list_of (ok_listC rfl) T.b_list (by decide +kernel) (da_cons (de_fld (dv 0) rfl T.k_Core T.na_Core_joints rfl) da_nil))) (ds_cons (ds_setIx (dv 6) (dv 1) (de_tup (da_cons (dv 4) (da_cons (dv 5) da_nil)))) (ds_one (ds_frz (ds_ret (de_makeD T.mk_Core (ok_Core___init__ (P := P) (w := w) (base := base) T) (hr.mono (by decide)) T.g_Core tw (da_cons (de_fld (dv 0) rfl T.k_Core T.na_Core_layers rfl) (da_cons (dv 6) da_nil)) rfl))))))))))

theorem kw_Core_narrowed_1_most_least (T : Tx P w K mg ad cl) : MKw P w K mg base (Zz w K cl) 5 (ad 7) 2 ["most", "least"] G_Core_narrowed_1_most_least f_Core_narrowed 4 := by
  obtain ⟨fd, F⟩ := T.f_Core_narrowed
  obtain ⟨mv, kb⟩ := L2.FunD.kbinds0 (ps := ["self", "joint", "least", "most"]) F 2 ["most", "least"] [] (fun us mv ws => us ++ ws.reverse) (by simp) (fun q hq => by simp at hq ⊢; try simp [hq]) (fun r1 r2 r3 => r1.append (vals_rev r3)) (fun _ _ _ _ _ _ us mv ws h1 h2 h3 => match us, mv, ws, h1, h2, h3 with | [_, _], [], [_, _], _, _, _ => rfl)
  refine ⟨fd, _, _, _, fnDD F sc_Core_narrowed (body := b_Core_narrowed) rfl rfl fun cdv A outer s H E hr => ?_, kb, grel_rev⟩
  have tk := L2N.takes_of (X := cxOf (L2N.CX P w) P w K mg base n_Core_narrowed "Core.narrowed" (defScope s_Core_narrowed) (ad 7) cdv A outer s H E) (E := E) rfl rfl rfl rfl
  have tw := tw_of tk
  exact (ds_cons (ds_asg (de_methD (dv 0) T.k_Core T.m_Core_joint (show ("joint" : Str) ∉ flds 5 by decide +kernel) (ok_Core_joint (P := P) (w := w) (base := base) T) (hr.mono (by decide)) tw (da_cons (dv 1) da_nil)) (dg_tup rfl rfl (dgs_cons (dg_name (i := 4) sc_Core_narrowed.nd) (dgs_cons (dg_name (i := 5) sc_Core_narrowed.nd) dgs_nil)))) (ds_cons (ds_if (dt_cmp c_gt (dv 2) (dv 4)) (ds_one (ds_set (i := 4) sc_Core_narrowed.nd (dv 2))) ds_nil) (ds_cons (ds_if (PW.pt (dw_or (dt_cmp c_isN (dv 5) de_non) (dw_or1 (PW.pt (dw_and (dt_cmp c_notN (dv 3) de_non) (dw_and1 (dt_cmp c_lt (dv 3) (dv 5)))))))) (ds_one (ds_set (i := 5) sc_Core_narrowed.nd (dv 3))) ds_nil) (ds_cons (ds_if (PW.pt (dw_and (dt_cmp c_notN (dv 5) de_non) (dw_and1 (dt_cmp c_lt (dv 5) (dv 4))))) (ds_one (ds_raise1D rfl rfl tk (x1_BadJoint (P := P) (w := w) (base := base) T) (hr.mono (by decide)) T.g_BadJoint (da_cons (dv 1) da_nil))) ds_nil) (ds_cons (ds_set (i := 6) sc_Core_narrowed.nd (de_callTy call_list_of (ok_listC rfl) T.b_list (by decide +kernel) (da_cons (de_fld (dv 0) rfl T.k_Core T.na_Core_joints rfl) da_nil))) (ds_cons (ds_setIx (dv 6) (dv 1) (de_tup (da_cons (dv 4) (da_cons (dv 5) da_nil)))) (ds_one (ds_frz (ds_ret (de_makeD T.mk_Core (ok_Core___init__ (P := P) (w := w) (base := base) T) (hr.mono (by decide)) T.g_Core tw (da_cons (de_fld (dv 0) rfl T.k_Core T.na_Core_layers rfl) (da_cons (dv 6) da_nil)) rfl))))))))))

theorem ok__law_mix (T : Tx P w K mg ad cl) : DOk P w K mg base 1 (ad 8) ["_law_cell", "_law_turn"] (spD (Zz w K cl) f__law_mix 2) := by
  obtain ⟨fd, F, bd⟩ := T.f__law_mix
  refine ⟨⟨fd, fnD F sc__law_mix (body := b__law_mix) rfl rfl fun cdv A outer s H E hr => ?_, bd⟩, F.kp⟩
  have tk := L2N.takes_of (X := cxOf (L2N.CX P w) P w K mg base n__law_mix "_law_mix" (defScope s__law_mix) (ad 8) cdv A outer s H E) (E := E) rfl rfl rfl rfl
  have tw := tw_of tk
  exact (ds_cons (ds_set (i := 2) sc__law_mix.nd (de_mod (de_callTy call_int1 ok_int1 T.b_int (by decide +kernel) (da_cons (de_add (de_mul (de_mul (dv 0) de_int) (de_add (dv 1) de_int)) (de_mul de_int (dv 1))) da_nil)) de_int)) (ds_one (ds_ret (de_add (dv 2) (de_div (de_mul (dv 2) (dv 2)) de_int)))))

theorem ok__law_pool (T : Tx P w K mg ad cl) : DOk P w K mg base 2 (ad 9) ["_law_script", "_law_many"] (spD (Zz w K cl) f__law_pool 2) := by
  obtain ⟨fd, F, bd⟩ := T.f__law_pool
  refine ⟨⟨fd, fnD F sc__law_pool (body := b__law_pool) rfl rfl fun cdv A outer s H E hr => ?_, bd⟩, F.kp⟩
  have tk := L2N.takes_of (X := cxOf (L2N.CX P w) P w K mg base n__law_pool "_law_pool" (defScope s__law_pool) (ad 9) cdv A outer s H E) (E := E) rfl rfl rfl rfl
  have tw := tw_of tk
  exact (ds_cons (ds_set (i := 2) sc__law_pool.nd (de_lstC da_nil)) (ds_cons (ds_set (i := 3) sc__law_pool.nd de_int) (ds_cons (ds_for (passes_of rfl) (di_range1 T.b_range (da_cons (de_callB (call_min2 rfl) ok_min T.b_min (by decide +kernel) (da_cons (de_callB call_len (ok_len rfl) T.b_len PySem.boot_len (da_cons (dv 0) da_nil)) (da_cons de_int da_nil))) da_nil)) (dg_name (i := 4) sc__law_pool.nd) (ds_cons (ds_set (i := 3) sc__law_pool.nd (de_mod (de_callTy call_int1 ok_int1 T.b_int (by decide +kernel) (da_cons (de_add (dv 3) (de_mul (de_ix rfl (dv 0) (dv 4)) (de_add (dv 4) de_int))) da_nil)) de_int)) (ds_cons (ds_set (i := 5) sc__law_pool.nd (de_callB call_abs ok_abs T.b_abs (by decide +kernel) (da_cons (de_ix rfl (dv 0) (dv 4)) da_nil))) (ds_cons (ds_set (i := 6) sc__law_pool.nd (de_cmpK c_ge (dv 5) (de_pow de_int de_int))) (ds_one (ds_for (passes_of rfl) (di_range1 T.b_range (da_cons de_int da_nil)) (dg_name (i := 7) sc__law_pool.nd) (ds_one (ds_if (PW.pt (dw_and (dt_tru rfl (dv 6)) (dw_and1 (dt_cmp c_gt (dv 5) de_int)))) (ds_cons (ds_expr (de_append rfl (dv 2) (de_mod (de_callTy call_int1 ok_int1 T.b_int (by decide +kernel) (da_cons (dv 5) da_nil)) de_int))) (ds_one (ds_set (i := 5) sc__law_pool.nd (de_div (dv 5) de_int)))) (ds_one (ds_if (PW.pt (dw_and (dt_not (dt_tru rfl (dv 6))) (dw_and1 (dt_cmp c_lt (dv 7) de_int)))) (ds_one (ds_expr (de_append rfl (dv 2) (de_callD (ok__law_mix (P := P) (w := w) (base := base) T) (hr.mono (by decide)) T.g__law_mix tw (da_cons (de_ix rfl (dv 0) (dv 4)) (da_cons (dv 7) da_nil)))))) ds_nil)))))))))) (ds_cons (ds_for (passes_of rfl) (di_range1 T.b_range (da_cons (dv 1) da_nil)) (dg_name (i := 7) sc__law_pool.nd) (ds_one (ds_if (dt_cmp c_lt (de_callB call_len (ok_len rfl) T.b_len PySem.boot_len (da_cons (dv 2) da_nil)) (dv 1)) (ds_one (ds_expr (de_append rfl (dv 2) (de_callD (ok__law_mix (P := P) (w := w) (base := base) T) (hr.mono (by decide)) T.g__law_mix tw (da_cons (dv 3) (da_cons (de_callB call_len (ok_len rfl) T.b_len PySem.boot_len (da_cons (dv 2) da_nil)) da_nil)))))) ds_nil))) (ds_one (ds_ret (dv 2)))))))

theorem ok__law_draw (T : Tx P w K mg ad cl) : DOk P w K mg base 2 (ad 10) ["_law_pool_here", "_law_bound"] (spD (Zz w K cl) f__law_draw 2) := by
  obtain ⟨fd, F, bd⟩ := T.f__law_draw
  refine ⟨⟨fd, fnD F sc__law_draw (body := b__law_draw) rfl rfl fun cdv A outer s H E hr => ?_, bd⟩, F.kp⟩
  have tk := L2N.takes_of (X := cxOf (L2N.CX P w) P w K mg base n__law_draw "_law_draw" (defScope s__law_draw) (ad 10) cdv A outer s H E) (E := E) rfl rfl rfl rfl
  have tw := tw_of tk
  exact (ds_cons (ds_if (dt_cmp (c_eq rfl hr) (de_callB call_len (ok_len rfl) T.b_len PySem.boot_len (da_cons (dv 0) da_nil)) de_int) (ds_one (ds_ret de_int)) ds_nil) (ds_one (ds_ret (de_mod (de_callTy call_int1 ok_int1 T.b_int (by decide +kernel) (da_cons (de_popAt rfl (dv 0) de_int) da_nil)) (dv 1)))))

theorem ok__law_number (T : Tx P w K mg ad cl) : DOk P w K mg base 3 (ad 11) ["_law_pool_here"] (spD (Zz w K cl) f__law_number 1) := by
  obtain ⟨fd, F, bd⟩ := T.f__law_number
  refine ⟨⟨fd, fnD F sc__law_number (body := b__law_number) rfl rfl fun cdv A outer s H E hr => ?_, bd⟩, F.kp⟩
  have tk := L2N.takes_of (X := cxOf (L2N.CX P w) P w K mg base n__law_number "_law_number" (defScope s__law_number) (ad 11) cdv A outer s H E) (E := E) rfl rfl rfl rfl
  have tw := tw_of tk
  exact (ds_cons (ds_set (i := 1) sc__law_number.nd (de_callD (ok__law_draw (P := P) (w := w) (base := base) T) (hr.mono (by decide)) T.g__law_draw tw (da_cons (dv 0) (da_cons de_int da_nil)))) (ds_cons (ds_set (i := 2) sc__law_number.nd (de_callD (ok__law_draw (P := P) (w := w) (base := base) T) (hr.mono (by decide)) T.g__law_draw tw (da_cons (dv 0) (da_cons de_int da_nil)))) (ds_cons (ds_if (dt_cmp (c_eq rfl hr) (dv 1) de_int) (ds_one (ds_for (passes_of rfl) (di_range1 T.b_range (da_cons de_int da_nil)) (dg_name (i := 3) sc__law_number.nd) (ds_one (ds_set (i := 2) sc__law_number.nd (de_add (de_mul (dv 2) de_int) (de_callD (ok__law_draw (P := P) (w := w) (base := base) T) (hr.mono (by decide)) T.g__law_draw tw (da_cons (dv 0) (da_cons de_int da_nil)))))))) ds_nil) (ds_one (ds_ret (de_mod (de_callTy call_int1 ok_int1 T.b_int (by decide +kernel) (da_cons (dv 2) da_nil)) (de_pow de_int de_int)))))))

theorem ok__law_kind (T : Tx P w K mg ad cl) : DOk P w K mg base 3 (ad 12) ["_law_pool_here"] (spD (Zz w K cl) f__law_kind 1) := by
  obtain ⟨fd, F, bd⟩ := T.f__law_kind
  refine ⟨⟨fd, fnD F sc__law_kind (body := b__law_kind) rfl rfl fun cdv A outer s H E hr => ?_, bd⟩, F.kp⟩
  have tk := L2N.takes_of (X := cxOf (L2N.CX P w) P w K mg base n__law_kind "_law_kind" (defScope s__law_kind) (ad 12) cdv A outer s H E) (E := E) rfl rfl rfl rfl
  have tw := tw_of tk
  exact (ds_cons (ds_set (i := 1) sc__law_kind.nd (de_ix rfl (de_lst (da_cons de_int (da_cons de_int (da_cons de_int (da_cons de_int (da_cons de_int (da_cons de_int da_nil))))))) (de_callD (ok__law_draw (P := P) (w := w) (base := base) T) (hr.mono (by decide)) T.g__law_draw tw (da_cons (dv 0) (da_cons de_int da_nil))))) (ds_cons (ds_set (i := 2) sc__law_kind.nd (de_callD (ok__law_draw (P := P) (w := w) (base := base) T) (hr.mono (by decide)) T.g__law_draw tw (da_cons (dv 0) (da_cons (dv 1) da_nil)))) (ds_cons (ds_set (i := 3) sc__law_kind.nd de_str) (ds_cons (ds_set (i := 4) sc__law_kind.nd (de_ix rfl (dv 3) (de_callD (ok__law_draw (P := P) (w := w) (base := base) T) (hr.mono (by decide)) T.g__law_draw tw (da_cons (dv 0) (da_cons (de_ix rfl (de_lst (da_cons de_int (da_cons de_int (da_cons de_int da_nil)))) (de_callD (ok__law_draw (P := P) (w := w) (base := base) T) (hr.mono (by decide)) T.g__law_draw tw (da_cons (dv 0) (da_cons de_int da_nil)))) da_nil))))) (ds_one (ds_ret (de_add (de_add (de_repS de_str (dv 2)) (dv 4)) (de_repS de_str (de_sub (de_sub (dv 1) de_int) (dv 2))))))))))

theorem ok__law_bounds (T : Tx P w K mg ad cl) : DOk P w K mg base 4 (ad 13) ["_law_pool_here"] (spD (Zz w K cl) f__law_bounds 1) := by
  obtain ⟨fd, F, bd⟩ := T.f__law_bounds
  refine ⟨⟨fd, fnD F sc__law_bounds (body := b__law_bounds) rfl rfl fun cdv A outer s H E hr => ?_, bd⟩, F.kp⟩
  have tk := L2N.takes_of (X := cxOf (L2N.CX P w) P w K mg base n__law_bounds "_law_bounds" (defScope s__law_bounds) (ad 13) cdv A outer s H E) (E := E) rfl rfl rfl rfl
  have tw := tw_of tk
  exact (ds_cons (ds_set (i := 1) sc__law_bounds.nd (de_callD (ok__law_number (P := P) (w := w) (base := base) T) (hr.mono (by decide)) T.g__law_number tw (da_cons (dv 0) da_nil))) (ds_cons (ds_set (i := 2) sc__law_bounds.nd (de_add (dv 1) (de_callD (ok__law_number (P := P) (w := w) (base := base) T) (hr.mono (by decide)) T.g__law_number tw (da_cons (dv 0) da_nil)))) (ds_cons (ds_if (dt_cmp (c_eq rfl hr) (de_callD (ok__law_draw (P := P) (w := w) (base := base) T) (hr.mono (by decide)) T.g__law_draw tw (da_cons (dv 0) (da_cons de_int da_nil))) de_int) (ds_one (ds_ret (de_tup (da_cons (dv 1) (da_cons de_non da_nil))))) ds_nil) (ds_one (ds_ret (de_tup (da_cons (dv 1) (da_cons (dv 2) da_nil))))))))

theorem ok__law_whole (T : Tx P w K mg ad cl) : DOk P w K mg base 1 (ad 14) ["_law_number_here"] (spD (Zz w K cl) f__law_whole 1) := by
  obtain ⟨fd, F, bd⟩ := T.f__law_whole
  refine ⟨⟨fd, fnD F sc__law_whole (body := b__law_whole) rfl rfl fun cdv A outer s H E hr => ?_, bd⟩, F.kp⟩
  have tk := L2N.takes_of (X := cxOf (L2N.CX P w) P w K mg base n__law_whole "_law_whole" (defScope s__law_whole) (ad 14) cdv A outer s H E) (E := E) rfl rfl rfl rfl
  have tw := tw_of tk
  exact (ds_one (ds_ret (de_and (de_isi (pe_bltn (v := .ty "int") (u := .type "int") rfl T.b_int (by decide +kernel) rfl) (.ty _) rfl T.ik_int T.ic_int (dv 0) T.b_isinstance) (de_one (de_not (de_isi (pe_bltn (v := .ty "bool") (u := .type "bool") rfl T.b_bool (by decide +kernel) rfl) (.ty _) rfl T.ik_bool T.ic_bool (dv 0) T.b_isinstance))))))

theorem okh__law_whole (T : Tx P w K mg ad cl) : DOkH P w K mg base 1 (ad 14) ["_law_number_here"] (spD (Zz w K cl) f__law_whole 1) := by
  obtain ⟨fd, F, bd⟩ := T.f__law_whole
  refine ⟨⟨fd, fnDH F sc__law_whole (body := b__law_whole) rfl rfl fun cdv A outer s H E p hh hr => ?_, bd⟩, F.kp⟩
  exact (ds_one (ds_ret (de_and (de_isi (pe_bltn (v := .ty "int") (u := .type "int") rfl T.b_int (by decide +kernel) rfl) (.ty _) rfl T.ik_int T.ic_int (dv 0) T.b_isinstance) (de_one (de_not (de_isi (pe_bltn (v := .ty "bool") (u := .type "bool") rfl T.b_bool (by decide +kernel) rfl) (.ty _) rfl T.ik_bool T.ic_bool (dv 0) T.b_isinstance))))))

theorem ok__law_same (T : Tx P w K mg ad cl) : DOk P w K mg base 5 (ad 15) ["_law_core", "_law_layers", "_law_joints"] (spD (Zz w K cl) f__law_same 3) := by
  obtain ⟨fd, F, bd⟩ := T.f__law_same
  refine ⟨⟨fd, fnD F sc__law_same (body := b__law_same) rfl rfl fun cdv A outer s H E hr => ?_, bd⟩, F.kp⟩
  have tk := L2N.takes_of (X := cxOf (L2N.CX P w) P w K mg base n__law_same "_law_same" (defScope s__law_same) (ad 15) cdv A outer s H E) (E := E) rfl rfl rfl rfl
  have tw := tw_of tk
  exact (ds_cons (ds_if (PW.pt (dw_or (dt_not (dt_val (de_isi (pe_glob (v := .ref (cl 5)) rfl T.g_Core rfl) (.own _) rfl T.ik_Core T.ic_Core (dv 0) T.b_isinstance))) (dw_or1 (dt_cmp (c_ne rfl hr) (de_lenO (dv 0) T.o1_Core___len__.hs T.o1_Core___len__.fn (ok_Core___len__ (P := P) (w := w) (base := base) T) (hr.mono (by decide)) rfl T.b_len) (de_callB call_len (ok_len rfl) T.b_len PySem.boot_len (da_cons (dv 1) da_nil)))))) (ds_one (ds_ret de_bl)) ds_nil) (ds_cons (ds_if (dt_cmp (c_ne rfl hr) (de_settle (de_lcC (own := [("_law_layer", 5)]) rfl sc__law_same.nd (blkOk_by (own := [("_law_layer", 5)]) (N := n__law_same) (sc := defScope s__law_same) (by decide +kernel)) (by decide) (di_own rfl (dv 0) T.k_Core T.na_Core_layers rfl (it_Core (P := P) (w := w) (base := base) T) (hr.mono (by decide))) (fun _ _ _ _ _ => (dg_name (i := 5) sc__law_same.nd)) (fun _ _ _ _ _ => dts_nil) (fun _ _ _ _ _ => (dv 5)))) (dv 1)) (ds_one (ds_ret de_bl)) ds_nil) (ds_cons (ds_set (i := 3) sc__law_same.nd de_int) (ds_cons (ds_for (passes_of rfl) (di_range1 T.b_range (da_cons (de_callB call_len (ok_len rfl) T.b_len PySem.boot_len (da_cons (dv 1) da_nil)) da_nil)) (dg_name (i := 4) sc__law_same.nd) (ds_cons (ds_set (i := 5) sc__law_same.nd (de_ownIx T.gi_Core (ok_Core___getitem__ (P := P) (w := w) (base := base) T) (hr.mono (by decide)) tw (dv 0) (dv 4))) (ds_cons (ds_if (PW.pt (dw_or (dt_not (dt_val (de_isi (pe_bltn (v := .ty "tuple") (u := .type "tuple") rfl T.b_tuple (by decide +kernel) rfl) (.ty _) rfl T.ik_tuple T.ic_tuple (dv 5) T.b_isinstance))) (dw_or (dt_cmp (c_ne rfl hr) (dv 5) (de_ix rfl (dv 1) (dv 4))) (dw_or1 (dt_not (dt_val (de_callD (ok__law_whole (P := P) (w := w) (base := base) T) (hr.mono (by decide)) T.g__law_whole tw (da_cons (de_ix rfl (dv 5) de_int) da_nil)))))))) (ds_one (ds_ret de_bl)) ds_nil) (ds_one (ds_set (i := 3) sc__law_same.nd (de_add (dv 3) (de_ix rfl (de_ix rfl (dv 1) (dv 4)) de_int))))))) (ds_cons (ds_for (passes_of rfl) (di_range1 T.b_range (da_cons (de_callB call_len (ok_len rfl) T.b_len PySem.boot_len (da_cons (dv 2) da_nil)) da_nil)) (dg_name (i := 4) sc__law_same.nd) (ds_cons (ds_set (i := 6) sc__law_same.nd (de_methD (dv 0) T.k_Core T.m_Core_joint (show ("joint" : Str) ∉ flds 5 by decide +kernel) (ok_Core_joint (P := P) (w := w) (base := base) T) (hr.mono (by decide)) tw (da_cons (dv 4) da_nil))) (ds_cons (ds_if (PW.pt (dw_or (dt_not (dt_val (de_isi (pe_bltn (v := .ty "tuple") (u := .type "tuple") rfl T.b_tuple (by decide +kernel) rfl) (.ty _) rfl T.ik_tuple T.ic_tuple (dv 6) T.b_isinstance))) (dw_or (dt_cmp (c_ne rfl hr) (dv 6) (de_ix rfl (dv 2) (dv 4))) (dw_or1 (dt_not (dt_val (de_callD (ok__law_whole (P := P) (w := w) (base := base) T) (hr.mono (by decide)) T.g__law_whole tw (da_cons (de_ix rfl (dv 6) de_int) da_nil)))))))) (ds_one (ds_ret de_bl)) ds_nil) (ds_one (ds_if (PW.pt (dw_and (dt_cmp c_notN (de_ix rfl (dv 6) de_int) de_non) (dw_and1 (dt_not (dt_val (de_callD (ok__law_whole (P := P) (w := w) (base := base) T) (hr.mono (by decide)) T.g__law_whole tw (da_cons (de_ix rfl (dv 6) de_int) da_nil))))))) (ds_one (ds_ret de_bl)) ds_nil))))) (ds_one (ds_ret (de_and (de_callD (ok__law_whole (P := P) (w := w) (base := base) T) (hr.mono (by decide)) T.g__law_whole tw (da_cons (de_propD (dv 0) T.k_Core T.p_Core_thickness (ok_Core_thickness (P := P) (w := w) (base := base) T) (hr.mono (by decide))) da_nil)) (de_one (de_cmpK (c_eq rfl hr) (de_propD (dv 0) T.k_Core T.p_Core_thickness (ok_Core_thickness (P := P) (w := w) (base := base) T) (hr.mono (by decide))) (dv 3)))))))))))

theorem ok__law_call (T : Tx P w K mg ad cl) : DOk P w K mg base 6 (ad 16) ["_law_core", "_law_at", "_law_low", "_law_high", "_law_shape"] (spD (Zz w K cl) f__law_call 5) := by
  obtain ⟨fd, F, bd⟩ := T.f__law_call
  refine ⟨⟨fd, fnD F sc__law_call (body := b__law_call) rfl rfl fun cdv A outer s H E hr => ?_, bd⟩, F.kp⟩
  have tk := L2N.takes_of (X := cxOf (L2N.CX P w) P w K mg base n__law_call "_law_call" (defScope s__law_call) (ad 16) cdv A outer s H E) (E := E) rfl rfl rfl rfl
  have tw := tw_of tk
  exact (ds_cons (ds_if (dt_cmp (c_eq rfl hr) (dv 4) de_int) (ds_one (ds_ret (de_methK (dv 0) T.k_Core T.m_Core_narrowed (show ("narrowed" : Str) ∉ flds 5 by decide +kernel) (kw_Core_narrowed_1 (P := P) (w := w) (base := base) T) (hr.mono (by decide)) tw (da_cons (dv 1) da_nil) pk_nil))) ds_nil) (ds_cons (ds_if (dt_cmp (c_eq rfl hr) (dv 4) de_int) (ds_one (ds_ret (de_methK (dv 0) T.k_Core T.m_Core_narrowed (show ("narrowed" : Str) ∉ flds 5 by decide +kernel) (kw_Core_narrowed_1_least (P := P) (w := w) (base := base) T) (hr.mono (by decide)) tw (da_cons (dv 1) da_nil) (pk_cons (dv 2) pk_nil)))) ds_nil) (ds_cons (ds_if (dt_cmp (c_eq rfl hr) (dv 4) de_int) (ds_one (ds_ret (de_methK (dv 0) T.k_Core T.m_Core_narrowed (show ("narrowed" : Str) ∉ flds 5 by decide +kernel) (kw_Core_narrowed_1_most (P := P) (w := w) (base := base) T) (hr.mono (by decide)) tw (da_cons (dv 1) da_nil) (pk_cons (dv 3) pk_nil)))) ds_nil) (ds_one (ds_ret (de_methK (dv 0) T.k_Core T.m_Core_narrowed (show ("narrowed" : Str) ∉ flds 5 by decide +kernel) (kw_Core_narrowed_1_most_least (P := P) (w := w) (base := base) T) (hr.mono (by decide)) tw (da_cons (dv 1) da_nil) (pk_cons (dv 3) (pk_cons (dv 2) pk_nil))))))))

theorem ok__law_due (T : Tx P w K mg ad cl) : DOk P w K mg base 2 (ad 17) ["_law_joint", "_law_low", "_law_high", "_law_shape"] (spD (Zz w K cl) f__law_due 4) := by
  obtain ⟨fd, F, bd⟩ := T.f__law_due
  refine ⟨⟨fd, fnD F sc__law_due (body := b__law_due) rfl rfl fun cdv A outer s H E hr => ?_, bd⟩, F.kp⟩
  have tk := L2N.takes_of (X := cxOf (L2N.CX P w) P w K mg base n__law_due "_law_due" (defScope s__law_due) (ad 17) cdv A outer s H E) (E := E) rfl rfl rfl rfl
  have tw := tw_of tk
  exact (ds_cons (ds_if (dt_cmp (c_eq rfl hr) (de_mod (de_callTy call_int1 ok_int1 T.b_int (by decide +kernel) (da_cons (dv 3) da_nil)) de_int) de_int) (ds_one (ds_set (i := 1) sc__law_due.nd de_int)) ds_nil) (ds_cons (ds_if (dt_cmp c_lt (dv 3) de_int) (ds_one (ds_set (i := 2) sc__law_due.nd de_non)) ds_nil) (ds_cons (ds_set (i := 1) sc__law_due.nd (de_callB (call_max2 rfl) ok_max T.b_max (by decide +kernel) (da_cons (de_callTy call_int1 ok_int1 T.b_int (by decide +kernel) (da_cons (de_ix rfl (dv 0) de_int) da_nil)) (da_cons (de_callTy call_int1 ok_int1 T.b_int (by decide +kernel) (da_cons (dv 1) da_nil)) da_nil)))) (ds_cons (ds_if (PW.pt (dw_or (dt_cmp c_isN (dv 2) de_non) (dw_or1 (PW.pt (dw_and (dt_cmp c_notN (de_ix rfl (dv 0) de_int) de_non) (dw_and1 (dt_cmp c_lt (de_ix rfl (dv 0) de_int) (dv 2)))))))) (ds_one (ds_set (i := 2) sc__law_due.nd (de_ix rfl (dv 0) de_int))) ds_nil) (ds_cons (ds_if (PW.pt (dw_and (dt_cmp c_notN (dv 2) de_non) (dw_and1 (dt_cmp c_lt (dv 2) (dv 1))))) (ds_one (ds_ret de_non)) ds_nil) (ds_one (ds_ret (de_tup (da_cons (dv 1) (da_cons (dv 2) da_nil))))))))))

theorem ok__law_near (T : Tx P w K mg ad cl) : DOk P w K mg base 4 (ad 18) ["_law_pool_here", "_law_joint"] (spD (Zz w K cl) f__law_near 2) := by
  obtain ⟨fd, F, bd⟩ := T.f__law_near
  refine ⟨⟨fd, fnD F sc__law_near (body := b__law_near) rfl rfl fun cdv A outer s H E hr => ?_, bd⟩, F.kp⟩
  have tk := L2N.takes_of (X := cxOf (L2N.CX P w) P w K mg base n__law_near "_law_near" (defScope s__law_near) (ad 18) cdv A outer s H E) (E := E) rfl rfl rfl rfl
  have tw := tw_of tk
  exact (ds_cons (ds_set (i := 2) sc__law_near.nd (de_lstC (da_cons (de_ix rfl (dv 1) de_int) (da_cons (de_ix rfl (dv 1) de_int) (da_cons (de_callD (ok__law_number (P := P) (w := w) (base := base) T) (hr.mono (by decide)) T.g__law_number tw (da_cons (dv 0) da_nil)) da_nil))))) (ds_cons (ds_if (dt_cmp c_notN (de_ix rfl (dv 1) de_int) de_non) (ds_one (ds_setIx (dv 2) de_int (de_ix rfl (dv 1) de_int))) ds_nil) (ds_cons (ds_set (i := 3) sc__law_near.nd (de_sub (de_add (de_ix rfl (dv 2) (de_callD (ok__law_draw (P := P) (w := w) (base := base) T) (hr.mono (by decide)) T.g__law_draw tw (da_cons (dv 0) (da_cons de_int da_nil)))) (de_callD (ok__law_draw (P := P) (w := w) (base := base) T) (hr.mono (by decide)) T.g__law_draw tw (da_cons (dv 0) (da_cons de_int da_nil)))) de_int)) (ds_cons (ds_set (i := 4) sc__law_near.nd (de_sub (de_add (de_ix rfl (dv 2) (de_callD (ok__law_draw (P := P) (w := w) (base := base) T) (hr.mono (by decide)) T.g__law_draw tw (da_cons (dv 0) (da_cons de_int da_nil)))) (de_callD (ok__law_draw (P := P) (w := w) (base := base) T) (hr.mono (by decide)) T.g__law_draw tw (da_cons (dv 0) (da_cons de_int da_nil)))) de_int)) (ds_cons (ds_if (dt_cmp (c_eq rfl hr) (de_callD (ok__law_draw (P := P) (w := w) (base := base) T) (hr.mono (by decide)) T.g__law_draw tw (da_cons (dv 0) (da_cons de_int da_nil))) de_int) (ds_one (ds_ret (de_lst (da_cons (dv 3) (da_cons de_non da_nil))))) ds_nil) (ds_one (ds_ret (de_lst (da_cons (dv 3) (da_cons (dv 4) da_nil))))))))))

theorem ok__law_told (T : Tx P w K mg ad cl) : DOk P w K mg base 7 (ad 19) ["_law_core", "_law_at", "_law_low", "_law_high", "_law_shape"] (spD (Zz w K cl) f__law_told 5) := by
  obtain ⟨fd, F, bd⟩ := T.f__law_told
  refine ⟨⟨fd, fnD F sc__law_told (body := b__law_told) rfl rfl fun cdv A outer s H E hr => ?_, bd⟩, F.kp⟩
  have tk := L2N.takes_of (X := cxOf (L2N.CX P w) P w K mg base n__law_told "_law_told" (defScope s__law_told) (ad 19) cdv A outer s H E) (E := E) rfl rfl rfl rfl
  have tw := tw_of tk
  exact (ds_cons (ds_try_mn rfl rfl rfl tk (fun W pn xe tkb hpb => (ds_one (ds_expr (de_callD (ok__law_call (P := P) (w := w) (base := base) T) (hr.mono (by decide)) T.g__law_call (tw_of tkb) (da_cons (dv 0) (da_cons (dv 1) (da_cons (dv 2) (da_cons (dv 3) (da_cons (dv 4) da_nil))))))))) (.named (i := 5) sc__law_told.nd ⟨rfl, by decide, .inl T.g_NoJoint⟩ T.xe_NoJoint (fun a oe c d pn hcn hzn hfl => (have hrh := L2H.roomH_mark hr (some (.ref a)); (ds_one (ds_if (PW.pt (dw_and (dt_val (de_callHD (okh__law_whole (P := P) (w := w) (base := base) T) (hrh.mono (by decide)) (hotC_suite hzn hfl) T.g__law_whole (da_cons (de_xf (xf_index T) hzn hfl (dv 5)) da_nil))) (dw_and (dt_cmp (c_eqH rfl (hotUnits hrh)) (de_xf (xf_index T) hzn hfl (dv 5)) (dv 1)) (dw_and (dt_not (dt_val (de_isX (T.xi _ hcn) (pe_glob (v := .ref (cl 0)) rfl T.g_BadCore rfl) (fun _ r => r) (fun b h => by cases h; exact T.xk_BadCore _ hcn) hzn hfl (dv 5) T.b_isinstance))) (dw_and1 (dt_not (dt_val (de_isX (T.xi _ hcn) (pe_glob (v := .ref (cl 3)) rfl T.g_NoLayer rfl) (fun _ r => r) (fun b h => by cases h; exact T.xk_NoLayer _ hcn) hzn hfl (dv 5) T.b_isinstance)))))))) (ds_one (ds_ret de_str)) ds_nil)))) (.named (i := 5) sc__law_told.nd ⟨rfl, by decide, .inl T.g_BadJoint⟩ T.xe_BadJoint (fun a oe c d pn hcn hzn hfl => (have hrh := L2H.roomH_mark hr (some (.ref a)); (ds_cons (ds_if (PW.pt (dw_and (dt_val (de_callHD (okh__law_whole (P := P) (w := w) (base := base) T) (hrh.mono (by decide)) (hotC_suite hzn hfl) T.g__law_whole (da_cons (de_xf (xf_index T) hzn hfl (dv 5)) da_nil))) (dw_and (dt_cmp (c_eqH rfl (hotUnits hrh)) (de_xf (xf_index T) hzn hfl (dv 5)) (dv 1)) (dw_and (dt_val (de_isX (T.xi _ hcn) (pe_glob (v := .ref (cl 0)) rfl T.g_BadCore rfl) (fun _ r => r) (fun b h => by cases h; exact T.xk_BadCore _ hcn) hzn hfl (dv 5) T.b_isinstance)) (dw_and1 (dt_not (dt_val (de_isX (T.xi _ hcn) (pe_glob (v := .ref (cl 1)) rfl T.g_BadLayer rfl) (fun _ r => r) (fun b h => by cases h; exact T.xk_BadLayer _ hcn) hzn hfl (dv 5) T.b_isinstance)))))))) (ds_one (ds_ret de_str)) ds_nil) (ds_one (ds_ret de_str))))) .nil rfl rfl) rfl rfl)) (ds_one (ds_ret de_str)))

theorem ok__law_beside (T : Tx P w K mg ad cl) : DOk P w K mg base 8 (ad 20) ["_law_core", "_law_layers", "_law_joints", "_law_at", "_law_near_here", "_law_shape"] (spD (Zz w K cl) f__law_beside 6) := by
  obtain ⟨fd, F, bd⟩ := T.f__law_beside
  refine ⟨⟨fd, fnD F sc__law_beside (body := b__law_beside) rfl rfl fun cdv A outer s H E hr => ?_, bd⟩, F.kp⟩
  have tk := L2N.takes_of (X := cxOf (L2N.CX P w) P w K mg base n__law_beside "_law_beside" (defScope s__law_beside) (ad 20) cdv A outer s H E) (E := E) rfl rfl rfl rfl
  have tw := tw_of tk
  exact (ds_cons (ds_set (i := 6) sc__law_beside.nd (de_callD (ok__law_due (P := P) (w := w) (base := base) T) (hr.mono (by decide)) T.g__law_due tw (da_cons (de_ix rfl (dv 2) (dv 3)) (da_cons (de_ix rfl (dv 4) de_int) (da_cons (de_ix rfl (dv 4) de_int) (da_cons (dv 5) da_nil)))))) (ds_cons (ds_if (dt_cmp c_isN (dv 6) de_non) (ds_one (ds_ret (de_cmpK (c_eq rfl hr) (de_callD (ok__law_told (P := P) (w := w) (base := base) T) (hr.mono (by decide)) T.g__law_told tw (da_cons (dv 0) (da_cons (dv 3) (da_cons (de_ix rfl (dv 4) de_int) (da_cons (de_ix rfl (dv 4) de_int) (da_cons (dv 5) da_nil)))))) de_str))) ds_nil) (ds_cons (ds_set (i := 7) sc__law_beside.nd (de_callD (ok__law_call (P := P) (w := w) (base := base) T) (hr.mono (by decide)) T.g__law_call tw (da_cons (dv 0) (da_cons (dv 3) (da_cons (de_ix rfl (dv 4) de_int) (da_cons (de_ix rfl (dv 4) de_int) (da_cons (dv 5) da_nil))))))) (ds_one (ds_ret (de_callD (ok__law_same (P := P) (w := w) (base := base) T) (hr.mono (by decide)) T.g__law_same tw (da_cons (dv 7) (da_cons (dv 1) (da_cons (de_add (de_add (de_slice rfl (dv 2) dp_none (dp_some (dv 3))) (de_lst (da_cons (dv 6) da_nil))) (de_slice rfl (dv 2) (dp_some (de_add (dv 3) de_int)) dp_none)) da_nil)))))))))

theorem okF_law (T : Tx P w K mg ad cl) {fa : Addr} {fd : FuncData} (F : Fun K "law" "law" s_law fa fd) : FnOk P w K mg base (L2N.CX P w) 9 fa fd ["_law_script"] (spD (Zz w K cl) f_law 1) := by
  refine fnD F sc_law (body := b_law) rfl rfl fun cdv A outer s H E hr => ?_
  have tk := L2N.takes_of (X := cxOf (L2N.CX P w) P w K mg base n_law "law" (defScope s_law) fa cdv A outer s H E) (E := E) rfl rfl rfl rfl
  have tw := tw_of tk
  exact (ds_cons (ds_set (i := 1) sc_law.nd (de_callD (ok__law_pool (P := P) (w := w) (base := base) T) (hr.mono (by decide)) T.g__law_pool tw (da_cons (dv 0) (da_cons de_int da_nil)))) (ds_cons (ds_set (i := 2) sc_law.nd (de_callD (ok__law_draw (P := P) (w := w) (base := base) T) (hr.mono (by decide)) T.g__law_draw tw (da_cons (dv 1) (da_cons (de_ix rfl (de_lst (da_cons de_int (da_cons de_int da_nil))) (de_callD (ok__law_draw (P := P) (w := w) (base := base) T) (hr.mono (by decide)) T.g__law_draw tw (da_cons (dv 1) (da_cons de_int da_nil)))) da_nil)))) (ds_cons (ds_setLcI (i := 3) (own := [("_law_k", 13)]) rfl sc_law.nd (blkOk_by (own := [("_law_k", 13)]) (N := n_law) (sc := defScope s_law) (by decide +kernel)) (by decide) (di_range1 T.b_range (da_cons (dv 2) da_nil)) (fun _ _ _ _ _ => (dg_name (i := 13) sc_law.nd)) (fun _ _ _ _ _ => dts_nil) (fun _ _ _ _ _ => (de_tup (da_cons (de_callD (ok__law_kind (P := P) (w := w) (base := base) T) (hr.mono (by decide)) T.g__law_kind tw_none (da_cons (dv 1) da_nil)) (da_cons (de_add de_int (de_callD (ok__law_number (P := P) (w := w) (base := base) T) (hr.mono (by decide)) T.g__law_number tw_none (da_cons (dv 1) da_nil))) da_nil))))) (ds_cons (ds_setLcI (i := 4) (own := [("_law_k", 13)]) rfl sc_law.nd (blkOk_by (own := [("_law_k", 13)]) (N := n_law) (sc := defScope s_law) (by decide +kernel)) (by decide) (di_range1 T.b_range (da_cons (de_add (dv 2) de_int) da_nil)) (fun _ _ _ _ _ => (dg_name (i := 13) sc_law.nd)) (fun _ _ _ _ _ => dts_nil) (fun _ _ _ _ _ => (de_callD (ok__law_bounds (P := P) (w := w) (base := base) T) (hr.mono (by decide)) T.g__law_bounds tw_none (da_cons (dv 1) da_nil)))) (ds_cons (ds_set (i := 5) sc_law.nd (de_makeD T.mk_Core (ok_Core___init__ (P := P) (w := w) (base := base) T) (hr.mono (by decide)) T.g_Core tw (da_cons (de_callTy call_list_of (ok_listI rfl) T.b_list (by decide +kernel) (da_cons (dv 3) da_nil)) (da_cons (de_callTy call_list_of (ok_listI rfl) T.b_list (by decide +kernel) (da_cons (dv 4) da_nil)) da_nil)) rfl)) (ds_cons (ds_set (i := 6) sc_law.nd (de_callD (ok__law_draw (P := P) (w := w) (base := base) T) (hr.mono (by decide)) T.g__law_draw tw (da_cons (dv 1) (da_cons (de_add (dv 2) de_int) da_nil)))) (ds_cons (ds_if (dt_cmp (c_eq rfl hr) (de_callD (ok__law_draw (P := P) (w := w) (base := base) T) (hr.mono (by decide)) T.g__law_draw tw (da_cons (dv 1) (da_cons de_int da_nil))) de_int) (ds_one (ds_set (i := 6) sc_law.nd (de_sub (de_callD (ok__law_draw (P := P) (w := w) (base := base) T) (hr.mono (by decide)) T.g__law_draw tw (da_cons (dv 1) (da_cons (de_add (dv 2) de_int) da_nil))) de_int))) ds_nil) (ds_cons (ds_for (passes_of rfl) (di_range1 T.b_range (da_cons de_int da_nil)) (dg_name (i := 7) sc_law.nd) (ds_cons (ds_set (i := 8) sc_law.nd (de_callD (ok__law_near (P := P) (w := w) (base := base) T) (hr.mono (by decide)) T.g__law_near tw (da_cons (dv 1) (da_cons (de_ix rfl (dv 4) (de_callB (call_min2 rfl) ok_min T.b_min (by decide +kernel) (da_cons (de_callB (call_max2 rfl) ok_max T.b_max (by decide +kernel) (da_cons de_int (da_cons (dv 6) da_nil))) (da_cons (de_sub (de_callB call_len (ok_len rfl) T.b_len PySem.boot_len (da_cons (dv 4) da_nil)) de_int) da_nil)))) da_nil)))) (ds_cons (ds_set (i := 9) sc_law.nd (de_callD (ok__law_draw (P := P) (w := w) (base := base) T) (hr.mono (by decide)) T.g__law_draw tw (da_cons (dv 1) (da_cons de_int da_nil)))) (ds_cons (ds_if (dt_not (dt_chain c_le c_le de_int (dv 6) (dv 2))) (ds_one (ds_ret (de_cmpK (c_eq rfl hr) (de_callD (ok__law_told (P := P) (w := w) (base := base) T) (hr.mono (by decide)) T.g__law_told tw (da_cons (dv 5) (da_cons (dv 6) (da_cons (de_ix rfl (dv 8) de_int) (da_cons (de_ix rfl (dv 8) de_int) (da_cons (dv 9) da_nil)))))) de_str))) ds_nil) (ds_cons (ds_set (i := 10) sc_law.nd (de_callD (ok__law_due (P := P) (w := w) (base := base) T) (hr.mono (by decide)) T.g__law_due tw (da_cons (de_ix rfl (dv 4) (dv 6)) (da_cons (de_ix rfl (dv 8) de_int) (da_cons (de_ix rfl (dv 8) de_int) (da_cons (dv 9) da_nil)))))) (ds_cons (ds_if (dt_cmp c_isN (dv 10) de_non) (ds_cons (ds_set (i := 11) sc_law.nd (de_callD (ok__law_told (P := P) (w := w) (base := base) T) (hr.mono (by decide)) T.g__law_told tw (da_cons (dv 5) (da_cons (dv 6) (da_cons (de_ix rfl (dv 8) de_int) (da_cons (de_ix rfl (dv 8) de_int) (da_cons (dv 9) da_nil))))))) (ds_one (ds_ret (de_and (de_cmpK (c_eq rfl hr) (dv 11) de_str) (de_one (de_callD (ok__law_same (P := P) (w := w) (base := base) T) (hr.mono (by decide)) T.g__law_same tw (da_cons (dv 5) (da_cons (dv 3) (da_cons (dv 4) da_nil))))))))) ds_nil) (ds_cons (ds_set (i := 12) sc_law.nd (de_callD (ok__law_call (P := P) (w := w) (base := base) T) (hr.mono (by decide)) T.g__law_call tw (da_cons (dv 5) (da_cons (dv 6) (da_cons (de_ix rfl (dv 8) de_int) (da_cons (de_ix rfl (dv 8) de_int) (da_cons (dv 9) da_nil))))))) (ds_cons (ds_if (dt_not (dt_val (de_callD (ok__law_same (P := P) (w := w) (base := base) T) (hr.mono (by decide)) T.g__law_same tw (da_cons (dv 5) (da_cons (dv 3) (da_cons (dv 4) da_nil)))))) (ds_one (ds_ret de_bl)) ds_nil) (ds_cons (ds_if (dt_not (dt_val (de_callD (ok__law_beside (P := P) (w := w) (base := base) T) (hr.mono (by decide)) T.g__law_beside tw (da_cons (dv 5) (da_cons (dv 3) (da_cons (dv 4) (da_cons (de_mod (de_callTy call_int1 ok_int1 T.b_int (by decide +kernel) (da_cons (de_add (dv 6) de_int) da_nil)) (de_add (dv 2) de_int)) (da_cons (dv 8) (da_cons (dv 9) da_nil))))))))) (ds_one (ds_ret de_bl)) ds_nil) (ds_cons (ds_set (i := 4) sc_law.nd (de_add (de_add (de_slice rfl (dv 4) dp_none (dp_some (dv 6))) (de_lst (da_cons (dv 10) da_nil))) (de_slice rfl (dv 4) (dp_some (de_add (dv 6) de_int)) dp_none))) (ds_cons (ds_set (i := 5) sc_law.nd (dv 12)) (ds_one (ds_if (dt_not (dt_val (de_callD (ok__law_same (P := P) (w := w) (base := base) T) (hr.mono (by decide)) T.g__law_same tw (da_cons (dv 5) (da_cons (dv 3) (da_cons (dv 4) da_nil)))))) (ds_one (ds_ret de_bl)) ds_nil))))))))))))) (ds_one (ds_ret de_bl))))))))))
end
end ZZ

set_option Elab.async false
set_option linter.all false
set_option maxRecDepth 100000
set_option maxHeartbeats 4000000
namespace ZZ
open PySem PySem.Spec L2
/-! ### layers and joints -/
abbrev Lay := List Nat × Int
abbrev Jnt := Int × Option Int
def okL (l : Lay) : Prop := 1 ≤ l.1.length ∧ l.1.length ≤ 12 ∧ (∀ c ∈ l.1, 97 ≤ c ∧ c ≤ 122) ∧ 1 ≤ l.2
def okJ (j : Jnt) : Prop := 0 ≤ j.1 ∧ ∀ m, j.2 = some m → j.1 ≤ m
def layD (l : Lay) : D := .tup [.str (st l.1), .int l.2]
def optD : Option Int → D
  | none => .non
  | some i => .int i
def jntD (j : Jnt) : D := .tup [.int j.1, optD j.2]
def laysD (ls : List Lay) : D := .lst (ls.map layD)
def jntsD (js : List Jnt) : D := .lst (js.map jntD)
def coreD (ls : List Lay) (js : List Jnt) : D := .ins c_Core [laysD ls, jntsD js]
structure OkC (ls : List Lay) (js : List Jnt) : Prop where
  l : ∀ l ∈ ls, okL l
  j : ∀ j ∈ js, okJ j
  n : ls.length ≤ 20
  m : js.length = ls.length + 1
section
variable {sl : Sl} {ce : List Cell} {ls ls2 : List Lay} {js js2 : List Jnt} {l : Lay} {j : Jnt}
theorem letters_cps : ("abcdefghijklmnopqrstuvwxyz" : Str).cps.toList = List.range' 97 26 := by decide +kernel
theorem in_letters (c : Nat) (h : 97 ≤ c ∧ c ≤ 122) : kInS false (.im (.str (st [c]))) (.im (.str "abcdefghijklmnopqrstuvwxyz")) sl ce = .ok (.im (.bl true)) ce := by
  have : c ∈ List.range' 97 26 := by
    rw [List.mem_range'_1]
    omega
  unfold kInS st
  simp only [letters_cps, this, decide_true]
  rfl
theorem kall_true {α : Type} (xs : List α) : kAll [.im (.lst (xs.map fun _ => D.bl true))] sl ce = .ok (.im (.bl true)) ce := by
  have h : asBls (xs.map fun _ => D.bl true) = some (xs.map fun _ => true) := by
    induction xs with
    | nil => rfl
    | cons x xs ih => rw [List.map_cons, asBls, ih]; rfl
  unfold kAll
  simp only [asL, h]
  congr 3
  induction xs with
  | nil => rfl
  | cons x xs ih => simp
theorem lay0 : kIx (.im (layD l)) (.im (.int 0)) sl ce = .ok (.im (.str (st l.1))) ce := by rfl
theorem lay1 : kIx (.im (layD l)) (.im (.int 1)) sl ce = .ok (.im (.int l.2)) ce := by rfl
theorem jnt0 : kIx (.im (jntD j)) (.im (.int 0)) sl ce = .ok (.im (.int j.1)) ce := by rfl
theorem jnt1 : kIx (.im (jntD j)) (.im (.int 1)) sl ce = .ok (.im (optD j.2)) ce := by rfl
theorem m_islayer (h : okL l) : f_is_layer [.im (layD l)] ce = .ok (.im (.bl true)) ce := by
  obtain ⟨cs, t⟩ := l
  obtain ⟨h1, h2, h3, h4⟩ := h
  simp only at h1 h2 h3 h4
  have lc := fun (ce : List Cell) (sl : Sl) (h0 : sl[1]? = some (some (.im (.str (st cs))))) (hn : 3 < sl.length) => lc_map (own := [3]) (fi := iExp (eV 1) itS) (g := gN 3) (f := el_is_layer_0) (sl := sl) (ce := ce) cs (fun c => .str (st [c])) (fun _ => .bl true) (by simp only [mkD, List.map_cons, List.map_nil, List.length_cons, List.length_nil, Nat.reduceAdd, Nat.reduceSub, List.replicate_succ, List.replicate_zero, List.cons_append, List.nil_append, sSeq, sSet, sRet, sExp, sDrop, sIf, sNil, sFor, eBin, eUn, eBind, eV, eC, eArgs, eAnd, eOr, eNot, eIf, eMth, eTru, kBool, List.getElem?_cons_zero, List.getElem?_cons_succ, List.set_cons_zero, List.set_cons_succ, if_true, if_false, ite_true, ite_false, Bool.false_eq_true, eq_self_iff_true, reduceIte, ims, Option.map_some, kTup, kLst, kLstC, kCall, List.all_cons, List.all_nil, plainV, Bool.and_true, Bool.true_and, iExp, iArgs, itS, itL, itT, gN, gT, gL, Option.bind_some, frz, ce_get, ce_get0, ce_set, ce_set0, ce_take, asL, asSq, asIm, truV, kTru, kAdd, kSub, kMod, kLen, kInt, kMin, kMax, kCmp, kIsB, tyL, tyS, Option.isSome_some, Bool.and_self, beq_self_eq_true, Option.isSome, Bool.or_true, Bool.true_or, Bool.not_true, Bool.not_false, Bool.false_and, Bool.and_false, Bool.or_false, Bool.false_or, List.cons.injEq, reduceCtorEq, false_and, and_false, and_self, and_true, true_and, decide_true, decide_false, Nat.reduceLeDiff, LINE, h0, st_signs]) (by omega) (fun c hc acc => ⟨_, rfl, by
    have e3 : ((wipeD sl [3]).set 3 (some (.im (.str (st [c])))))[3]? = some (some (.im (.str (st [c])))) := by simp [wipeD, hn]
    unfold el_is_layer_0
    simp only [eBin, eBind, eV, e3, eC, in_letters c (h3 c hc)]⟩)
  have a1 : (1 : Int) ≤ (cs.length : Int) := by omega
  have a2 : (cs.length : Int) ≤ 12 := by omega
  unfold f_is_layer b_is_layer layD
  simp only [mkD, List.map_cons, List.map_nil, List.length_cons, List.length_nil, Nat.reduceAdd, Nat.reduceSub, List.replicate_succ, List.replicate_zero, List.cons_append, List.nil_append, sSeq, sSet, sRet, sExp, sDrop, sIf, sNil, sFor, eBin, eUn, eBind, eV, eC, eArgs, eAnd, eOr, eNot, eIf, eMth, eTru, kBool, List.getElem?_cons_zero, List.getElem?_cons_succ, List.set_cons_zero, List.set_cons_succ, if_true, if_false, ite_true, ite_false, Bool.false_eq_true, eq_self_iff_true, reduceIte, ims, Option.map_some, kTup, kLst, kLstC, kCall, List.all_cons, List.all_nil, plainV, Bool.and_true, Bool.true_and, iExp, iArgs, itS, itL, itT, gN, gT, gL, Option.bind_some, frz, ce_get, ce_get0, ce_set, ce_set0, ce_take, asL, asSq, asIm, truV, kTru, kAdd, kSub, kMod, kLen, kInt, kMin, kMax, kCmp, kIsB, tyL, tyS, Option.isSome_some, Bool.and_self, beq_self_eq_true, Option.isSome, Bool.or_true, Bool.true_or, Bool.not_true, Bool.not_false, Bool.false_and, Bool.and_false, Bool.or_false, Bool.false_or, List.cons.injEq, reduceCtorEq, false_and, and_false, and_self, and_true, true_and, decide_true, decide_false, Nat.reduceLeDiff, LINE, gT, gL, gN, sAsg, eChain, st_len, show cs.length ≤ 16777216 by omega, a1, a2, lc, kall_true, h4, Nat.reduceLT, finD, List.take_length]
theorem m_isjoint (h : okJ j) : f_is_joint [.im (jntD j)] ce = .ok (.im (.bl true)) ce := by
  obtain ⟨a, m⟩ := j
  obtain ⟨h1, h2⟩ := h
  simp only at h1 h2
  have n0 : ∀ sl ce, kIsN false (.im .non) (.im .non) sl ce = .ok (.im (.bl true)) ce := fun _ _ => rfl
  have n1 : ∀ i sl ce, kIsN false (.im (.int i)) (.im .non) sl ce = .ok (.im (.bl false)) ce := fun _ _ _ => rfl
  unfold f_is_joint b_is_joint jntD
  cases m with
  | none => simp only [mkD, List.map_cons, List.map_nil, List.length_cons, List.length_nil, Nat.reduceAdd, Nat.reduceSub, List.replicate_succ, List.replicate_zero, List.cons_append, List.nil_append, sSeq, sSet, sRet, sExp, sDrop, sIf, sNil, sFor, eBin, eUn, eBind, eV, eC, eArgs, eAnd, eOr, eNot, eIf, eMth, eTru, kBool, List.getElem?_cons_zero, List.getElem?_cons_succ, List.set_cons_zero, List.set_cons_succ, if_true, if_false, ite_true, ite_false, Bool.false_eq_true, eq_self_iff_true, reduceIte, ims, Option.map_some, kTup, kLst, kLstC, kCall, List.all_cons, List.all_nil, plainV, Bool.and_true, Bool.true_and, iExp, iArgs, itS, itL, itT, gN, gT, gL, Option.bind_some, frz, ce_get, ce_get0, ce_set, ce_set0, ce_take, asL, asSq, asIm, truV, kTru, kAdd, kSub, kMod, kLen, kInt, kMin, kMax, kCmp, kIsB, tyL, tyS, Option.isSome_some, Bool.and_self, beq_self_eq_true, Option.isSome, Bool.or_true, Bool.true_or, Bool.not_true, Bool.not_false, Bool.false_and, Bool.and_false, Bool.or_false, Bool.false_or, List.cons.injEq, reduceCtorEq, false_and, and_false, and_self, and_true, true_and, decide_true, decide_false, Nat.reduceLeDiff, LINE, gT, gL, gN, sAsg, optD, h1, n0, finD, List.take_length]
  | some m =>
    have h3 : a ≤ m := h2 m rfl
    simp only [mkD, List.map_cons, List.map_nil, List.length_cons, List.length_nil, Nat.reduceAdd, Nat.reduceSub, List.replicate_succ, List.replicate_zero, List.cons_append, List.nil_append, sSeq, sSet, sRet, sExp, sDrop, sIf, sNil, sFor, eBin, eUn, eBind, eV, eC, eArgs, eAnd, eOr, eNot, eIf, eMth, eTru, kBool, List.getElem?_cons_zero, List.getElem?_cons_succ, List.set_cons_zero, List.set_cons_succ, if_true, if_false, ite_true, ite_false, Bool.false_eq_true, eq_self_iff_true, reduceIte, ims, Option.map_some, kTup, kLst, kLstC, kCall, List.all_cons, List.all_nil, plainV, Bool.and_true, Bool.true_and, iExp, iArgs, itS, itL, itT, gN, gT, gL, Option.bind_some, frz, ce_get, ce_get0, ce_set, ce_set0, ce_take, asL, asSq, asIm, truV, kTru, kAdd, kSub, kMod, kLen, kInt, kMin, kMax, kCmp, kIsB, tyL, tyS, Option.isSome_some, Bool.and_self, beq_self_eq_true, Option.isSome, Bool.or_true, Bool.true_or, Bool.not_true, Bool.not_false, Bool.false_and, Bool.and_false, Bool.or_false, Bool.false_or, List.cons.injEq, reduceCtorEq, false_and, and_false, and_self, and_true, true_and, decide_true, decide_false, Nat.reduceLeDiff, LINE, gT, gL, gN, sAsg, optD, h1, h3, n1, finD, List.take_length]
theorem cinit0 (a0 a1 a2 a5 : Option Val) : ∀ (ls : List Lay) (k : Nat) (x3 x4 : Option Val), (∀ l ∈ ls, okL l) → ∃ y3 y4, forD (gT [gN 3, gN 4]) lp_Core___init___0 (enF k (ls.map layD)) [a0, a1, a2, x3, x4, a5] ce = .nx [a0, a1, a2, y3, y4, a5] ce
  | [], k, x3, x4, h => ⟨x3, x4, by rw [List.map_nil, enF, forD]⟩
  | l :: ls, k, x3, x4, h => by
    obtain ⟨y3, y4, e⟩ := cinit0 a0 a1 a2 a5 ls (k + 1) (some (.im (.int (k : Nat)))) (some (.im (layD l))) fun x hx => h x (List.mem_cons_of_mem _ hx)
    refine ⟨y3, y4, ?_⟩
    have hl := fun ce => m_islayer (ce := ce) (h l (List.mem_cons_self ..))
    rw [← e, List.map_cons, enF, forD]
    simp only [gT, gL, gN, List.set_cons_zero, List.set_cons_succ, Option.bind_some]
    unfold lp_Core___init___0
    simp only [mkD, List.map_cons, List.map_nil, List.length_cons, List.length_nil, Nat.reduceAdd, Nat.reduceSub, List.replicate_succ, List.replicate_zero, List.cons_append, List.nil_append, sSeq, sSet, sRet, sExp, sDrop, sIf, sNil, sFor, eBin, eUn, eBind, eV, eC, eArgs, eAnd, eOr, eNot, eIf, eMth, eTru, kBool, List.getElem?_cons_zero, List.getElem?_cons_succ, List.set_cons_zero, List.set_cons_succ, if_true, if_false, ite_true, ite_false, Bool.false_eq_true, eq_self_iff_true, reduceIte, ims, Option.map_some, kTup, kLst, kLstC, kCall, List.all_cons, List.all_nil, plainV, Bool.and_true, Bool.true_and, iExp, iArgs, itS, itL, itT, gN, gT, gL, Option.bind_some, frz, ce_get, ce_get0, ce_set, ce_set0, ce_take, asL, asSq, asIm, truV, kTru, kAdd, kSub, kMod, kLen, kInt, kMin, kMax, kCmp, kIsB, tyL, tyS, Option.isSome_some, Bool.and_self, beq_self_eq_true, Option.isSome, Bool.or_true, Bool.true_or, Bool.not_true, Bool.not_false, Bool.false_and, Bool.and_false, Bool.or_false, Bool.false_or, List.cons.injEq, reduceCtorEq, false_and, and_false, and_self, and_true, true_and, decide_true, decide_false, Nat.reduceLeDiff, LINE, hl]
theorem cinit1 (a0 a1 a2 a4 : Option Val) : ∀ (js : List Jnt) (k : Nat) (x3 x5 : Option Val), (∀ j ∈ js, okJ j) → ∃ y3 y5, forD (gT [gN 3, gN 5]) lp_Core___init___1 (enF k (js.map jntD)) [a0, a1, a2, x3, a4, x5] ce = .nx [a0, a1, a2, y3, a4, y5] ce
  | [], k, x3, x5, h => ⟨x3, x5, by rw [List.map_nil, enF, forD]⟩
  | j :: js, k, x3, x5, h => by
    obtain ⟨y3, y5, e⟩ := cinit1 a0 a1 a2 a4 js (k + 1) (some (.im (.int (k : Nat)))) (some (.im (jntD j))) fun x hx => h x (List.mem_cons_of_mem _ hx)
    refine ⟨y3, y5, ?_⟩
    have hj := fun ce => m_isjoint (ce := ce) (h j (List.mem_cons_self ..))
    rw [← e, List.map_cons, enF, forD]
    simp only [gT, gL, gN, List.set_cons_zero, List.set_cons_succ, Option.bind_some]
    unfold lp_Core___init___1
    simp only [mkD, List.map_cons, List.map_nil, List.length_cons, List.length_nil, Nat.reduceAdd, Nat.reduceSub, List.replicate_succ, List.replicate_zero, List.cons_append, List.nil_append, sSeq, sSet, sRet, sExp, sDrop, sIf, sNil, sFor, eBin, eUn, eBind, eV, eC, eArgs, eAnd, eOr, eNot, eIf, eMth, eTru, kBool, List.getElem?_cons_zero, List.getElem?_cons_succ, List.set_cons_zero, List.set_cons_succ, if_true, if_false, ite_true, ite_false, Bool.false_eq_true, eq_self_iff_true, reduceIte, ims, Option.map_some, kTup, kLst, kLstC, kCall, List.all_cons, List.all_nil, plainV, Bool.and_true, Bool.true_and, iExp, iArgs, itS, itL, itT, gN, gT, gL, Option.bind_some, frz, ce_get, ce_get0, ce_set, ce_set0, ce_take, asL, asSq, asIm, truV, kTru, kAdd, kSub, kMod, kLen, kInt, kMin, kMax, kCmp, kIsB, tyL, tyS, Option.isSome_some, Bool.and_self, beq_self_eq_true, Option.isSome, Bool.or_true, Bool.true_or, Bool.not_true, Bool.not_false, Bool.false_and, Bool.and_false, Bool.or_false, Bool.false_or, List.cons.injEq, reduceCtorEq, false_and, and_false, and_self, and_true, true_and, decide_true, decide_false, Nat.reduceLeDiff, LINE, hj]
theorem m_cinit (h : OkC ls js) : f_Core___init__ [.cell ce.length, .im (laysD ls), .im (jntsD js)] (ce ++ [.ins c_Core []]) = .ok (.im .non) (ce ++ [.ins c_Core [laysD ls, jntsD js]]) := by
  have k0 : kEnum [.im (laysD ls)] = some (enF 0 (ls.map layD)) := by
    unfold kEnum laysD
    simp only [enF_eq]
  have k1 : kEnum [.im (jntsD js)] = some (enF 0 (js.map jntD)) := by
    unfold kEnum jntsD
    simp only [enF_eq]
  have n0 : ∀ sl ce, kLen [.im (laysD ls)] sl ce = .ok (.im (.int (ls.length : Nat))) ce := fun _ _ => by simp [kLen, laysD, asSq]
  have n1 : ∀ sl ce, kLen [.im (jntsD js)] sl ce = .ok (.im (.int (js.length : Nat))) ce := fun _ _ => by simp [kLen, jntsD, asSq]
  have c0 : ∀ sl ce, kListI [.im (laysD ls)] sl ce = .ok (.im (laysD ls)) ce := fun _ _ => rfl
  have c1 : ∀ sl ce, kListI [.im (jntsD js)] sl ce = .ok (.im (jntsD js)) ce := fun _ _ => rfl
  have t1 : ¬ (20 : Int) < (ls.length : Int) := by have := h.n; omega
  have t2 : (js.length : Int) = (ls.length : Int) + 1 := by have := h.m; omega
  have nn : ∀ sl ce, kIsN false (.im (jntsD js)) (.im .non) sl ce = .ok (.im (.bl false)) ce := fun _ _ => rfl
  have d1 : decide ((ls.length : Int) + 1 = (ls.length : Int) + 1) = true := decide_eq_true rfl
  obtain ⟨y3, y4, e0⟩ := cinit0 (ce := ce ++ [.ins c_Core []]) (some (.cell ce.length)) (some (.im (laysD ls))) (some (.im (jntsD js))) none ls 0 none none h.l
  obtain ⟨z3, z5, e1⟩ := cinit1 (ce := ce ++ [.ins c_Core []]) (some (.cell ce.length)) (some (.im (laysD ls))) (some (.im (jntsD js))) y4 js 0 y3 none h.j
  have tk : ∀ (l : List Cell) (k : Nat), (ce ++ l).take (ce.length + k) = ce ++ l.take k := fun l k => List.take_length_add_append k
  unfold f_Core___init__ b_Core___init__
  simp only [mkD, List.map_cons, List.map_nil, List.length_cons, List.length_nil, Nat.reduceAdd, Nat.reduceSub, List.replicate_succ, List.replicate_zero, List.cons_append, List.nil_append, sSeq, sSet, sRet, sExp, sDrop, sIf, sNil, sFor, eBin, eUn, eBind, eV, eC, eArgs, eAnd, eOr, eNot, eIf, eMth, eTru, kBool, List.getElem?_cons_zero, List.getElem?_cons_succ, List.set_cons_zero, List.set_cons_succ, if_true, if_false, ite_true, ite_false, Bool.false_eq_true, eq_self_iff_true, reduceIte, ims, Option.map_some, kTup, kLst, kLstC, kCall, List.all_cons, List.all_nil, plainV, Bool.and_true, Bool.true_and, iExp, iArgs, itS, itL, itT, gN, gT, gL, Option.bind_some, frz, ce_get, ce_get0, ce_set, ce_set0, ce_take, asL, asSq, asIm, truV, kTru, kAdd, kSub, kMod, kInt, kMin, kMax, kCmp, kIsB, tyL, tyS, Option.isSome_some, Bool.and_self, beq_self_eq_true, Option.isSome, Bool.or_true, Bool.true_or, Bool.not_true, Bool.not_false, Bool.false_and, Bool.and_false, Bool.or_false, Bool.false_or, List.cons.injEq, reduceCtorEq, false_and, and_false, and_self, and_true, true_and, decide_true, decide_false, Nat.reduceLeDiff, LINE, n0, n1, t1, k0, e0, nn, eq_int, t2, d1, k1, e1, c0, c1, List.length_append, sFldSet, finD, tk, Nat.lt_irrefl, Nat.reduceLT, List.take_succ_cons, List.take_zero]
theorem m_cmake (h : OkC ls js) : kMake c_Core 2 f_Core___init__ [.im (laysD ls), .im (jntsD js)] sl ce = .ok (.im (coreD ls js)) ce := by
  unfold kMake
  simp only [List.all_cons, plainV, List.all_nil, Bool.and_self, if_true]
  rw [m_cinit h]
  simp [coreD]
theorem cfld0 : kFld c_Core 0 (.im (coreD ls js)) sl ce = .ok (.im (laysD ls)) ce := by simp [kFld, coreD]
theorem cfld1 : kFld c_Core 1 (.im (coreD ls js)) sl ce = .ok (.im (jntsD js)) ce := by simp [kFld, coreD]
theorem isC_c : isC c_Core ce (.im (coreD ls js)) = true := rfl
theorem llen : kLen [.im (laysD ls)] sl ce = .ok (.im (.int (ls.length : Nat))) ce := by simp [kLen, laysD, asSq]
theorem jlen : kLen [.im (jntsD js)] sl ce = .ok (.im (.int (js.length : Nat))) ce := by simp [kLen, jntsD, asSq]
theorem lix {k : Nat} (h : ls[k]? = some l) : kIx (.im (laysD ls)) (.im (.int (k : Nat))) sl ce = .ok (.im (layD l)) ce := ix_lst (by rw [List.getElem?_map, h]; rfl)
theorem jix {k : Nat} (h : js[k]? = some j) : kIx (.im (jntsD js)) (.im (.int (k : Nat))) sl ce = .ok (.im (jntD j)) ce := ix_lst (by rw [List.getElem?_map, h]; rfl)
theorem m_clen (h : ls.length ≤ 1000) : kLenO c_Core f_Core___len__ (.im (coreD ls js)) sl ce = .ok (.im (.int (ls.length : Nat))) ce := by
  have e : f_Core___len__ [.im (coreD ls js)] ce = .ok (.im (.int (ls.length : Nat))) ce := by
    unfold f_Core___len__ b_Core___len__
    simp only [mkD, List.map_cons, List.map_nil, List.length_cons, List.length_nil, Nat.reduceAdd, Nat.reduceSub, List.replicate_succ, List.replicate_zero, List.cons_append, List.nil_append, sSeq, sSet, sRet, sExp, sDrop, sIf, sNil, sFor, eBin, eUn, eBind, eV, eC, eArgs, eAnd, eOr, eNot, eIf, eMth, eTru, kBool, List.getElem?_cons_zero, List.getElem?_cons_succ, List.set_cons_zero, List.set_cons_succ, if_true, if_false, ite_true, ite_false, Bool.false_eq_true, eq_self_iff_true, reduceIte, ims, Option.map_some, kTup, kLst, kLstC, kCall, List.all_cons, List.all_nil, plainV, Bool.and_true, Bool.true_and, iExp, iArgs, itS, itL, itT, gN, gT, gL, Option.bind_some, frz, ce_get, ce_get0, ce_set, ce_set0, ce_take, asL, asSq, asIm, truV, kTru, kAdd, kSub, kMod, kInt, kMin, kMax, kCmp, kIsB, tyL, tyS, Option.isSome_some, Bool.and_self, beq_self_eq_true, Option.isSome, Bool.or_true, Bool.true_or, Bool.not_true, Bool.not_false, Bool.false_and, Bool.and_false, Bool.or_false, Bool.false_or, List.cons.injEq, reduceCtorEq, false_and, and_false, and_self, and_true, true_and, decide_true, decide_false, Nat.reduceLeDiff, LINE, cfld0, llen, finD, List.take_length]
  have hb : (Nat.ble ((ls.length : Nat) : Int).natAbs 4611686018427387903 && decide (0 ≤ ((ls.length : Nat) : Int))) = true := by
    rw [Bool.and_eq_true, Nat.ble_eq, decide_eq_true_eq]
    omega
  unfold kLenO
  simp only [isC_c, e, if_true, hb]
theorem m_cget {k : Nat} (h : ls[k]? = some l) : kOwnIx c_Core f_Core___getitem__ (.im (coreD ls js)) (.im (.int (k : Nat))) sl ce = .ok (.im (layD l)) ce := by
  have hk := (List.getElem?_eq_some_iff.mp h).1
  have h1 : (0 : Int) ≤ (k : Int) := by omega
  have h2 : (k : Int) < (ls.length : Int) := by omega
  have ix := fun sl ce => lix (sl := sl) (ce := ce) h
  unfold kOwnIx
  simp only [isC_c, plainV, Bool.and_self, if_true]
  unfold f_Core___getitem__ b_Core___getitem__
  simp only [mkD, List.map_cons, List.map_nil, List.length_cons, List.length_nil, Nat.reduceAdd, Nat.reduceSub, List.replicate_succ, List.replicate_zero, List.cons_append, List.nil_append, sSeq, sSet, sRet, sExp, sDrop, sIf, sNil, sFor, eBin, eUn, eBind, eV, eC, eArgs, eAnd, eOr, eNot, eIf, eMth, eTru, kBool, List.getElem?_cons_zero, List.getElem?_cons_succ, List.set_cons_zero, List.set_cons_succ, if_true, if_false, ite_true, ite_false, Bool.false_eq_true, eq_self_iff_true, reduceIte, ims, Option.map_some, kTup, kLst, kLstC, kCall, List.all_cons, List.all_nil, plainV, Bool.and_true, Bool.true_and, iExp, iArgs, itS, itL, itT, gN, gT, gL, Option.bind_some, frz, ce_get, ce_get0, ce_set, ce_set0, ce_take, asL, asSq, asIm, truV, kTru, kAdd, kSub, kMod, kInt, kMin, kMax, kCmp, kIsB, tyL, tyS, Option.isSome_some, Bool.and_self, beq_self_eq_true, Option.isSome, Bool.or_true, Bool.true_or, Bool.not_true, Bool.not_false, Bool.false_and, Bool.and_false, Bool.or_false, Bool.false_or, List.cons.injEq, reduceCtorEq, false_and, and_false, and_self, and_true, true_and, decide_true, decide_false, Nat.reduceLeDiff, LINE, cfld0, llen, eChain, h1, h2, ix, finD, List.take_length]
theorem m_cjoint {k : Nat} (h : js[k]? = some j) : f_Core_joint [.im (coreD ls js), .im (.int (k : Nat))] ce = .ok (.im (jntD j)) ce := by
  have hk := (List.getElem?_eq_some_iff.mp h).1
  have h1 : (0 : Int) ≤ (k : Int) := by omega
  have h2 : (k : Int) < (js.length : Int) := by omega
  have ix := fun sl ce => jix (sl := sl) (ce := ce) h
  unfold f_Core_joint b_Core_joint
  simp only [mkD, List.map_cons, List.map_nil, List.length_cons, List.length_nil, Nat.reduceAdd, Nat.reduceSub, List.replicate_succ, List.replicate_zero, List.cons_append, List.nil_append, sSeq, sSet, sRet, sExp, sDrop, sIf, sNil, sFor, eBin, eUn, eBind, eV, eC, eArgs, eAnd, eOr, eNot, eIf, eMth, eTru, kBool, List.getElem?_cons_zero, List.getElem?_cons_succ, List.set_cons_zero, List.set_cons_succ, if_true, if_false, ite_true, ite_false, Bool.false_eq_true, eq_self_iff_true, reduceIte, ims, Option.map_some, kTup, kLst, kLstC, kCall, List.all_cons, List.all_nil, plainV, Bool.and_true, Bool.true_and, iExp, iArgs, itS, itL, itT, gN, gT, gL, Option.bind_some, frz, ce_get, ce_get0, ce_set, ce_set0, ce_take, asL, asSq, asIm, truV, kTru, kAdd, kSub, kMod, kInt, kMin, kMax, kCmp, kIsB, tyL, tyS, Option.isSome_some, Bool.and_self, beq_self_eq_true, Option.isSome, Bool.or_true, Bool.true_or, Bool.not_true, Bool.not_false, Bool.false_and, Bool.and_false, Bool.or_false, Bool.false_or, List.cons.injEq, reduceCtorEq, false_and, and_false, and_self, and_true, true_and, decide_true, decide_false, Nat.reduceLeDiff, LINE, cfld1, jlen, eChain, h1, h2, ix, finD, List.take_length]
def thick (ls : List Lay) : Int := (ls.map (·.2)).sum
theorem ints_asInts (l : List Int) : asInts (l.map D.int) = some l := by
  induction l with
  | nil => rfl
  | cons x l ih => rw [List.map_cons, asInts, ih]; rfl
theorem m_cthick (h : ls.length ≤ 1000) : kProp c_Core f_Core_thickness (.im (coreD ls js)) sl ce = .ok (.im (.int (thick ls))) ce := by
  have lc := fun (ce : List Cell) => lc_map (own := [1]) (fi := iExp (eUn (kFld c_Core 0) (eV 0)) itL) (g := gN 1) (f := el_Core_thickness_0) (sl := [some (.im (coreD ls js)), none]) (ce := ce) ls layD (fun l => .int l.2) (by simp only [mkD, List.map_cons, List.map_nil, List.length_cons, List.length_nil, Nat.reduceAdd, Nat.reduceSub, List.replicate_succ, List.replicate_zero, List.cons_append, List.nil_append, sSeq, sSet, sRet, sExp, sDrop, sIf, sNil, sFor, eBin, eUn, eBind, eV, eC, eArgs, eAnd, eOr, eNot, eIf, eMth, eTru, kBool, List.getElem?_cons_zero, List.getElem?_cons_succ, List.set_cons_zero, List.set_cons_succ, if_true, if_false, ite_true, ite_false, Bool.false_eq_true, eq_self_iff_true, reduceIte, ims, Option.map_some, kTup, kLst, kLstC, kCall, List.all_cons, List.all_nil, plainV, Bool.and_true, Bool.true_and, iExp, iArgs, itS, itL, itT, gN, gT, gL, Option.bind_some, frz, ce_get, ce_get0, ce_set, ce_set0, ce_take, asL, asSq, asIm, truV, kTru, kAdd, kSub, kMod, kLen, kInt, kMin, kMax, kCmp, kIsB, tyL, tyS, Option.isSome_some, Bool.and_self, beq_self_eq_true, Option.isSome, Bool.or_true, Bool.true_or, Bool.not_true, Bool.not_false, Bool.false_and, Bool.and_false, Bool.or_false, Bool.false_or, List.cons.injEq, reduceCtorEq, false_and, and_false, and_self, and_true, true_and, decide_true, decide_false, Nat.reduceLeDiff, LINE, cfld0, laysD]) (by omega) (fun l hl acc => ⟨_, rfl, by
    unfold el_Core_thickness_0
    simp only [mkD, List.map_cons, List.map_nil, List.length_cons, List.length_nil, Nat.reduceAdd, Nat.reduceSub, List.replicate_succ, List.replicate_zero, List.cons_append, List.nil_append, sSeq, sSet, sRet, sExp, sDrop, sIf, sNil, sFor, eBin, eUn, eBind, eV, eC, eArgs, eAnd, eOr, eNot, eIf, eMth, eTru, kBool, List.getElem?_cons_zero, List.getElem?_cons_succ, List.set_cons_zero, List.set_cons_succ, if_true, if_false, ite_true, ite_false, Bool.false_eq_true, eq_self_iff_true, reduceIte, ims, Option.map_some, kTup, kLst, kLstC, kCall, List.all_cons, List.all_nil, plainV, Bool.and_true, Bool.true_and, iExp, iArgs, itS, itL, itT, gN, gT, gL, Option.bind_some, frz, ce_get, ce_get0, ce_set, ce_set0, ce_take, asL, asSq, asIm, truV, kTru, kAdd, kSub, kMod, kLen, kInt, kMin, kMax, kCmp, kIsB, tyL, tyS, Option.isSome_some, Bool.and_self, beq_self_eq_true, Option.isSome, Bool.or_true, Bool.true_or, Bool.not_true, Bool.not_false, Bool.false_and, Bool.and_false, Bool.or_false, Bool.false_or, List.cons.injEq, reduceCtorEq, false_and, and_false, and_self, and_true, true_and, decide_true, decide_false, Nat.reduceLeDiff, LINE, wipeD, lay1]⟩)
  simp only [eUn] at lc
  have sm : ∀ sl ce, kSum [.im (.lst (ls.map fun l => D.int l.2))] sl ce = .ok (.im (.int (thick ls))) ce := fun sl ce => by
    have e : (ls.map fun l => D.int l.2) = (ls.map (·.2)).map D.int := by rw [List.map_map]; rfl
    unfold kSum thick
    simp only [asL, e, ints_asInts]
  unfold kProp
  simp only [isC_c, if_true]
  unfold f_Core_thickness b_Core_thickness
  simp only [mkD, List.map_cons, List.map_nil, List.length_cons, List.length_nil, Nat.reduceAdd, Nat.reduceSub, List.replicate_succ, List.replicate_zero, List.cons_append, List.nil_append, sSeq, sSet, sRet, sExp, sDrop, sIf, sNil, sFor, eBin, eUn, eBind, eV, eC, eArgs, eAnd, eOr, eNot, eIf, eMth, eTru, kBool, List.getElem?_cons_zero, List.getElem?_cons_succ, List.set_cons_zero, List.set_cons_succ, if_true, if_false, ite_true, ite_false, Bool.false_eq_true, eq_self_iff_true, reduceIte, ims, Option.map_some, kTup, kLst, kLstC, kCall, List.all_cons, List.all_nil, plainV, Bool.and_true, Bool.true_and, iExp, iArgs, itS, itL, itT, gN, gT, gL, Option.bind_some, frz, ce_get, ce_get0, ce_set, ce_set0, ce_take, asL, asSq, asIm, truV, kTru, kAdd, kSub, kMod, kLen, kInt, kMin, kMax, kCmp, kIsB, tyL, tyS, Option.isSome_some, Bool.and_self, beq_self_eq_true, Option.isSome, Bool.or_true, Bool.true_or, Bool.not_true, Bool.not_false, Bool.false_and, Bool.and_false, Bool.or_false, Bool.false_or, List.cons.injEq, reduceCtorEq, false_and, and_false, and_self, and_true, true_and, decide_true, decide_false, Nat.reduceLeDiff, LINE, lc, sm, finD, List.take_length]
/-! equality -/
theorem strOk_st (cs : List Nat) (h : ∀ c ∈ cs, 97 ≤ c ∧ c ≤ 122) : PyData.strOk (st cs) = true := by
  unfold PyData.strOk st
  rw [← Array.all_toList]
  simp only [List.toList_toArray, List.all_eq_true]
  intro c hc
  have := h c hc
  simp
  omega
theorem lay_okD (h : okL l) (n : Nat) : okD (n + 1) (layD l) = true := by
  simp [layD, okD, okDs, strOk_st _ h.2.2.1]
theorem jnt_okD (n : Nat) : okD (n + 1) (jntD j) = true := by
  obtain ⟨a, m⟩ := j
  cases m <;> simp [jntD, optD, okD, okDs]
theorem lays_okD (h : ∀ l ∈ ls, okL l) : okD 60 (laysD ls) = true := by
  rw [laysD, okD]
  refine okDs_all fun d hd => ?_
  obtain ⟨l, hl, rfl⟩ := List.mem_map.mp hd
  exact lay_okD (h l hl) 58
theorem jnts_okD : okD 60 (jntsD js) = true := by
  rw [jntsD, okD]
  exact okDs_map jntD 59 (fun j => jnt_okD 58) js
theorem lays_refl (h : ∀ l ∈ ls, okL l) (neg : Bool) : kEqG neg (.im (laysD ls)) (.im (laysD ls)) sl ce = .ok (.im (.bl (!neg))) ce := by
  rw [eq_gd (lays_okD h) (lays_okD h), eqD_refl _ 60 (lays_okD h)]
  cases neg <;> rfl
theorem jnts_refl (neg : Bool) : kEqG neg (.im (jntsD js)) (.im (jntsD js)) sl ce = .ok (.im (.bl (!neg))) ce := by
  rw [eq_gd jnts_okD jnts_okD, eqD_refl _ 60 jnts_okD]
  cases neg <;> rfl
theorem lay_refl (h : okL l) (neg : Bool) : kEqG neg (.im (layD l)) (.im (layD l)) sl ce = .ok (.im (.bl (!neg))) ce := by
  rw [eq_gd (lay_okD h 59) (lay_okD h 59), eqD_refl _ 60 (lay_okD h 59)]
  cases neg <;> rfl
theorem jnt_refl (neg : Bool) : kEqG neg (.im (jntD j)) (.im (jntD j)) sl ce = .ok (.im (.bl (!neg))) ce := by
  rw [eq_gd (jnt_okD 59) (jnt_okD 59), eqD_refl _ 60 (jnt_okD 59)]
  cases neg <;> rfl
end

end ZZ

set_option Elab.async false
set_option linter.all false
set_option maxRecDepth 100000
set_option maxHeartbeats 4000000
namespace ZZ
open PySem PySem.Spec L2
theorem mul_ok_l {i j : Int} (h : i.natAbs < 2 ^ 64) : mulOK i j = true := by
  unfold mulOK
  simp only [h, decide_true, Bool.true_or, Bool.or_true]
theorem mul_ok_r {i j : Int} (h : j.natAbs < 2 ^ 64) : mulOK i j = true := by
  unfold mulOK
  simp only [h, decide_true, Bool.or_true]
def mixI (c t : Int) : Int := (c * 97 * (t + 1) + 31 * t) % 1000003 + (c * 97 * (t + 1) + 31 * t) % 1000003 * ((c * 97 * (t + 1) + 31 * t) % 1000003) / 1013
theorem m_mix' (c t : Int) (ce : List Cell) (h0 : 0 ≤ t) (h1 : t < 2 ^ 60) : f__law_mix [.im (.int c), .im (.int t)] ce = .ok (.im (.int (mixI c t))) ce := by
  have e1 : mulOK c 97 = true := mul_ok_r (by decide)
  have e2 : mulOK (c * 97) (t + 1) = true := mul_ok_r (by omega)
  have e3 : mulOK 31 t = true := mul_ok_l (by decide)
  have e4 : ∀ x : Int, mulOK (x % 1000003) (x % 1000003) = true := fun x => mul_ok_r (by omega)
  unfold f__law_mix b__law_mix
  simp only [mkD, List.map_cons, List.map_nil, List.length_cons, List.length_nil, Nat.reduceAdd, Nat.reduceSub, List.replicate_succ, List.replicate_zero, List.cons_append, List.nil_append, sSeq, sSet, sRet, sExp, sDrop, sIf, sNil, sFor, eBin, eUn, eBind, eV, eC, eArgs, eAnd, eOr, eNot, eIf, eMth, eTru, kBool, List.getElem?_cons_zero, List.getElem?_cons_succ, List.set_cons_zero, List.set_cons_succ, if_true, if_false, ite_true, ite_false, Bool.false_eq_true, eq_self_iff_true, reduceIte, ims, Option.map_some, kTup, kLst, kLstC, kCall, List.all_cons, List.all_nil, plainV, Bool.and_true, Bool.true_and, iExp, iArgs, itS, itL, itT, gN, gT, gL, Option.bind_some, frz, ce_get, ce_get0, ce_set, ce_set0, ce_take, asL, asSq, asIm, truV, kTru, kAdd, kSub, kMod, kLen, kInt, kMin, kMax, kCmp, kIsB, tyL, tyS, Option.isSome_some, Bool.and_self, beq_self_eq_true, Option.isSome, Bool.or_true, Bool.true_or, Bool.not_true, Bool.not_false, Bool.false_and, Bool.and_false, Bool.or_false, Bool.false_or, List.cons.injEq, reduceCtorEq, false_and, and_false, and_self, and_true, true_and, decide_true, decide_false, Nat.reduceLeDiff, LINE, kMul, kDiv, e1, e2, e3, e4, finD, List.take_length, Int.reduceLT]
  rfl
theorem m_draw (k : Nat) (ds : List Int) (b : Int) (ce : List Cell) (hk : ce[k]? = some (.lst (ds.map .int))) (hb : 0 < b) : ∃ r ds', 0 ≤ r ∧ r < b ∧ f__law_draw [.cell k, .im (.int b)] ce = .ok (.im (.int r)) (ce.set k (.lst (List.map D.int ds'))) := by
  unfold f__law_draw b__law_draw
  cases ds with
  | nil =>
    refine ⟨0, [], Int.le_refl _, hb, ?_⟩
    have e : ce.set k (.lst (List.map D.int [])) = ce := by
      refine List.ext_getElem? fun j => ?_
      by_cases hj : k = j
      · subst hj
        rw [List.getElem?_set_self (List.getElem?_eq_some_iff.mp hk).1, hk]
      · rw [List.getElem?_set_ne hj]
    rw [e]
    rw [List.map_nil] at hk
    have hz : ((0 : Nat) : Int) = 0 := rfl
    simp only [mkD, List.map_cons, List.map_nil, List.length_cons, List.length_nil, Nat.reduceAdd, Nat.reduceSub, List.replicate_succ, List.replicate_zero, List.cons_append, List.nil_append, sSeq, sSet, sRet, sExp, sDrop, sIf, sNil, sFor, eBin, eUn, eBind, eV, eC, eArgs, eAnd, eOr, eNot, eIf, eMth, eTru, kBool, List.getElem?_cons_zero, List.getElem?_cons_succ, List.set_cons_zero, List.set_cons_succ, if_true, if_false, ite_true, ite_false, Bool.false_eq_true, eq_self_iff_true, reduceIte, ims, Option.map_some, kTup, kLst, kLstC, kCall, List.all_cons, List.all_nil, plainV, Bool.and_true, Bool.true_and, iExp, iArgs, itS, itL, itT, gN, gT, gL, Option.bind_some, frz, ce_get, ce_get0, ce_set, ce_set0, ce_take, asL, asSq, asIm, truV, kTru, kAdd, kSub, kMod, kLen, kInt, kMin, kMax, kCmp, kIsB, tyL, tyS, Option.isSome_some, Bool.and_self, beq_self_eq_true, Option.isSome, Bool.or_true, Bool.true_or, Bool.not_true, Bool.not_false, Bool.false_and, Bool.and_false, Bool.or_false, Bool.false_or, List.cons.injEq, reduceCtorEq, false_and, and_false, and_self, and_true, true_and, decide_true, decide_false, Nat.reduceLeDiff, LINE, hk, eq_int, hz, finD, List.take_length]
  | cons d ds =>
    refine ⟨d % b, ds, Int.emod_nonneg _ (by omega), Int.emod_lt_of_pos _ hb, ?_⟩
    rw [List.map_cons] at hk
    have e : ¬ (((D.int d :: ds.map D.int).length : Nat) : Int) = 0 := by rw [List.length_cons]; omega
    have e2 : seqIndex? 0 (D.int d :: ds.map D.int).length = some 0 := by
      unfold seqIndex?
      rw [List.length_cons]
      simp
      try omega
    have kp : ∀ sl, kPopAt (.cell k) [.im (.int 0)] sl ce = .ok (.im (.int d)) (ce.set k (.lst (ds.map D.int))) := fun sl => by
      unfold kPopAt
      simp only [hk, e2]
      rw [if_pos ⟨by decide, by decide⟩]
      rfl
    simp only [eTru, mkD, List.map_cons, List.map_nil, Nat.reduceAdd, Nat.reduceSub, List.replicate_succ, List.replicate_zero, List.cons_append, List.nil_append, sSeq, sSet, sRet, sExp, sDrop, sIf, sNil, sFor, eBin, eUn, eBind, eV, eC, eArgs, eAnd, eOr, eNot, eIf, eMth, eTru, kBool, List.getElem?_cons_zero, List.getElem?_cons_succ, List.set_cons_zero, List.set_cons_succ, if_true, if_false, ite_true, ite_false, Bool.false_eq_true, eq_self_iff_true, reduceIte, ims, Option.map_some, kTup, kLst, kLstC, kCall, List.all_cons, List.all_nil, plainV, Bool.and_true, Bool.true_and, iExp, iArgs, itS, itL, itT, gN, gT, gL, Option.bind_some, frz, ce_get, ce_get0, ce_set, ce_set0, ce_take, asL, asSq, asIm, truV, kTru, kAdd, kSub, kMod, kLen, kInt, kMin, kMax, kCmp, kIsB, tyL, tyS, Option.isSome_some, Bool.and_self, beq_self_eq_true, Option.isSome, Bool.or_true, Bool.true_or, Bool.not_true, Bool.not_false, Bool.false_and, Bool.and_false, Bool.or_false, Bool.false_or, List.cons.injEq, reduceCtorEq, false_and, and_false, and_self, and_true, true_and, decide_true, decide_false, Nat.reduceLeDiff, LINE, hk, eq_int, e, kp, hb, finD, set_take]
/-! ### the pool -/
def scr (ns : List Int) : D := .wl (ns.map .int)
theorem pool_in (ns : List Int) (many seed : Option Val) (k : Nat) (v : Int) (hk : ns[k]? = some v) (g : Bool) (ce : List Cell) : ∀ (js : List Int) (ρ : Int) (ds : List Int) (x7 : Option Val), (∀ j ∈ js, 0 ≤ j ∧ j < 100) → ds.length + js.length < 16777216 →
    ∃ (ds' : List Int) (ρ' : Int) (y7 : Option Val), forD (gN 7) lp__law_pool_0 (js.map .int) [some (.im (scr ns)), many, some (.cell ce.length), seed, some (.im (.int k)), some (.im (.int ρ)), some (.im (.bl g)), x7] (ce ++ [.lst (ds.map .int)]) =
      .nx [some (.im (scr ns)), many, some (.cell ce.length), seed, some (.im (.int k)), some (.im (.int ρ')), some (.im (.bl g)), y7] (ce ++ [.lst (ds'.map D.int)]) ∧ ds'.length ≤ ds.length + js.length
  | [], ρ, ds, x7, hj, h => ⟨ds, ρ, x7, by rw [List.map_nil, forD], by simp⟩
  | j :: js, ρ, ds, x7, hj, h => by
    rw [List.length_cons] at h
    have hj0 := hj j (List.mem_cons_self ..)
    have ih := fun ρ ds x7 h => pool_in ns many seed k v hk g ce js ρ ds x7 (fun j hm => hj j (List.mem_cons_of_mem _ hm)) h
    have app : ∀ (x : Int) sl, kAppend (.cell ce.length) [.im (.int x)] sl (ce ++ [.lst (ds.map .int)]) = .ok (.im .non) (ce ++ [.lst ((ds ++ [x]).map .int)]) := fun x sl => by
      rw [app_ok (by rw [List.length_map]; show ds.length < 16777216; omega), List.map_append]
      rfl
    have ix : ∀ sl ce, kIx (.im (scr ns)) (.im (.int k)) sl ce = .ok (.im (.int v)) ce := fun sl ce => by
      unfold kIx scr
      have hlt := (List.getElem?_eq_some_iff.mp hk).1
      have e : atI (ns.map D.int) (k : Int) = some (.int v) := by
        unfold atI ixN
        rw [if_pos (by omega), if_pos (by rw [List.length_map]; omega), Int.toNat_natCast, Option.bind_some, List.getElem?_map, hk]
        rfl
      simp only [asSq, e]
    have go : ∀ (ρ2 : Int) (ds2 : List Int), ds2.length ≤ ds.length + 1 → lp__law_pool_0 [some (.im (scr ns)), many, some (.cell ce.length), seed, some (.im (.int k)), some (.im (.int ρ)), some (.im (.bl g)), some (.im (.int j))] (ce ++ [.lst (ds.map .int)]) = .nx [some (.im (scr ns)), many, some (.cell ce.length), seed, some (.im (.int k)), some (.im (.int ρ2)), some (.im (.bl g)), some (.im (.int j))] (ce ++ [.lst (ds2.map .int)]) →
        ∃ (ds' : List Int) (ρ' : Int) (y7 : Option Val), forD (gN 7) lp__law_pool_0 ((j :: js).map .int) [some (.im (scr ns)), many, some (.cell ce.length), seed, some (.im (.int k)), some (.im (.int ρ)), some (.im (.bl g)), x7] (ce ++ [.lst (ds.map .int)]) =
      .nx [some (.im (scr ns)), many, some (.cell ce.length), seed, some (.im (.int k)), some (.im (.int ρ')), some (.im (.bl g)), y7] (ce ++ [.lst (ds'.map D.int)]) ∧ ds'.length ≤ ds.length + (js.length + 1) := fun ρ2 ds2 hd2 hb => by
      obtain ⟨ds', ρ', y7, e, q⟩ := ih ρ2 ds2 (some (.im (.int j))) (by omega)
      refine ⟨ds', ρ', y7, ?_, by omega⟩
      rw [List.map_cons, forD]
      simp only [gN, List.set_cons_zero, List.set_cons_succ, hb]
      exact e
    rw [List.length_cons]
    cases g with
    | true =>
      by_cases hp : 0 < ρ
      · refine go (ρ / 1000003) (ds ++ [ρ % 1000003]) (by simp) ?_
        unfold lp__law_pool_0
        simp only [mkD, List.map_cons, List.map_nil, List.length_cons, List.length_nil, Nat.reduceAdd, Nat.reduceSub, List.replicate_succ, List.replicate_zero, List.cons_append, List.nil_append, sSeq, sSet, sRet, sExp, sDrop, sIf, sNil, sFor, eBin, eUn, eBind, eV, eC, eArgs, eAnd, eOr, eNot, eIf, eMth, eTru, kBool, List.getElem?_cons_zero, List.getElem?_cons_succ, List.set_cons_zero, List.set_cons_succ, if_true, if_false, ite_true, ite_false, Bool.false_eq_true, eq_self_iff_true, reduceIte, ims, Option.map_some, kTup, kLst, kLstC, kCall, List.all_cons, List.all_nil, plainV, Bool.and_true, Bool.true_and, iExp, iArgs, itS, itL, itT, gN, gT, gL, Option.bind_some, frz, ce_get, ce_get0, ce_set, ce_set0, ce_take, asL, asSq, asIm, truV, kTru, kAdd, kSub, kMod, kLen, kInt, kMin, kMax, kCmp, kIsB, tyL, tyS, Option.isSome_some, Bool.and_self, beq_self_eq_true, Option.isSome, Bool.or_true, Bool.true_or, Bool.not_true, Bool.not_false, Bool.false_and, Bool.and_false, Bool.or_false, Bool.false_or, List.cons.injEq, reduceCtorEq, false_and, and_false, and_self, and_true, true_and, decide_true, decide_false, Nat.reduceLeDiff, LINE, kDiv, hp, app, Int.reduceLT]
      · refine go ρ ds (by omega) ?_
        unfold lp__law_pool_0
        simp only [mkD, List.map_cons, List.map_nil, List.length_cons, List.length_nil, Nat.reduceAdd, Nat.reduceSub, List.replicate_succ, List.replicate_zero, List.cons_append, List.nil_append, sSeq, sSet, sRet, sExp, sDrop, sIf, sNil, sFor, eBin, eUn, eBind, eV, eC, eArgs, eAnd, eOr, eNot, eIf, eMth, eTru, kBool, List.getElem?_cons_zero, List.getElem?_cons_succ, List.set_cons_zero, List.set_cons_succ, if_true, if_false, ite_true, ite_false, Bool.false_eq_true, eq_self_iff_true, reduceIte, ims, Option.map_some, kTup, kLst, kLstC, kCall, List.all_cons, List.all_nil, plainV, Bool.and_true, Bool.true_and, iExp, iArgs, itS, itL, itT, gN, gT, gL, Option.bind_some, frz, ce_get, ce_get0, ce_set, ce_set0, ce_take, asL, asSq, asIm, truV, kTru, kAdd, kSub, kMod, kLen, kInt, kMin, kMax, kCmp, kIsB, tyL, tyS, Option.isSome_some, Bool.and_self, beq_self_eq_true, Option.isSome, Bool.or_true, Bool.true_or, Bool.not_true, Bool.not_false, Bool.false_and, Bool.and_false, Bool.or_false, Bool.false_or, List.cons.injEq, reduceCtorEq, false_and, and_false, and_self, and_true, true_and, decide_true, decide_false, Nat.reduceLeDiff, LINE, kDiv, hp, app, Int.reduceLT]
    | false =>
      by_cases hp : j < 6
      · have er := fun ce => m_mix' v j ce hj0.1 (by omega)
        refine go ρ (ds ++ [mixI v j]) (by simp) ?_
        unfold lp__law_pool_0
        simp only [mkD, List.map_cons, List.map_nil, List.length_cons, List.length_nil, Nat.reduceAdd, Nat.reduceSub, List.replicate_succ, List.replicate_zero, List.cons_append, List.nil_append, sSeq, sSet, sRet, sExp, sDrop, sIf, sNil, sFor, eBin, eUn, eBind, eV, eC, eArgs, eAnd, eOr, eNot, eIf, eMth, eTru, kBool, List.getElem?_cons_zero, List.getElem?_cons_succ, List.set_cons_zero, List.set_cons_succ, if_true, if_false, ite_true, ite_false, Bool.false_eq_true, eq_self_iff_true, reduceIte, ims, Option.map_some, kTup, kLst, kLstC, kCall, List.all_cons, List.all_nil, plainV, Bool.and_true, Bool.true_and, iExp, iArgs, itS, itL, itT, gN, gT, gL, Option.bind_some, frz, ce_get, ce_get0, ce_set, ce_set0, ce_take, asL, asSq, asIm, truV, kTru, kAdd, kSub, kMod, kLen, kInt, kMin, kMax, kCmp, kIsB, tyL, tyS, Option.isSome_some, Bool.and_self, beq_self_eq_true, Option.isSome, Bool.or_true, Bool.true_or, Bool.not_true, Bool.not_false, Bool.false_and, Bool.and_false, Bool.or_false, Bool.false_or, List.cons.injEq, reduceCtorEq, false_and, and_false, and_self, and_true, true_and, decide_true, decide_false, Nat.reduceLeDiff, LINE, hp, ix, er, app]
      · refine go ρ ds (by omega) ?_
        unfold lp__law_pool_0
        simp only [mkD, List.map_cons, List.map_nil, List.length_cons, List.length_nil, Nat.reduceAdd, Nat.reduceSub, List.replicate_succ, List.replicate_zero, List.cons_append, List.nil_append, sSeq, sSet, sRet, sExp, sDrop, sIf, sNil, sFor, eBin, eUn, eBind, eV, eC, eArgs, eAnd, eOr, eNot, eIf, eMth, eTru, kBool, List.getElem?_cons_zero, List.getElem?_cons_succ, List.set_cons_zero, List.set_cons_succ, if_true, if_false, ite_true, ite_false, Bool.false_eq_true, eq_self_iff_true, reduceIte, ims, Option.map_some, kTup, kLst, kLstC, kCall, List.all_cons, List.all_nil, plainV, Bool.and_true, Bool.true_and, iExp, iArgs, itS, itL, itT, gN, gT, gL, Option.bind_some, frz, ce_get, ce_get0, ce_set, ce_set0, ce_take, asL, asSq, asIm, truV, kTru, kAdd, kSub, kMod, kLen, kInt, kMin, kMax, kCmp, kIsB, tyL, tyS, Option.isSome_some, Bool.and_self, beq_self_eq_true, Option.isSome, Bool.or_true, Bool.true_or, Bool.not_true, Bool.not_false, Bool.false_and, Bool.and_false, Bool.or_false, Bool.false_or, List.cons.injEq, reduceCtorEq, false_and, and_false, and_self, and_true, true_and, decide_true, decide_false, Nat.reduceLeDiff, LINE, hp]
theorem m_ix (ns : List Int) (k : Nat) (v : Int) (hk : ns[k]? = some v) (sl : Sl) (ce : List Cell) : kIx (.im (scr ns)) (.im (.int k)) sl ce = .ok (.im (.int v)) ce := by
  unfold kIx scr
  have hlt := (List.getElem?_eq_some_iff.mp hk).1
  have e : atI (ns.map D.int) (k : Int) = some (.int v) := by
    unfold atI ixN
    rw [if_pos (by omega), if_pos (by rw [List.length_map]; omega), Int.toNat_natCast, Option.bind_some, List.getElem?_map, hk]
    rfl
  simp only [asSq, e]
theorem pool_out (ns : List Int) (hn : ns.length ≤ 63) (many : Option Val) (ce : List Cell) : ∀ (ks : List Nat) (s : Int) (ds : List Int) (x4 x5 x6 x7 : Option Val), (∀ k ∈ ks, k < ns.length) → ds.length + 60 * ks.length < 16777216 →
    ∃ (ds' : List Int) (s' : Int) (y4 y5 y6 y7 : Option Val), forD (gN 4) lp__law_pool_1 (ks.map fun (k : Nat) => D.int (k : Int)) [some (.im (scr ns)), many, some (.cell ce.length), some (.im (.int s)), x4, x5, x6, x7] (ce ++ [.lst (ds.map .int)]) =
      .nx [some (.im (scr ns)), many, some (.cell ce.length), some (.im (.int s')), y4, y5, y6, y7] (ce ++ [.lst (ds'.map D.int)]) ∧ ds'.length ≤ ds.length + 60 * ks.length
  | [], s, ds, x4, x5, x6, x7, hj, h => ⟨ds, s, x4, x5, x6, x7, by rw [List.map_nil, forD], by simp⟩
  | k :: ks, s, ds, x4, x5, x6, x7, hj, h => by
    rw [List.length_cons] at h
    have hk0 := hj k (List.mem_cons_self ..)
    have hv : ns[k]? = some ns[k] := List.getElem?_eq_getElem hk0
    generalize ns[k] = v at hv
    have kr := rng1 60 (by decide)
    have hpow : ∀ sl ce, kPow (.im (.int 10)) (.im (.int 18)) sl ce = .ok (.im (.int (10 ^ 18))) ce := fun sl ce => by
      unfold kPow
      simp only []
      rw [if_pos (by decide)]
      rfl
    have hmul : mulOK v ((k : Int) + 1) = true := mul_ok_r (by omega)
    obtain ⟨ds1, ρ1, y7, e1, q1⟩ := pool_in ns many (some (.im (.int ((s + v * ((k : Int) + 1)) % 1000003)))) k v hv (decide (10 ^ 18 ≤ (if v < 0 then -v else v))) ce ((List.range 60).map fun (i : Nat) => (i : Int)) (if v < 0 then -v else v) ds x7 (fun j hm => by
      obtain ⟨i, hi, rfl⟩ := List.mem_map.mp hm
      rw [List.mem_range] at hi
      omega) (by rw [List.length_map, List.length_range]; omega)
    rw [List.map_map] at e1
    rw [List.length_map, List.length_range] at q1
    have hf : (D.int ∘ fun (i : Nat) => (i : Int)) = fun (i : Nat) => D.int (i : Int) := rfl
    rw [hf] at e1
    obtain ⟨ds', s', z4, z5, z6, z7, e, q⟩ := pool_out ns hn many ce ks ((s + v * ((k : Int) + 1)) % 1000003) ds1 (some (.im (.int k))) (some (.im (.int ρ1))) (some (.im (.bl (decide (10 ^ 18 ≤ (if v < 0 then -v else v)))))) y7 (fun k hm => hj k (List.mem_cons_of_mem _ hm)) (by omega)
    refine ⟨ds', s', z4, z5, z6, z7, ?_, by rw [List.length_cons]; omega⟩
    rw [List.map_cons, forD]
    simp only [gN, List.set_cons_zero, List.set_cons_succ]
    rw [← e]
    unfold lp__law_pool_1
    have kr' : kRng1 [.im (.int 60)] = some ((List.range 60).map fun (i : Nat) => D.int (i : Int)) := kr
    simp only [mkD, List.map_cons, List.map_nil, List.length_cons, List.length_nil, Nat.reduceAdd, Nat.reduceSub, List.replicate_succ, List.replicate_zero, List.cons_append, List.nil_append, sSeq, sSet, sRet, sExp, sDrop, sIf, sNil, sFor, eBin, eUn, eBind, eV, eC, eArgs, eAnd, eOr, eNot, eIf, eMth, eTru, kBool, List.getElem?_cons_zero, List.getElem?_cons_succ, List.set_cons_zero, List.set_cons_succ, if_true, if_false, ite_true, ite_false, Bool.false_eq_true, eq_self_iff_true, reduceIte, ims, Option.map_some, kTup, kLst, kLstC, kCall, List.all_cons, List.all_nil, plainV, Bool.and_true, Bool.true_and, iExp, iArgs, itS, itL, itT, gN, gT, gL, Option.bind_some, frz, ce_get, ce_get0, ce_set, ce_set0, ce_take, asL, asSq, asIm, truV, kTru, kAdd, kSub, kMod, kLen, kInt, kMin, kMax, kCmp, kIsB, tyL, tyS, Option.isSome_some, Bool.and_self, beq_self_eq_true, Option.isSome, Bool.or_true, Bool.true_or, Bool.not_true, Bool.not_false, Bool.false_and, Bool.and_false, Bool.or_false, Bool.false_or, List.cons.injEq, reduceCtorEq, false_and, and_false, and_self, and_true, true_and, decide_true, decide_false, Nat.reduceLeDiff, LINE, kMul, kAbs, m_ix ns k v hv, hmul, hpow, kr', e1, Int.reduceLT]
theorem pool_fill (many : Nat) (hm : many ≤ 1000) (a0 a4 a5 a6 : Option Val) (s : Int) (ce : List Cell) : ∀ (js : List D) (ds : List Int) (x7 : Option Val), ds.length + js.length < 16777216 →
    ∃ (ds' : List Int) (y7 : Option Val), forD (gN 7) lp__law_pool_2 js [a0, some (.im (.int many)), some (.cell ce.length), some (.im (.int s)), a4, a5, a6, x7] (ce ++ [.lst (ds.map .int)]) =
      .nx [a0, some (.im (.int many)), some (.cell ce.length), some (.im (.int s)), a4, a5, a6, y7] (ce ++ [.lst (ds'.map D.int)])
  | [], ds, x7, h => ⟨ds, x7, by rw [forD]⟩
  | j :: js, ds, x7, h => by
    rw [List.length_cons] at h
    have app : ∀ (x : Int) sl, kAppend (.cell ce.length) [.im (.int x)] sl (ce ++ [.lst (ds.map .int)]) = .ok (.im .non) (ce ++ [.lst ((ds ++ [x]).map .int)]) := fun x sl => by
      rw [app_ok (by rw [List.length_map]; show ds.length < 16777216; omega), List.map_append]
      rfl
    rw [forD]
    simp only [gN, List.set_cons_zero, List.set_cons_succ]
    by_cases hl : ds.length < many
    · obtain ⟨ds', y7, e⟩ := pool_fill many hm a0 a4 a5 a6 s ce js (ds ++ [mixI s ds.length]) (some (.im j)) (by rw [List.length_append, List.length_singleton]; omega)
      refine ⟨ds', y7, ?_⟩
      rw [← e]
      have hl' : (ds.length : Int) < (many : Int) := by omega
      have er := fun ce => m_mix' s ds.length ce (by omega) (by omega)
      unfold lp__law_pool_2
      simp only [mkD, List.map_cons, List.map_nil, List.length_cons, List.length_nil, Nat.reduceAdd, Nat.reduceSub, List.replicate_succ, List.replicate_zero, List.cons_append, List.nil_append, sSeq, sSet, sRet, sExp, sDrop, sIf, sNil, sFor, eBin, eUn, eBind, eV, eC, eArgs, eAnd, eOr, eNot, eIf, eMth, eTru, kBool, List.getElem?_cons_zero, List.getElem?_cons_succ, List.set_cons_zero, List.set_cons_succ, if_true, if_false, ite_true, ite_false, Bool.false_eq_true, eq_self_iff_true, reduceIte, ims, Option.map_some, kTup, kLst, kLstC, kCall, List.all_cons, List.all_nil, plainV, Bool.and_true, Bool.true_and, iExp, iArgs, itS, itL, itT, gN, gT, gL, Option.bind_some, frz, ce_get, ce_get0, ce_set, ce_set0, ce_take, asL, asSq, asIm, truV, kTru, kAdd, kSub, kMod, kLen, kInt, kMin, kMax, kCmp, kIsB, tyL, tyS, Option.isSome_some, Bool.and_self, beq_self_eq_true, Option.isSome, Bool.or_true, Bool.true_or, Bool.not_true, Bool.not_false, Bool.false_and, Bool.and_false, Bool.or_false, Bool.false_or, List.cons.injEq, reduceCtorEq, false_and, and_false, and_self, and_true, true_and, decide_true, decide_false, Nat.reduceLeDiff, LINE, List.length_map, hl', er, app]
    · obtain ⟨ds', y7, e⟩ := pool_fill many hm a0 a4 a5 a6 s ce js ds (some (.im j)) (by omega)
      refine ⟨ds', y7, ?_⟩
      rw [← e]
      have hl' : ¬ (ds.length : Int) < (many : Int) := by omega
      unfold lp__law_pool_2
      simp only [mkD, List.map_cons, List.map_nil, List.length_cons, List.length_nil, Nat.reduceAdd, Nat.reduceSub, List.replicate_succ, List.replicate_zero, List.cons_append, List.nil_append, sSeq, sSet, sRet, sExp, sDrop, sIf, sNil, sFor, eBin, eUn, eBind, eV, eC, eArgs, eAnd, eOr, eNot, eIf, eMth, eTru, kBool, List.getElem?_cons_zero, List.getElem?_cons_succ, List.set_cons_zero, List.set_cons_succ, if_true, if_false, ite_true, ite_false, Bool.false_eq_true, eq_self_iff_true, reduceIte, ims, Option.map_some, kTup, kLst, kLstC, kCall, List.all_cons, List.all_nil, plainV, Bool.and_true, Bool.true_and, iExp, iArgs, itS, itL, itT, gN, gT, gL, Option.bind_some, frz, ce_get, ce_get0, ce_set, ce_set0, ce_take, asL, asSq, asIm, truV, kTru, kAdd, kSub, kMod, kLen, kInt, kMin, kMax, kCmp, kIsB, tyL, tyS, Option.isSome_some, Bool.and_self, beq_self_eq_true, Option.isSome, Bool.or_true, Bool.true_or, Bool.not_true, Bool.not_false, Bool.false_and, Bool.and_false, Bool.or_false, Bool.false_or, List.cons.injEq, reduceCtorEq, false_and, and_false, and_self, and_true, true_and, decide_true, decide_false, Nat.reduceLeDiff, LINE, List.length_map, hl']
theorem m_pool (ns : List Int) (hn : ns.length ≤ 63) (many : Nat) (hm : many ≤ 1000) (ce : List Cell) : ∃ ds : List Int, f__law_pool [.im (scr ns), .im (.int many)] ce = .ok (.cell ce.length) (ce ++ [.lst (ds.map .int)]) := by
  obtain ⟨ds1, s1, y4, y5, y6, y7, e1, q1⟩ := pool_out ns hn (some (.im (.int many))) ce (List.range ns.length) 0 [] none none none none (fun k h => List.mem_range.mp h) (by rw [List.length_range]; simp; omega)
  rw [List.length_range, List.length_nil] at q1
  obtain ⟨ds2, z7, e2⟩ := pool_fill many hm (some (.im (scr ns))) y4 y5 y6 s1 ce ((List.range many).map fun (i : Nat) => D.int (i : Int)) ds1 y7 (by rw [List.length_map, List.length_range]; omega)
  refine ⟨ds2, ?_⟩
  have hmin : ∀ (sl : Sl) (ce : List Cell), kMin [.im (.int (ns.length : Int)), .im (.int 63)] sl ce = .ok (.im (.int (ns.length : Int))) ce := fun sl ce => by
    unfold kMin
    have : ¬ (63 : Int) < (ns.length : Int) := by omega
    simp only [this, if_false, eC]
  have k1 := rng1 ns.length (by omega)
  have k2 := rng1 many (by omega)
  rw [List.map_nil] at e1
  have hlen : ∀ (sl : Sl) (ce : List Cell), kLen [.im (scr ns)] sl ce = .ok (.im (.int (ns.length : Int))) ce := fun sl ce => by
    unfold kLen scr
    simp only [asSq, List.length_map]
  unfold f__law_pool b__law_pool
  simp only [mkD, List.map_cons, List.map_nil, List.length_cons, List.length_nil, Nat.reduceAdd, Nat.reduceSub, List.replicate_succ, List.replicate_zero, List.cons_append, List.nil_append, sSeq, sSet, sRet, sExp, sDrop, sIf, sNil, sFor, eBin, eUn, eBind, eV, eC, eArgs, eAnd, eOr, eNot, eIf, eMth, eTru, kBool, List.getElem?_cons_zero, List.getElem?_cons_succ, List.set_cons_zero, List.set_cons_succ, if_true, if_false, ite_true, ite_false, Bool.false_eq_true, eq_self_iff_true, reduceIte, ims, Option.map_some, kTup, kLst, kLstC, kCall, List.all_cons, List.all_nil, plainV, Bool.and_true, Bool.true_and, iExp, iArgs, itS, itL, itT, gN, gT, gL, Option.bind_some, frz, ce_get, ce_get0, ce_set, ce_set0, ce_take, asL, asSq, asIm, truV, kTru, kAdd, kSub, kMod, kInt, kMax, kCmp, kIsB, tyL, tyS, Option.isSome_some, Bool.and_self, beq_self_eq_true, Option.isSome, Bool.or_true, Bool.true_or, Bool.not_true, Bool.not_false, Bool.false_and, Bool.and_false, Bool.or_false, Bool.false_or, List.cons.injEq, reduceCtorEq, false_and, and_false, and_self, and_true, true_and, decide_true, decide_false, Nat.reduceLeDiff, LINE, hlen, hmin, k1, k2, e1, e2, finD, Nat.lt_irrefl]

end ZZ

set_option Elab.async false
set_option linter.all false
set_option maxRecDepth 100000
set_option maxHeartbeats 4000000
namespace ZZ
open PySem PySem.Spec L2
section
variable {sl : Sl} {ce : List Cell}
theorem set_get {k : Nat} {c c2 : Cell} (h : ce[k]? = some c) : (ce.set k c2)[k]? = some c2 := by
  rw [List.getElem?_set_self (List.getElem?_eq_some_iff.mp h).1]
theorem num_loop (k : Nat) : ∀ (items : List D) (n : Int) (ds : List Int) (ce : List Cell) (x1 x3 : Option Val), ce[k]? = some (.lst (ds.map .int)) →
    ∃ n' ds' y3, forD (gN 3) lp__law_number_0 items [some (.cell k), x1, some (.im (.int n)), x3] ce = .nx [some (.cell k), x1, some (.im (.int n')), y3] (ce.set k (.lst (List.map D.int ds')))
  | [], n, ds, ce, x1, x3, hk => ⟨n, ds, x3, by rw [forD, set_same hk]⟩
  | d :: items, n, ds, ce, x1, x3, hk => by
    obtain ⟨r, ds1, b, c, e⟩ := m_draw k ds 1000003 ce hk (by decide)
    obtain ⟨n', ds', y3, e2⟩ := num_loop k items (n * 1000003 + r) ds1 (ce.set k (.lst (ds1.map .int))) x1 (some (.im d)) (set_get hk)
    refine ⟨n', ds', y3, ?_⟩
    rw [List.set_set] at e2
    have mk : mulOK n 1000003 = true := mul_ok_r (by decide)
    have ml : ∀ sl ce, kMul (.im (.int n)) (.im (.int 1000003)) sl ce = .ok (.im (.int (n * 1000003))) ce := fun sl ce => by
      unfold kMul
      simp only [mk, if_true]
    rw [← e2, forD]
    simp only [gN, List.set_cons_zero, List.set_cons_succ]
    unfold lp__law_number_0
    simp only [mkD, List.map_cons, List.map_nil, List.length_cons, List.length_nil, Nat.reduceAdd, Nat.reduceSub, List.replicate_succ, List.replicate_zero, List.cons_append, List.nil_append, sSeq, sSet, sRet, sExp, sDrop, sIf, sNil, sFor, eBin, eUn, eBind, eV, eC, eArgs, eAnd, eOr, eNot, eIf, eMth, eTru, kBool, List.getElem?_cons_zero, List.getElem?_cons_succ, List.set_cons_zero, List.set_cons_succ, if_true, if_false, ite_true, ite_false, Bool.false_eq_true, eq_self_iff_true, reduceIte, ims, Option.map_some, kTup, kLst, kLstC, kCall, List.all_cons, List.all_nil, plainV, Bool.and_true, Bool.true_and, iExp, iArgs, itS, itL, itT, gN, gT, gL, Option.bind_some, frz, ce_get, ce_get0, ce_set, ce_set0, ce_take, asL, asSq, asIm, truV, kTru, kAdd, kSub, kMod, kLen, kInt, kMin, kMax, kCmp, kIsB, tyL, tyS, Option.isSome_some, Bool.and_self, beq_self_eq_true, Option.isSome, Bool.or_true, Bool.true_or, Bool.not_true, Bool.not_false, Bool.false_and, Bool.and_false, Bool.or_false, Bool.false_or, List.cons.injEq, reduceCtorEq, false_and, and_false, and_self, and_true, true_and, decide_true, decide_false, Nat.reduceLeDiff, LINE, ml, e]
theorem m_number (k : Nat) (ds : List Int) (ce : List Cell) (hk : ce[k]? = some (.lst (ds.map .int))) : ∃ n ds', 0 ≤ n ∧ n < 1000000000000000000000000000000 ∧ f__law_number [.cell k] ce = .ok (.im (.int n)) (ce.set k (.lst (List.map D.int ds'))) := by
  obtain ⟨r1, ds1, b1, c1, e1⟩ := m_draw k ds 8 ce hk (by decide)
  obtain ⟨r2, ds2, b2, c2, e2⟩ := m_draw k ds1 5 (ce.set k (.lst (ds1.map .int))) (set_get hk) (by decide)
  rw [List.set_set] at e2
  have h2 : (ce.set k (.lst (ds2.map .int)))[k]? = some (.lst (ds2.map .int)) := set_get hk
  have k5 : kRng1 [.im (.int 5)] = some [.int 0, .int 1, .int 2, .int 3, .int 4] := rng1 5 (by decide)
  have pw : ∀ sl ce, kPow (.im (.int 10)) (.im (.int 30)) sl ce = .ok (.im (.int 1000000000000000000000000000000)) ce := fun _ _ => rfl
  have md : ∀ (n : Int) sl ce, kMod (.im (.int n)) (.im (.int 1000000000000000000000000000000)) sl ce = .ok (.im (.int (n % 1000000000000000000000000000000))) ce := fun n sl ce => by
    unfold kMod
    simp
  have mb : ∀ n : Int, 0 ≤ n % 1000000000000000000000000000000 ∧ n % 1000000000000000000000000000000 < 1000000000000000000000000000000 := fun n => ⟨Int.emod_nonneg _ (by decide), Int.emod_lt_of_pos _ (by decide)⟩
  have hn : k < ce.length := (List.getElem?_eq_some_iff.mp hk).1
  by_cases h4 : r1 = 4
  · obtain ⟨n', ds', y3, e3⟩ := num_loop k [.int 0, .int 1, .int 2, .int 3, .int 4] r2 ds2 (ce.set k (.lst (ds2.map .int))) (some (.im (.int r1))) none h2
    rw [List.set_set, h4] at e3
    refine ⟨n' % 1000000000000000000000000000000, ds', (mb n').1, (mb n').2, ?_⟩
    unfold f__law_number b__law_number
    simp only [mkD, List.map_cons, List.map_nil, List.length_cons, List.length_nil, Nat.reduceAdd, Nat.reduceSub, List.replicate_succ, List.replicate_zero, List.cons_append, List.nil_append, sSeq, sSet, sRet, sExp, sDrop, sIf, sNil, sFor, eBin, eUn, eBind, eV, eC, eArgs, eAnd, eOr, eNot, eIf, eMth, eTru, kBool, List.getElem?_cons_zero, List.getElem?_cons_succ, List.set_cons_zero, List.set_cons_succ, if_true, if_false, ite_true, ite_false, Bool.false_eq_true, eq_self_iff_true, reduceIte, ims, Option.map_some, kTup, kLst, kLstC, kCall, List.all_cons, List.all_nil, plainV, Bool.and_true, Bool.true_and, iExp, iArgs, itS, itL, itT, gN, gT, gL, Option.bind_some, frz, ce_get, ce_get0, ce_set, ce_set0, ce_take, asL, asSq, asIm, truV, kTru, kAdd, kSub, kLen, kInt, kMin, kMax, kCmp, kIsB, tyL, tyS, Option.isSome_some, Bool.and_self, beq_self_eq_true, Option.isSome, Bool.or_true, Bool.true_or, Bool.not_true, Bool.not_false, Bool.false_and, Bool.and_false, Bool.or_false, Bool.false_or, List.cons.injEq, reduceCtorEq, false_and, and_false, and_self, and_true, true_and, decide_true, decide_false, Nat.reduceLeDiff, LINE, e1, h4, e2, eq_int, k5, e3, pw, md, finD, set_take]
  · refine ⟨r2 % 1000000000000000000000000000000, ds2, (mb r2).1, (mb r2).2, ?_⟩
    unfold f__law_number b__law_number
    simp only [mkD, List.map_cons, List.map_nil, List.length_cons, List.length_nil, Nat.reduceAdd, Nat.reduceSub, List.replicate_succ, List.replicate_zero, List.cons_append, List.nil_append, sSeq, sSet, sRet, sExp, sDrop, sIf, sNil, sFor, eBin, eUn, eBind, eV, eC, eArgs, eAnd, eOr, eNot, eIf, eMth, eTru, kBool, List.getElem?_cons_zero, List.getElem?_cons_succ, List.set_cons_zero, List.set_cons_succ, if_true, if_false, ite_true, ite_false, Bool.false_eq_true, eq_self_iff_true, reduceIte, ims, Option.map_some, kTup, kLst, kLstC, kCall, List.all_cons, List.all_nil, plainV, Bool.and_true, Bool.true_and, iExp, iArgs, itS, itL, itT, gN, gT, gL, Option.bind_some, frz, ce_get, ce_get0, ce_set, ce_set0, ce_take, asL, asSq, asIm, truV, kTru, kAdd, kSub, kLen, kInt, kMin, kMax, kCmp, kIsB, tyL, tyS, Option.isSome_some, Bool.and_self, beq_self_eq_true, Option.isSome, Bool.or_true, Bool.true_or, Bool.not_true, Bool.not_false, Bool.false_and, Bool.and_false, Bool.or_false, Bool.false_or, List.cons.injEq, reduceCtorEq, false_and, and_false, and_self, and_true, true_and, decide_true, decide_false, Nat.reduceLeDiff, LINE, e1, h4, e2, eq_int, pw, md, finD, set_take]
theorem letters_st : ("abcdefghijklmnopqrstuvwxyz" : Str) = st (List.range' 97 26) := by decide +kernel
theorem b_st : ("b" : Str) = st [98] := by decide +kernel
theorem rep_st (c : Nat) (n : Nat) (h : n ≤ 1000) : kRepS (.im (.str (st [c]))) (.im (.int n)) sl ce = .ok (.im (.str (st (List.replicate n c)))) ce := by
  unfold kRepS
  simp only [st_len, List.length_singleton]
  rw [if_pos ⟨by omega, by omega, by omega⟩, st_mul, Int.toNat_natCast]
def okK (cs : List Nat) : Prop := 1 ≤ cs.length ∧ cs.length ≤ 12 ∧ ∀ c ∈ cs, 97 ≤ c ∧ c ≤ 122
theorem m_kind (k : Nat) (ds : List Int) (ce : List Cell) (hk : ce[k]? = some (.lst (ds.map .int))) : ∃ cs ds', okK cs ∧ f__law_kind [.cell k] ce = .ok (.im (.str (st cs))) (ce.set k (.lst (List.map D.int ds'))) := by
  obtain ⟨r1, ds1, b1, c1, e1⟩ := m_draw k ds 6 ce hk (by decide)
  obtain ⟨z, z1, z2, ez⟩ : ∃ z : Nat, 1 ≤ z ∧ z ≤ 12 ∧ ∀ sl ce, kIx (.im (.lst [.int 1, .int 1, .int 1, .int 2, .int 3, .int 12])) (.im (.int r1)) sl ce = .ok (.im (.int z)) ce := by
    have e : r1 = 0 ∨ r1 = 1 ∨ r1 = 2 ∨ r1 = 3 ∨ r1 = 4 ∨ r1 = 5 := by omega
    rcases e with rfl | rfl | rfl | rfl | rfl | rfl
    · exact ⟨1, by decide, by decide, fun _ _ => rfl⟩
    · exact ⟨1, by decide, by decide, fun _ _ => rfl⟩
    · exact ⟨1, by decide, by decide, fun _ _ => rfl⟩
    · exact ⟨2, by decide, by decide, fun _ _ => rfl⟩
    · exact ⟨3, by decide, by decide, fun _ _ => rfl⟩
    · exact ⟨12, by decide, by decide, fun _ _ => rfl⟩
  have h1 : (ce.set k (.lst (ds1.map .int)))[k]? = some (.lst (ds1.map .int)) := set_get hk
  obtain ⟨r2, ds2, b2, c2, e2⟩ := m_draw k ds1 (z : Int) (ce.set k (.lst (ds1.map .int))) h1 (by omega)
  rw [List.set_set] at e2
  have h2 : (ce.set k (.lst (ds2.map .int)))[k]? = some (.lst (ds2.map .int)) := set_get hk
  obtain ⟨r3, ds3, b3, c3, e3⟩ := m_draw k ds2 3 (ce.set k (.lst (ds2.map .int))) h2 (by decide)
  rw [List.set_set] at e3
  obtain ⟨y, y1, y2, ey⟩ : ∃ y : Nat, 1 ≤ y ∧ y ≤ 26 ∧ ∀ sl ce, kIx (.im (.lst [.int 2, .int 3, .int 26])) (.im (.int r3)) sl ce = .ok (.im (.int y)) ce := by
    have e : r3 = 0 ∨ r3 = 1 ∨ r3 = 2 := by omega
    rcases e with rfl | rfl | rfl
    · exact ⟨2, by decide, by decide, fun _ _ => rfl⟩
    · exact ⟨3, by decide, by decide, fun _ _ => rfl⟩
    · exact ⟨26, by decide, by decide, fun _ _ => rfl⟩
  have h3 : (ce.set k (.lst (ds3.map .int)))[k]? = some (.lst (ds3.map .int)) := set_get hk
  obtain ⟨r4, ds4, b4, c4, e4⟩ := m_draw k ds3 (y : Int) (ce.set k (.lst (ds3.map .int))) h3 (by omega)
  rw [List.set_set] at e4
  obtain ⟨p, rfl⟩ : ∃ p : Nat, r2 = p := ⟨r2.toNat, by omega⟩
  obtain ⟨q, rfl⟩ : ∃ p : Nat, r4 = p := ⟨r4.toNat, by omega⟩
  have hq : (List.range' 97 26)[q]? = some (97 + q) := by
    rw [List.getElem?_range' (by omega)]
    simp
  have ix := fun sl ce => ix_st (sl := sl) (ce := ce) (List.range' 97 26) q (97 + q) hq (by rw [List.length_range']; omega)
  have p1 := fun sl ce => rep_st (sl := sl) (ce := ce) 98 p (by omega)
  obtain ⟨m, hm⟩ : ∃ m : Nat, (z : Int) - 1 - (p : Int) = m := ⟨z - 1 - p, by omega⟩
  have p2 := fun sl ce => rep_st (sl := sl) (ce := ce) 98 m (by omega)
  have a1 := fun sl ce => add_st (sl := sl) (ce := ce) (List.replicate p 98) [97 + q] (by rw [List.length_replicate, List.length_singleton]; omega)
  have a2 := fun sl ce => add_st (sl := sl) (ce := ce) (List.replicate p 98 ++ [97 + q]) (List.replicate m 98) (by rw [List.length_append, List.length_replicate, List.length_singleton, List.length_replicate]; omega)
  refine ⟨List.replicate p 98 ++ [97 + q] ++ List.replicate m 98, ds4, ⟨?_, ?_, ?_⟩, ?_⟩
  · simp only [List.length_append, List.length_replicate, List.length_singleton]
    omega
  · simp only [List.length_append, List.length_replicate, List.length_singleton]
    omega
  · intro c hc
    simp only [List.mem_append, List.mem_replicate, List.mem_singleton] at hc
    omega
  · unfold f__law_kind b__law_kind
    simp only [mkD, List.map_cons, List.map_nil, List.length_cons, List.length_nil, Nat.reduceAdd, Nat.reduceSub, List.replicate_succ, List.replicate_zero, List.cons_append, List.nil_append, sSeq, sSet, sRet, sExp, sDrop, sIf, sNil, sFor, eBin, eUn, eBind, eV, eC, eArgs, eAnd, eOr, eNot, eIf, eMth, eTru, kBool, List.getElem?_cons_zero, List.getElem?_cons_succ, List.set_cons_zero, List.set_cons_succ, if_true, if_false, ite_true, ite_false, Bool.false_eq_true, eq_self_iff_true, reduceIte, ims, Option.map_some, kTup, kLst, kLstC, kCall, List.all_cons, List.all_nil, plainV, Bool.and_true, Bool.true_and, iExp, iArgs, itS, itL, itT, gN, gT, gL, Option.bind_some, frz, ce_get, ce_get0, ce_set, ce_set0, ce_take, asL, asSq, asIm, truV, kTru, kSub, kMod, kLen, kInt, kMin, kMax, kCmp, kIsB, tyL, tyS, Option.isSome_some, Bool.and_self, beq_self_eq_true, Option.isSome, Bool.or_true, Bool.true_or, Bool.not_true, Bool.not_false, Bool.false_and, Bool.and_false, Bool.or_false, Bool.false_or, List.cons.injEq, reduceCtorEq, false_and, and_false, and_self, and_true, true_and, decide_true, decide_false, Nat.reduceLeDiff, LINE, e1, ez, e2, e3, ey, e4, letters_st, b_st, ix, p1, hm, p2, a1, a2, finD, set_take]
theorem m_bounds (k : Nat) (ds : List Int) (ce : List Cell) (hk : ce[k]? = some (.lst (ds.map .int))) : ∃ j ds', okJ j ∧ f__law_bounds [.cell k] ce = .ok (.im (jntD j)) (ce.set k (.lst (List.map D.int ds'))) := by
  obtain ⟨n, ds1, b1, c1, e1⟩ := m_number k ds ce hk
  have h1 : (ce.set k (.lst (ds1.map .int)))[k]? = some (.lst (ds1.map .int)) := set_get hk
  obtain ⟨n2, ds2, b2, c2, e2⟩ := m_number k ds1 (ce.set k (.lst (ds1.map .int))) h1
  rw [List.set_set] at e2
  have h2 : (ce.set k (.lst (ds2.map .int)))[k]? = some (.lst (ds2.map .int)) := set_get hk
  obtain ⟨r3, ds3, b3, c3, e3⟩ := m_draw k ds2 3 (ce.set k (.lst (ds2.map .int))) h2 (by decide)
  rw [List.set_set] at e3
  have ai : ∀ (i j : Int) sl ce, kAdd (.im (.int i)) (.im (.int j)) sl ce = .ok (.im (.int (i + j))) ce := fun i j sl ce => rfl
  by_cases h : r3 = 0
  · refine ⟨(n, none), ds3, ⟨b1, fun m hm => by cases hm⟩, ?_⟩
    unfold f__law_bounds b__law_bounds jntD optD
    simp only [mkD, List.map_cons, List.map_nil, List.length_cons, List.length_nil, Nat.reduceAdd, Nat.reduceSub, List.replicate_succ, List.replicate_zero, List.cons_append, List.nil_append, sSeq, sSet, sRet, sExp, sDrop, sIf, sNil, sFor, eBin, eUn, eBind, eV, eC, eArgs, eAnd, eOr, eNot, eIf, eMth, eTru, kBool, List.getElem?_cons_zero, List.getElem?_cons_succ, List.set_cons_zero, List.set_cons_succ, if_true, if_false, ite_true, ite_false, Bool.false_eq_true, eq_self_iff_true, reduceIte, ims, Option.map_some, kTup, kLst, kLstC, kCall, List.all_cons, List.all_nil, plainV, Bool.and_true, Bool.true_and, iExp, iArgs, itS, itL, itT, gN, gT, gL, Option.bind_some, frz, ce_get, ce_get0, ce_set, ce_set0, ce_take, asL, asSq, asIm, truV, kTru, kSub, kMod, kLen, kInt, kMin, kMax, kCmp, kIsB, tyL, tyS, Option.isSome_some, Bool.and_self, beq_self_eq_true, Option.isSome, Bool.or_true, Bool.true_or, Bool.not_true, Bool.not_false, Bool.false_and, Bool.and_false, Bool.or_false, Bool.false_or, List.cons.injEq, reduceCtorEq, false_and, and_false, and_self, and_true, true_and, decide_true, decide_false, Nat.reduceLeDiff, LINE, ai, e1, e2, e3, h, eq_int, finD, set_take]
  · refine ⟨(n, some (n + n2)), ds3, ⟨b1, fun m hm => by cases hm; simp only; omega⟩, ?_⟩
    unfold f__law_bounds b__law_bounds jntD optD
    simp only [mkD, List.map_cons, List.map_nil, List.length_cons, List.length_nil, Nat.reduceAdd, Nat.reduceSub, List.replicate_succ, List.replicate_zero, List.cons_append, List.nil_append, sSeq, sSet, sRet, sExp, sDrop, sIf, sNil, sFor, eBin, eUn, eBind, eV, eC, eArgs, eAnd, eOr, eNot, eIf, eMth, eTru, kBool, List.getElem?_cons_zero, List.getElem?_cons_succ, List.set_cons_zero, List.set_cons_succ, if_true, if_false, ite_true, ite_false, Bool.false_eq_true, eq_self_iff_true, reduceIte, ims, Option.map_some, kTup, kLst, kLstC, kCall, List.all_cons, List.all_nil, plainV, Bool.and_true, Bool.true_and, iExp, iArgs, itS, itL, itT, gN, gT, gL, Option.bind_some, frz, ce_get, ce_get0, ce_set, ce_set0, ce_take, asL, asSq, asIm, truV, kTru, kSub, kMod, kLen, kInt, kMin, kMax, kCmp, kIsB, tyL, tyS, Option.isSome_some, Bool.and_self, beq_self_eq_true, Option.isSome, Bool.or_true, Bool.true_or, Bool.not_true, Bool.not_false, Bool.false_and, Bool.and_false, Bool.or_false, Bool.false_or, List.cons.injEq, reduceCtorEq, false_and, and_false, and_self, and_true, true_and, decide_true, decide_false, Nat.reduceLeDiff, LINE, ai, e1, e2, e3, h, eq_int, finD, set_take]
end

end ZZ

set_option Elab.async false
set_option linter.all false
set_option maxRecDepth 100000
set_option maxHeartbeats 4000000
namespace ZZ
open PySem PySem.Spec L2
section
variable {sl : Sl} {ce : List Cell} {ls : List Lay} {js : List Jnt}
theorem m_whole (i : Int) : f__law_whole [.im (.int i)] ce = .ok (.im (.bl true)) ce := by
  have h1 : ∀ sl ce, kIsi i_int (.im (.int i)) sl ce = .ok (.im (.bl true)) ce := fun _ _ => rfl
  have h2 : ∀ sl ce, kIsi i_bool (.im (.int i)) sl ce = .ok (.im (.bl false)) ce := fun _ _ => rfl
  unfold f__law_whole b__law_whole
  simp only [mkD, List.map_cons, List.map_nil, List.length_cons, List.length_nil, Nat.reduceAdd, Nat.reduceSub, List.replicate_succ, List.replicate_zero, List.cons_append, List.nil_append, sSeq, sSet, sRet, sExp, sDrop, sIf, sNil, sFor, eBin, eUn, eBind, eV, eC, eArgs, eAnd, eOr, eNot, eIf, eMth, eTru, kBool, List.getElem?_cons_zero, List.getElem?_cons_succ, List.set_cons_zero, List.set_cons_succ, if_true, if_false, ite_true, ite_false, Bool.false_eq_true, eq_self_iff_true, reduceIte, ims, Option.map_some, kTup, kLst, kLstC, kCall, List.all_cons, List.all_nil, plainV, Bool.and_true, Bool.true_and, iExp, iArgs, itS, itL, itT, gN, gT, gL, Option.bind_some, frz, ce_get, ce_get0, ce_set, ce_set0, ce_take, asL, asSq, asIm, truV, kTru, kAdd, kSub, kMod, kLen, kInt, kMin, kMax, kCmp, kIsB, tyL, tyS, Option.isSome_some, Bool.and_self, beq_self_eq_true, Option.isSome, Bool.or_true, Bool.true_or, Bool.not_true, Bool.not_false, Bool.false_and, Bool.and_false, Bool.or_false, Bool.false_or, List.cons.injEq, reduceCtorEq, false_and, and_false, and_self, and_true, true_and, decide_true, decide_false, Nat.reduceLeDiff, LINE, h1, h2, finD, List.take_length]
theorem thick_take {k : Nat} {l : Lay} (h : ls[k]? = some l) : thick (ls.take (k + 1)) = thick (ls.take k) + l.2 := by
  unfold thick
  rw [List.take_succ, h]
  simp
theorem same1 (hl : ∀ l ∈ ls, okL l) (a2 a6 : Option Val) : ∀ (m k : Nat) (x4 x5 : Option Val), k + m = ls.length → ∃ y4 y5, forD (gN 4) lp__law_same_1 ((List.range' k m).map fun (i : Nat) => D.int (i : Int)) [some (.im (coreD ls js)), some (.im (laysD ls)), a2, some (.im (.int (thick (ls.take k)))), x4, x5, a6] ce =
    .nx [some (.im (coreD ls js)), some (.im (laysD ls)), a2, some (.im (.int (thick ls))), y4, y5, a6] ce
  | 0, k, x4, x5, h => ⟨x4, x5, by rw [List.range'_zero, List.map_nil, forD, List.take_of_length_le (by omega)]⟩
  | m + 1, k, x4, x5, h => by
    obtain ⟨l, hk⟩ : ∃ l, ls[k]? = some l := ⟨_, List.getElem?_eq_getElem (by omega)⟩
    have ho := hl l (List.mem_of_getElem? hk)
    obtain ⟨y4, y5, e⟩ := same1 hl a2 a6 m (k + 1) (some (.im (.int (k : Nat)))) (some (.im (layD l))) (by omega)
    refine ⟨y4, y5, ?_⟩
    have g := fun sl ce => m_cget (sl := sl) (ce := ce) (js := js) hk
    have ix := fun sl ce => lix (sl := sl) (ce := ce) hk
    have tu : ∀ sl ce, kIsi i_tuple (.im (layD l)) sl ce = .ok (.im (.bl true)) ce := fun _ _ => rfl
    have rf := fun sl ce => lay_refl (sl := sl) (ce := ce) ho true
    have ai : ∀ (i j : Int) sl ce, kAdd (.im (.int i)) (.im (.int j)) sl ce = .ok (.im (.int (i + j))) ce := fun i j sl ce => rfl
    rw [← e, List.range'_succ, List.map_cons, forD, thick_take hk]
    simp only [gN, List.set_cons_zero, List.set_cons_succ]
    unfold lp__law_same_1
    simp only [mkD, List.map_cons, List.map_nil, List.length_cons, List.length_nil, Nat.reduceAdd, Nat.reduceSub, List.replicate_succ, List.replicate_zero, List.cons_append, List.nil_append, sSeq, sSet, sRet, sExp, sDrop, sIf, sNil, sFor, eBin, eUn, eBind, eV, eC, eArgs, eAnd, eOr, eNot, eIf, eMth, eTru, kBool, List.getElem?_cons_zero, List.getElem?_cons_succ, List.set_cons_zero, List.set_cons_succ, if_true, if_false, ite_true, ite_false, Bool.false_eq_true, eq_self_iff_true, reduceIte, ims, Option.map_some, kTup, kLst, kLstC, kCall, List.all_cons, List.all_nil, plainV, Bool.and_true, Bool.true_and, iExp, iArgs, itS, itL, itT, gN, gT, gL, Option.bind_some, frz, ce_get, ce_get0, ce_set, ce_set0, ce_take, asL, asSq, asIm, truV, kTru, kSub, kMod, kLen, kInt, kMin, kMax, kCmp, kIsB, tyL, tyS, Option.isSome_some, Bool.and_self, beq_self_eq_true, Option.isSome, Bool.or_true, Bool.true_or, Bool.not_true, Bool.not_false, Bool.false_and, Bool.and_false, Bool.or_false, Bool.false_or, List.cons.injEq, reduceCtorEq, false_and, and_false, and_self, and_true, true_and, decide_true, decide_false, Nat.reduceLeDiff, LINE, ai, g, ix, tu, rf, lay1, m_whole, Bool.not_true]
theorem same2 (hj : ∀ j ∈ js, okJ j) (a1 a3 a5 : Option Val) : ∀ (m k : Nat) (x4 x6 : Option Val), k + m = js.length → ∃ y4 y6, forD (gN 4) lp__law_same_2 ((List.range' k m).map fun (i : Nat) => D.int (i : Int)) [some (.im (coreD ls js)), a1, some (.im (jntsD js)), a3, x4, a5, x6] ce =
    .nx [some (.im (coreD ls js)), a1, some (.im (jntsD js)), a3, y4, a5, y6] ce
  | 0, k, x4, x6, h => ⟨x4, x6, by rw [List.range'_zero, List.map_nil, forD]⟩
  | m + 1, k, x4, x6, h => by
    obtain ⟨j, hk⟩ : ∃ j, js[k]? = some j := ⟨_, List.getElem?_eq_getElem (by omega)⟩
    obtain ⟨y4, y6, e⟩ := same2 hj a1 a3 a5 m (k + 1) (some (.im (.int (k : Nat)))) (some (.im (jntD j))) (by omega)
    refine ⟨y4, y6, ?_⟩
    have g := fun ce => m_cjoint (ce := ce) (ls := ls) hk
    have ix := fun sl ce => jix (sl := sl) (ce := ce) hk
    have tu : ∀ sl ce, kIsi i_tuple (.im (jntD j)) sl ce = .ok (.im (.bl true)) ce := fun _ _ => rfl
    have rf := fun sl ce => jnt_refl (sl := sl) (ce := ce) (j := j) true
    have n0 : ∀ sl ce, kIsN true (.im .non) (.im .non) sl ce = .ok (.im (.bl false)) ce := fun _ _ => rfl
    have n1 : ∀ i sl ce, kIsN true (.im (.int i)) (.im .non) sl ce = .ok (.im (.bl true)) ce := fun _ _ _ => rfl
    rw [← e, List.range'_succ, List.map_cons, forD]
    simp only [gN, List.set_cons_zero, List.set_cons_succ]
    unfold lp__law_same_2
    cases hm : j.2 with
    | none => simp only [mkD, List.map_cons, List.map_nil, List.length_cons, List.length_nil, Nat.reduceAdd, Nat.reduceSub, List.replicate_succ, List.replicate_zero, List.cons_append, List.nil_append, sSeq, sSet, sRet, sExp, sDrop, sIf, sNil, sFor, eBin, eUn, eBind, eV, eC, eArgs, eAnd, eOr, eNot, eIf, eMth, eTru, kBool, List.getElem?_cons_zero, List.getElem?_cons_succ, List.set_cons_zero, List.set_cons_succ, if_true, if_false, ite_true, ite_false, Bool.false_eq_true, eq_self_iff_true, reduceIte, ims, Option.map_some, kTup, kLst, kLstC, kCall, List.all_cons, List.all_nil, plainV, Bool.and_true, Bool.true_and, iExp, iArgs, itS, itL, itT, gN, gT, gL, Option.bind_some, frz, ce_get, ce_get0, ce_set, ce_set0, ce_take, asL, asSq, asIm, truV, kTru, kAdd, kSub, kMod, kLen, kInt, kMin, kMax, kCmp, kIsB, tyL, tyS, Option.isSome_some, Bool.and_self, beq_self_eq_true, Option.isSome, Bool.or_true, Bool.true_or, Bool.not_true, Bool.not_false, Bool.false_and, Bool.and_false, Bool.or_false, Bool.false_or, List.cons.injEq, reduceCtorEq, false_and, and_false, and_self, and_true, true_and, decide_true, decide_false, Nat.reduceLeDiff, LINE, isC_c, kMeth, g, ix, tu, rf, jnt0, jnt1, hm, optD, n0, m_whole, Bool.not_true]
    | some v => simp only [mkD, List.map_cons, List.map_nil, List.length_cons, List.length_nil, Nat.reduceAdd, Nat.reduceSub, List.replicate_succ, List.replicate_zero, List.cons_append, List.nil_append, sSeq, sSet, sRet, sExp, sDrop, sIf, sNil, sFor, eBin, eUn, eBind, eV, eC, eArgs, eAnd, eOr, eNot, eIf, eMth, eTru, kBool, List.getElem?_cons_zero, List.getElem?_cons_succ, List.set_cons_zero, List.set_cons_succ, if_true, if_false, ite_true, ite_false, Bool.false_eq_true, eq_self_iff_true, reduceIte, ims, Option.map_some, kTup, kLst, kLstC, kCall, List.all_cons, List.all_nil, plainV, Bool.and_true, Bool.true_and, iExp, iArgs, itS, itL, itT, gN, gT, gL, Option.bind_some, frz, ce_get, ce_get0, ce_set, ce_set0, ce_take, asL, asSq, asIm, truV, kTru, kAdd, kSub, kMod, kLen, kInt, kMin, kMax, kCmp, kIsB, tyL, tyS, Option.isSome_some, Bool.and_self, beq_self_eq_true, Option.isSome, Bool.or_true, Bool.true_or, Bool.not_true, Bool.not_false, Bool.false_and, Bool.and_false, Bool.or_false, Bool.false_or, List.cons.injEq, reduceCtorEq, false_and, and_false, and_self, and_true, true_and, decide_true, decide_false, Nat.reduceLeDiff, LINE, isC_c, kMeth, g, ix, tu, rf, jnt0, jnt1, hm, optD, n1, m_whole, Bool.not_true]
theorem m_same (h : OkC ls js) : f__law_same [.im (coreD ls js), .im (laysD ls), .im (jntsD js)] ce = .ok (.im (.bl true)) ce := by
  have hn := h.n
  have hm := h.m
  have ic : ∀ sl ce, kIsi i_Core (.im (coreD ls js)) sl ce = .ok (.im (.bl true)) ce := fun _ _ => rfl
  have cl := fun sl ce => m_clen (sl := sl) (ce := ce) (ls := ls) (js := js) (by omega)
  have th := fun sl ce => m_cthick (sl := sl) (ce := ce) (ls := ls) (js := js) (by omega)
  have lc := fun (ce : List Cell) => lc_map (own := [5]) (fi := iExp (eV 0) (itO c_Core 0)) (g := gN 5) (f := el__law_same_0) (sl := [some (.im (coreD ls js)), some (.im (laysD ls)), some (.im (jntsD js)), none, none, none, none]) (ce := ce) ls layD layD (by
    simp only [mkD, List.map_cons, List.map_nil, List.length_cons, List.length_nil, Nat.reduceAdd, Nat.reduceSub, List.replicate_succ, List.replicate_zero, List.cons_append, List.nil_append, sSeq, sSet, sRet, sExp, sDrop, sIf, sNil, sFor, eBin, eUn, eBind, eV, eC, eArgs, eAnd, eOr, eNot, eIf, eMth, eTru, kBool, List.getElem?_cons_zero, List.getElem?_cons_succ, List.set_cons_zero, List.set_cons_succ, if_true, if_false, ite_true, ite_false, Bool.false_eq_true, eq_self_iff_true, reduceIte, ims, Option.map_some, kTup, kLst, kLstC, kCall, List.all_cons, List.all_nil, plainV, Bool.and_true, Bool.true_and, iExp, iArgs, itS, itL, itT, gN, gT, gL, Option.bind_some, frz, ce_get, ce_get0, ce_set, ce_set0, ce_take, asL, asSq, asIm, truV, kTru, kAdd, kSub, kMod, kLen, kInt, kMin, kMax, kCmp, kIsB, tyL, tyS, Option.isSome_some, Bool.and_self, beq_self_eq_true, Option.isSome, Bool.or_true, Bool.true_or, Bool.not_true, Bool.not_false, Bool.false_and, Bool.and_false, Bool.or_false, Bool.false_or, List.cons.injEq, reduceCtorEq, false_and, and_false, and_self, and_true, true_and, decide_true, decide_false, Nat.reduceLeDiff, LINE, itO, coreD, laysD]) (by omega) (fun l hl acc => ⟨_, rfl, by
    unfold el__law_same_0
    simp only [mkD, List.map_cons, List.map_nil, List.length_cons, List.length_nil, Nat.reduceAdd, Nat.reduceSub, List.replicate_succ, List.replicate_zero, List.cons_append, List.nil_append, sSeq, sSet, sRet, sExp, sDrop, sIf, sNil, sFor, eBin, eUn, eBind, eV, eC, eArgs, eAnd, eOr, eNot, eIf, eMth, eTru, kBool, List.getElem?_cons_zero, List.getElem?_cons_succ, List.set_cons_zero, List.set_cons_succ, if_true, if_false, ite_true, ite_false, Bool.false_eq_true, eq_self_iff_true, reduceIte, ims, Option.map_some, kTup, kLst, kLstC, kCall, List.all_cons, List.all_nil, plainV, Bool.and_true, Bool.true_and, iExp, iArgs, itS, itL, itT, gN, gT, gL, Option.bind_some, frz, ce_get, ce_get0, ce_set, ce_set0, ce_take, asL, asSq, asIm, truV, kTru, kAdd, kSub, kMod, kLen, kInt, kMin, kMax, kCmp, kIsB, tyL, tyS, Option.isSome_some, Bool.and_self, beq_self_eq_true, Option.isSome, Bool.or_true, Bool.true_or, Bool.not_true, Bool.not_false, Bool.false_and, Bool.and_false, Bool.or_false, Bool.false_or, List.cons.injEq, reduceCtorEq, false_and, and_false, and_self, and_true, true_and, decide_true, decide_false, Nat.reduceLeDiff, LINE, wipeD]⟩)
  have hd : D.lst (ls.map layD) = laysD ls := rfl
  simp only [hd] at lc
  have rf := fun sl ce => lays_refl (sl := sl) (ce := ce) h.l true
  have k1 : kRng1 [.im (.int (ls.length : Nat))] = some ((List.range' 0 ls.length).map fun (i : Nat) => D.int (i : Int)) := by rw [rng1 _ (by omega), List.range_eq_range']
  have k2 : kRng1 [.im (.int (js.length : Nat))] = some ((List.range' 0 js.length).map fun (i : Nat) => D.int (i : Int)) := by rw [rng1 _ (by omega), List.range_eq_range']
  obtain ⟨y4, y5, e1⟩ := same1 (js := js) (ce := ce) h.l (some (.im (jntsD js))) none ls.length 0 none none (by omega)
  obtain ⟨z4, z6, e2⟩ := same2 (ls := ls) (ce := ce) h.j (some (.im (laysD ls))) (some (.im (.int (thick ls)))) y5 js.length 0 y4 none (by omega)
  have t0 : thick (ls.take 0) = 0 := rfl
  rw [t0] at e1
  have d1 : decide ((ls.length : Int) = (ls.length : Int)) = true := decide_eq_true rfl
  have d2 : decide (thick ls = thick ls) = true := decide_eq_true rfl
  unfold f__law_same b__law_same
  simp only [mkD, List.map_cons, List.map_nil, List.length_cons, List.length_nil, Nat.reduceAdd, Nat.reduceSub, List.replicate_succ, List.replicate_zero, List.cons_append, List.nil_append, sSeq, sSet, sRet, sExp, sDrop, sIf, sNil, sFor, eBin, eUn, eBind, eV, eC, eArgs, eAnd, eOr, eNot, eIf, eMth, eTru, kBool, List.getElem?_cons_zero, List.getElem?_cons_succ, List.set_cons_zero, List.set_cons_succ, if_true, if_false, ite_true, ite_false, Bool.false_eq_true, eq_self_iff_true, reduceIte, ims, Option.map_some, kTup, kLst, kLstC, kCall, List.all_cons, List.all_nil, plainV, Bool.and_true, Bool.true_and, iExp, iArgs, itS, itL, itT, gN, gT, gL, Option.bind_some, frz, ce_get, ce_get0, ce_set, ce_set0, ce_take, asL, asSq, asIm, truV, kTru, kAdd, kSub, kMod, kInt, kMin, kMax, kCmp, kIsB, tyL, tyS, Option.isSome_some, Bool.and_self, beq_self_eq_true, Option.isSome, Bool.or_true, Bool.true_or, Bool.not_true, Bool.not_false, Bool.false_and, Bool.and_false, Bool.or_false, Bool.false_or, List.cons.injEq, reduceCtorEq, false_and, and_false, and_self, and_true, true_and, decide_true, decide_false, Nat.reduceLeDiff, LINE, ic, cl, llen, jlen, eq_int, d1, lc, rf, k1, e1, k2, e2, th, m_whole, d2, finD, List.take_length, Bool.not_true]
end

end ZZ

set_option Elab.async false
set_option linter.all false
set_option maxRecDepth 100000
set_option maxHeartbeats 4000000
namespace ZZ
open PySem PySem.Spec L2
section
variable {sl : Sl} {ce : List Cell}
theorem ixN_nat {n k : Nat} (h : k < n) : ixN n (k : Int) = some k := by
  unfold ixN
  rw [if_pos (by omega), if_pos (by omega), Int.toNat_natCast]
theorem setIx_ok {fo fi fv : DE} {n k : Nat} {ds : List D} {d : D} (hv : fv sl ce = .ok (.im d) ce) (ho : fo sl ce = .ok (.cell n) ce) (hi : fi sl ce = .ok (.im (.int (k : Nat))) ce) (hc : ce[n]? = some (.lst ds)) (hk : k < ds.length) : sSetIx fo fi fv sl ce = .nx sl (ce.set n (.lst (ds.set k d))) := by
  unfold sSetIx
  simp only [sExp, hv, ho, hi, hc, ixN_nat hk]
end

end ZZ

set_option Elab.async false
set_option linter.all false
set_option maxRecDepth 100000
set_option maxHeartbeats 4000000
namespace ZZ
open PySem PySem.Spec L2
/-! ### narrower bounds at one joint -/
def narHi (j : Jnt) (hi : Option Int) : Option Int := match j.2, hi with
  | none, h => h
  | some m, none => some m
  | some m, some h => if h < m then some h else some m
def ltO : Option Int → Int → Bool
  | none, _ => false
  | some m, x => decide (m < x)
def narrow (j : Jnt) (lo : Int) (hi : Option Int) : Option Jnt := if ltO (narHi j hi) (max j.1 lo) = true then none else some (max j.1 lo, narHi j hi)
theorem narrow_ok {j j' : Jnt} {lo : Int} {hi : Option Int} (h : okJ j) (e : narrow j lo hi = some j') : okJ j' := by
  unfold narrow at e
  split at e
  · cases e
  · rename_i hn
    cases e
    refine ⟨by have := h.1; simp only; omega, fun m hm => ?_⟩
    simp only at hm ⊢
    rw [hm] at hn
    unfold ltO at hn
    simp only [decide_eq_true_eq] at hn
    omega
section
variable {ls : List Lay} {js : List Jnt} {sl : Sl} {ce : List Cell} {l : Lay} {j : Jnt}
theorem okC_set (h : OkC ls js) {k : Nat} {j' : Jnt} (hj : okJ j') : OkC ls (js.set k j') := ⟨h.l, fun x hx => by
  rcases List.mem_or_eq_of_mem_set hx with hx | rfl
  · exact h.j x hx
  · exact hj, h.n, by rw [List.length_set]; exact h.m⟩
theorem isN_opt (o : Option Int) : kIsN false (.im (optD o)) (.im .non) sl ce = .ok (.im (.bl o.isNone)) ce := by cases o <;> rfl
theorem notN_opt (o : Option Int) : kIsN true (.im (optD o)) (.im .non) sl ce = .ok (.im (.bl o.isSome)) ce := by cases o <;> rfl
theorem x_cjoint {k : Int} (h : k < 0 ∨ (js.length : Int) ≤ k) : f_Core_joint [.im (coreD ls js), .im (.int k)] ce = .exc e_NoJoint [.int k] ce := by
  unfold f_Core_joint b_Core_joint
  by_cases h1 : (0 : Int) ≤ k
  · have h2 : ¬ k < (js.length : Int) := by omega
    simp only [mkD, List.map_cons, List.map_nil, List.length_cons, List.length_nil, Nat.reduceAdd, Nat.reduceSub, List.replicate_succ, List.replicate_zero, List.cons_append, List.nil_append, sSeq, sSet, sRet, sExp, sDrop, sIf, sNil, sFor, eBin, eUn, eBind, eV, eC, eArgs, eAnd, eOr, eNot, eIf, eMth, eTru, kBool, List.getElem?_cons_zero, List.getElem?_cons_succ, List.set_cons_zero, List.set_cons_succ, if_true, if_false, ite_true, ite_false, Bool.false_eq_true, eq_self_iff_true, reduceIte, ims, Option.map_some, kTup, kLst, kLstC, kCall, List.all_cons, List.all_nil, plainV, Bool.and_true, Bool.true_and, iExp, iArgs, itS, itL, itT, gN, gT, gL, Option.bind_some, frz, ce_get, ce_get0, ce_set, ce_set0, ce_take, asL, asSq, asIm, truV, kTru, kAdd, kSub, kMod, kInt, kMin, kMax, kCmp, kIsB, tyL, tyS, Option.isSome_some, Bool.and_self, beq_self_eq_true, Option.isSome, Bool.or_true, Bool.true_or, Bool.not_true, Bool.not_false, Bool.false_and, Bool.and_false, Bool.or_false, Bool.false_or, List.cons.injEq, reduceCtorEq, false_and, and_false, and_self, and_true, true_and, decide_true, decide_false, Nat.reduceLeDiff, LINE, cfld1, jlen, eChain, h1, h2, sRaise, sArgs, finD, List.take_length]
    rfl
  · simp only [mkD, List.map_cons, List.map_nil, List.length_cons, List.length_nil, Nat.reduceAdd, Nat.reduceSub, List.replicate_succ, List.replicate_zero, List.cons_append, List.nil_append, sSeq, sSet, sRet, sExp, sDrop, sIf, sNil, sFor, eBin, eUn, eBind, eV, eC, eArgs, eAnd, eOr, eNot, eIf, eMth, eTru, kBool, List.getElem?_cons_zero, List.getElem?_cons_succ, List.set_cons_zero, List.set_cons_succ, if_true, if_false, ite_true, ite_false, Bool.false_eq_true, eq_self_iff_true, reduceIte, ims, Option.map_some, kTup, kLst, kLstC, kCall, List.all_cons, List.all_nil, plainV, Bool.and_true, Bool.true_and, iExp, iArgs, itS, itL, itT, gN, gT, gL, Option.bind_some, frz, ce_get, ce_get0, ce_set, ce_set0, ce_take, asL, asSq, asIm, truV, kTru, kAdd, kSub, kMod, kInt, kMin, kMax, kCmp, kIsB, tyL, tyS, Option.isSome_some, Bool.and_self, beq_self_eq_true, Option.isSome, Bool.or_true, Bool.true_or, Bool.not_true, Bool.not_false, Bool.false_and, Bool.and_false, Bool.or_false, Bool.false_or, List.cons.injEq, reduceCtorEq, false_and, and_false, and_self, and_true, true_and, decide_true, decide_false, Nat.reduceLeDiff, LINE, cfld1, jlen, eChain, h1, sRaise, sArgs, finD, List.take_length]
    rfl
theorem x_narrowed {k : Int} (h : k < 0 ∨ (js.length : Int) ≤ k) (v u : Val) : f_Core_narrowed [.im (coreD ls js), .im (.int k), v, u] ce = .exc e_NoJoint [.int k] ce := by
  have cj := fun ce => x_cjoint (ls := ls) (ce := ce) h
  unfold f_Core_narrowed b_Core_narrowed
  simp only [mkD, List.map_cons, List.map_nil, List.length_cons, List.length_nil, Nat.reduceAdd, Nat.reduceSub, List.replicate_succ, List.replicate_zero, List.cons_append, List.nil_append, sSeq, sSet, sRet, sExp, sDrop, sIf, sNil, sFor, eBin, eUn, eBind, eV, eC, eArgs, eAnd, eOr, eNot, eIf, eMth, eTru, kBool, List.getElem?_cons_zero, List.getElem?_cons_succ, List.set_cons_zero, List.set_cons_succ, if_true, if_false, ite_true, ite_false, Bool.false_eq_true, eq_self_iff_true, reduceIte, ims, Option.map_some, kTup, kLst, kLstC, kCall, List.all_cons, List.all_nil, plainV, Bool.and_true, Bool.true_and, iExp, iArgs, itS, itL, itT, gN, gT, gL, Option.bind_some, frz, ce_get, ce_get0, ce_set, ce_set0, ce_take, asL, asSq, asIm, truV, kTru, kAdd, kSub, kMod, kLen, kInt, kMin, kMax, kCmp, kIsB, tyL, tyS, Option.isSome_some, Bool.and_self, beq_self_eq_true, Option.isSome, Bool.or_true, Bool.true_or, Bool.not_true, Bool.not_false, Bool.false_and, Bool.and_false, Bool.or_false, Bool.false_or, List.cons.injEq, reduceCtorEq, false_and, and_false, and_self, and_true, true_and, decide_true, decide_false, Nat.reduceLeDiff, LINE, sAsg, isC_c, kMeth, cj, finD, List.take_length]
theorem m_narrowed (h : OkC ls js) {k : Nat} (hk : js[k]? = some j) (lo : Int) (hi : Option Int) : f_Core_narrowed [.im (coreD ls js), .im (.int (k : Nat)), .im (.int lo), .im (optD hi)] ce = (match narrow j lo hi with
    | none => .exc e_BadJoint [.int (k : Nat)] ce
    | some j' => .ok (.im (coreD ls (js.set k j'))) ce) := by
  have cj := fun ce => m_cjoint (ls := ls) (ce := ce) hk
  have kl := (List.getElem?_eq_some_iff.mp hk).1
  have i1 : ∀ (C K HI a5 a6 : Option Val), sIf (eBin kGt (eV 2) (eV 4)) (sSet 4 (eV 2)) sNil [C, K, some (.im (.int lo)), HI, some (.im (.int j.1)), a5, a6] ce = .nx [C, K, some (.im (.int lo)), HI, some (.im (.int (max j.1 lo))), a5, a6] ce := fun C K HI a5 a6 => by
    by_cases hc : j.1 < lo
    · have : max j.1 lo = lo := by omega
      simp only [mkD, List.map_cons, List.map_nil, List.length_cons, List.length_nil, Nat.reduceAdd, Nat.reduceSub, List.replicate_succ, List.replicate_zero, List.cons_append, List.nil_append, sSeq, sSet, sRet, sExp, sDrop, sIf, sNil, sFor, eBin, eUn, eBind, eV, eC, eArgs, eAnd, eOr, eNot, eIf, eMth, eTru, kBool, List.getElem?_cons_zero, List.getElem?_cons_succ, List.set_cons_zero, List.set_cons_succ, if_true, if_false, ite_true, ite_false, Bool.false_eq_true, eq_self_iff_true, reduceIte, ims, Option.map_some, kTup, kLst, kLstC, kCall, List.all_cons, List.all_nil, plainV, Bool.and_true, Bool.true_and, iExp, iArgs, itS, itL, itT, gN, gT, gL, Option.bind_some, frz, ce_get, ce_get0, ce_set, ce_set0, ce_take, asL, asSq, asIm, truV, kTru, kAdd, kSub, kMod, kLen, kInt, kMin, kMax, kCmp, kIsB, tyL, tyS, Option.isSome_some, Bool.and_self, beq_self_eq_true, Option.isSome, Bool.or_true, Bool.true_or, Bool.not_true, Bool.not_false, Bool.false_and, Bool.and_false, Bool.or_false, Bool.false_or, List.cons.injEq, reduceCtorEq, false_and, and_false, and_self, and_true, true_and, decide_true, decide_false, Nat.reduceLeDiff, LINE, hc, this]
    · have : max j.1 lo = j.1 := by omega
      simp only [mkD, List.map_cons, List.map_nil, List.length_cons, List.length_nil, Nat.reduceAdd, Nat.reduceSub, List.replicate_succ, List.replicate_zero, List.cons_append, List.nil_append, sSeq, sSet, sRet, sExp, sDrop, sIf, sNil, sFor, eBin, eUn, eBind, eV, eC, eArgs, eAnd, eOr, eNot, eIf, eMth, eTru, kBool, List.getElem?_cons_zero, List.getElem?_cons_succ, List.set_cons_zero, List.set_cons_succ, if_true, if_false, ite_true, ite_false, Bool.false_eq_true, eq_self_iff_true, reduceIte, ims, Option.map_some, kTup, kLst, kLstC, kCall, List.all_cons, List.all_nil, plainV, Bool.and_true, Bool.true_and, iExp, iArgs, itS, itL, itT, gN, gT, gL, Option.bind_some, frz, ce_get, ce_get0, ce_set, ce_set0, ce_take, asL, asSq, asIm, truV, kTru, kAdd, kSub, kMod, kLen, kInt, kMin, kMax, kCmp, kIsB, tyL, tyS, Option.isSome_some, Bool.and_self, beq_self_eq_true, Option.isSome, Bool.or_true, Bool.true_or, Bool.not_true, Bool.not_false, Bool.false_and, Bool.and_false, Bool.or_false, Bool.false_or, List.cons.injEq, reduceCtorEq, false_and, and_false, and_self, and_true, true_and, decide_true, decide_false, Nat.reduceLeDiff, LINE, hc, this]
  have i2 : ∀ (C K a2 a4 a6 : Option Val), sIf (eOr (eBin (kIsN false) (eV 5) (eC .non)) (eAnd (eBin (kIsN true) (eV 3) (eC .non)) (eBin kLt (eV 3) (eV 5)))) (sSet 5 (eV 3)) sNil [C, K, a2, some (.im (optD hi)), a4, some (.im (optD j.2)), a6] ce = .nx [C, K, a2, some (.im (optD hi)), a4, some (.im (optD (narHi j hi))), a6] ce := fun C K a2 a4 a6 => by
    unfold narHi
    cases hj : j.2 with
    | none => simp only [mkD, List.map_cons, List.map_nil, List.length_cons, List.length_nil, Nat.reduceAdd, Nat.reduceSub, List.replicate_succ, List.replicate_zero, List.cons_append, List.nil_append, sSeq, sSet, sRet, sExp, sDrop, sIf, sNil, sFor, eBin, eUn, eBind, eV, eC, eArgs, eAnd, eOr, eNot, eIf, eMth, eTru, kBool, List.getElem?_cons_zero, List.getElem?_cons_succ, List.set_cons_zero, List.set_cons_succ, if_true, if_false, ite_true, ite_false, Bool.false_eq_true, eq_self_iff_true, reduceIte, ims, Option.map_some, kTup, kLst, kLstC, kCall, List.all_cons, List.all_nil, plainV, Bool.and_true, Bool.true_and, iExp, iArgs, itS, itL, itT, gN, gT, gL, Option.bind_some, frz, ce_get, ce_get0, ce_set, ce_set0, ce_take, asL, asSq, asIm, truV, kTru, kAdd, kSub, kMod, kLen, kInt, kMin, kMax, kCmp, kIsB, tyL, tyS, Option.isSome_some, Bool.and_self, beq_self_eq_true, Option.isSome, Bool.or_true, Bool.true_or, Bool.not_true, Bool.not_false, Bool.false_and, Bool.and_false, Bool.or_false, Bool.false_or, List.cons.injEq, reduceCtorEq, false_and, and_false, and_self, and_true, true_and, decide_true, decide_false, Nat.reduceLeDiff, LINE, isN_opt, Option.isNone]
    | some m =>
      cases hi with
      | none => simp only [mkD, List.map_cons, List.map_nil, List.length_cons, List.length_nil, Nat.reduceAdd, Nat.reduceSub, List.replicate_succ, List.replicate_zero, List.cons_append, List.nil_append, sSeq, sSet, sRet, sExp, sDrop, sIf, sNil, sFor, eBin, eUn, eBind, eV, eC, eArgs, eAnd, eOr, eNot, eIf, eMth, eTru, kBool, List.getElem?_cons_zero, List.getElem?_cons_succ, List.set_cons_zero, List.set_cons_succ, if_true, if_false, ite_true, ite_false, Bool.false_eq_true, eq_self_iff_true, reduceIte, ims, Option.map_some, kTup, kLst, kLstC, kCall, List.all_cons, List.all_nil, plainV, Bool.and_true, Bool.true_and, iExp, iArgs, itS, itL, itT, gN, gT, gL, Option.bind_some, frz, ce_get, ce_get0, ce_set, ce_set0, ce_take, asL, asSq, asIm, truV, kTru, kAdd, kSub, kMod, kLen, kInt, kMin, kMax, kCmp, kIsB, tyL, tyS, Option.isSome_some, Bool.and_self, beq_self_eq_true, Option.isSome, Bool.or_true, Bool.true_or, Bool.not_true, Bool.not_false, Bool.false_and, Bool.and_false, Bool.or_false, Bool.false_or, List.cons.injEq, reduceCtorEq, false_and, and_false, and_self, and_true, true_and, decide_true, decide_false, Nat.reduceLeDiff, LINE, isN_opt, notN_opt, Option.isNone, Option.isSome]
      | some x =>
        have lt : kLt (.im (optD (some x))) (.im (optD (some m))) [C, K, a2, some (.im (optD (some x))), a4, some (.im (optD (some m))), a6] ce = .ok (.im (.bl (decide (x < m)))) ce := rfl
        by_cases hc : x < m
        · rw [decide_eq_true hc] at lt
          simp only [mkD, List.map_cons, List.map_nil, List.length_cons, List.length_nil, Nat.reduceAdd, Nat.reduceSub, List.replicate_succ, List.replicate_zero, List.cons_append, List.nil_append, sSeq, sSet, sRet, sExp, sDrop, sIf, sNil, sFor, eBin, eUn, eBind, eV, eC, eArgs, eAnd, eOr, eNot, eIf, eMth, eTru, kBool, List.getElem?_cons_zero, List.getElem?_cons_succ, List.set_cons_zero, List.set_cons_succ, if_true, if_false, ite_true, ite_false, Bool.false_eq_true, eq_self_iff_true, reduceIte, ims, Option.map_some, kTup, kLst, kLstC, kCall, List.all_cons, List.all_nil, plainV, Bool.and_true, Bool.true_and, iExp, iArgs, itS, itL, itT, gN, gT, gL, Option.bind_some, frz, ce_get, ce_get0, ce_set, ce_set0, ce_take, asL, asSq, asIm, truV, kTru, kAdd, kSub, kMod, kLen, kInt, kMin, kMax, kCmp, kIsB, tyL, tyS, Option.isSome_some, Bool.and_self, beq_self_eq_true, Option.isSome, Bool.or_true, Bool.true_or, Bool.not_true, Bool.not_false, Bool.false_and, Bool.and_false, Bool.or_false, Bool.false_or, List.cons.injEq, reduceCtorEq, false_and, and_false, and_self, and_true, true_and, decide_true, decide_false, Nat.reduceLeDiff, LINE, isN_opt, notN_opt, Option.isNone, lt, hc]
        · rw [decide_eq_false hc] at lt
          simp only [mkD, List.map_cons, List.map_nil, List.length_cons, List.length_nil, Nat.reduceAdd, Nat.reduceSub, List.replicate_succ, List.replicate_zero, List.cons_append, List.nil_append, sSeq, sSet, sRet, sExp, sDrop, sIf, sNil, sFor, eBin, eUn, eBind, eV, eC, eArgs, eAnd, eOr, eNot, eIf, eMth, eTru, kBool, List.getElem?_cons_zero, List.getElem?_cons_succ, List.set_cons_zero, List.set_cons_succ, if_true, if_false, ite_true, ite_false, Bool.false_eq_true, eq_self_iff_true, reduceIte, ims, Option.map_some, kTup, kLst, kLstC, kCall, List.all_cons, List.all_nil, plainV, Bool.and_true, Bool.true_and, iExp, iArgs, itS, itL, itT, gN, gT, gL, Option.bind_some, frz, ce_get, ce_get0, ce_set, ce_set0, ce_take, asL, asSq, asIm, truV, kTru, kAdd, kSub, kMod, kLen, kInt, kMin, kMax, kCmp, kIsB, tyL, tyS, Option.isSome_some, Bool.and_self, beq_self_eq_true, Option.isSome, Bool.or_true, Bool.true_or, Bool.not_true, Bool.not_false, Bool.false_and, Bool.and_false, Bool.or_false, Bool.false_or, List.cons.injEq, reduceCtorEq, false_and, and_false, and_self, and_true, true_and, decide_true, decide_false, Nat.reduceLeDiff, LINE, isN_opt, notN_opt, Option.isNone, lt, hc]
  have i3 : ∀ (C a2 a3 a6 : Option Val), sIf (eAnd (eBin (kIsN true) (eV 5) (eC .non)) (eBin kLt (eV 5) (eV 4))) (sRaise e_BadJoint [(eV 1)]) sNil [C, some (.im (.int (k : Nat))), a2, a3, some (.im (.int (max j.1 lo))), some (.im (optD (narHi j hi))), a6] ce =
      if ltO (narHi j hi) (max j.1 lo) = true then .exc e_BadJoint [.int (k : Nat)] [C, some (.im (.int (k : Nat))), a2, a3, some (.im (.int (max j.1 lo))), some (.im (optD (narHi j hi))), a6] ce else .nx [C, some (.im (.int (k : Nat))), a2, a3, some (.im (.int (max j.1 lo))), some (.im (optD (narHi j hi))), a6] ce := fun C a2 a3 a6 => by
    cases hn : narHi j hi with
    | none => simp only [mkD, List.map_cons, List.map_nil, List.length_cons, List.length_nil, Nat.reduceAdd, Nat.reduceSub, List.replicate_succ, List.replicate_zero, List.cons_append, List.nil_append, sSeq, sSet, sRet, sExp, sDrop, sIf, sNil, sFor, eBin, eUn, eBind, eV, eC, eArgs, eAnd, eOr, eNot, eIf, eMth, eTru, kBool, List.getElem?_cons_zero, List.getElem?_cons_succ, List.set_cons_zero, List.set_cons_succ, if_true, if_false, ite_true, ite_false, Bool.false_eq_true, eq_self_iff_true, reduceIte, ims, Option.map_some, kTup, kLst, kLstC, kCall, List.all_cons, List.all_nil, plainV, Bool.and_true, Bool.true_and, iExp, iArgs, itS, itL, itT, gN, gT, gL, Option.bind_some, frz, ce_get, ce_get0, ce_set, ce_set0, ce_take, asL, asSq, asIm, truV, kTru, kAdd, kSub, kMod, kLen, kInt, kMin, kMax, kCmp, kIsB, tyL, tyS, Option.isSome_some, Bool.and_self, beq_self_eq_true, Option.isSome, Bool.or_true, Bool.true_or, Bool.not_true, Bool.not_false, Bool.false_and, Bool.and_false, Bool.or_false, Bool.false_or, List.cons.injEq, reduceCtorEq, false_and, and_false, and_self, and_true, true_and, decide_true, decide_false, Nat.reduceLeDiff, LINE, notN_opt, ltO]
    | some m =>
      have lt : kLt (.im (optD (some m))) (.im (.int (max j.1 lo))) [C, some (.im (.int (k : Nat))), a2, a3, some (.im (.int (max j.1 lo))), some (.im (optD (some m))), a6] ce = .ok (.im (.bl (decide (m < max j.1 lo)))) ce := rfl
      by_cases hc : m < max j.1 lo
      · rw [decide_eq_true hc] at lt
        have lq : ltO (some m) (max j.1 lo) = true := decide_eq_true hc
        simp only [mkD, List.map_cons, List.map_nil, List.length_cons, List.length_nil, Nat.reduceAdd, Nat.reduceSub, List.replicate_succ, List.replicate_zero, List.cons_append, List.nil_append, sSeq, sSet, sRet, sExp, sDrop, sIf, sNil, sFor, eBin, eUn, eBind, eV, eC, eArgs, eAnd, eOr, eNot, eIf, eMth, eTru, kBool, List.getElem?_cons_zero, List.getElem?_cons_succ, List.set_cons_zero, List.set_cons_succ, if_true, if_false, ite_true, ite_false, Bool.false_eq_true, eq_self_iff_true, reduceIte, ims, Option.map_some, kTup, kLst, kLstC, kCall, List.all_cons, List.all_nil, plainV, Bool.and_true, Bool.true_and, iExp, iArgs, itS, itL, itT, gN, gT, gL, Option.bind_some, frz, ce_get, ce_get0, ce_set, ce_set0, ce_take, asL, asSq, asIm, truV, kTru, kAdd, kSub, kMod, kLen, kInt, kMin, kMax, kCmp, kIsB, tyL, tyS, Option.isSome_some, Bool.and_self, beq_self_eq_true, Option.isSome, Bool.or_true, Bool.true_or, Bool.not_true, Bool.not_false, Bool.false_and, Bool.and_false, Bool.or_false, Bool.false_or, List.cons.injEq, reduceCtorEq, false_and, and_false, and_self, and_true, true_and, decide_true, decide_false, Nat.reduceLeDiff, LINE, notN_opt, lt, lq, sRaise, sArgs]
        rfl
      · rw [decide_eq_false hc] at lt
        have lq : ltO (some m) (max j.1 lo) = false := decide_eq_false hc
        simp only [mkD, List.map_cons, List.map_nil, List.length_cons, List.length_nil, Nat.reduceAdd, Nat.reduceSub, List.replicate_succ, List.replicate_zero, List.cons_append, List.nil_append, sSeq, sSet, sRet, sExp, sDrop, sIf, sNil, sFor, eBin, eUn, eBind, eV, eC, eArgs, eAnd, eOr, eNot, eIf, eMth, eTru, kBool, List.getElem?_cons_zero, List.getElem?_cons_succ, List.set_cons_zero, List.set_cons_succ, if_true, if_false, ite_true, ite_false, Bool.false_eq_true, eq_self_iff_true, reduceIte, ims, Option.map_some, kTup, kLst, kLstC, kCall, List.all_cons, List.all_nil, plainV, Bool.and_true, Bool.true_and, iExp, iArgs, itS, itL, itT, gN, gT, gL, Option.bind_some, frz, ce_get, ce_get0, ce_set, ce_set0, ce_take, asL, asSq, asIm, truV, kTru, kAdd, kSub, kMod, kLen, kInt, kMin, kMax, kCmp, kIsB, tyL, tyS, Option.isSome_some, Bool.and_self, beq_self_eq_true, Option.isSome, Bool.or_true, Bool.true_or, Bool.not_true, Bool.not_false, Bool.false_and, Bool.and_false, Bool.or_false, Bool.false_or, List.cons.injEq, reduceCtorEq, false_and, and_false, and_self, and_true, true_and, decide_true, decide_false, Nat.reduceLeDiff, LINE, notN_opt, lt, lq]
  have gj : ∀ D0 (sl : Sl), gT [gN 4, gN 5] (jntD D0) sl = some ((sl.set 4 (some (.im (.int D0.1)))).set 5 (some (.im (optD D0.2)))) := fun D0 sl => rfl
  have kl' : ∀ sl, kListC [.im (jntsD js)] sl ce = .ok (.cell ce.length) (ce ++ [.lst (js.map jntD)]) := fun sl => rfl
  unfold f_Core_narrowed b_Core_narrowed
  generalize sIf (eBin kGt (eV 2) (eV 4)) (sSet 4 (eV 2)) sNil = I1 at i1 ⊢
  generalize sIf (eOr (eBin (kIsN false) (eV 5) (eC .non)) (eAnd (eBin (kIsN true) (eV 3) (eC .non)) (eBin kLt (eV 3) (eV 5)))) (sSet 5 (eV 3)) sNil = I2 at i2 ⊢
  generalize sIf (eAnd (eBin (kIsN true) (eV 5) (eC .non)) (eBin kLt (eV 5) (eV 4))) (sRaise e_BadJoint [(eV 1)]) sNil = I3 at i3 ⊢
  unfold narrow
  by_cases hc : ltO (narHi j hi) (max j.1 lo) = true
  · rw [if_pos hc]
    simp only [hc, if_true] at i3
    simp only [mkD, List.map_cons, List.map_nil, List.length_cons, List.length_nil, Nat.reduceAdd, Nat.reduceSub, List.replicate_succ, List.replicate_zero, List.cons_append, List.nil_append, sSeq, sSet, sRet, sExp, sDrop, sIf, sNil, sFor, eBin, eUn, eBind, eV, eC, eArgs, eAnd, eOr, eNot, eIf, eMth, eTru, kBool, List.getElem?_cons_zero, List.getElem?_cons_succ, List.set_cons_zero, List.set_cons_succ, if_true, if_false, ite_true, ite_false, Bool.false_eq_true, eq_self_iff_true, reduceIte, ims, Option.map_some, kTup, kLst, kLstC, kCall, List.all_cons, List.all_nil, plainV, Bool.and_true, Bool.true_and, iExp, iArgs, itS, itL, itT, Option.bind_some, frz, ce_get, ce_get0, ce_set, ce_set0, ce_take, asL, asSq, asIm, truV, kTru, kAdd, kSub, kMod, kLen, kInt, kMin, kMax, kCmp, kIsB, tyL, tyS, Option.isSome_some, Bool.and_self, beq_self_eq_true, Option.isSome, Bool.or_true, Bool.true_or, Bool.not_true, Bool.not_false, Bool.false_and, Bool.and_false, Bool.or_false, Bool.false_or, List.cons.injEq, reduceCtorEq, false_and, and_false, and_self, and_true, true_and, decide_true, decide_false, Nat.reduceLeDiff, LINE, sAsg, isC_c, kMeth, cj, gj, i1, i2, i3, finD, List.take_length]
  · rw [if_neg hc]
    have ok : OkC ls (js.set k (max j.1 lo, narHi j hi)) := okC_set h (narrow_ok (h.j j (List.mem_of_getElem? hk)) (show narrow j lo hi = some (max j.1 lo, narHi j hi) by unfold narrow; rw [if_neg hc]))
    have mk := fun sl ce => m_cmake (sl := sl) (ce := ce) ok
    have st := setIx_ok (fo := eV 6) (fi := eV 1) (fv := eArgs [(eV 4), (eV 5)] kTup) (sl := [some (.im (coreD ls js)), some (.im (.int (k : Nat))), some (.im (.int lo)), some (.im (optD hi)), some (.im (.int (max j.1 lo))), some (.im (optD (narHi j hi))), some (.cell ce.length)]) (ce := ce ++ [.lst (js.map jntD)]) (n := ce.length) (k := k) (ds := js.map jntD) (d := jntD (max j.1 lo, narHi j hi))
      (by simp only [mkD, List.map_cons, List.map_nil, List.length_cons, List.length_nil, Nat.reduceAdd, Nat.reduceSub, List.replicate_succ, List.replicate_zero, List.cons_append, List.nil_append, sSeq, sSet, sRet, sExp, sDrop, sIf, sNil, sFor, eBin, eUn, eBind, eV, eC, eArgs, eAnd, eOr, eNot, eIf, eMth, eTru, kBool, List.getElem?_cons_zero, List.getElem?_cons_succ, List.set_cons_zero, List.set_cons_succ, if_true, if_false, ite_true, ite_false, Bool.false_eq_true, eq_self_iff_true, reduceIte, ims, Option.map_some, kTup, kLst, kLstC, kCall, List.all_cons, List.all_nil, plainV, Bool.and_true, Bool.true_and, iExp, iArgs, itS, itL, itT, gN, gT, gL, Option.bind_some, frz, ce_get, ce_get0, ce_set, ce_set0, ce_take, asL, asSq, asIm, truV, kTru, kAdd, kSub, kMod, kLen, kInt, kMin, kMax, kCmp, kIsB, tyL, tyS, Option.isSome_some, Bool.and_self, beq_self_eq_true, Option.isSome, Bool.or_true, Bool.true_or, Bool.not_true, Bool.not_false, Bool.false_and, Bool.and_false, Bool.or_false, Bool.false_or, List.cons.injEq, reduceCtorEq, false_and, and_false, and_self, and_true, true_and, decide_true, decide_false, Nat.reduceLeDiff, LINE]; rfl) (by simp only [mkD, List.map_cons, List.map_nil, List.length_cons, List.length_nil, Nat.reduceAdd, Nat.reduceSub, List.replicate_succ, List.replicate_zero, List.cons_append, List.nil_append, sSeq, sSet, sRet, sExp, sDrop, sIf, sNil, sFor, eBin, eUn, eBind, eV, eC, eArgs, eAnd, eOr, eNot, eIf, eMth, eTru, kBool, List.getElem?_cons_zero, List.getElem?_cons_succ, List.set_cons_zero, List.set_cons_succ, if_true, if_false, ite_true, ite_false, Bool.false_eq_true, eq_self_iff_true, reduceIte, ims, Option.map_some, kTup, kLst, kLstC, kCall, List.all_cons, List.all_nil, plainV, Bool.and_true, Bool.true_and, iExp, iArgs, itS, itL, itT, gN, gT, gL, Option.bind_some, frz, ce_get, ce_get0, ce_set, ce_set0, ce_take, asL, asSq, asIm, truV, kTru, kAdd, kSub, kMod, kLen, kInt, kMin, kMax, kCmp, kIsB, tyL, tyS, Option.isSome_some, Bool.and_self, beq_self_eq_true, Option.isSome, Bool.or_true, Bool.true_or, Bool.not_true, Bool.not_false, Bool.false_and, Bool.and_false, Bool.or_false, Bool.false_or, List.cons.injEq, reduceCtorEq, false_and, and_false, and_self, and_true, true_and, decide_true, decide_false, Nat.reduceLeDiff, LINE]) (by simp only [mkD, List.map_cons, List.map_nil, List.length_cons, List.length_nil, Nat.reduceAdd, Nat.reduceSub, List.replicate_succ, List.replicate_zero, List.cons_append, List.nil_append, sSeq, sSet, sRet, sExp, sDrop, sIf, sNil, sFor, eBin, eUn, eBind, eV, eC, eArgs, eAnd, eOr, eNot, eIf, eMth, eTru, kBool, List.getElem?_cons_zero, List.getElem?_cons_succ, List.set_cons_zero, List.set_cons_succ, if_true, if_false, ite_true, ite_false, Bool.false_eq_true, eq_self_iff_true, reduceIte, ims, Option.map_some, kTup, kLst, kLstC, kCall, List.all_cons, List.all_nil, plainV, Bool.and_true, Bool.true_and, iExp, iArgs, itS, itL, itT, gN, gT, gL, Option.bind_some, frz, ce_get, ce_get0, ce_set, ce_set0, ce_take, asL, asSq, asIm, truV, kTru, kAdd, kSub, kMod, kLen, kInt, kMin, kMax, kCmp, kIsB, tyL, tyS, Option.isSome_some, Bool.and_self, beq_self_eq_true, Option.isSome, Bool.or_true, Bool.true_or, Bool.not_true, Bool.not_false, Bool.false_and, Bool.and_false, Bool.or_false, Bool.false_or, List.cons.injEq, reduceCtorEq, false_and, and_false, and_self, and_true, true_and, decide_true, decide_false, Nat.reduceLeDiff, LINE]) (by rw [ce_get0]; rfl) (by rw [List.length_map]; exact kl)
    rw [ce_set0, ← List.map_set] at st
    have fd : D.lst ((js.set k (max j.1 lo, narHi j hi)).map jntD) = jntsD (js.set k (max j.1 lo, narHi j hi)) := rfl
    simp only [eArgs, eBind, List.set_cons_zero] at st
    have i3' := fun C a2 a3 a6 => (i3 C a2 a3 a6).trans (if_neg hc)
    simp only [mkD, List.map_cons, List.map_nil, List.length_cons, List.length_nil, Nat.reduceAdd, Nat.reduceSub, List.replicate_succ, List.replicate_zero, List.cons_append, List.nil_append, sSeq, sSet, sRet, sExp, sDrop, sIf, sNil, sFor, eBin, eUn, eBind, eV, eC, eArgs, eAnd, eOr, eNot, eIf, eMth, eTru, kBool, List.getElem?_cons_zero, List.getElem?_cons_succ, List.set_cons_zero, List.set_cons_succ, if_true, if_false, ite_true, ite_false, Bool.false_eq_true, eq_self_iff_true, reduceIte, ims, Option.map_some, kTup, kLst, kLstC, kCall, List.all_cons, List.all_nil, plainV, Bool.and_true, Bool.true_and, iExp, iArgs, itS, itL, itT, Option.bind_some, frz, ce_get, ce_get0, ce_set, ce_set0, ce_take, asL, asSq, asIm, truV, kTru, kAdd, kSub, kMod, kLen, kInt, kMin, kMax, kCmp, kIsB, tyL, tyS, Option.isSome_some, Bool.and_self, beq_self_eq_true, Option.isSome, Bool.or_true, Bool.true_or, Bool.not_true, Bool.not_false, Bool.false_and, Bool.and_false, Bool.or_false, Bool.false_or, List.cons.injEq, reduceCtorEq, false_and, and_false, and_self, and_true, true_and, decide_true, decide_false, Nat.reduceLeDiff, LINE, sAsg, isC_c, kMeth, cj, gj, i1, i2, i3', cfld1, cfld0, kl', st, frz, fd, mk, finD, List.length_append, List.length_singleton, List.take_left']
end

end ZZ

set_option Elab.async false
set_option linter.all false
set_option maxRecDepth 100000
set_option maxHeartbeats 4000000
namespace ZZ
open PySem PySem.Spec L2
section
variable {ls : List Lay} {js : List Jnt} {sl : Sl} {ce : List Cell} {l : Lay} {j : Jnt}
def loS (s : Nat) (lo : Int) : Int := if s = 0 ∨ s = 2 then 0 else lo
def hiS (s : Nat) (hi : Option Int) : Option Int := if s < 2 then none else hi
theorem z0 : ((0 : Nat) : Int) = 0 := rfl
theorem z1 : ((1 : Nat) : Int) = 1 := rfl
theorem z2 : ((2 : Nat) : Int) = 2 := rfl
theorem z3 : ((3 : Nat) : Int) = 3 := rfl
theorem case4 {s : Nat} (h : s < 4) : s = 0 ∨ s = 1 ∨ s = 2 ∨ s = 3 := by omega
theorem eq_ii (a b : Int) : kEq (.im (.int a)) (.im (.int b)) sl ce = .ok (.im (.bl (decide (a = b)))) ce := by
  show kEqG false _ _ sl ce = _
  rw [eq_int]
  rfl
theorem eq_bj : kEq (.im (.str "bad joint")) (.im (.str "bad joint")) sl ce = .ok (.im (.bl true)) ce := by
  show kEqG false _ _ sl ce = _
  rw [eq_str (by decide +kernel) (by decide +kernel)]
  simp
theorem eq_nj : kEq (.im (.str "no joint")) (.im (.str "no joint")) sl ce = .ok (.im (.bl true)) ce := by
  show kEqG false _ _ sl ce = _
  rw [eq_str (by decide +kernel) (by decide +kernel)]
  simp
theorem c_ok {s : Nat} (hs : s < 4) {C : D} (hC : ∀ ce, isC c_Core ce (.im C) = true) {a lo : Int} {hi : Option Int} {d : D} (h : ∀ ce, f_Core_narrowed [.im C, .im (.int a), .im (.int (loS s lo)), .im (optD (hiS s hi))] ce = .ok (.im d) ce) : f__law_call [.im C, .im (.int a), .im (.int lo), .im (optD hi), .im (.int s)] ce = .ok (.im d) ce := by
  have e (x y : Int) : ∀ sl ce, kEq (.im (.int x)) (.im (.int y)) sl ce = .ok (.im (.bl (decide (x = y)))) ce := fun sl ce => eq_ii x y
  unfold f__law_call b__law_call
  rcases case4 hs with rfl | rfl | rfl | rfl
  · have h : ∀ ce, f_Core_narrowed [.im C, .im (.int a), .im (.int 0), .im .non] ce = .ok (.im d) ce := h
    simp only [mkD, List.map_cons, List.map_nil, List.length_cons, List.length_nil, Nat.reduceAdd, Nat.reduceSub, List.replicate_succ, List.replicate_zero, List.cons_append, List.nil_append, sSeq, sSet, sRet, sExp, sDrop, sIf, sNil, sFor, eBin, eUn, eBind, eV, eC, eArgs, eAnd, eOr, eNot, eIf, eMth, eTru, kBool, List.getElem?_cons_zero, List.getElem?_cons_succ, List.set_cons_zero, List.set_cons_succ, if_true, if_false, ite_true, ite_false, Bool.false_eq_true, eq_self_iff_true, reduceIte, ims, Option.map_some, kTup, kLst, kLstC, kCall, List.all_cons, List.all_nil, plainV, Bool.and_true, Bool.true_and, iExp, iArgs, itS, itL, itT, gN, gT, gL, Option.bind_some, frz, ce_get, ce_get0, ce_set, ce_set0, ce_take, asL, asSq, asIm, truV, kTru, kAdd, kSub, kMod, kLen, kInt, kMin, kMax, kCmp, kIsB, tyL, tyS, Option.isSome_some, Bool.and_self, beq_self_eq_true, Option.isSome, Bool.or_true, Bool.true_or, Bool.not_true, Bool.not_false, Bool.false_and, Bool.and_false, Bool.or_false, Bool.false_or, List.cons.injEq, reduceCtorEq, false_and, and_false, and_self, and_true, true_and, decide_true, decide_false, Nat.reduceLeDiff, LINE, eMthK, hC, e, h, G_Core_narrowed_1, gK0, Int.reduceEq, z0, z1, z2, z3, finD, List.take_length]
  · have h : ∀ ce, f_Core_narrowed [.im C, .im (.int a), .im (.int lo), .im .non] ce = .ok (.im d) ce := h
    simp only [mkD, List.map_cons, List.map_nil, List.length_cons, List.length_nil, Nat.reduceAdd, Nat.reduceSub, List.replicate_succ, List.replicate_zero, List.cons_append, List.nil_append, sSeq, sSet, sRet, sExp, sDrop, sIf, sNil, sFor, eBin, eUn, eBind, eV, eC, eArgs, eAnd, eOr, eNot, eIf, eMth, eTru, kBool, List.getElem?_cons_zero, List.getElem?_cons_succ, List.set_cons_zero, List.set_cons_succ, if_true, if_false, ite_true, ite_false, Bool.false_eq_true, eq_self_iff_true, reduceIte, ims, Option.map_some, kTup, kLst, kLstC, kCall, List.all_cons, List.all_nil, plainV, Bool.and_true, Bool.true_and, iExp, iArgs, itS, itL, itT, gN, gT, gL, Option.bind_some, frz, ce_get, ce_get0, ce_set, ce_set0, ce_take, asL, asSq, asIm, truV, kTru, kAdd, kSub, kMod, kLen, kInt, kMin, kMax, kCmp, kIsB, tyL, tyS, Option.isSome_some, Bool.and_self, beq_self_eq_true, Option.isSome, Bool.or_true, Bool.true_or, Bool.not_true, Bool.not_false, Bool.false_and, Bool.and_false, Bool.or_false, Bool.false_or, List.cons.injEq, reduceCtorEq, false_and, and_false, and_self, and_true, true_and, decide_true, decide_false, Nat.reduceLeDiff, LINE, eMthK, hC, e, h, G_Core_narrowed_1_least, gKa, Int.reduceEq, z0, z1, z2, z3, finD, List.take_length]
  · have h : ∀ ce, f_Core_narrowed [.im C, .im (.int a), .im (.int 0), .im (optD hi)] ce = .ok (.im d) ce := h
    simp only [mkD, List.map_cons, List.map_nil, List.length_cons, List.length_nil, Nat.reduceAdd, Nat.reduceSub, List.replicate_succ, List.replicate_zero, List.cons_append, List.nil_append, sSeq, sSet, sRet, sExp, sDrop, sIf, sNil, sFor, eBin, eUn, eBind, eV, eC, eArgs, eAnd, eOr, eNot, eIf, eMth, eTru, kBool, List.getElem?_cons_zero, List.getElem?_cons_succ, List.set_cons_zero, List.set_cons_succ, if_true, if_false, ite_true, ite_false, Bool.false_eq_true, eq_self_iff_true, reduceIte, ims, Option.map_some, kTup, kLst, kLstC, kCall, List.all_cons, List.all_nil, plainV, Bool.and_true, Bool.true_and, iExp, iArgs, itS, itL, itT, gN, gT, gL, Option.bind_some, frz, ce_get, ce_get0, ce_set, ce_set0, ce_take, asL, asSq, asIm, truV, kTru, kAdd, kSub, kMod, kLen, kInt, kMin, kMax, kCmp, kIsB, tyL, tyS, Option.isSome_some, Bool.and_self, beq_self_eq_true, Option.isSome, Bool.or_true, Bool.true_or, Bool.not_true, Bool.not_false, Bool.false_and, Bool.and_false, Bool.or_false, Bool.false_or, List.cons.injEq, reduceCtorEq, false_and, and_false, and_self, and_true, true_and, decide_true, decide_false, Nat.reduceLeDiff, LINE, eMthK, hC, e, h, G_Core_narrowed_1_most, gKb, Int.reduceEq, z0, z1, z2, z3, finD, List.take_length]
  · have h : ∀ ce, f_Core_narrowed [.im C, .im (.int a), .im (.int lo), .im (optD hi)] ce = .ok (.im d) ce := h
    simp only [mkD, List.map_cons, List.map_nil, List.length_cons, List.length_nil, Nat.reduceAdd, Nat.reduceSub, List.replicate_succ, List.replicate_zero, List.cons_append, List.nil_append, sSeq, sSet, sRet, sExp, sDrop, sIf, sNil, sFor, eBin, eUn, eBind, eV, eC, eArgs, eAnd, eOr, eNot, eIf, eMth, eTru, kBool, List.getElem?_cons_zero, List.getElem?_cons_succ, List.set_cons_zero, List.set_cons_succ, if_true, if_false, ite_true, ite_false, Bool.false_eq_true, eq_self_iff_true, reduceIte, ims, Option.map_some, kTup, kLst, kLstC, kCall, List.all_cons, List.all_nil, plainV, Bool.and_true, Bool.true_and, iExp, iArgs, itS, itL, itT, gN, gT, gL, Option.bind_some, frz, ce_get, ce_get0, ce_set, ce_set0, ce_take, asL, asSq, asIm, truV, kTru, kAdd, kSub, kMod, kLen, kInt, kMin, kMax, kCmp, kIsB, tyL, tyS, Option.isSome_some, Bool.and_self, beq_self_eq_true, Option.isSome, Bool.or_true, Bool.true_or, Bool.not_true, Bool.not_false, Bool.false_and, Bool.and_false, Bool.or_false, Bool.false_or, List.cons.injEq, reduceCtorEq, false_and, and_false, and_self, and_true, true_and, decide_true, decide_false, Nat.reduceLeDiff, LINE, eMthK, hC, e, h, G_Core_narrowed_1_most_least, gRev, List.reverse_cons, List.reverse_nil, Int.reduceEq, z0, z1, z2, z3, finD, List.take_length]
theorem c_exc {s : Nat} (hs : s < 4) {C : D} (hC : ∀ ce, isC c_Core ce (.im C) = true) {a lo : Int} {hi : Option Int} {c : Nat} {es : List D} (h : ∀ ce, f_Core_narrowed [.im C, .im (.int a), .im (.int (loS s lo)), .im (optD (hiS s hi))] ce = .exc c es ce) : f__law_call [.im C, .im (.int a), .im (.int lo), .im (optD hi), .im (.int s)] ce = .exc c es ce := by
  have e (x y : Int) : ∀ sl ce, kEq (.im (.int x)) (.im (.int y)) sl ce = .ok (.im (.bl (decide (x = y)))) ce := fun sl ce => eq_ii x y
  unfold f__law_call b__law_call
  rcases case4 hs with rfl | rfl | rfl | rfl
  · have h : ∀ ce, f_Core_narrowed [.im C, .im (.int a), .im (.int 0), .im .non] ce = .exc c es ce := h
    simp only [mkD, List.map_cons, List.map_nil, List.length_cons, List.length_nil, Nat.reduceAdd, Nat.reduceSub, List.replicate_succ, List.replicate_zero, List.cons_append, List.nil_append, sSeq, sSet, sRet, sExp, sDrop, sIf, sNil, sFor, eBin, eUn, eBind, eV, eC, eArgs, eAnd, eOr, eNot, eIf, eMth, eTru, kBool, List.getElem?_cons_zero, List.getElem?_cons_succ, List.set_cons_zero, List.set_cons_succ, if_true, if_false, ite_true, ite_false, Bool.false_eq_true, eq_self_iff_true, reduceIte, ims, Option.map_some, kTup, kLst, kLstC, kCall, List.all_cons, List.all_nil, plainV, Bool.and_true, Bool.true_and, iExp, iArgs, itS, itL, itT, gN, gT, gL, Option.bind_some, frz, ce_get, ce_get0, ce_set, ce_set0, ce_take, asL, asSq, asIm, truV, kTru, kAdd, kSub, kMod, kLen, kInt, kMin, kMax, kCmp, kIsB, tyL, tyS, Option.isSome_some, Bool.and_self, beq_self_eq_true, Option.isSome, Bool.or_true, Bool.true_or, Bool.not_true, Bool.not_false, Bool.false_and, Bool.and_false, Bool.or_false, Bool.false_or, List.cons.injEq, reduceCtorEq, false_and, and_false, and_self, and_true, true_and, decide_true, decide_false, Nat.reduceLeDiff, LINE, eMthK, hC, e, h, G_Core_narrowed_1, gK0, Int.reduceEq, z0, z1, z2, z3, finD, List.take_length]
  · have h : ∀ ce, f_Core_narrowed [.im C, .im (.int a), .im (.int lo), .im .non] ce = .exc c es ce := h
    simp only [mkD, List.map_cons, List.map_nil, List.length_cons, List.length_nil, Nat.reduceAdd, Nat.reduceSub, List.replicate_succ, List.replicate_zero, List.cons_append, List.nil_append, sSeq, sSet, sRet, sExp, sDrop, sIf, sNil, sFor, eBin, eUn, eBind, eV, eC, eArgs, eAnd, eOr, eNot, eIf, eMth, eTru, kBool, List.getElem?_cons_zero, List.getElem?_cons_succ, List.set_cons_zero, List.set_cons_succ, if_true, if_false, ite_true, ite_false, Bool.false_eq_true, eq_self_iff_true, reduceIte, ims, Option.map_some, kTup, kLst, kLstC, kCall, List.all_cons, List.all_nil, plainV, Bool.and_true, Bool.true_and, iExp, iArgs, itS, itL, itT, gN, gT, gL, Option.bind_some, frz, ce_get, ce_get0, ce_set, ce_set0, ce_take, asL, asSq, asIm, truV, kTru, kAdd, kSub, kMod, kLen, kInt, kMin, kMax, kCmp, kIsB, tyL, tyS, Option.isSome_some, Bool.and_self, beq_self_eq_true, Option.isSome, Bool.or_true, Bool.true_or, Bool.not_true, Bool.not_false, Bool.false_and, Bool.and_false, Bool.or_false, Bool.false_or, List.cons.injEq, reduceCtorEq, false_and, and_false, and_self, and_true, true_and, decide_true, decide_false, Nat.reduceLeDiff, LINE, eMthK, hC, e, h, G_Core_narrowed_1_least, gKa, Int.reduceEq, z0, z1, z2, z3, finD, List.take_length]
  · have h : ∀ ce, f_Core_narrowed [.im C, .im (.int a), .im (.int 0), .im (optD hi)] ce = .exc c es ce := h
    simp only [mkD, List.map_cons, List.map_nil, List.length_cons, List.length_nil, Nat.reduceAdd, Nat.reduceSub, List.replicate_succ, List.replicate_zero, List.cons_append, List.nil_append, sSeq, sSet, sRet, sExp, sDrop, sIf, sNil, sFor, eBin, eUn, eBind, eV, eC, eArgs, eAnd, eOr, eNot, eIf, eMth, eTru, kBool, List.getElem?_cons_zero, List.getElem?_cons_succ, List.set_cons_zero, List.set_cons_succ, if_true, if_false, ite_true, ite_false, Bool.false_eq_true, eq_self_iff_true, reduceIte, ims, Option.map_some, kTup, kLst, kLstC, kCall, List.all_cons, List.all_nil, plainV, Bool.and_true, Bool.true_and, iExp, iArgs, itS, itL, itT, gN, gT, gL, Option.bind_some, frz, ce_get, ce_get0, ce_set, ce_set0, ce_take, asL, asSq, asIm, truV, kTru, kAdd, kSub, kMod, kLen, kInt, kMin, kMax, kCmp, kIsB, tyL, tyS, Option.isSome_some, Bool.and_self, beq_self_eq_true, Option.isSome, Bool.or_true, Bool.true_or, Bool.not_true, Bool.not_false, Bool.false_and, Bool.and_false, Bool.or_false, Bool.false_or, List.cons.injEq, reduceCtorEq, false_and, and_false, and_self, and_true, true_and, decide_true, decide_false, Nat.reduceLeDiff, LINE, eMthK, hC, e, h, G_Core_narrowed_1_most, gKb, Int.reduceEq, z0, z1, z2, z3, finD, List.take_length]
  · have h : ∀ ce, f_Core_narrowed [.im C, .im (.int a), .im (.int lo), .im (optD hi)] ce = .exc c es ce := h
    simp only [mkD, List.map_cons, List.map_nil, List.length_cons, List.length_nil, Nat.reduceAdd, Nat.reduceSub, List.replicate_succ, List.replicate_zero, List.cons_append, List.nil_append, sSeq, sSet, sRet, sExp, sDrop, sIf, sNil, sFor, eBin, eUn, eBind, eV, eC, eArgs, eAnd, eOr, eNot, eIf, eMth, eTru, kBool, List.getElem?_cons_zero, List.getElem?_cons_succ, List.set_cons_zero, List.set_cons_succ, if_true, if_false, ite_true, ite_false, Bool.false_eq_true, eq_self_iff_true, reduceIte, ims, Option.map_some, kTup, kLst, kLstC, kCall, List.all_cons, List.all_nil, plainV, Bool.and_true, Bool.true_and, iExp, iArgs, itS, itL, itT, gN, gT, gL, Option.bind_some, frz, ce_get, ce_get0, ce_set, ce_set0, ce_take, asL, asSq, asIm, truV, kTru, kAdd, kSub, kMod, kLen, kInt, kMin, kMax, kCmp, kIsB, tyL, tyS, Option.isSome_some, Bool.and_self, beq_self_eq_true, Option.isSome, Bool.or_true, Bool.true_or, Bool.not_true, Bool.not_false, Bool.false_and, Bool.and_false, Bool.or_false, Bool.false_or, List.cons.injEq, reduceCtorEq, false_and, and_false, and_self, and_true, true_and, decide_true, decide_false, Nat.reduceLeDiff, LINE, eMthK, hC, e, h, G_Core_narrowed_1_most_least, gRev, List.reverse_cons, List.reverse_nil, Int.reduceEq, z0, z1, z2, z3, finD, List.take_length]
theorem kmax_ok (a b : Int) : kMax [.im (.int a), .im (.int b)] sl ce = .ok (.im (.int (max a b))) ce := by
  unfold kMax
  simp only [eC]
  congr 3
  split <;> omega
theorem kmin_ok (a b : Int) : kMin [.im (.int a), .im (.int b)] sl ce = .ok (.im (.int (min a b))) ce := by
  unfold kMin
  simp only [eC]
  congr 3
  split <;> omega
def dueD : Option Jnt → D
  | none => .non
  | some j => jntD j
theorem m_due {s : Nat} (hs : s < 4) (lo : Int) (hi : Option Int) : f__law_due [.im (jntD j), .im (.int lo), .im (optD hi), .im (.int s)] ce = .ok (.im (dueD (narrow j (loS s lo) (hiS s hi)))) ce := by
  have e (x y : Int) : ∀ sl ce, kEq (.im (.int x)) (.im (.int y)) sl ce = .ok (.im (.bl (decide (x = y)))) ce := fun sl ce => eq_ii x y
  have i1 : ∀ (a0 a2 : Option Val), sIf (eBin kEq (eBin kMod (eArgs [(eV 3)] kInt) (eC (.int 2))) (eC (.int 0))) (sSet 1 (eC (.int 0))) sNil [a0, some (.im (.int lo)), a2, some (.im (.int s))] ce = .nx [a0, some (.im (.int (loS s lo))), a2, some (.im (.int s))] ce := fun a0 a2 => by
    have md (x : Int) : ∀ sl ce, kMod (.im (.int x)) (.im (.int 2)) sl ce = .ok (.im (.int (x % 2))) ce := fun _ _ => rfl
    rcases case4 hs with rfl | rfl | rfl | rfl <;> simp only [mkD, List.map_cons, List.map_nil, List.length_cons, List.length_nil, Nat.reduceAdd, Nat.reduceSub, List.replicate_succ, List.replicate_zero, List.cons_append, List.nil_append, sSeq, sSet, sRet, sExp, sDrop, sIf, sNil, sFor, eBin, eUn, eBind, eV, eC, eArgs, eAnd, eOr, eNot, eIf, eMth, eTru, kBool, List.getElem?_cons_zero, List.getElem?_cons_succ, List.set_cons_zero, List.set_cons_succ, if_true, if_false, ite_true, ite_false, Bool.false_eq_true, eq_self_iff_true, reduceIte, ims, Option.map_some, kTup, kLst, kLstC, kCall, List.all_cons, List.all_nil, plainV, Bool.and_true, Bool.true_and, iExp, iArgs, itS, itL, itT, gN, gT, gL, Option.bind_some, frz, ce_get, ce_get0, ce_set, ce_set0, ce_take, asL, asSq, asIm, truV, kTru, kAdd, kSub, kLen, kInt, kMin, kMax, kCmp, kIsB, tyL, tyS, Option.isSome_some, Bool.and_self, beq_self_eq_true, Option.isSome, Bool.or_true, Bool.true_or, Bool.not_true, Bool.not_false, Bool.false_and, Bool.and_false, Bool.or_false, Bool.false_or, List.cons.injEq, reduceCtorEq, false_and, and_false, and_self, and_true, true_and, decide_true, decide_false, Nat.reduceLeDiff, LINE, z0, z1, z2, z3, md, e, loS] <;> rfl
  have i2 : ∀ (a0 a1 : Option Val), sIf (eBin kLt (eV 3) (eC (.int 2))) (sSet 2 (eC .non)) sNil [a0, a1, some (.im (optD hi)), some (.im (.int s))] ce = .nx [a0, a1, some (.im (optD (hiS s hi))), some (.im (.int s))] ce := fun a0 a1 => by
    have lt (x : Int) : ∀ sl ce, kLt (.im (.int x)) (.im (.int 2)) sl ce = .ok (.im (.bl (decide (x < 2)))) ce := fun _ _ => rfl
    rcases case4 hs with rfl | rfl | rfl | rfl <;> simp only [mkD, List.map_cons, List.map_nil, List.length_cons, List.length_nil, Nat.reduceAdd, Nat.reduceSub, List.replicate_succ, List.replicate_zero, List.cons_append, List.nil_append, sSeq, sSet, sRet, sExp, sDrop, sIf, sNil, sFor, eBin, eUn, eBind, eV, eC, eArgs, eAnd, eOr, eNot, eIf, eMth, eTru, kBool, List.getElem?_cons_zero, List.getElem?_cons_succ, List.set_cons_zero, List.set_cons_succ, if_true, if_false, ite_true, ite_false, Bool.false_eq_true, eq_self_iff_true, reduceIte, ims, Option.map_some, kTup, kLst, kLstC, kCall, List.all_cons, List.all_nil, plainV, Bool.and_true, Bool.true_and, iExp, iArgs, itS, itL, itT, gN, gT, gL, Option.bind_some, frz, ce_get, ce_get0, ce_set, ce_set0, ce_take, asL, asSq, asIm, truV, kTru, kAdd, kSub, kMod, kLen, kInt, kMin, kMax, kCmp, kIsB, tyL, tyS, Option.isSome_some, Bool.and_self, beq_self_eq_true, Option.isSome, Bool.or_true, Bool.true_or, Bool.not_true, Bool.not_false, Bool.false_and, Bool.and_false, Bool.or_false, Bool.false_or, List.cons.injEq, reduceCtorEq, false_and, and_false, and_self, and_true, true_and, decide_true, decide_false, Nat.reduceLeDiff, LINE, z0, z1, z2, z3, lt, hiS] <;> rfl
  generalize loS s lo = low at i1 ⊢
  generalize hiS s hi = high at i2 ⊢
  have j0 : ∀ sl ce, kIx (.im (jntD j)) (.im (.int 0)) sl ce = .ok (.im (.int j.1)) ce := fun _ _ => jnt0
  have j1 : ∀ sl ce, kIx (.im (jntD j)) (.im (.int 1)) sl ce = .ok (.im (optD j.2)) ce := fun _ _ => jnt1
  have i3 : ∀ (a1 a3 : Option Val), sIf (eOr (eBin (kIsN false) (eV 2) (eC .non)) (eAnd (eBin (kIsN true) (eBin kIx (eV 0) (eC (.int 1))) (eC .non)) (eBin kLt (eBin kIx (eV 0) (eC (.int 1))) (eV 2)))) (sSet 2 (eBin kIx (eV 0) (eC (.int 1)))) sNil [some (.im (jntD j)), a1, some (.im (optD high)), a3] ce = .nx [some (.im (jntD j)), a1, some (.im (optD (narHi j high))), a3] ce := fun a1 a3 => by
    unfold narHi
    cases high with
    | none => cases hj : j.2 <;> simp only [mkD, List.map_cons, List.map_nil, List.length_cons, List.length_nil, Nat.reduceAdd, Nat.reduceSub, List.replicate_succ, List.replicate_zero, List.cons_append, List.nil_append, sSeq, sSet, sRet, sExp, sDrop, sIf, sNil, sFor, eBin, eUn, eBind, eV, eC, eArgs, eAnd, eOr, eNot, eIf, eMth, eTru, kBool, List.getElem?_cons_zero, List.getElem?_cons_succ, List.set_cons_zero, List.set_cons_succ, if_true, if_false, ite_true, ite_false, Bool.false_eq_true, eq_self_iff_true, reduceIte, ims, Option.map_some, kTup, kLst, kLstC, kCall, List.all_cons, List.all_nil, plainV, Bool.and_true, Bool.true_and, iExp, iArgs, itS, itL, itT, gN, gT, gL, Option.bind_some, frz, ce_get, ce_get0, ce_set, ce_set0, ce_take, asL, asSq, asIm, truV, kTru, kAdd, kSub, kMod, kLen, kInt, kMin, kMax, kCmp, kIsB, tyL, tyS, Option.isSome_some, Bool.and_self, beq_self_eq_true, Option.isSome, Bool.or_true, Bool.true_or, Bool.not_true, Bool.not_false, Bool.false_and, Bool.and_false, Bool.or_false, Bool.false_or, List.cons.injEq, reduceCtorEq, false_and, and_false, and_self, and_true, true_and, decide_true, decide_false, Nat.reduceLeDiff, LINE, isN_opt, Option.isNone, j1, hj]
    | some x =>
      cases hj : j.2 with
      | none => simp only [mkD, List.map_cons, List.map_nil, List.length_cons, List.length_nil, Nat.reduceAdd, Nat.reduceSub, List.replicate_succ, List.replicate_zero, List.cons_append, List.nil_append, sSeq, sSet, sRet, sExp, sDrop, sIf, sNil, sFor, eBin, eUn, eBind, eV, eC, eArgs, eAnd, eOr, eNot, eIf, eMth, eTru, kBool, List.getElem?_cons_zero, List.getElem?_cons_succ, List.set_cons_zero, List.set_cons_succ, if_true, if_false, ite_true, ite_false, Bool.false_eq_true, eq_self_iff_true, reduceIte, ims, Option.map_some, kTup, kLst, kLstC, kCall, List.all_cons, List.all_nil, plainV, Bool.and_true, Bool.true_and, iExp, iArgs, itS, itL, itT, gN, gT, gL, Option.bind_some, frz, ce_get, ce_get0, ce_set, ce_set0, ce_take, asL, asSq, asIm, truV, kTru, kAdd, kSub, kMod, kLen, kInt, kMin, kMax, kCmp, kIsB, tyL, tyS, Option.isSome_some, Bool.and_self, beq_self_eq_true, Option.isSome, Bool.or_true, Bool.true_or, Bool.not_true, Bool.not_false, Bool.false_and, Bool.and_false, Bool.or_false, Bool.false_or, List.cons.injEq, reduceCtorEq, false_and, and_false, and_self, and_true, true_and, decide_true, decide_false, Nat.reduceLeDiff, LINE, isN_opt, notN_opt, Option.isNone, j1, hj]
      | some m =>
        have lt : ∀ sl, kLt (.im (optD (some m))) (.im (optD (some x))) sl ce = .ok (.im (.bl (decide (m < x)))) ce := fun _ => rfl
        rcases Int.lt_trichotomy m x with h | h | h
        · have h1 : ¬ x < m := by omega
          rw [show decide (m < x) = true from decide_eq_true h] at lt
          simp only [mkD, List.map_cons, List.map_nil, List.length_cons, List.length_nil, Nat.reduceAdd, Nat.reduceSub, List.replicate_succ, List.replicate_zero, List.cons_append, List.nil_append, sSeq, sSet, sRet, sExp, sDrop, sIf, sNil, sFor, eBin, eUn, eBind, eV, eC, eArgs, eAnd, eOr, eNot, eIf, eMth, eTru, kBool, List.getElem?_cons_zero, List.getElem?_cons_succ, List.set_cons_zero, List.set_cons_succ, if_true, if_false, ite_true, ite_false, Bool.false_eq_true, eq_self_iff_true, reduceIte, ims, Option.map_some, kTup, kLst, kLstC, kCall, List.all_cons, List.all_nil, plainV, Bool.and_true, Bool.true_and, iExp, iArgs, itS, itL, itT, gN, gT, gL, Option.bind_some, frz, ce_get, ce_get0, ce_set, ce_set0, ce_take, asL, asSq, asIm, truV, kTru, kAdd, kSub, kMod, kLen, kInt, kMin, kMax, kCmp, kIsB, tyL, tyS, Option.isSome_some, Bool.and_self, beq_self_eq_true, Option.isSome, Bool.or_true, Bool.true_or, Bool.not_true, Bool.not_false, Bool.false_and, Bool.and_false, Bool.or_false, Bool.false_or, List.cons.injEq, reduceCtorEq, false_and, and_false, and_self, and_true, true_and, decide_true, decide_false, Nat.reduceLeDiff, LINE, isN_opt, notN_opt, Option.isNone, j1, hj, lt, h1]
        · have h1 : ¬ x < m := by omega
          rw [show decide (m < x) = false from decide_eq_false (by omega)] at lt
          subst h
          simp only [mkD, List.map_cons, List.map_nil, List.length_cons, List.length_nil, Nat.reduceAdd, Nat.reduceSub, List.replicate_succ, List.replicate_zero, List.cons_append, List.nil_append, sSeq, sSet, sRet, sExp, sDrop, sIf, sNil, sFor, eBin, eUn, eBind, eV, eC, eArgs, eAnd, eOr, eNot, eIf, eMth, eTru, kBool, List.getElem?_cons_zero, List.getElem?_cons_succ, List.set_cons_zero, List.set_cons_succ, if_true, if_false, ite_true, ite_false, Bool.false_eq_true, eq_self_iff_true, reduceIte, ims, Option.map_some, kTup, kLst, kLstC, kCall, List.all_cons, List.all_nil, plainV, Bool.and_true, Bool.true_and, iExp, iArgs, itS, itL, itT, gN, gT, gL, Option.bind_some, frz, ce_get, ce_get0, ce_set, ce_set0, ce_take, asL, asSq, asIm, truV, kTru, kAdd, kSub, kMod, kLen, kInt, kMin, kMax, kCmp, kIsB, tyL, tyS, Option.isSome_some, Bool.and_self, beq_self_eq_true, Option.isSome, Bool.or_true, Bool.true_or, Bool.not_true, Bool.not_false, Bool.false_and, Bool.and_false, Bool.or_false, Bool.false_or, List.cons.injEq, reduceCtorEq, false_and, and_false, and_self, and_true, true_and, decide_true, decide_false, Nat.reduceLeDiff, LINE, isN_opt, notN_opt, Option.isNone, j1, hj, lt, h1]
        · rw [show decide (m < x) = false from decide_eq_false (by omega)] at lt
          simp only [mkD, List.map_cons, List.map_nil, List.length_cons, List.length_nil, Nat.reduceAdd, Nat.reduceSub, List.replicate_succ, List.replicate_zero, List.cons_append, List.nil_append, sSeq, sSet, sRet, sExp, sDrop, sIf, sNil, sFor, eBin, eUn, eBind, eV, eC, eArgs, eAnd, eOr, eNot, eIf, eMth, eTru, kBool, List.getElem?_cons_zero, List.getElem?_cons_succ, List.set_cons_zero, List.set_cons_succ, if_true, if_false, ite_true, ite_false, Bool.false_eq_true, eq_self_iff_true, reduceIte, ims, Option.map_some, kTup, kLst, kLstC, kCall, List.all_cons, List.all_nil, plainV, Bool.and_true, Bool.true_and, iExp, iArgs, itS, itL, itT, gN, gT, gL, Option.bind_some, frz, ce_get, ce_get0, ce_set, ce_set0, ce_take, asL, asSq, asIm, truV, kTru, kAdd, kSub, kMod, kLen, kInt, kMin, kMax, kCmp, kIsB, tyL, tyS, Option.isSome_some, Bool.and_self, beq_self_eq_true, Option.isSome, Bool.or_true, Bool.true_or, Bool.not_true, Bool.not_false, Bool.false_and, Bool.and_false, Bool.or_false, Bool.false_or, List.cons.injEq, reduceCtorEq, false_and, and_false, and_self, and_true, true_and, decide_true, decide_false, Nat.reduceLeDiff, LINE, isN_opt, notN_opt, Option.isNone, j1, hj, lt, h]
  have i4 : ∀ (a0 a3 : Option Val), sIf (eAnd (eBin (kIsN true) (eV 2) (eC .non)) (eBin kLt (eV 2) (eV 1))) (sRet (eC .non)) sNil [a0, some (.im (.int (max j.1 low))), some (.im (optD (narHi j high))), a3] ce =
      if ltO (narHi j high) (max j.1 low) = true then .rt (.im .non) ce else .nx [a0, some (.im (.int (max j.1 low))), some (.im (optD (narHi j high))), a3] ce := fun a0 a3 => by
    cases hn : narHi j high with
    | none => simp only [mkD, List.map_cons, List.map_nil, List.length_cons, List.length_nil, Nat.reduceAdd, Nat.reduceSub, List.replicate_succ, List.replicate_zero, List.cons_append, List.nil_append, sSeq, sSet, sRet, sExp, sDrop, sIf, sNil, sFor, eBin, eUn, eBind, eV, eC, eArgs, eAnd, eOr, eNot, eIf, eMth, eTru, kBool, List.getElem?_cons_zero, List.getElem?_cons_succ, List.set_cons_zero, List.set_cons_succ, if_true, if_false, ite_true, ite_false, Bool.false_eq_true, eq_self_iff_true, reduceIte, ims, Option.map_some, kTup, kLst, kLstC, kCall, List.all_cons, List.all_nil, plainV, Bool.and_true, Bool.true_and, iExp, iArgs, itS, itL, itT, gN, gT, gL, Option.bind_some, frz, ce_get, ce_get0, ce_set, ce_set0, ce_take, asL, asSq, asIm, truV, kTru, kAdd, kSub, kMod, kLen, kInt, kMin, kMax, kCmp, kIsB, tyL, tyS, Option.isSome_some, Bool.and_self, beq_self_eq_true, Option.isSome, Bool.or_true, Bool.true_or, Bool.not_true, Bool.not_false, Bool.false_and, Bool.and_false, Bool.or_false, Bool.false_or, List.cons.injEq, reduceCtorEq, false_and, and_false, and_self, and_true, true_and, decide_true, decide_false, Nat.reduceLeDiff, LINE, notN_opt, ltO]
    | some m =>
      have lt : ∀ sl, kLt (.im (optD (some m))) (.im (.int (max j.1 low))) sl ce = .ok (.im (.bl (decide (m < max j.1 low)))) ce := fun _ => rfl
      by_cases hc : m < max j.1 low
      · have lq : ltO (some m) (max j.1 low) = true := decide_eq_true hc
        simp only [decide_eq_true hc] at lt
        simp only [mkD, List.map_cons, List.map_nil, List.length_cons, List.length_nil, Nat.reduceAdd, Nat.reduceSub, List.replicate_succ, List.replicate_zero, List.cons_append, List.nil_append, sSeq, sSet, sRet, sExp, sDrop, sIf, sNil, sFor, eBin, eUn, eBind, eV, eC, eArgs, eAnd, eOr, eNot, eIf, eMth, eTru, kBool, List.getElem?_cons_zero, List.getElem?_cons_succ, List.set_cons_zero, List.set_cons_succ, if_true, if_false, ite_true, ite_false, Bool.false_eq_true, eq_self_iff_true, reduceIte, ims, Option.map_some, kTup, kLst, kLstC, kCall, List.all_cons, List.all_nil, plainV, Bool.and_true, Bool.true_and, iExp, iArgs, itS, itL, itT, gN, gT, gL, Option.bind_some, frz, ce_get, ce_get0, ce_set, ce_set0, ce_take, asL, asSq, asIm, truV, kTru, kAdd, kSub, kMod, kLen, kInt, kMin, kMax, kCmp, kIsB, tyL, tyS, Option.isSome_some, Bool.and_self, beq_self_eq_true, Option.isSome, Bool.or_true, Bool.true_or, Bool.not_true, Bool.not_false, Bool.false_and, Bool.and_false, Bool.or_false, Bool.false_or, List.cons.injEq, reduceCtorEq, false_and, and_false, and_self, and_true, true_and, decide_true, decide_false, Nat.reduceLeDiff, LINE, notN_opt, lt, lq]
      · have lq : ltO (some m) (max j.1 low) = false := decide_eq_false hc
        simp only [decide_eq_false hc] at lt
        simp only [mkD, List.map_cons, List.map_nil, List.length_cons, List.length_nil, Nat.reduceAdd, Nat.reduceSub, List.replicate_succ, List.replicate_zero, List.cons_append, List.nil_append, sSeq, sSet, sRet, sExp, sDrop, sIf, sNil, sFor, eBin, eUn, eBind, eV, eC, eArgs, eAnd, eOr, eNot, eIf, eMth, eTru, kBool, List.getElem?_cons_zero, List.getElem?_cons_succ, List.set_cons_zero, List.set_cons_succ, if_true, if_false, ite_true, ite_false, Bool.false_eq_true, eq_self_iff_true, reduceIte, ims, Option.map_some, kTup, kLst, kLstC, kCall, List.all_cons, List.all_nil, plainV, Bool.and_true, Bool.true_and, iExp, iArgs, itS, itL, itT, gN, gT, gL, Option.bind_some, frz, ce_get, ce_get0, ce_set, ce_set0, ce_take, asL, asSq, asIm, truV, kTru, kAdd, kSub, kMod, kLen, kInt, kMin, kMax, kCmp, kIsB, tyL, tyS, Option.isSome_some, Bool.and_self, beq_self_eq_true, Option.isSome, Bool.or_true, Bool.true_or, Bool.not_true, Bool.not_false, Bool.false_and, Bool.and_false, Bool.or_false, Bool.false_or, List.cons.injEq, reduceCtorEq, false_and, and_false, and_self, and_true, true_and, decide_true, decide_false, Nat.reduceLeDiff, LINE, notN_opt, lt, lq]
  unfold f__law_due b__law_due
  generalize sIf (eBin kEq (eBin kMod (eArgs [(eV 3)] kInt) (eC (.int 2))) (eC (.int 0))) (sSet 1 (eC (.int 0))) sNil = I1 at i1 ⊢
  generalize sIf (eBin kLt (eV 3) (eC (.int 2))) (sSet 2 (eC .non)) sNil = I2 at i2 ⊢
  generalize sIf (eOr (eBin (kIsN false) (eV 2) (eC .non)) (eAnd (eBin (kIsN true) (eBin kIx (eV 0) (eC (.int 1))) (eC .non)) (eBin kLt (eBin kIx (eV 0) (eC (.int 1))) (eV 2)))) (sSet 2 (eBin kIx (eV 0) (eC (.int 1)))) sNil = I3 at i3 ⊢
  generalize sIf (eAnd (eBin (kIsN true) (eV 2) (eC .non)) (eBin kLt (eV 2) (eV 1))) (sRet (eC .non)) sNil = I4 at i4 ⊢
  unfold narrow
  by_cases hc : ltO (narHi j high) (max j.1 low) = true
  · have i4' := fun a0 a3 => (i4 a0 a3).trans (if_pos hc)
    rw [if_pos hc]
    simp only [mkD, List.map_cons, List.map_nil, List.length_cons, List.length_nil, Nat.reduceAdd, Nat.reduceSub, List.replicate_succ, List.replicate_zero, List.cons_append, List.nil_append, sSeq, sSet, sRet, sExp, sDrop, sIf, sNil, sFor, eBin, eUn, eBind, eV, eC, eArgs, eAnd, eOr, eNot, eIf, eMth, eTru, kBool, List.getElem?_cons_zero, List.getElem?_cons_succ, List.set_cons_zero, List.set_cons_succ, if_true, if_false, ite_true, ite_false, Bool.false_eq_true, eq_self_iff_true, reduceIte, ims, Option.map_some, kTup, kLst, kLstC, kCall, List.all_cons, List.all_nil, plainV, Bool.and_true, Bool.true_and, iExp, iArgs, itS, itL, itT, gN, gT, gL, Option.bind_some, frz, ce_get, ce_get0, ce_set, ce_set0, ce_take, asL, asSq, asIm, truV, kTru, kAdd, kSub, kMod, kLen, kInt, kMin, kCmp, kIsB, tyL, tyS, Option.isSome_some, Bool.and_self, beq_self_eq_true, Option.isSome, Bool.or_true, Bool.true_or, Bool.not_true, Bool.not_false, Bool.false_and, Bool.and_false, Bool.or_false, Bool.false_or, List.cons.injEq, reduceCtorEq, false_and, and_false, and_self, and_true, true_and, decide_true, decide_false, Nat.reduceLeDiff, LINE, i1, i2, j0, kmax_ok, i3, i4', dueD, finD, List.take_length]
  · have i4' := fun a0 a3 => (i4 a0 a3).trans (if_neg hc)
    rw [if_neg hc]
    have fd : D.tup [.int (max j.1 low), optD (narHi j high)] = jntD (max j.1 low, narHi j high) := rfl
    simp only [mkD, List.map_cons, List.map_nil, List.length_cons, List.length_nil, Nat.reduceAdd, Nat.reduceSub, List.replicate_succ, List.replicate_zero, List.cons_append, List.nil_append, sSeq, sSet, sRet, sExp, sDrop, sIf, sNil, sFor, eBin, eUn, eBind, eV, eC, eArgs, eAnd, eOr, eNot, eIf, eMth, eTru, kBool, List.getElem?_cons_zero, List.getElem?_cons_succ, List.set_cons_zero, List.set_cons_succ, if_true, if_false, ite_true, ite_false, Bool.false_eq_true, eq_self_iff_true, reduceIte, ims, Option.map_some, kTup, kLst, kLstC, kCall, List.all_cons, List.all_nil, plainV, Bool.and_true, Bool.true_and, iExp, iArgs, itS, itL, itT, gN, gT, gL, Option.bind_some, frz, ce_get, ce_get0, ce_set, ce_set0, ce_take, asL, asSq, asIm, truV, kTru, kAdd, kSub, kMod, kLen, kInt, kMin, kCmp, kIsB, tyL, tyS, Option.isSome_some, Bool.and_self, beq_self_eq_true, Option.isSome, Bool.or_true, Bool.true_or, Bool.not_true, Bool.not_false, Bool.false_and, Bool.and_false, Bool.or_false, Bool.false_or, List.cons.injEq, reduceCtorEq, false_and, and_false, and_self, and_true, true_and, decide_true, decide_false, Nat.reduceLeDiff, LINE, i1, i2, j0, kmax_ok, i3, i4', dueD, fd, finD, List.take_length]
theorem told_nj {s : Nat} (hs : s < 4) {a lo : Int} {hi : Option Int} (h : a < 0 ∨ (js.length : Int) ≤ a) : f__law_told [.im (coreD ls js), .im (.int a), .im (.int lo), .im (optD hi), .im (.int s)] ce = .ok (.im (.str "no joint")) ce := by
  have ec := fun ce => c_exc (ce := ce) (lo := lo) (hi := hi) hs (C := coreD ls js) (fun _ => isC_c) (fun ce => x_narrowed (ce := ce) (ls := ls) h (.im (.int (loS s lo))) (.im (optD (hiS s hi))))
  have x1 : ∀ sl ce, kXf [1, 2, 3, 4] 0 (.exn e_NoJoint [.int a]) sl ce = .ok (.im (.int a)) ce := fun _ _ => rfl
  have x2 : ∀ sl ce, kIsE (fun c => some (x_BadCore c)) (.exn e_NoJoint [.int a]) sl ce = .ok (.im (.bl false)) ce := fun _ _ => rfl
  have x3 : ∀ sl ce, kIsE (fun c => some (x_NoLayer c)) (.exn e_NoJoint [.int a]) sl ce = .ok (.im (.bl false)) ce := fun _ _ => rfl
  have q0 : ∀ sl ce, kEq (.im (.int a)) (.im (.int a)) sl ce = .ok (.im (.bl true)) ce := fun sl ce => by rw [eq_ii, decide_eq_true rfl]
  have mw := fun ce => m_whole (ce := ce) a
  have s1 : e_NoJoint < 5 := by decide
  have s2 : x_NoJoint e_NoJoint = true := by decide
  unfold f__law_told b__law_told sTryM
  simp only [mkD, List.map_cons, List.map_nil, List.length_cons, List.length_nil, Nat.reduceAdd, Nat.reduceSub, List.replicate_succ, List.replicate_zero, List.cons_append, List.nil_append, sSeq, sSet, sRet, sExp, sDrop, sIf, sNil, sFor, eBin, eUn, eBind, eV, eC, eArgs, eAnd, eOr, eNot, eIf, eMth, eTru, kBool, List.getElem?_cons_zero, List.getElem?_cons_succ, List.set_cons_zero, List.set_cons_succ, if_true, if_false, ite_true, ite_false, Bool.false_eq_true, eq_self_iff_true, reduceIte, ims, Option.map_some, kTup, kLst, kLstC, kCall, List.all_cons, List.all_nil, plainV, Bool.and_true, Bool.true_and, iExp, iArgs, itS, itL, itT, gN, gT, gL, Option.bind_some, frz, ce_get, ce_get0, ce_set, ce_set0, ce_take, asL, asSq, asIm, truV, kTru, kAdd, kSub, kMod, kLen, kInt, kMin, kMax, kCmp, kIsB, tyL, tyS, Option.isSome_some, Bool.and_self, beq_self_eq_true, Option.isSome, Bool.or_true, Bool.true_or, Bool.not_true, Bool.not_false, Bool.false_and, Bool.and_false, Bool.or_false, Bool.false_or, List.cons.injEq, reduceCtorEq, false_and, and_false, and_self, and_true, true_and, decide_true, decide_false, Nat.reduceLeDiff, LINE, ec, s1, hdl, s2, x1, x2, x3, q0, mw, offD, clean, finD, List.take_length, if_true]
theorem told_bj {s : Nat} (hs : s < 4) {a : Nat} {lo : Int} {hi : Option Int} (ok : OkC ls js) (h : js[a]? = some j) (hn : narrow j (loS s lo) (hiS s hi) = none) : f__law_told [.im (coreD ls js), .im (.int (a : Nat)), .im (.int lo), .im (optD hi), .im (.int s)] ce = .ok (.im (.str "bad joint")) ce := by
  have ec := fun ce => c_exc (ce := ce) (lo := lo) (hi := hi) hs (C := coreD ls js) (fun _ => isC_c) (c := e_BadJoint) (es := [.int (a : Nat)]) (fun ce => by rw [m_narrowed ok h, hn])
  have x1 : ∀ sl ce, kXf [1, 2, 3, 4] 0 (.exn e_BadJoint [.int (a : Nat)]) sl ce = .ok (.im (.int (a : Nat))) ce := fun _ _ => rfl
  have x2 : ∀ sl ce, kIsE (fun c => some (x_BadCore c)) (.exn e_BadJoint [.int (a : Nat)]) sl ce = .ok (.im (.bl true)) ce := fun _ _ => rfl
  have x3 : ∀ sl ce, kIsE (fun c => some (x_BadLayer c)) (.exn e_BadJoint [.int (a : Nat)]) sl ce = .ok (.im (.bl false)) ce := fun _ _ => rfl
  have q0 : ∀ sl ce, kEq (.im (.int (a : Nat))) (.im (.int (a : Nat))) sl ce = .ok (.im (.bl true)) ce := fun sl ce => by rw [eq_ii, decide_eq_true rfl]
  have mw := fun ce => m_whole (ce := ce) (a : Nat)
  have s1 : e_BadJoint < 5 := by decide
  have s2 : x_NoJoint e_BadJoint = false := by decide
  have s3 : x_BadJoint e_BadJoint = true := by decide
  unfold f__law_told b__law_told sTryM
  simp only [mkD, List.map_cons, List.map_nil, List.length_cons, List.length_nil, Nat.reduceAdd, Nat.reduceSub, List.replicate_succ, List.replicate_zero, List.cons_append, List.nil_append, sSeq, sSet, sRet, sExp, sDrop, sIf, sNil, sFor, eBin, eUn, eBind, eV, eC, eArgs, eAnd, eOr, eNot, eIf, eMth, eTru, kBool, List.getElem?_cons_zero, List.getElem?_cons_succ, List.set_cons_zero, List.set_cons_succ, if_true, if_false, ite_true, ite_false, Bool.false_eq_true, eq_self_iff_true, reduceIte, ims, Option.map_some, kTup, kLst, kLstC, kCall, List.all_cons, List.all_nil, plainV, Bool.and_true, Bool.true_and, iExp, iArgs, itS, itL, itT, gN, gT, gL, Option.bind_some, frz, ce_get, ce_get0, ce_set, ce_set0, ce_take, asL, asSq, asIm, truV, kTru, kAdd, kSub, kMod, kLen, kInt, kMin, kMax, kCmp, kIsB, tyL, tyS, Option.isSome_some, Bool.and_self, beq_self_eq_true, Option.isSome, Bool.or_true, Bool.true_or, Bool.not_true, Bool.not_false, Bool.false_and, Bool.and_false, Bool.or_false, Bool.false_or, List.cons.injEq, reduceCtorEq, false_and, and_false, and_self, and_true, true_and, decide_true, decide_false, Nat.reduceLeDiff, LINE, ec, s1, hdl, s2, s3, x1, x2, x3, q0, mw, offD, clean, finD, List.take_length, if_true]
theorem toJ (k : Nat) (h : k ≤ js.length) : kSlL (.im (jntsD js)) none (some (k : Int)) sl ce = .ok (.im (jntsD (js.take k))) ce := by
  unfold kSlL jntsD
  simp only [asL, cutD, HT.sIx_nat, HT.sIx_none, List.drop_zero, Nat.sub_zero, List.length_map]
  rw [Nat.min_eq_left h, List.map_take]
theorem fromJ (k : Nat) (h : k + 1 ≤ js.length) : kSlL (.im (jntsD js)) (some ((k : Int) + 1)) none sl ce = .ok (.im (jntsD (js.drop (k + 1)))) ce := by
  have e : ((k : Int) + 1) = ((k + 1 : Nat) : Int) := rfl
  unfold kSlL jntsD
  rw [e]
  simp only [asL, cutD, HT.sIx_nat, HT.sIx_none, List.length_map]
  rw [Nat.min_eq_left h, List.take_of_length_le (by simp), List.map_drop]
theorem adJ (js2 : List Jnt) (h : js.length + js2.length ≤ 1000) : kAdd (.im (jntsD js)) (.im (jntsD js2)) sl ce = .ok (.im (jntsD (js ++ js2))) ce := by
  have hL : LINE = 16777216 := rfl
  unfold kAdd jntsD
  simp only [asL, List.length_map]
  rw [if_pos (by omega), List.map_append]
theorem set_parts {k : Nat} (j' : Jnt) (h : k < js.length) : js.take k ++ [j'] ++ js.drop (k + 1) = js.set k j' := by
  rw [List.set_eq_take_append_cons_drop, if_pos h, List.append_assoc, List.singleton_append]
def nearD (lo : Int) (hi : Option Int) : D := .lst [.int lo, optD hi]
theorem near0 {lo : Int} {hi : Option Int} : kIx (.im (nearD lo hi)) (.im (.int 0)) sl ce = .ok (.im (.int lo)) ce := rfl
theorem near1 {lo : Int} {hi : Option Int} : kIx (.im (nearD lo hi)) (.im (.int 1)) sl ce = .ok (.im (optD hi)) ce := rfl
theorem m_beside {s : Nat} (hs : s < 4) {a : Nat} {lo : Int} {hi : Option Int} (ok : OkC ls js) (h : a < js.length) : f__law_beside [.im (coreD ls js), .im (laysD ls), .im (jntsD js), .im (.int (a : Nat)), .im (nearD lo hi), .im (.int s)] ce = .ok (.im (.bl true)) ce := by
  obtain ⟨j, hj⟩ : ∃ j, js[a]? = some j := ⟨_, List.getElem?_eq_getElem h⟩
  have ix := fun sl ce => jix (sl := sl) (ce := ce) hj
  have md := fun ce => m_due (ce := ce) (j := j) hs lo hi
  have hl := ok.m
  have hn := ok.n
  have n0 := fun {lo hi} sl ce => near0 (sl := sl) (ce := ce) (lo := lo) (hi := hi)
  unfold f__law_beside b__law_beside
  cases e : narrow j (loS s lo) (hiS s hi) with
  | none =>
    rw [e] at md
    have tb := fun ce => told_bj (ce := ce) hs ok hj e
    have q0 : ∀ sl ce, kEq (.im (.str "bad joint")) (.im (.str "bad joint")) sl ce = .ok (.im (.bl true)) ce := fun _ _ => eq_bj
    have nn : ∀ sl ce, kIsN false (.im (dueD none)) (.im .non) sl ce = .ok (.im (.bl true)) ce := fun _ _ => rfl
    simp only [mkD, List.map_cons, List.map_nil, List.length_cons, List.length_nil, Nat.reduceAdd, Nat.reduceSub, List.replicate_succ, List.replicate_zero, List.cons_append, List.nil_append, sSeq, sSet, sRet, sExp, sDrop, sIf, sNil, sFor, eBin, eUn, eBind, eV, eC, eArgs, eAnd, eOr, eNot, eIf, eMth, eTru, kBool, List.getElem?_cons_zero, List.getElem?_cons_succ, List.set_cons_zero, List.set_cons_succ, if_true, if_false, ite_true, ite_false, Bool.false_eq_true, eq_self_iff_true, reduceIte, ims, Option.map_some, kTup, kLst, kLstC, kCall, List.all_cons, List.all_nil, plainV, Bool.and_true, Bool.true_and, iExp, iArgs, itS, itL, itT, gN, gT, gL, Option.bind_some, frz, ce_get, ce_get0, ce_set, ce_set0, ce_take, asL, asSq, asIm, truV, kTru, kAdd, kSub, kMod, kLen, kInt, kMin, kMax, kCmp, kIsB, tyL, tyS, Option.isSome_some, Bool.and_self, beq_self_eq_true, Option.isSome, Bool.or_true, Bool.true_or, Bool.not_true, Bool.not_false, Bool.false_and, Bool.and_false, Bool.or_false, Bool.false_or, List.cons.injEq, reduceCtorEq, false_and, and_false, and_self, and_true, true_and, decide_true, decide_false, Nat.reduceLeDiff, LINE, ix, near0, near1, md, nn, tb, q0, finD, List.take_length]
  | some j' =>
    rw [e] at md
    have ok' : OkC ls (js.set a j') := okC_set ok (narrow_ok (ok.j j (List.mem_of_getElem? hj)) e)
    have mc := fun ce => c_ok (ce := ce) (lo := lo) (hi := hi) hs (C := coreD ls js) (fun _ => isC_c) (d := coreD ls (js.set a j')) (fun ce => by rw [m_narrowed ok hj, e])
    have nn : ∀ sl ce, kIsN false (.im (dueD (some j'))) (.im .non) sl ce = .ok (.im (.bl false)) ce := fun _ _ => rfl
    have t1 := fun sl ce => toJ (js := js) (sl := sl) (ce := ce) a (by omega)
    have t2 := fun sl ce => fromJ (js := js) (sl := sl) (ce := ce) a (by omega)
    have ai : ∀ (i j : Int) sl ce, kAdd (.im (.int i)) (.im (.int j)) sl ce = .ok (.im (.int (i + j))) ce := fun i j sl ce => rfl
    have f1 : D.lst [dueD (some j')] = jntsD [j'] := rfl
    have a1 := fun sl ce => adJ (js := js.take a) (sl := sl) (ce := ce) [j'] (by rw [List.length_take, List.length_singleton]; omega)
    have a2 := fun sl ce => adJ (js := js.take a ++ [j']) (sl := sl) (ce := ce) (js.drop (a + 1)) (by rw [List.length_append, List.length_take, List.length_singleton, List.length_drop]; omega)
    rw [set_parts j' h] at a2
    have sm := fun ce => m_same (ce := ce) ok'
    simp only [mkD, List.map_cons, List.map_nil, List.length_cons, List.length_nil, Nat.reduceAdd, Nat.reduceSub, List.replicate_succ, List.replicate_zero, List.cons_append, List.nil_append, sSeq, sSet, sRet, sExp, sDrop, sIf, sNil, sFor, eBin, eUn, eBind, eV, eC, eArgs, eAnd, eOr, eNot, eIf, eMth, eTru, kBool, List.getElem?_cons_zero, List.getElem?_cons_succ, List.set_cons_zero, List.set_cons_succ, if_true, if_false, ite_true, ite_false, Bool.false_eq_true, eq_self_iff_true, reduceIte, ims, Option.map_some, kTup, kLst, kLstC, kCall, List.all_cons, List.all_nil, plainV, Bool.and_true, Bool.true_and, iExp, iArgs, itS, itL, itT, gN, gT, gL, Option.bind_some, frz, ce_get, ce_get0, ce_set, ce_set0, ce_take, asL, asSq, asIm, truV, kTru, kSub, kMod, kLen, kInt, kMin, kMax, kCmp, kIsB, tyL, tyS, Option.isSome_some, Bool.and_self, beq_self_eq_true, Option.isSome, Bool.or_true, Bool.true_or, Bool.not_true, Bool.not_false, Bool.false_and, Bool.and_false, Bool.or_false, Bool.false_or, List.cons.injEq, reduceCtorEq, false_and, and_false, and_self, and_true, true_and, decide_true, decide_false, Nat.reduceLeDiff, LINE, ix, near0, near1, md, nn, mc, eSlice, eOpt, t1, ai, t2, f1, a1, a2, sm, finD, List.take_length]
theorem m_near (ds : List Int) : ∃ (lo : Int) (hi : Option Int) (ds' : List Int), f__law_near [.cell 0, .im (jntD j)] [.lst (ds.map .int)] = .ok (.im (nearD lo hi)) [.lst (ds'.map .int)] := by
  obtain ⟨n, ds1, b1, c1, e1⟩ := m_number 0 ds [.lst (ds.map .int)] rfl
  simp only [List.set_cons_zero] at e1
  obtain ⟨y, hy⟩ : ∃ y : Int, ∀ (a0 a3 a4 : Option Val), sIf (eBin (kIsN true) (eBin kIx (eV 1) (eC (.int 1))) (eC .non)) (sSetIx (eV 2) (eC (.int 1)) (eBin kIx (eV 1) (eC (.int 1)))) sNil [a0, some (.im (jntD j)), some (.cell 1), a3, a4] [.lst (ds1.map .int), .lst [.int j.1, .int j.1, .int n]] = .nx [a0, some (.im (jntD j)), some (.cell 1), a3, a4] [.lst (ds1.map .int), .lst ([j.1, y, n].map .int)] := by
    have j1 : ∀ sl ce, kIx (.im (jntD j)) (.im (.int 1)) sl ce = .ok (.im (optD j.2)) ce := fun _ _ => jnt1
    cases hj : j.2 with
    | none => exact ⟨j.1, fun a0 a3 a4 => by simp only [mkD, List.map_cons, List.map_nil, List.length_cons, List.length_nil, Nat.reduceAdd, Nat.reduceSub, List.replicate_succ, List.replicate_zero, List.cons_append, List.nil_append, sSeq, sSet, sRet, sExp, sDrop, sIf, sNil, sFor, eBin, eUn, eBind, eV, eC, eArgs, eAnd, eOr, eNot, eIf, eMth, eTru, kBool, List.getElem?_cons_zero, List.getElem?_cons_succ, List.set_cons_zero, List.set_cons_succ, if_true, if_false, ite_true, ite_false, Bool.false_eq_true, eq_self_iff_true, reduceIte, ims, Option.map_some, kTup, kLst, kLstC, kCall, List.all_cons, List.all_nil, plainV, Bool.and_true, Bool.true_and, iExp, iArgs, itS, itL, itT, gN, gT, gL, Option.bind_some, frz, ce_get, ce_get0, ce_set, ce_set0, ce_take, asL, asSq, asIm, truV, kTru, kAdd, kSub, kMod, kLen, kInt, kMin, kMax, kCmp, kIsB, tyL, tyS, Option.isSome_some, Bool.and_self, beq_self_eq_true, Option.isSome, Bool.or_true, Bool.true_or, Bool.not_true, Bool.not_false, Bool.false_and, Bool.and_false, Bool.or_false, Bool.false_or, List.cons.injEq, reduceCtorEq, false_and, and_false, and_self, and_true, true_and, decide_true, decide_false, Nat.reduceLeDiff, LINE, j1, hj, notN_opt]⟩
    | some m =>
      refine ⟨m, fun a0 a3 a4 => ?_⟩
      have st := setIx_ok (fo := eV 2) (fi := eC (.int 1)) (fv := eBin kIx (eV 1) (eC (.int 1))) (sl := [a0, some (.im (jntD j)), some (.cell 1), a3, a4]) (ce := [.lst (ds1.map .int), .lst [.int j.1, .int j.1, .int n]]) (n := 1) (k := 1) (ds := [.int j.1, .int j.1, .int n]) (d := .int m) (by simp only [mkD, List.map_cons, List.map_nil, List.length_cons, List.length_nil, Nat.reduceAdd, Nat.reduceSub, List.replicate_succ, List.replicate_zero, List.cons_append, List.nil_append, sSeq, sSet, sRet, sExp, sDrop, sIf, sNil, sFor, eBin, eUn, eBind, eV, eC, eArgs, eAnd, eOr, eNot, eIf, eMth, eTru, kBool, List.getElem?_cons_zero, List.getElem?_cons_succ, List.set_cons_zero, List.set_cons_succ, if_true, if_false, ite_true, ite_false, Bool.false_eq_true, eq_self_iff_true, reduceIte, ims, Option.map_some, kTup, kLst, kLstC, kCall, List.all_cons, List.all_nil, plainV, Bool.and_true, Bool.true_and, iExp, iArgs, itS, itL, itT, gN, gT, gL, Option.bind_some, frz, ce_get, ce_get0, ce_set, ce_set0, ce_take, asL, asSq, asIm, truV, kTru, kAdd, kSub, kMod, kLen, kInt, kMin, kMax, kCmp, kIsB, tyL, tyS, Option.isSome_some, Bool.and_self, beq_self_eq_true, Option.isSome, Bool.or_true, Bool.true_or, Bool.not_true, Bool.not_false, Bool.false_and, Bool.and_false, Bool.or_false, Bool.false_or, List.cons.injEq, reduceCtorEq, false_and, and_false, and_self, and_true, true_and, decide_true, decide_false, Nat.reduceLeDiff, LINE, j1, hj, optD]) (by simp only [mkD, List.map_cons, List.map_nil, List.length_cons, List.length_nil, Nat.reduceAdd, Nat.reduceSub, List.replicate_succ, List.replicate_zero, List.cons_append, List.nil_append, sSeq, sSet, sRet, sExp, sDrop, sIf, sNil, sFor, eBin, eUn, eBind, eV, eC, eArgs, eAnd, eOr, eNot, eIf, eMth, eTru, kBool, List.getElem?_cons_zero, List.getElem?_cons_succ, List.set_cons_zero, List.set_cons_succ, if_true, if_false, ite_true, ite_false, Bool.false_eq_true, eq_self_iff_true, reduceIte, ims, Option.map_some, kTup, kLst, kLstC, kCall, List.all_cons, List.all_nil, plainV, Bool.and_true, Bool.true_and, iExp, iArgs, itS, itL, itT, gN, gT, gL, Option.bind_some, frz, ce_get, ce_get0, ce_set, ce_set0, ce_take, asL, asSq, asIm, truV, kTru, kAdd, kSub, kMod, kLen, kInt, kMin, kMax, kCmp, kIsB, tyL, tyS, Option.isSome_some, Bool.and_self, beq_self_eq_true, Option.isSome, Bool.or_true, Bool.true_or, Bool.not_true, Bool.not_false, Bool.false_and, Bool.and_false, Bool.or_false, Bool.false_or, List.cons.injEq, reduceCtorEq, false_and, and_false, and_self, and_true, true_and, decide_true, decide_false, Nat.reduceLeDiff, LINE]) (by simp only [mkD, List.map_cons, List.map_nil, List.length_cons, List.length_nil, Nat.reduceAdd, Nat.reduceSub, List.replicate_succ, List.replicate_zero, List.cons_append, List.nil_append, sSeq, sSet, sRet, sExp, sDrop, sIf, sNil, sFor, eBin, eUn, eBind, eV, eC, eArgs, eAnd, eOr, eNot, eIf, eMth, eTru, kBool, List.getElem?_cons_zero, List.getElem?_cons_succ, List.set_cons_zero, List.set_cons_succ, if_true, if_false, ite_true, ite_false, Bool.false_eq_true, eq_self_iff_true, reduceIte, ims, Option.map_some, kTup, kLst, kLstC, kCall, List.all_cons, List.all_nil, plainV, Bool.and_true, Bool.true_and, iExp, iArgs, itS, itL, itT, gN, gT, gL, Option.bind_some, frz, ce_get, ce_get0, ce_set, ce_set0, ce_take, asL, asSq, asIm, truV, kTru, kAdd, kSub, kMod, kLen, kInt, kMin, kMax, kCmp, kIsB, tyL, tyS, Option.isSome_some, Bool.and_self, beq_self_eq_true, Option.isSome, Bool.or_true, Bool.true_or, Bool.not_true, Bool.not_false, Bool.false_and, Bool.and_false, Bool.or_false, Bool.false_or, List.cons.injEq, reduceCtorEq, false_and, and_false, and_self, and_true, true_and, decide_true, decide_false, Nat.reduceLeDiff, LINE]; rfl) rfl (by simp)
      simp only [eBin] at st
      simp only [mkD, List.map_cons, List.map_nil, List.length_cons, List.length_nil, Nat.reduceAdd, Nat.reduceSub, List.replicate_succ, List.replicate_zero, List.cons_append, List.nil_append, sSeq, sSet, sRet, sExp, sDrop, sIf, sNil, sFor, eBin, eUn, eBind, eV, eC, eArgs, eAnd, eOr, eNot, eIf, eMth, eTru, kBool, List.getElem?_cons_zero, List.getElem?_cons_succ, List.set_cons_zero, List.set_cons_succ, if_true, if_false, ite_true, ite_false, Bool.false_eq_true, eq_self_iff_true, reduceIte, ims, Option.map_some, kTup, kLst, kLstC, kCall, List.all_cons, List.all_nil, plainV, Bool.and_true, Bool.true_and, iExp, iArgs, itS, itL, itT, gN, gT, gL, Option.bind_some, frz, ce_get, ce_get0, ce_set, ce_set0, ce_take, asL, asSq, asIm, truV, kTru, kAdd, kSub, kMod, kLen, kInt, kMin, kMax, kCmp, kIsB, tyL, tyS, Option.isSome_some, Bool.and_self, beq_self_eq_true, Option.isSome, Bool.or_true, Bool.true_or, Bool.not_true, Bool.not_false, Bool.false_and, Bool.and_false, Bool.or_false, Bool.false_or, List.cons.injEq, reduceCtorEq, false_and, and_false, and_self, and_true, true_and, decide_true, decide_false, Nat.reduceLeDiff, LINE, j1, hj, notN_opt]
      exact st
  obtain ⟨r2, ds2, b2, c2, e2⟩ := m_draw 0 ds1 3 [.lst (ds1.map .int), .lst ([j.1, y, n].map .int)] rfl (by decide)
  obtain ⟨r3, ds3, b3, c3, e3⟩ := m_draw 0 ds2 5 [.lst (ds2.map .int), .lst ([j.1, y, n].map .int)] rfl (by decide)
  obtain ⟨r4, ds4, b4, c4, e4⟩ := m_draw 0 ds3 3 [.lst (ds3.map .int), .lst ([j.1, y, n].map .int)] rfl (by decide)
  obtain ⟨r5, ds5, b5, c5, e5⟩ := m_draw 0 ds4 5 [.lst (ds4.map .int), .lst ([j.1, y, n].map .int)] rfl (by decide)
  obtain ⟨r6, ds6, b6, c6, e6⟩ := m_draw 0 ds5 5 [.lst (ds5.map .int), .lst ([j.1, y, n].map .int)] rfl (by decide)
  simp only [List.set_cons_zero] at e2 e3 e4 e5 e6
  have ix : ∀ r : Int, 0 ≤ r → r < 3 → ∃ z : Int, ∀ sl (C : Cell), kIx (.cell 1) (.im (.int r)) sl [C, .lst ([j.1, y, n].map .int)] = .ok (.im (.int z)) [C, .lst ([j.1, y, n].map .int)] := fun r h0 h1 => by
    have e : r = 0 ∨ r = 1 ∨ r = 2 := by omega
    rcases e with rfl | rfl | rfl
    · exact ⟨_, fun _ _ => rfl⟩
    · exact ⟨_, fun _ _ => rfl⟩
    · exact ⟨_, fun _ _ => rfl⟩
  obtain ⟨z2, x2⟩ := ix r2 b2 c2
  obtain ⟨z4, x4⟩ := ix r4 b4 c4
  have ai : ∀ (i j : Int) sl ce, kAdd (.im (.int i)) (.im (.int j)) sl ce = .ok (.im (.int (i + j))) ce := fun i j sl ce => rfl
  have j0 : ∀ sl ce, kIx (.im (jntD j)) (.im (.int 0)) sl ce = .ok (.im (.int j.1)) ce := fun _ _ => jnt0
  have kl : ∀ sl, kLstC [.im (.int j.1), .im (.int j.1), .im (.int n)] sl [.lst (ds1.map .int)] = .ok (.cell 1) [.lst (ds1.map .int), .lst [.int j.1, .int j.1, .int n]] := fun _ => rfl
  have tk : ∀ (c d : Cell), List.take 1 [c, d] = [c] := fun _ _ => rfl
  have q0 : ∀ sl ce, kEq (.im (.int r6)) (.im (.int 0)) sl ce = .ok (.im (.bl (decide (r6 = 0)))) ce := fun sl ce => eq_ii _ _
  refine ⟨z2 + r3 - 2, if r6 = 0 then none else some (z4 + r5 - 2), ds6, ?_⟩
  unfold f__law_near b__law_near
  generalize sIf (eBin (kIsN true) (eBin kIx (eV 1) (eC (.int 1))) (eC .non)) (sSetIx (eV 2) (eC (.int 1)) (eBin kIx (eV 1) (eC (.int 1)))) sNil = I at hy ⊢
  generalize [j.1, y, n].map D.int = BS at hy e2 e3 e4 e5 e6 x2 x4 ⊢
  by_cases h : r6 = 0
  · rw [decide_eq_true h] at q0
    have fd : D.lst [.int (z2 + r3 - 2), .non] = nearD (z2 + r3 - 2) none := rfl
    rw [if_pos h]
    simp only [mkD, List.map_cons, List.map_nil, List.length_cons, List.length_nil, Nat.reduceAdd, Nat.reduceSub, List.replicate_succ, List.replicate_zero, List.cons_append, List.nil_append, sSeq, sSet, sRet, sExp, sDrop, sIf, sNil, sFor, eBin, eUn, eBind, eV, eC, eArgs, eAnd, eOr, eNot, eIf, eMth, eTru, kBool, List.getElem?_cons_zero, List.getElem?_cons_succ, List.set_cons_zero, List.set_cons_succ, if_true, if_false, ite_true, ite_false, Bool.false_eq_true, eq_self_iff_true, reduceIte, ims, Option.map_some, kTup, kLst, kCall, List.all_cons, List.all_nil, plainV, Bool.and_true, Bool.true_and, iExp, iArgs, itS, itL, itT, gN, gT, gL, Option.bind_some, frz, ce_get, ce_get0, ce_set, ce_set0, ce_take, asL, asSq, asIm, truV, kTru, kSub, kMod, kLen, kInt, kMin, kMax, kCmp, kIsB, tyL, tyS, Option.isSome_some, Bool.and_self, beq_self_eq_true, Option.isSome, Bool.or_true, Bool.true_or, Bool.not_true, Bool.not_false, Bool.false_and, Bool.and_false, Bool.or_false, Bool.false_or, List.cons.injEq, reduceCtorEq, false_and, and_false, and_self, and_true, true_and, decide_true, decide_false, Nat.reduceLeDiff, LINE, j0, e1, kl, hy, e2, x2, e3, ai, e4, x4, e5, e6, q0, fd, finD, tk]
  · rw [decide_eq_false h] at q0
    have fd : D.lst [.int (z2 + r3 - 2), .int (z4 + r5 - 2)] = nearD (z2 + r3 - 2) (some (z4 + r5 - 2)) := rfl
    rw [if_neg h]
    simp only [mkD, List.map_cons, List.map_nil, List.length_cons, List.length_nil, Nat.reduceAdd, Nat.reduceSub, List.replicate_succ, List.replicate_zero, List.cons_append, List.nil_append, sSeq, sSet, sRet, sExp, sDrop, sIf, sNil, sFor, eBin, eUn, eBind, eV, eC, eArgs, eAnd, eOr, eNot, eIf, eMth, eTru, kBool, List.getElem?_cons_zero, List.getElem?_cons_succ, List.set_cons_zero, List.set_cons_succ, if_true, if_false, ite_true, ite_false, Bool.false_eq_true, eq_self_iff_true, reduceIte, ims, Option.map_some, kTup, kLst, kCall, List.all_cons, List.all_nil, plainV, Bool.and_true, Bool.true_and, iExp, iArgs, itS, itL, itT, gN, gT, gL, Option.bind_some, frz, ce_get, ce_get0, ce_set, ce_set0, ce_take, asL, asSq, asIm, truV, kTru, kSub, kMod, kLen, kInt, kMin, kMax, kCmp, kIsB, tyL, tyS, Option.isSome_some, Bool.and_self, beq_self_eq_true, Option.isSome, Bool.or_true, Bool.true_or, Bool.not_true, Bool.not_false, Bool.false_and, Bool.and_false, Bool.or_false, Bool.false_or, List.cons.injEq, reduceCtorEq, false_and, and_false, and_self, and_true, true_and, decide_true, decide_false, Nat.reduceLeDiff, LINE, j0, e1, kl, hy, e2, x2, e3, ai, e4, x4, e5, e6, q0, fd, finD, tk]
end

end ZZ

set_option Elab.async false
set_option linter.all false
set_option maxRecDepth 100000
set_option maxHeartbeats 4000000
namespace ZZ
open PySem PySem.Spec L2
section
variable {ls : List Lay} {js : List Jnt}
theorem turn (ok : OkC ls js) (at_ : Int) (ds : List Int) (a0 x7 x8 x9 x10 x11 x12 x13 : Option Val) :
    (∃ ce', lp_law_2 [a0, some (.cell 0), some (.im (.int (ls.length : Nat))), some (.im (laysD ls)), some (.im (jntsD js)), some (.im (coreD ls js)), some (.im (.int at_)), x7, x8, x9, x10, x11, x12, x13] [.lst (ds.map .int)] = .rt (.im (.bl true)) ce') ∨
    (∃ (js' : List Jnt) (ds' : List Int) (y8 y9 y10 y11 y12 : Option Val), OkC ls js' ∧ lp_law_2 [a0, some (.cell 0), some (.im (.int (ls.length : Nat))), some (.im (laysD ls)), some (.im (jntsD js)), some (.im (coreD ls js)), some (.im (.int at_)), x7, x8, x9, x10, x11, x12, x13] [.lst (ds.map .int)] =
      .nx [a0, some (.cell 0), some (.im (.int (ls.length : Nat))), some (.im (laysD ls)), some (.im (jntsD js')), some (.im (coreD ls js')), some (.im (.int at_)), x7, y8, y9, y10, y11, y12, x13] [.lst (ds'.map .int)]) := by
  have hn := ok.n
  have hm := ok.m
  obtain ⟨c, hc, hcm⟩ : ∃ c : Nat, c < js.length ∧ min (max 0 at_) ((js.length : Int) - 1) = (c : Int) := ⟨(min (max 0 at_) ((js.length : Int) - 1)).toNat, by omega, by omega⟩
  obtain ⟨j0, hj0⟩ : ∃ j, js[c]? = some j := ⟨_, List.getElem?_eq_getElem hc⟩
  have ix0 := fun sl ce => jix (sl := sl) (ce := ce) hj0
  obtain ⟨lo, hi, ds1, e1⟩ := m_near (j := j0) ds
  obtain ⟨s', ds2, b2, c2, e2⟩ := m_draw 0 ds1 4 [.lst (ds1.map .int)] rfl (by decide)
  simp only [List.set_cons_zero] at e2
  obtain ⟨s, rfl⟩ : ∃ s : Nat, s' = (s : Int) := ⟨s'.toNat, by omega⟩
  have hs : s < 4 := by omega
  have ai : ∀ (i j : Int) sl ce, kAdd (.im (.int i)) (.im (.int j)) sl ce = .ok (.im (.int (i + j))) ce := fun i j sl ce => rfl
  have su : ∀ (i j : Int) sl ce, kSub (.im (.int i)) (.im (.int j)) sl ce = .ok (.im (.int (i - j))) ce := fun i j sl ce => rfl
  have le1 : ∀ (i j : Int) sl ce, kLe (.im (.int i)) (.im (.int j)) sl ce = .ok (.im (.bl (decide (i ≤ j)))) ce := fun i j sl ce => rfl
  have jl := fun sl ce => jlen (js := js) (sl := sl) (ce := ce)
  have n0 := fun sl ce => near0 (sl := sl) (ce := ce) (lo := lo) (hi := hi)
  have n1 := fun sl ce => near1 (sl := sl) (ce := ce) (lo := lo) (hi := hi)
  unfold lp_law_2
  by_cases h0 : 0 ≤ at_
  · by_cases h1 : at_ ≤ (ls.length : Int)
    · obtain ⟨a, rfl⟩ : ∃ a : Nat, at_ = (a : Int) := ⟨at_.toNat, by omega⟩
      have ha : a < js.length := by omega
      obtain ⟨j, hj⟩ : ∃ j, js[a]? = some j := ⟨_, List.getElem?_eq_getElem ha⟩
      have ix := fun sl ce => jix (sl := sl) (ce := ce) hj
      have md := fun ce => m_due (ce := ce) (j := j) hs lo hi
      have sm := fun ce => m_same (ce := ce) ok
      cases e : narrow j (loS s lo) (hiS s hi) with
      | none =>
        rw [e] at md
        have tb := fun ce => told_bj (ce := ce) hs ok hj e
        have q0 : ∀ sl ce, kEq (.im (.str "bad joint")) (.im (.str "bad joint")) sl ce = .ok (.im (.bl true)) ce := fun _ _ => eq_bj
        have nn : ∀ sl ce, kIsN false (.im (dueD none)) (.im .non) sl ce = .ok (.im (.bl true)) ce := fun _ _ => rfl
        exact .inl ⟨_, by simp only [mkD, List.map_cons, List.map_nil, List.length_cons, List.length_nil, Nat.reduceAdd, Nat.reduceSub, List.replicate_succ, List.replicate_zero, List.cons_append, List.nil_append, sSeq, sSet, sRet, sExp, sDrop, sIf, sNil, sFor, eBin, eUn, eBind, eV, eC, eArgs, eAnd, eOr, eNot, eIf, eMth, eTru, kBool, List.getElem?_cons_zero, List.getElem?_cons_succ, List.set_cons_zero, List.set_cons_succ, if_true, if_false, ite_true, ite_false, Bool.false_eq_true, eq_self_iff_true, reduceIte, ims, Option.map_some, kTup, kLst, kLstC, kCall, List.all_cons, List.all_nil, plainV, Bool.and_true, Bool.true_and, iExp, iArgs, itS, itL, itT, gN, gT, gL, Option.bind_some, frz, ce_get, ce_get0, ce_set, ce_set0, ce_take, asL, asSq, asIm, truV, kTru, kMod, kInt, kCmp, kIsB, tyL, tyS, Option.isSome_some, Bool.and_self, beq_self_eq_true, Option.isSome, Bool.or_true, Bool.true_or, Bool.not_true, Bool.not_false, Bool.false_and, Bool.and_false, Bool.or_false, Bool.false_or, List.cons.injEq, reduceCtorEq, false_and, and_false, and_self, and_true, true_and, decide_true, decide_false, Nat.reduceLeDiff, LINE, eChain, jl, su, kmax_ok, kmin_ok, hcm, ix0, e1, e2, le1, h0, h1, n0, n1, ix, md, nn, tb, q0, sm]; rfl⟩
      | some j' =>
        rw [e] at md
        have ok' : OkC ls (js.set a j') := okC_set ok (narrow_ok (ok.j j (List.mem_of_getElem? hj)) e)
        have mc := fun ce => c_ok (ce := ce) (lo := lo) (hi := hi) hs (C := coreD ls js) (fun _ => isC_c) (d := coreD ls (js.set a j')) (fun ce => by rw [m_narrowed ok hj, e])
        have nn : ∀ sl ce, kIsN false (.im (dueD (some j'))) (.im .non) sl ce = .ok (.im (.bl false)) ce := fun _ _ => rfl
        have t1 := fun sl ce => toJ (js := js) (sl := sl) (ce := ce) a (by omega)
        have t2 := fun sl ce => fromJ (js := js) (sl := sl) (ce := ce) a (by omega)
        have f1 : D.lst [dueD (some j')] = jntsD [j'] := rfl
        have a1 := fun sl ce => adJ (js := js.take a) (sl := sl) (ce := ce) [j'] (by rw [List.length_take, List.length_singleton]; omega)
        have a2 := fun sl ce => adJ (js := js.take a ++ [j']) (sl := sl) (ce := ce) (js.drop (a + 1)) (by rw [List.length_append, List.length_take, List.length_singleton, List.length_drop]; omega)
        rw [set_parts j' ha] at a2
        have sm2 := fun ce => m_same (ce := ce) ok'
        have mo : ∀ sl ce, kMod (.im (.int ((a : Int) + 1))) (.im (.int ((ls.length : Int) + 1))) sl ce = .ok (.im (.int (((a + 1) % (ls.length + 1) : Nat) : Int))) ce := fun sl ce => by
          unfold kMod
          simp only [if_pos (show (0 : Int) < (ls.length : Int) + 1 by omega)]
          congr 3
        have mb := fun ce => m_beside (ce := ce) (lo := lo) (hi := hi) hs ok (show (a + 1) % (ls.length + 1) < js.length by have := Nat.mod_lt (a + 1) (show 0 < ls.length + 1 by omega); omega)
        exact .inr ⟨js.set a j', ds2, some (.im (nearD lo hi)), some (.im (.int s)), some (.im (dueD (some j'))), x11, some (.im (coreD ls (js.set a j'))), ok', by simp only [mkD, List.map_cons, List.map_nil, List.length_cons, List.length_nil, Nat.reduceAdd, Nat.reduceSub, List.replicate_succ, List.replicate_zero, List.cons_append, List.nil_append, sSeq, sSet, sRet, sExp, sDrop, sIf, sNil, sFor, eBin, eUn, eBind, eV, eC, eArgs, eAnd, eOr, eNot, eIf, eMth, eTru, kBool, List.getElem?_cons_zero, List.getElem?_cons_succ, List.set_cons_zero, List.set_cons_succ, if_true, if_false, ite_true, ite_false, Bool.false_eq_true, eq_self_iff_true, reduceIte, ims, Option.map_some, kTup, kLst, kLstC, kCall, List.all_cons, List.all_nil, plainV, Bool.and_true, Bool.true_and, iExp, iArgs, itS, itL, itT, gN, gT, gL, Option.bind_some, frz, ce_get, ce_get0, ce_set, ce_set0, ce_take, asL, asSq, asIm, truV, kTru, kInt, kCmp, kIsB, tyL, tyS, Option.isSome_some, Bool.and_self, beq_self_eq_true, Option.isSome, Bool.or_true, Bool.true_or, Bool.not_true, Bool.not_false, Bool.false_and, Bool.and_false, Bool.or_false, Bool.false_or, List.cons.injEq, reduceCtorEq, false_and, and_false, and_self, and_true, true_and, decide_true, decide_false, Nat.reduceLeDiff, LINE, eChain, eSlice, eOpt, jl, su, ai, kmax_ok, kmin_ok, hcm, ix0, e1, e2, le1, h0, h1, n0, n1, ix, md, nn, mc, sm, mo, mb, t1, t2, f1, a1, a2, sm2]⟩
    · have tn := fun ce => told_nj (ce := ce) (ls := ls) (js := js) (lo := lo) (hi := hi) hs (a := at_) (.inr (by omega))
      have q0 : ∀ sl ce, kEq (.im (.str "no joint")) (.im (.str "no joint")) sl ce = .ok (.im (.bl true)) ce := fun _ _ => eq_nj
      exact .inl ⟨_, by simp only [mkD, List.map_cons, List.map_nil, List.length_cons, List.length_nil, Nat.reduceAdd, Nat.reduceSub, List.replicate_succ, List.replicate_zero, List.cons_append, List.nil_append, sSeq, sSet, sRet, sExp, sDrop, sIf, sNil, sFor, eBin, eUn, eBind, eV, eC, eArgs, eAnd, eOr, eNot, eIf, eMth, eTru, kBool, List.getElem?_cons_zero, List.getElem?_cons_succ, List.set_cons_zero, List.set_cons_succ, if_true, if_false, ite_true, ite_false, Bool.false_eq_true, eq_self_iff_true, reduceIte, ims, Option.map_some, kTup, kLst, kLstC, kCall, List.all_cons, List.all_nil, plainV, Bool.and_true, Bool.true_and, iExp, iArgs, itS, itL, itT, gN, gT, gL, Option.bind_some, frz, ce_get, ce_get0, ce_set, ce_set0, ce_take, asL, asSq, asIm, truV, kTru, kMod, kInt, kCmp, kIsB, tyL, tyS, Option.isSome_some, Bool.and_self, beq_self_eq_true, Option.isSome, Bool.or_true, Bool.true_or, Bool.not_true, Bool.not_false, Bool.false_and, Bool.and_false, Bool.or_false, Bool.false_or, List.cons.injEq, reduceCtorEq, false_and, and_false, and_self, and_true, true_and, decide_true, decide_false, Nat.reduceLeDiff, LINE, eChain, jl, su, kmax_ok, kmin_ok, hcm, ix0, e1, e2, le1, h0, h1, n0, n1, tn, q0]; rfl⟩
  · have tn := fun ce => told_nj (ce := ce) (ls := ls) (js := js) (lo := lo) (hi := hi) hs (a := at_) (.inl (by omega))
    have q0 : ∀ sl ce, kEq (.im (.str "no joint")) (.im (.str "no joint")) sl ce = .ok (.im (.bl true)) ce := fun _ _ => eq_nj
    exact .inl ⟨_, by simp only [mkD, List.map_cons, List.map_nil, List.length_cons, List.length_nil, Nat.reduceAdd, Nat.reduceSub, List.replicate_succ, List.replicate_zero, List.cons_append, List.nil_append, sSeq, sSet, sRet, sExp, sDrop, sIf, sNil, sFor, eBin, eUn, eBind, eV, eC, eArgs, eAnd, eOr, eNot, eIf, eMth, eTru, kBool, List.getElem?_cons_zero, List.getElem?_cons_succ, List.set_cons_zero, List.set_cons_succ, if_true, if_false, ite_true, ite_false, Bool.false_eq_true, eq_self_iff_true, reduceIte, ims, Option.map_some, kTup, kLst, kLstC, kCall, List.all_cons, List.all_nil, plainV, Bool.and_true, Bool.true_and, iExp, iArgs, itS, itL, itT, gN, gT, gL, Option.bind_some, frz, ce_get, ce_get0, ce_set, ce_set0, ce_take, asL, asSq, asIm, truV, kTru, kMod, kInt, kCmp, kIsB, tyL, tyS, Option.isSome_some, Bool.and_self, beq_self_eq_true, Option.isSome, Bool.or_true, Bool.true_or, Bool.not_true, Bool.not_false, Bool.false_and, Bool.and_false, Bool.or_false, Bool.false_or, List.cons.injEq, reduceCtorEq, false_and, and_false, and_self, and_true, true_and, decide_true, decide_false, Nat.reduceLeDiff, LINE, eChain, jl, su, kmax_ok, kmin_ok, hcm, ix0, e1, e2, le1, h0, n0, n1, tn, q0]; rfl⟩
end
theorem all_lays : ∀ (ys : List D), (∀ (k : Nat) (y : D), ys[k]? = some y → ∃ l : Lay, okL l ∧ y = layD l) → ∃ ls : List Lay, (∀ l ∈ ls, okL l) ∧ ys = ls.map layD
  | [], _ => ⟨[], fun l h => (List.not_mem_nil h).elim, rfl⟩
  | y :: ys, h => by
    obtain ⟨l, ho, rfl⟩ := h 0 y rfl
    obtain ⟨ls, h1, rfl⟩ := all_lays ys fun k y hy => h (k + 1) y (by rw [List.getElem?_cons_succ]; exact hy)
    exact ⟨l :: ls, fun x hx => by
      rcases List.mem_cons.mp hx with rfl | hx
      · exact ho
      · exact h1 x hx, rfl⟩
theorem all_jnts : ∀ (ys : List D), (∀ (k : Nat) (y : D), ys[k]? = some y → ∃ l : Jnt, okJ l ∧ y = jntD l) → ∃ ls : List Jnt, (∀ l ∈ ls, okJ l) ∧ ys = ls.map jntD
  | [], _ => ⟨[], fun l h => (List.not_mem_nil h).elim, rfl⟩
  | y :: ys, h => by
    obtain ⟨l, ho, rfl⟩ := h 0 y rfl
    obtain ⟨ls, h1, rfl⟩ := all_jnts ys fun k y hy => h (k + 1) y (by rw [List.getElem?_cons_succ]; exact hy)
    exact ⟨l :: ls, fun x hx => by
      rcases List.mem_cons.mp hx with rfl | hx
      · exact ho
      · exact h1 x hx, rfl⟩
theorem thread_get {α : Type} {ds : List D} {ys : List D} {R : D → D → Prop} {P : α → Prop} {F : α → D} (hl : ys.length = ds.length) (h : ∀ (i : Nat) (d y : D), ds[i]? = some d → ys[i]? = some y → R d y) (hR : ∀ d y, R d y → ∃ a, P a ∧ y = F a) : ∀ (k : Nat) (y : D), ys[k]? = some y → ∃ a, P a ∧ y = F a := fun k y hy => by
  have hk : k < ds.length := by
    have := (List.getElem?_eq_some_iff.mp hy).1
    omega
  exact hR _ _ (h k ds[k] y (List.getElem?_eq_getElem hk) hy)
theorem law_true : ∀ ns : List Int, ns.length ≤ 63 → ∃ ce', f_law [.im (.wl (ns.map .int))] [] = .ok (.im (.bl true)) ce' := by
  intro ns hl
  obtain ⟨ds0, e0⟩ := m_pool ns hl 400 (by decide) []
  have ne : ([] : List Cell).length = 0 := rfl
  simp only [ne, List.nil_append] at e0
  have e400 : ((400 : Nat) : Int) = 400 := rfl
  rw [e400] at e0
  have es : D.wl (ns.map .int) = scr ns := rfl
  obtain ⟨r1, ds1, b1, c1, e1⟩ := m_draw 0 ds0 2 [.lst (ds0.map .int)] rfl (by decide)
  obtain ⟨t, t1, t2, et⟩ : ∃ t : Nat, 1 ≤ t ∧ t ≤ 21 ∧ ∀ sl ce, kIx (.im (.lst [.int 4, .int 21])) (.im (.int r1)) sl ce = .ok (.im (.int t)) ce := by
    have e : r1 = 0 ∨ r1 = 1 := by omega
    rcases e with rfl | rfl
    · exact ⟨4, by decide, by decide, fun sl ce => rfl⟩
    · exact ⟨21, by decide, by decide, fun sl ce => rfl⟩
  obtain ⟨r2, ds2, b2, c2, e2⟩ := m_draw 0 ds1 (t : Int) [.lst (ds1.map .int)] rfl (by omega)
  obtain ⟨n, rfl⟩ : ∃ n : Nat, r2 = n := ⟨r2.toNat, by omega⟩
  have ai : ∀ (i j : Int) sl ce, kAdd (.im (.int i)) (.im (.int j)) sl ce = .ok (.im (.int (i + j))) ce := fun i j sl ce => rfl
  have su : ∀ (i j : Int) sl ce, kSub (.im (.int i)) (.im (.int j)) sl ce = .ok (.im (.int (i - j))) ce := fun i j sl ce => rfl
  have k1 := rng1 n (by omega)
  have k2 := rng1 (n + 1) (by omega)
  have cn : ((n + 1 : Nat) : Int) = (n : Int) + 1 := rfl
  rw [cn] at k2
  simp only [List.set_cons_zero] at e1 e2
  obtain ⟨ys, ce3, e3, ⟨ds3, rfl⟩, l3, r3⟩ := lc_thread (own := [13]) (fi := iArgs [(eV 2)] kRng1) (g := gN 13) (f := el_law_0) (sl := [some (.im (scr ns)), some (.cell 0), some (.im (.int n)), none, none, none, none, none, none, none, none, none, none, none]) (ce := [.lst (ds2.map .int)]) ((List.range n).map fun (i : Nat) => D.int (i : Int))
    (fun ce => ∃ ds : List Int, ce = [.lst (ds.map .int)]) (fun _ y => ∃ l : Lay, okL l ∧ y = layD l) (by simp only [mkD, List.map_cons, List.map_nil, List.length_cons, List.length_nil, Nat.reduceAdd, Nat.reduceSub, List.replicate_succ, List.replicate_zero, List.cons_append, List.nil_append, sSeq, sSet, sRet, sExp, sDrop, sIf, sNil, sFor, eBin, eUn, eBind, eV, eC, eArgs, eAnd, eOr, eNot, eIf, eMth, eTru, kBool, List.getElem?_cons_zero, List.getElem?_cons_succ, List.set_cons_zero, List.set_cons_succ, if_true, if_false, ite_true, ite_false, Bool.false_eq_true, eq_self_iff_true, reduceIte, ims, Option.map_some, kTup, kLst, kLstC, kCall, List.all_cons, List.all_nil, plainV, Bool.and_true, Bool.true_and, iExp, iArgs, itS, itL, itT, gN, gT, gL, Option.bind_some, frz, ce_get, ce_get0, ce_set, ce_set0, ce_take, asL, asSq, asIm, truV, kTru, kAdd, kSub, kMod, kLen, kInt, kMin, kMax, kCmp, kIsB, tyL, tyS, Option.isSome_some, Bool.and_self, beq_self_eq_true, Option.isSome, Bool.or_true, Bool.true_or, Bool.not_true, Bool.not_false, Bool.false_and, Bool.and_false, Bool.or_false, Bool.false_or, List.cons.injEq, reduceCtorEq, false_and, and_false, and_self, and_true, true_and, decide_true, decide_false, Nat.reduceLeDiff, LINE, k1]) (by rw [List.length_map, List.length_range]; omega) ⟨_, rfl⟩ (by rintro ce' ⟨ds, rfl⟩; rfl)
    (by
      rintro d hd acc ce ⟨ds, rfl⟩
      obtain ⟨cs, ds4, ok, e4⟩ := m_kind 0 ds [.lst (ds.map .int), .lst acc] rfl
      obtain ⟨m, ds5, b5, c5, e5⟩ := m_number 0 ds4 [.lst (ds4.map .int), .lst acc] rfl
      simp only [List.set_cons_zero] at e4 e5
      refine ⟨_, [.lst (ds5.map .int)], layD (cs, 1 + m), rfl, ?_, ⟨_, rfl⟩, _, ⟨ok.1, ok.2.1, ok.2.2, by show 1 ≤ 1 + m; omega⟩, rfl⟩
      unfold el_law_0 layD
      simp only [mkD, List.map_cons, List.map_nil, List.length_cons, List.length_nil, Nat.reduceAdd, Nat.reduceSub, List.replicate_succ, List.replicate_zero, List.cons_append, List.nil_append, sSeq, sSet, sRet, sExp, sDrop, sIf, sNil, sFor, eBin, eUn, eBind, eV, eC, eArgs, eAnd, eOr, eNot, eIf, eMth, eTru, kBool, List.getElem?_cons_zero, List.getElem?_cons_succ, List.set_cons_zero, List.set_cons_succ, if_true, if_false, ite_true, ite_false, Bool.false_eq_true, eq_self_iff_true, reduceIte, ims, Option.map_some, kTup, kLst, kLstC, kCall, List.all_cons, List.all_nil, plainV, Bool.and_true, Bool.true_and, iExp, iArgs, itS, itL, itT, gN, gT, gL, Option.bind_some, frz, ce_get, ce_get0, ce_set, ce_set0, ce_take, asL, asSq, asIm, truV, kTru, kSub, kMod, kLen, kInt, kMin, kMax, kCmp, kIsB, tyL, tyS, Option.isSome_some, Bool.and_self, beq_self_eq_true, Option.isSome, Bool.or_true, Bool.true_or, Bool.not_true, Bool.not_false, Bool.false_and, Bool.and_false, Bool.or_false, Bool.false_or, List.cons.injEq, reduceCtorEq, false_and, and_false, and_self, and_true, true_and, decide_true, decide_false, Nat.reduceLeDiff, LINE, wipeD, List.cons_append, List.nil_append, ai, e4, e5])
  obtain ⟨ls, ol, rfl⟩ := all_lays ys (thread_get l3 r3 fun _ _ h => h)
  obtain ⟨zs, ce4, e4, ⟨ds4, rfl⟩, l4, r4⟩ := lc_thread (own := [13]) (fi := iArgs [(eBin kAdd (eV 2) (eC (.int 1)))] kRng1) (g := gN 13) (f := el_law_1) (sl := [some (.im (scr ns)), some (.cell 0), some (.im (.int n)), some (.im (laysD ls)), none, none, none, none, none, none, none, none, none, none]) (ce := [.lst (ds3.map .int)]) ((List.range (n + 1)).map fun (i : Nat) => D.int (i : Int))
    (fun ce => ∃ ds : List Int, ce = [.lst (ds.map .int)]) (fun _ y => ∃ l : Jnt, okJ l ∧ y = jntD l) (by simp only [mkD, List.map_cons, List.map_nil, List.length_cons, List.length_nil, Nat.reduceAdd, Nat.reduceSub, List.replicate_succ, List.replicate_zero, List.cons_append, List.nil_append, sSeq, sSet, sRet, sExp, sDrop, sIf, sNil, sFor, eBin, eUn, eBind, eV, eC, eArgs, eAnd, eOr, eNot, eIf, eMth, eTru, kBool, List.getElem?_cons_zero, List.getElem?_cons_succ, List.set_cons_zero, List.set_cons_succ, if_true, if_false, ite_true, ite_false, Bool.false_eq_true, eq_self_iff_true, reduceIte, ims, Option.map_some, kTup, kLst, kLstC, kCall, List.all_cons, List.all_nil, plainV, Bool.and_true, Bool.true_and, iExp, iArgs, itS, itL, itT, gN, gT, gL, Option.bind_some, frz, ce_get, ce_get0, ce_set, ce_set0, ce_take, asL, asSq, asIm, truV, kTru, kSub, kMod, kLen, kInt, kMin, kMax, kCmp, kIsB, tyL, tyS, Option.isSome_some, Bool.and_self, beq_self_eq_true, Option.isSome, Bool.or_true, Bool.true_or, Bool.not_true, Bool.not_false, Bool.false_and, Bool.and_false, Bool.or_false, Bool.false_or, List.cons.injEq, reduceCtorEq, false_and, and_false, and_self, and_true, true_and, decide_true, decide_false, Nat.reduceLeDiff, LINE, ai, k2]) (by rw [List.length_map, List.length_range]; omega) ⟨_, rfl⟩ (by rintro ce' ⟨ds, rfl⟩; rfl)
    (by
      rintro d hd acc ce ⟨ds, rfl⟩
      obtain ⟨j, ds4, ok, e4⟩ := m_bounds 0 ds [.lst (ds.map .int), .lst acc] rfl
      simp only [List.set_cons_zero] at e4
      refine ⟨_, [.lst (ds4.map .int)], jntD j, rfl, ?_, ⟨_, rfl⟩, _, ok, rfl⟩
      unfold el_law_1
      simp only [mkD, List.map_cons, List.map_nil, List.length_cons, List.length_nil, Nat.reduceAdd, Nat.reduceSub, List.replicate_succ, List.replicate_zero, List.cons_append, List.nil_append, sSeq, sSet, sRet, sExp, sDrop, sIf, sNil, sFor, eBin, eUn, eBind, eV, eC, eArgs, eAnd, eOr, eNot, eIf, eMth, eTru, kBool, List.getElem?_cons_zero, List.getElem?_cons_succ, List.set_cons_zero, List.set_cons_succ, if_true, if_false, ite_true, ite_false, Bool.false_eq_true, eq_self_iff_true, reduceIte, ims, Option.map_some, kTup, kLst, kLstC, kCall, List.all_cons, List.all_nil, plainV, Bool.and_true, Bool.true_and, iExp, iArgs, itS, itL, itT, gN, gT, gL, Option.bind_some, frz, ce_get, ce_get0, ce_set, ce_set0, ce_take, asL, asSq, asIm, truV, kTru, kAdd, kSub, kMod, kLen, kInt, kMin, kMax, kCmp, kIsB, tyL, tyS, Option.isSome_some, Bool.and_self, beq_self_eq_true, Option.isSome, Bool.or_true, Bool.true_or, Bool.not_true, Bool.not_false, Bool.false_and, Bool.and_false, Bool.or_false, Bool.false_or, List.cons.injEq, reduceCtorEq, false_and, and_false, and_self, and_true, true_and, decide_true, decide_false, Nat.reduceLeDiff, LINE, wipeD, List.cons_append, List.nil_append, e4])
  obtain ⟨js, oj, rfl⟩ := all_jnts zs (thread_get l4 r4 fun _ _ h => h)
  rw [List.length_map, List.length_map, List.length_range] at l3 l4
  have ok : OkC ls js := ⟨ol, oj, by omega, by omega⟩
  subst l3
  have fL : D.lst (ls.map layD) = laysD ls := rfl
  have fJ : D.lst (js.map jntD) = jntsD js := rfl
  have kl : ∀ sl ce, kListI [.im (laysD ls)] sl ce = .ok (.im (laysD ls)) ce := fun _ _ => rfl
  have kj : ∀ sl ce, kListI [.im (jntsD js)] sl ce = .ok (.im (jntsD js)) ce := fun _ _ => rfl
  have mk := fun sl ce => m_cmake (sl := sl) (ce := ce) ok
  obtain ⟨r5, ds5, b5, c5, e5⟩ := m_draw 0 ds4 ((ls.length : Int) + 1) [.lst (ds4.map .int)] rfl (by omega)
  obtain ⟨r6, ds6, b6, c6, e6⟩ := m_draw 0 ds5 4 [.lst (ds5.map .int)] rfl (by decide)
  obtain ⟨r7, ds7, b7, c7, e7⟩ := m_draw 0 ds6 ((ls.length : Int) + 5) [.lst (ds6.map .int)] rfl (by omega)
  simp only [List.set_cons_zero] at e5 e6 e7
  obtain ⟨at_, dsa, eIf⟩ : ∃ (at_ : Int) (dsa : List Int), sIf (eBin kEq (eArgs [(eV 1), (eC (.int 4))] (kCall f__law_draw)) (eC (.int 0))) (sSet 6 (eBin kSub (eArgs [(eV 1), (eBin kAdd (eV 2) (eC (.int 5)))] (kCall f__law_draw)) (eC (.int 2)))) sNil [some (.im (scr ns)), some (.cell 0), some (.im (.int (ls.length : Nat))), some (.im (laysD ls)), some (.im (jntsD js)), some (.im (coreD ls js)), some (.im (.int r5)), none, none, none, none, none, none, none] [.lst (ds5.map .int)] = .nx [some (.im (scr ns)), some (.cell 0), some (.im (.int (ls.length : Nat))), some (.im (laysD ls)), some (.im (jntsD js)), some (.im (coreD ls js)), some (.im (.int at_)), none, none, none, none, none, none, none] [.lst (dsa.map .int)] := by
    have q0 : ∀ sl ce, kEq (.im (.int r6)) (.im (.int 0)) sl ce = .ok (.im (.bl (decide (r6 = 0)))) ce := fun sl ce => eq_ii _ _
    by_cases h : r6 = 0
    · rw [decide_eq_true h] at q0
      exact ⟨r7 - 2, ds7, by simp only [mkD, List.map_cons, List.map_nil, List.length_cons, List.length_nil, Nat.reduceAdd, Nat.reduceSub, List.replicate_succ, List.replicate_zero, List.cons_append, List.nil_append, sSeq, sSet, sRet, sExp, sDrop, sIf, sNil, sFor, eBin, eUn, eBind, eV, eC, eArgs, eAnd, eOr, eNot, eIf, eMth, eTru, kBool, List.getElem?_cons_zero, List.getElem?_cons_succ, List.set_cons_zero, List.set_cons_succ, if_true, if_false, ite_true, ite_false, Bool.false_eq_true, eq_self_iff_true, reduceIte, ims, Option.map_some, kTup, kLst, kLstC, kCall, List.all_cons, List.all_nil, plainV, Bool.and_true, Bool.true_and, iExp, iArgs, itS, itL, itT, gN, gT, gL, Option.bind_some, frz, ce_get, ce_get0, ce_set, ce_set0, ce_take, asL, asSq, asIm, truV, kTru, kMod, kLen, kInt, kMin, kMax, kCmp, kIsB, tyL, tyS, Option.isSome_some, Bool.and_self, beq_self_eq_true, Option.isSome, Bool.or_true, Bool.true_or, Bool.not_true, Bool.not_false, Bool.false_and, Bool.and_false, Bool.or_false, Bool.false_or, List.cons.injEq, reduceCtorEq, false_and, and_false, and_self, and_true, true_and, decide_true, decide_false, Nat.reduceLeDiff, LINE, e6, q0, ai, e7, su]⟩
    · rw [decide_eq_false h] at q0
      exact ⟨r5, ds6, by simp only [mkD, List.map_cons, List.map_nil, List.length_cons, List.length_nil, Nat.reduceAdd, Nat.reduceSub, List.replicate_succ, List.replicate_zero, List.cons_append, List.nil_append, sSeq, sSet, sRet, sExp, sDrop, sIf, sNil, sFor, eBin, eUn, eBind, eV, eC, eArgs, eAnd, eOr, eNot, eIf, eMth, eTru, kBool, List.getElem?_cons_zero, List.getElem?_cons_succ, List.set_cons_zero, List.set_cons_succ, if_true, if_false, ite_true, ite_false, Bool.false_eq_true, eq_self_iff_true, reduceIte, ims, Option.map_some, kTup, kLst, kLstC, kCall, List.all_cons, List.all_nil, plainV, Bool.and_true, Bool.true_and, iExp, iArgs, itS, itL, itT, gN, gT, gL, Option.bind_some, frz, ce_get, ce_get0, ce_set, ce_set0, ce_take, asL, asSq, asIm, truV, kTru, kMod, kLen, kInt, kMin, kMax, kCmp, kIsB, tyL, tyS, Option.isSome_some, Bool.and_self, beq_self_eq_true, Option.isSome, Bool.or_true, Bool.true_or, Bool.not_true, Bool.not_false, Bool.false_and, Bool.and_false, Bool.or_false, Bool.false_or, List.cons.injEq, reduceCtorEq, false_and, and_false, and_self, and_true, true_and, decide_true, decide_false, Nat.reduceLeDiff, LINE, e6, q0]⟩
  have kr : kRng1 [.im (.int 2)] = some [.int 0, .int 1] := rng1 2 (by decide)
  have g7 : ∀ d (y8 y9 y10 y11 y12 x7 : Option Val) js, gN 7 d [some (.im (scr ns)), some (.cell 0), some (.im (.int (ls.length : Nat))), some (.im (laysD ls)), some (.im (jntsD js)), some (.im (coreD ls js)), some (.im (.int at_)), x7, y8, y9, y10, y11, y12, none] = some [some (.im (scr ns)), some (.cell 0), some (.im (.int (ls.length : Nat))), some (.im (laysD ls)), some (.im (jntsD js)), some (.im (coreD ls js)), some (.im (.int at_)), some (.im d), y8, y9, y10, y11, y12, none] := fun _ _ _ _ _ _ _ _ => rfl
  have loop : (∃ ce', forD (gN 7) lp_law_2 [.int 0, .int 1] [some (.im (scr ns)), some (.cell 0), some (.im (.int (ls.length : Nat))), some (.im (laysD ls)), some (.im (jntsD js)), some (.im (coreD ls js)), some (.im (.int at_)), none, none, none, none, none, none, none] [.lst (dsa.map .int)] = .rt (.im (.bl true)) ce') ∨
      ∃ sl' ce', forD (gN 7) lp_law_2 [.int 0, .int 1] [some (.im (scr ns)), some (.cell 0), some (.im (.int (ls.length : Nat))), some (.im (laysD ls)), some (.im (jntsD js)), some (.im (coreD ls js)), some (.im (.int at_)), none, none, none, none, none, none, none] [.lst (dsa.map .int)] = .nx sl' ce' := by
    rcases turn ok at_ dsa (some (.im (scr ns))) (some (.im (.int 0))) none none none none none none with ⟨ce', h⟩ | ⟨js', ds', y8, y9, y10, y11, y12, ok', h⟩
    · exact .inl ⟨ce', by rw [forD, g7]; simp only [h]⟩
    · rcases turn ok' at_ ds' (some (.im (scr ns))) (some (.im (.int 1))) y8 y9 y10 y11 y12 none with ⟨ce'', h2⟩ | ⟨js'', ds'', z8, z9, z10, z11, z12, ok'', h2⟩
      · exact .inl ⟨ce'', by rw [forD, g7]; simp only [h]; rw [forD, g7]; simp only [h2]⟩
      · exact .inr ⟨_, _, by rw [forD, g7]; simp only [h]; rw [forD, g7]; simp only [h2]; rw [forD]⟩
  rw [es]
  unfold f_law b_law
  generalize eSettle (eLcC [13] (iArgs [(eV 2)] kRng1) (gN 13) (eC (.bl true)) el_law_0) = G3 at e3 ⊢
  generalize eSettle (eLcC [13] (iArgs [(eBin kAdd (eV 2) (eC (.int 1)))] kRng1) (gN 13) (eC (.bl true)) el_law_1) = G4 at e4 ⊢
  generalize sIf (eBin kEq (eArgs [(eV 1), (eC (.int 4))] (kCall f__law_draw)) (eC (.int 0))) (sSet 6 (eBin kSub (eArgs [(eV 1), (eBin kAdd (eV 2) (eC (.int 5)))] (kCall f__law_draw)) (eC (.int 2)))) sNil = GI at eIf ⊢
  rcases loop with ⟨ce', h⟩ | ⟨sl', ce', h⟩
  · exact ⟨_, by simp only [mkD, List.map_cons, List.map_nil, List.length_cons, List.length_nil, Nat.reduceAdd, Nat.reduceSub, List.replicate_succ, List.replicate_zero, List.cons_append, List.nil_append, sSeq, sSet, sRet, sExp, sDrop, sIf, sNil, sFor, eBin, eUn, eBind, eV, eC, eArgs, eAnd, eOr, eNot, eIf, eMth, eTru, kBool, List.getElem?_cons_zero, List.getElem?_cons_succ, List.set_cons_zero, List.set_cons_succ, if_true, if_false, ite_true, ite_false, Bool.false_eq_true, eq_self_iff_true, reduceIte, ims, Option.map_some, kTup, kLst, kLstC, kCall, List.all_cons, List.all_nil, plainV, Bool.and_true, Bool.true_and, iExp, iArgs, itS, itL, itT, gN, gT, gL, Option.bind_some, frz, ce_get, ce_get0, ce_set, ce_set0, ce_take, asL, asSq, asIm, truV, kTru, kSub, kMod, kLen, kInt, kMin, kMax, kCmp, kIsB, tyL, tyS, Option.isSome_some, Bool.and_self, beq_self_eq_true, Option.isSome, Bool.or_true, Bool.true_or, Bool.not_true, Bool.not_false, Bool.false_and, Bool.and_false, Bool.or_false, Bool.false_or, List.cons.injEq, reduceCtorEq, false_and, and_false, and_self, and_true, true_and, decide_true, decide_false, Nat.reduceLeDiff, LINE, e0, e1, et, e2, e3, e4, fL, fJ, kl, kj, mk, ai, e5, eIf, kr, h, finD]; rfl⟩
  · exact ⟨_, by simp only [mkD, List.map_cons, List.map_nil, List.length_cons, List.length_nil, Nat.reduceAdd, Nat.reduceSub, List.replicate_succ, List.replicate_zero, List.cons_append, List.nil_append, sSeq, sSet, sRet, sExp, sDrop, sIf, sNil, sFor, eBin, eUn, eBind, eV, eC, eArgs, eAnd, eOr, eNot, eIf, eMth, eTru, kBool, List.getElem?_cons_zero, List.getElem?_cons_succ, List.set_cons_zero, List.set_cons_succ, if_true, if_false, ite_true, ite_false, Bool.false_eq_true, eq_self_iff_true, reduceIte, ims, Option.map_some, kTup, kLst, kLstC, kCall, List.all_cons, List.all_nil, plainV, Bool.and_true, Bool.true_and, iExp, iArgs, itS, itL, itT, gN, gT, gL, Option.bind_some, frz, ce_get, ce_get0, ce_set, ce_set0, ce_take, asL, asSq, asIm, truV, kTru, kSub, kMod, kLen, kInt, kMin, kMax, kCmp, kIsB, tyL, tyS, Option.isSome_some, Bool.and_self, beq_self_eq_true, Option.isSome, Bool.or_true, Bool.true_or, Bool.not_true, Bool.not_false, Bool.false_and, Bool.and_false, Bool.or_false, Bool.false_or, List.cons.injEq, reduceCtorEq, false_and, and_false, and_self, and_true, true_and, decide_true, decide_false, Nat.reduceLeDiff, LINE, e0, e1, et, e2, e3, e4, fL, fJ, kl, kj, mk, ai, e5, eIf, kr, h, finD]; rfl⟩

end ZZ

set_option Elab.async false
set_option linter.all false
set_option maxRecDepth 100000
set_option maxHeartbeats 4000000
namespace ZZ
open PySem PySem.Spec L2 L2H
open ZH
/-- the law's own promise -/
def spLaw (K : PySem.W.Frag) : Sp := fun vs H Q _ => ∃ (a : Addr) (ns : List Int), vs = [.ref a] ∧ SqL K H a (ns.map V.int) ∧ ns.length ≤ 63 ∧ ∀ H', Q (.bl true) H'
theorem ints_reps {Z : Zx} {F : Hp} : ∀ ns : List Int, Reps Z F (ns.map D.int) (ns.map V.int)
  | [] => reps_nil
  | n :: ns => reps_cons (by unfold Rep; rfl) (ints_reps ns)
theorem sp_law {w : World} {K : PySem.W.Frag} {cl : Nat → Addr} {vs : List V} {H : Hp} {Q : VK} {E : XK} (h : spLaw K vs H Q E) : spD (Zz w K cl) f_law 1 vs H Q E := by
  obtain ⟨a, ns, rfl, hS, hl, k⟩ := h
  obtain ⟨ce', he⟩ := law_true ns hl
  refine ⟨[], H, [], [.im (.wl (ns.map .int))], ⟨Same.refl _, rfl, List.nodup_nil, fun k a c h1 h2 => by simp at h1⟩, ⟨_, _, rfl, ?_, rfl⟩, rfl, ?_⟩
  · unfold VRep Rep
    exact ⟨a, _, rfl, hS, ints_reps ns⟩
  · rw [he]
    intro A' F' H' x _ _ _ r
    rw [rep_bl r]
    exact k H'
theorem tx_mk {w : World} {K : PySem.W.Frag} {h : Heap} {mg : Str → Option Value} (X : K.In h) (G : h.Ns mainGlobals mg) (cZ : SaysZ fbs fnl tbs w K) : Tx PySem.Challenge.pw_siltmeet_k05_core_narrowed w K mg (fun n => [146, 153, 208, 232, 246, 260, 265, 295, 309, 316, 323, 330, 337, 344, 351, 356, 363, 370, 377, 384, 391, 396, 60, 79, 98, 117, 239, 266].getD n 0) (fun n => [44, 63, 82, 101, 120, 298, 31].getD n 0) := {
    b_abs := PySem.W.mg_none_of X G (cZ.dec (p := PySem.W.nsIn K mainGlobals "abs" = some none) (i := 0) (j := 0) rfl rfl rfl),
    b_all := PySem.W.mg_none_of X G (cZ.dec (p := PySem.W.nsIn K mainGlobals "all" = some none) (i := 0) (j := 1) rfl rfl rfl),
    b_bool := PySem.W.mg_none_of X G (cZ.dec (p := PySem.W.nsIn K mainGlobals "bool" = some none) (i := 0) (j := 2) rfl rfl rfl),
    b_enumerate := PySem.W.mg_none_of X G (cZ.dec (p := PySem.W.nsIn K mainGlobals "enumerate" = some none) (i := 0) (j := 3) rfl rfl rfl),
    b_int := PySem.W.mg_none_of X G (cZ.dec (p := PySem.W.nsIn K mainGlobals "int" = some none) (i := 0) (j := 4) rfl rfl rfl),
    b_isinstance := PySem.W.mg_none_of X G (cZ.dec (p := PySem.W.nsIn K mainGlobals "isinstance" = some none) (i := 0) (j := 5) rfl rfl rfl),
    b_len := PySem.W.mg_none_of X G (cZ.dec (p := PySem.W.nsIn K mainGlobals "len" = some none) (i := 0) (j := 6) rfl rfl rfl),
    b_list := PySem.W.mg_none_of X G (cZ.dec (p := PySem.W.nsIn K mainGlobals "list" = some none) (i := 0) (j := 7) rfl rfl rfl),
    b_max := PySem.W.mg_none_of X G (cZ.dec (p := PySem.W.nsIn K mainGlobals "max" = some none) (i := 0) (j := 8) rfl rfl rfl),
    b_min := PySem.W.mg_none_of X G (cZ.dec (p := PySem.W.nsIn K mainGlobals "min" = some none) (i := 0) (j := 9) rfl rfl rfl),
    b_range := PySem.W.mg_none_of X G (cZ.dec (p := PySem.W.nsIn K mainGlobals "range" = some none) (i := 0) (j := 10) rfl rfl rfl),
    b_sum := PySem.W.mg_none_of X G (cZ.dec (p := PySem.W.nsIn K mainGlobals "sum" = some none) (i := 0) (j := 11) rfl rfl rfl),
    b_tuple := PySem.W.mg_none_of X G (cZ.dec (p := PySem.W.nsIn K mainGlobals "tuple" = some none) (i := 0) (j := 12) rfl rfl rfl),
    f_is_layer := (let ⟨_, F⟩ := fun_z (cZ.fns (i := 0) (d := dz_0) rfl) rfl rfl; ⟨_, F, F.binds (ps := ["layer"]) fun _ _ _ _ _ _ us hl => match us, hl with | [_], _ => rfl⟩),
    g_is_layer := PySem.W.mg_of X G (cZ.dec (p := PySem.W.nsIn K mainGlobals "is_layer" = some (some (.ref 146))) (i := 0) (j := 13) rfl rfl rfl),
    f_is_joint := (let ⟨_, F⟩ := fun_z (cZ.fns (i := 1) (d := dz_1) rfl) rfl rfl; ⟨_, F, F.binds (ps := ["joint"]) fun _ _ _ _ _ _ us hl => match us, hl with | [_], _ => rfl⟩),
    g_is_joint := PySem.W.mg_of X G (cZ.dec (p := PySem.W.nsIn K mainGlobals "is_joint" = some (some (.ref 153))) (i := 0) (j := 14) rfl rfl rfl),
    f_Core___init__ := (let ⟨_, F⟩ := funD_z (ds := [.non]) (qs := []) (cZ.fns (i := 2) (d := dz_2) rfl) rfl (cZ.fact (i := 0) (j := 15) rfl rfl : dflZ K dz_2.dfl [.non] = true) rfl; ⟨_, F, FunD.all1 F fun _ _ _ _ _ _ _ us its h1 h2 => match us, its, h1, h2 with | [_, _, _], [_], _, _ => ⟨_, rfl, rfl⟩⟩),
    f_Core___len__ := (let ⟨_, F⟩ := fun_z (cZ.fns (i := 3) (d := dz_3) rfl) rfl rfl; ⟨_, F, F.binds (ps := ["self"]) fun _ _ _ _ _ _ us hl => match us, hl with | [_], _ => rfl⟩),
    o1_Core___len__ := ⟨(cZ.dec (p := PySem.W.findIn K (.ref 298) "__len__" = some (some (.ref 232))) (i := 0) (j := 16) rfl rfl rfl), (cZ.fact (i := 0) (j := 17) rfl rfl : PySem.W.isFn K (.ref 232) = true)⟩,
    f_Core___getitem__ := (let ⟨_, F⟩ := fun_z (cZ.fns (i := 4) (d := dz_4) rfl) rfl rfl; ⟨_, F, F.binds (ps := ["self", "k"]) fun _ _ _ _ _ _ us hl => match us, hl with | [_, _], _ => rfl⟩),
    m_Core___getitem__ := ⟨(cZ.dec (p := PySem.W.findIn K (.ref 298) "__getitem__" = some (some (.ref 246))) (i := 0) (j := 18) rfl rfl rfl), (cZ.fact (i := 0) (j := 19) rfl rfl : PySem.W.isFn K (.ref 246) = true), (cZ.fact (i := 0) (j := 20) rfl rfl : PySem.W.keepIn K (.ref 246) = true)⟩,
    f_Core_joint := (let ⟨_, F⟩ := fun_z (cZ.fns (i := 5) (d := dz_5) rfl) rfl rfl; ⟨_, F, F.binds (ps := ["self", "k"]) fun _ _ _ _ _ _ us hl => match us, hl with | [_, _], _ => rfl⟩),
    m_Core_joint := ⟨(cZ.dec (p := PySem.W.findIn K (.ref 298) "joint" = some (some (.ref 260))) (i := 0) (j := 21) rfl rfl rfl), (cZ.fact (i := 0) (j := 22) rfl rfl : PySem.W.isFn K (.ref 260) = true), (cZ.fact (i := 0) (j := 23) rfl rfl : PySem.W.keepIn K (.ref 260) = true)⟩,
    f_Core_thickness := (let ⟨_, F⟩ := fun_z (cZ.fns (i := 6) (d := dz_6) rfl) rfl rfl; ⟨_, F, F.binds (ps := ["self"]) fun _ _ _ _ _ _ us hl => match us, hl with | [_], _ => rfl⟩),
    p_Core_thickness := ⟨(cZ.dec (p := PySem.W.findIn K (.ref 298) "thickness" = some (some (.ref 266))) (i := 0) (j := 24) rfl rfl rfl), (cZ.dec (p := PySem.W.specialIn K (.ref 266) "__get__" = some (some (.builtin "property.__get__"))) (i := 1) (j := 0) rfl rfl rfl), (cZ.dec (p := PySem.W.takesIn K (.ref 266) = some true) (i := 1) (j := 1) rfl rfl rfl), (recB_ok (cZ.fact (i := 1) (j := 2) rfl rfl : recB K 266 "property" 265 = true))⟩,
    f_Core_narrowed := (funD_z (ds := []) (qs := [("least", .int 0), ("most", .non)]) (cZ.fns (i := 7) (d := dz_7) rfl) rfl rfl (cZ.fact (i := 1) (j := 3) rfl rfl : kwdZ K dz_7.kwd [("least", .int 0), ("most", .non)] = true)),
    m_Core_narrowed := ⟨(cZ.dec (p := PySem.W.findIn K (.ref 298) "narrowed" = some (some (.ref 295))) (i := 1) (j := 4) rfl rfl rfl), (cZ.fact (i := 1) (j := 5) rfl rfl : PySem.W.isFn K (.ref 295) = true), (cZ.fact (i := 1) (j := 6) rfl rfl : PySem.W.keepIn K (.ref 295) = true)⟩,
    f__law_mix := (let ⟨_, F⟩ := fun_z (cZ.fns (i := 8) (d := dz_8) rfl) rfl rfl; ⟨_, F, F.binds (ps := ["_law_cell", "_law_turn"]) fun _ _ _ _ _ _ us hl => match us, hl with | [_, _], _ => rfl⟩),
    g__law_mix := PySem.W.mg_of X G (cZ.dec (p := PySem.W.nsIn K mainGlobals "_law_mix" = some (some (.ref 309))) (i := 1) (j := 7) rfl rfl rfl),
    f__law_pool := (let ⟨_, F⟩ := fun_z (cZ.fns (i := 9) (d := dz_9) rfl) rfl rfl; ⟨_, F, F.binds (ps := ["_law_script", "_law_many"]) fun _ _ _ _ _ _ us hl => match us, hl with | [_, _], _ => rfl⟩),
    g__law_pool := PySem.W.mg_of X G (cZ.dec (p := PySem.W.nsIn K mainGlobals "_law_pool" = some (some (.ref 316))) (i := 1) (j := 8) rfl rfl rfl),
    f__law_draw := (let ⟨_, F⟩ := fun_z (cZ.fns (i := 10) (d := dz_10) rfl) rfl rfl; ⟨_, F, F.binds (ps := ["_law_pool_here", "_law_bound"]) fun _ _ _ _ _ _ us hl => match us, hl with | [_, _], _ => rfl⟩),
    g__law_draw := PySem.W.mg_of X G (cZ.dec (p := PySem.W.nsIn K mainGlobals "_law_draw" = some (some (.ref 323))) (i := 1) (j := 9) rfl rfl rfl),
    f__law_number := (let ⟨_, F⟩ := fun_z (cZ.fns (i := 11) (d := dz_11) rfl) rfl rfl; ⟨_, F, F.binds (ps := ["_law_pool_here"]) fun _ _ _ _ _ _ us hl => match us, hl with | [_], _ => rfl⟩),
    g__law_number := PySem.W.mg_of X G (cZ.dec (p := PySem.W.nsIn K mainGlobals "_law_number" = some (some (.ref 330))) (i := 1) (j := 10) rfl rfl rfl),
    f__law_kind := (let ⟨_, F⟩ := fun_z (cZ.fns (i := 12) (d := dz_12) rfl) rfl rfl; ⟨_, F, F.binds (ps := ["_law_pool_here"]) fun _ _ _ _ _ _ us hl => match us, hl with | [_], _ => rfl⟩),
    g__law_kind := PySem.W.mg_of X G (cZ.dec (p := PySem.W.nsIn K mainGlobals "_law_kind" = some (some (.ref 337))) (i := 1) (j := 11) rfl rfl rfl),
    f__law_bounds := (let ⟨_, F⟩ := fun_z (cZ.fns (i := 13) (d := dz_13) rfl) rfl rfl; ⟨_, F, F.binds (ps := ["_law_pool_here"]) fun _ _ _ _ _ _ us hl => match us, hl with | [_], _ => rfl⟩),
    g__law_bounds := PySem.W.mg_of X G (cZ.dec (p := PySem.W.nsIn K mainGlobals "_law_bounds" = some (some (.ref 344))) (i := 1) (j := 12) rfl rfl rfl),
    f__law_whole := (let ⟨_, F⟩ := fun_z (cZ.fns (i := 14) (d := dz_14) rfl) rfl rfl; ⟨_, F, F.binds (ps := ["_law_number_here"]) fun _ _ _ _ _ _ us hl => match us, hl with | [_], _ => rfl⟩),
    g__law_whole := PySem.W.mg_of X G (cZ.dec (p := PySem.W.nsIn K mainGlobals "_law_whole" = some (some (.ref 351))) (i := 1) (j := 13) rfl rfl rfl),
    f__law_same := (let ⟨_, F⟩ := fun_z (cZ.fns (i := 15) (d := dz_15) rfl) rfl rfl; ⟨_, F, F.binds (ps := ["_law_core", "_law_layers", "_law_joints"]) fun _ _ _ _ _ _ us hl => match us, hl with | [_, _, _], _ => rfl⟩),
    g__law_same := PySem.W.mg_of X G (cZ.dec (p := PySem.W.nsIn K mainGlobals "_law_same" = some (some (.ref 356))) (i := 1) (j := 14) rfl rfl rfl),
    f__law_call := (let ⟨_, F⟩ := fun_z (cZ.fns (i := 16) (d := dz_16) rfl) rfl rfl; ⟨_, F, F.binds (ps := ["_law_core", "_law_at", "_law_low", "_law_high", "_law_shape"]) fun _ _ _ _ _ _ us hl => match us, hl with | [_, _, _, _, _], _ => rfl⟩),
    g__law_call := PySem.W.mg_of X G (cZ.dec (p := PySem.W.nsIn K mainGlobals "_law_call" = some (some (.ref 363))) (i := 1) (j := 15) rfl rfl rfl),
    f__law_due := (let ⟨_, F⟩ := fun_z (cZ.fns (i := 17) (d := dz_17) rfl) rfl rfl; ⟨_, F, F.binds (ps := ["_law_joint", "_law_low", "_law_high", "_law_shape"]) fun _ _ _ _ _ _ us hl => match us, hl with | [_, _, _, _], _ => rfl⟩),
    g__law_due := PySem.W.mg_of X G (cZ.dec (p := PySem.W.nsIn K mainGlobals "_law_due" = some (some (.ref 370))) (i := 1) (j := 16) rfl rfl rfl),
    f__law_near := (let ⟨_, F⟩ := fun_z (cZ.fns (i := 18) (d := dz_18) rfl) rfl rfl; ⟨_, F, F.binds (ps := ["_law_pool_here", "_law_joint"]) fun _ _ _ _ _ _ us hl => match us, hl with | [_, _], _ => rfl⟩),
    g__law_near := PySem.W.mg_of X G (cZ.dec (p := PySem.W.nsIn K mainGlobals "_law_near" = some (some (.ref 377))) (i := 1) (j := 17) rfl rfl rfl),
    f__law_told := (let ⟨_, F⟩ := fun_z (cZ.fns (i := 19) (d := dz_19) rfl) rfl rfl; ⟨_, F, F.binds (ps := ["_law_core", "_law_at", "_law_low", "_law_high", "_law_shape"]) fun _ _ _ _ _ _ us hl => match us, hl with | [_, _, _, _, _], _ => rfl⟩),
    g__law_told := PySem.W.mg_of X G (cZ.dec (p := PySem.W.nsIn K mainGlobals "_law_told" = some (some (.ref 384))) (i := 1) (j := 18) rfl rfl rfl),
    f__law_beside := (let ⟨_, F⟩ := fun_z (cZ.fns (i := 20) (d := dz_20) rfl) rfl rfl; ⟨_, F, F.binds (ps := ["_law_core", "_law_layers", "_law_joints", "_law_at", "_law_near_here", "_law_shape"]) fun _ _ _ _ _ _ us hl => match us, hl with | [_, _, _, _, _, _], _ => rfl⟩),
    g__law_beside := PySem.W.mg_of X G (cZ.dec (p := PySem.W.nsIn K mainGlobals "_law_beside" = some (some (.ref 391))) (i := 1) (j := 19) rfl rfl rfl),
    f_law := (let ⟨_, F⟩ := fun_z (cZ.fns (i := 21) (d := dz_21) rfl) rfl rfl; ⟨_, F, F.binds (ps := ["_law_script"]) fun _ _ _ _ _ _ us hl => match us, hl with | [_], _ => rfl⟩),
    g_law := PySem.W.mg_of X G (cZ.dec (p := PySem.W.nsIn K mainGlobals "law" = some (some (.ref 396))) (i := 1) (j := 20) rfl rfl rfl),
    g_Core := PySem.W.mg_of X G (cZ.dec (p := PySem.W.nsIn K mainGlobals "Core" = some (some (.ref 298))) (i := 1) (j := 21) rfl rfl rfl),
    k_Core := ⟨⟨(cZ.fact (i := 1) (j := 22) rfl rfl : PySem.W.plainGet K 298 Str.empty = true), (cZ.fact (i := 1) (j := 23) rfl rfl : PySem.W.hasDictIn K 298 = true), (cZ.fact (i := 1) (j := 24) rfl rfl : PySem.W.plainOver K 298 = true), (cZ.dec (p := PySem.W.findIn K (.ref 298) "__setattr__" = some (some (.builtin "object.__setattr__"))) (i := 2) (j := 0) rfl rfl rfl)⟩, by show (flds 5).Nodup; decide +kernel⟩,
    na_Core_layers := (cZ.dec (p := PySem.W.findIn K (.ref 298) "layers" = some none) (i := 2) (j := 1) rfl rfl rfl),
    na_Core_joints := (cZ.dec (p := PySem.W.findIn K (.ref 298) "joints" = some none) (i := 2) (j := 2) rfl rfl rfl),
    mk_Core := ⟨(cZ.fact (i := 2) (j := 3) rfl rfl : PySem.W.makesIn K 298 = true), (cZ.dec (p := PySem.W.findIn K (.ref 298) "__init__" = some (some (.ref 208))) (i := 2) (j := 4) rfl rfl rfl), (cZ.fact (i := 2) (j := 5) rfl rfl : PySem.W.isFn K (.ref 208) = true), (cZ.fact (i := 2) (j := 6) rfl rfl : PySem.W.keepIn K (.ref 298) = true)⟩,
    g_SiltError := PySem.W.mg_of X G (cZ.dec (p := PySem.W.nsIn K mainGlobals "SiltError" = some (some (.ref 31))) (i := 2) (j := 7) rfl rfl rfl),
    gs_LETTERS := (strB_ok X G (cZ.fact (i := 2) (j := 8) rfl rfl : strB K "LETTERS" "abcdefghijklmnopqrstuvwxyz" = true)),
    gi_Core := ⟨(cZ.dec (p := PySem.W.findIn K (.ref 298) "__getitem__" = some (some (.ref 246))) (i := 2) (j := 9) rfl rfl rfl), (cZ.fact (i := 2) (j := 10) rfl rfl : PySem.W.isFn K (.ref 246) = true), (cZ.fact (i := 2) (j := 11) rfl rfl : PySem.W.fnIn K 246 = true)⟩,
    cr_Core := ⟨(cZ.fact (i := 2) (j := 12) rfl rfl : PySem.W.readsIn K 298 (.type "type") = true), (cZ.dec (p := PySem.W.specialIn K (.ref 298) "__getattribute__" = some (some (.builtin "type.__getattribute__"))) (i := 2) (j := 13) rfl rfl rfl)⟩,
    cv_Core_MOST := (let ⟨_, h, t, e⟩ := cvB_ok (d := .int 20) (cZ.fact (i := 2) (j := 14) rfl rfl : cvB K 298 "MOST" (.int 20) = true); ⟨t, e ▸ h, ⟨_, rfl⟩⟩),
    f_Core___iter__ := (let ⟨_, F⟩ := fun_z (cZ.fns (i := 22) (d := dz_22) rfl) rfl rfl; ⟨_, F, F.binds (ps := ["self"]) fun _ _ _ _ _ _ us hl => match us, hl with | [_], _ => rfl⟩),
    b_iter := PySem.W.mg_none_of X G (cZ.dec (p := PySem.W.nsIn K mainGlobals "iter" = some none) (i := 2) (j := 15) rfl rfl rfl),
    it_Core := ⟨(cZ.dec (p := PySem.W.findIn K (.ref 298) "__iter__" = some (some (.ref 239))) (i := 2) (j := 16) rfl rfl rfl), (cZ.fact (i := 2) (j := 17) rfl rfl : PySem.W.isFn K (.ref 239) = true)⟩,
    g_BadCore := PySem.W.mg_of X G (cZ.dec (p := PySem.W.nsIn K mainGlobals "BadCore" = some (some (.ref 44))) (i := 2) (j := 18) rfl rfl rfl),
    xt_BadCore := ⟨(cZ.fact (i := 2) (j := 22) rfl rfl : PySem.W.excIn K 44 [.type "ValueError", .type "Exception", .type "BaseException", .type "object"] "ValueError.__new__" = true), (cZ.fact (i := 2) (j := 19) rfl rfl : PySem.W.keepIn K (.ref 44) = true), (cZ.dec (p := PySem.W.subIn K (.ref 44) (.type "BaseException") = some true) (i := 2) (j := 20) rfl rfl rfl), (cZ.dec (p := PySem.W.typeIn K (.ref 44) = some (.type "type")) (i := 2) (j := 21) rfl rfl rfl)⟩,
    g_BadLayer := PySem.W.mg_of X G (cZ.dec (p := PySem.W.nsIn K mainGlobals "BadLayer" = some (some (.ref 63))) (i := 2) (j := 23) rfl rfl rfl),
    o_BadLayer := ⟨excB_ok (cZ.fact (i := 3) (j := 3) rfl rfl : excB K 63 = true), (cZ.dec (p := PySem.W.findIn K (.ref 63) "__setattr__" = some (some (.builtin "object.__setattr__"))) (i := 3) (j := 2) rfl rfl rfl), (cZ.dec (p := PySem.W.subIn K (.ref 63) (.type "BaseException") = some true) (i := 3) (j := 0) rfl rfl rfl), (cZ.dec (p := PySem.W.typeIn K (.ref 63) = some (.type "type")) (i := 3) (j := 1) rfl rfl rfl), (cZ.fact (i := 2) (j := 24) rfl rfl : PySem.W.keepIn K (.ref 63) = true)⟩,
    i_BadLayer := (cZ.dec (p := PySem.W.findIn K (.ref 63) "__init__" = some (some (.ref 60))) (i := 3) (j := 4) rfl rfl rfl),
    t_BadLayer := (cZ.dec (p := PySem.W.typeIn K (.ref 60) = some (.type "function")) (i := 3) (j := 5) rfl rfl rfl),
    nx_BadLayer_index := (cZ.dec (p := PySem.W.findIn K (.ref 63) "index" = some none) (i := 3) (j := 6) rfl rfl rfl),
    f_BadLayer___init__ := (let ⟨_, F⟩ := fun_z (cZ.fns (i := 23) (d := dz_23) rfl) rfl rfl; ⟨_, F, F.binds (ps := ["self", "index"]) fun _ _ _ _ _ _ us hl => match us, hl with | [_, _], _ => rfl⟩),
    g_BadJoint := PySem.W.mg_of X G (cZ.dec (p := PySem.W.nsIn K mainGlobals "BadJoint" = some (some (.ref 82))) (i := 3) (j := 7) rfl rfl rfl),
    o_BadJoint := ⟨excB_ok (cZ.fact (i := 3) (j := 12) rfl rfl : excB K 82 = true), (cZ.dec (p := PySem.W.findIn K (.ref 82) "__setattr__" = some (some (.builtin "object.__setattr__"))) (i := 3) (j := 11) rfl rfl rfl), (cZ.dec (p := PySem.W.subIn K (.ref 82) (.type "BaseException") = some true) (i := 3) (j := 9) rfl rfl rfl), (cZ.dec (p := PySem.W.typeIn K (.ref 82) = some (.type "type")) (i := 3) (j := 10) rfl rfl rfl), (cZ.fact (i := 3) (j := 8) rfl rfl : PySem.W.keepIn K (.ref 82) = true)⟩,
    i_BadJoint := (cZ.dec (p := PySem.W.findIn K (.ref 82) "__init__" = some (some (.ref 79))) (i := 3) (j := 13) rfl rfl rfl),
    t_BadJoint := (cZ.dec (p := PySem.W.typeIn K (.ref 79) = some (.type "function")) (i := 3) (j := 14) rfl rfl rfl),
    nx_BadJoint_index := (cZ.dec (p := PySem.W.findIn K (.ref 82) "index" = some none) (i := 3) (j := 15) rfl rfl rfl),
    f_BadJoint___init__ := (let ⟨_, F⟩ := fun_z (cZ.fns (i := 24) (d := dz_24) rfl) rfl rfl; ⟨_, F, F.binds (ps := ["self", "index"]) fun _ _ _ _ _ _ us hl => match us, hl with | [_, _], _ => rfl⟩),
    g_NoLayer := PySem.W.mg_of X G (cZ.dec (p := PySem.W.nsIn K mainGlobals "NoLayer" = some (some (.ref 101))) (i := 3) (j := 16) rfl rfl rfl),
    o_NoLayer := ⟨excB_ok (cZ.fact (i := 3) (j := 21) rfl rfl : excB K 101 = true), (cZ.dec (p := PySem.W.findIn K (.ref 101) "__setattr__" = some (some (.builtin "object.__setattr__"))) (i := 3) (j := 20) rfl rfl rfl), (cZ.dec (p := PySem.W.subIn K (.ref 101) (.type "BaseException") = some true) (i := 3) (j := 18) rfl rfl rfl), (cZ.dec (p := PySem.W.typeIn K (.ref 101) = some (.type "type")) (i := 3) (j := 19) rfl rfl rfl), (cZ.fact (i := 3) (j := 17) rfl rfl : PySem.W.keepIn K (.ref 101) = true)⟩,
    i_NoLayer := (cZ.dec (p := PySem.W.findIn K (.ref 101) "__init__" = some (some (.ref 98))) (i := 3) (j := 22) rfl rfl rfl),
    t_NoLayer := (cZ.dec (p := PySem.W.typeIn K (.ref 98) = some (.type "function")) (i := 3) (j := 23) rfl rfl rfl),
    nx_NoLayer_index := (cZ.dec (p := PySem.W.findIn K (.ref 101) "index" = some none) (i := 3) (j := 24) rfl rfl rfl),
    f_NoLayer___init__ := (let ⟨_, F⟩ := fun_z (cZ.fns (i := 25) (d := dz_25) rfl) rfl rfl; ⟨_, F, F.binds (ps := ["self", "index"]) fun _ _ _ _ _ _ us hl => match us, hl with | [_, _], _ => rfl⟩),
    g_NoJoint := PySem.W.mg_of X G (cZ.dec (p := PySem.W.nsIn K mainGlobals "NoJoint" = some (some (.ref 120))) (i := 4) (j := 0) rfl rfl rfl),
    o_NoJoint := ⟨excB_ok (cZ.fact (i := 4) (j := 5) rfl rfl : excB K 120 = true), (cZ.dec (p := PySem.W.findIn K (.ref 120) "__setattr__" = some (some (.builtin "object.__setattr__"))) (i := 4) (j := 4) rfl rfl rfl), (cZ.dec (p := PySem.W.subIn K (.ref 120) (.type "BaseException") = some true) (i := 4) (j := 2) rfl rfl rfl), (cZ.dec (p := PySem.W.typeIn K (.ref 120) = some (.type "type")) (i := 4) (j := 3) rfl rfl rfl), (cZ.fact (i := 4) (j := 1) rfl rfl : PySem.W.keepIn K (.ref 120) = true)⟩,
    i_NoJoint := (cZ.dec (p := PySem.W.findIn K (.ref 120) "__init__" = some (some (.ref 117))) (i := 4) (j := 6) rfl rfl rfl),
    t_NoJoint := (cZ.dec (p := PySem.W.typeIn K (.ref 117) = some (.type "function")) (i := 4) (j := 7) rfl rfl rfl),
    nx_NoJoint_index := (cZ.dec (p := PySem.W.findIn K (.ref 120) "index" = some none) (i := 4) (j := 8) rfl rfl rfl),
    f_NoJoint___init__ := (let ⟨_, F⟩ := fun_z (cZ.fns (i := 26) (d := dz_26) rfl) rfl rfl; ⟨_, F, F.binds (ps := ["self", "index"]) fun _ _ _ _ _ _ us hl => match us, hl with | [_, _], _ => rfl⟩),
    xi := fun c hc => match c, hc with | 0, _ => ⟨(cZ.dec (p := PySem.W.findIn K (.ref 44) "__getattribute__" = some (some (.builtin "BaseException.__getattribute__"))) (i := 4) (j := 11) rfl rfl rfl), (cZ.dec (p := PySem.W.findIn K (.ref 44) "__getattr__" = some none) (i := 4) (j := 12) rfl rfl rfl), (cZ.dec (p := PySem.W.subIn K (.ref 44) (.type "BaseException") = some true) (i := 2) (j := 20) rfl rfl rfl), (cZ.fact (i := 4) (j := 13) rfl rfl : PySem.W.hasDictIn K 44 = true), (cZ.dec (p := PySem.W.findIn K (.ref 44) "__class__" = some (some (.builtin "object.__class__"))) (i := 4) (j := 14) rfl rfl rfl), (cZ.dec (p := PySem.W.specialIn K (.builtin "object.__class__") "__get__" = some (some (.builtin "getset_descriptor.__get__"))) (i := 4) (j := 9) rfl rfl rfl), (cZ.dec (p := PySem.W.takesIn K (.builtin "object.__class__") = some true) (i := 4) (j := 10) rfl rfl rfl), (cZ.dec (p := PySem.W.mroIn K 44 (.type "object") = some true) (i := 4) (j := 15) rfl rfl rfl)⟩ | 1, _ => ⟨(cZ.dec (p := PySem.W.findIn K (.ref 63) "__getattribute__" = some (some (.builtin "BaseException.__getattribute__"))) (i := 4) (j := 16) rfl rfl rfl), (cZ.dec (p := PySem.W.findIn K (.ref 63) "__getattr__" = some none) (i := 4) (j := 17) rfl rfl rfl), (cZ.dec (p := PySem.W.subIn K (.ref 63) (.type "BaseException") = some true) (i := 3) (j := 0) rfl rfl rfl), (cZ.fact (i := 4) (j := 18) rfl rfl : PySem.W.hasDictIn K 63 = true), (cZ.dec (p := PySem.W.findIn K (.ref 63) "__class__" = some (some (.builtin "object.__class__"))) (i := 4) (j := 19) rfl rfl rfl), (cZ.dec (p := PySem.W.specialIn K (.builtin "object.__class__") "__get__" = some (some (.builtin "getset_descriptor.__get__"))) (i := 4) (j := 9) rfl rfl rfl), (cZ.dec (p := PySem.W.takesIn K (.builtin "object.__class__") = some true) (i := 4) (j := 10) rfl rfl rfl), (cZ.dec (p := PySem.W.mroIn K 63 (.type "object") = some true) (i := 4) (j := 20) rfl rfl rfl)⟩ | 2, _ => ⟨(cZ.dec (p := PySem.W.findIn K (.ref 82) "__getattribute__" = some (some (.builtin "BaseException.__getattribute__"))) (i := 4) (j := 21) rfl rfl rfl), (cZ.dec (p := PySem.W.findIn K (.ref 82) "__getattr__" = some none) (i := 4) (j := 22) rfl rfl rfl), (cZ.dec (p := PySem.W.subIn K (.ref 82) (.type "BaseException") = some true) (i := 3) (j := 9) rfl rfl rfl), (cZ.fact (i := 4) (j := 23) rfl rfl : PySem.W.hasDictIn K 82 = true), (cZ.dec (p := PySem.W.findIn K (.ref 82) "__class__" = some (some (.builtin "object.__class__"))) (i := 4) (j := 24) rfl rfl rfl), (cZ.dec (p := PySem.W.specialIn K (.builtin "object.__class__") "__get__" = some (some (.builtin "getset_descriptor.__get__"))) (i := 4) (j := 9) rfl rfl rfl), (cZ.dec (p := PySem.W.takesIn K (.builtin "object.__class__") = some true) (i := 4) (j := 10) rfl rfl rfl), (cZ.dec (p := PySem.W.mroIn K 82 (.type "object") = some true) (i := 5) (j := 0) rfl rfl rfl)⟩ | 3, _ => ⟨(cZ.dec (p := PySem.W.findIn K (.ref 101) "__getattribute__" = some (some (.builtin "BaseException.__getattribute__"))) (i := 5) (j := 1) rfl rfl rfl), (cZ.dec (p := PySem.W.findIn K (.ref 101) "__getattr__" = some none) (i := 5) (j := 2) rfl rfl rfl), (cZ.dec (p := PySem.W.subIn K (.ref 101) (.type "BaseException") = some true) (i := 3) (j := 18) rfl rfl rfl), (cZ.fact (i := 5) (j := 3) rfl rfl : PySem.W.hasDictIn K 101 = true), (cZ.dec (p := PySem.W.findIn K (.ref 101) "__class__" = some (some (.builtin "object.__class__"))) (i := 5) (j := 4) rfl rfl rfl), (cZ.dec (p := PySem.W.specialIn K (.builtin "object.__class__") "__get__" = some (some (.builtin "getset_descriptor.__get__"))) (i := 4) (j := 9) rfl rfl rfl), (cZ.dec (p := PySem.W.takesIn K (.builtin "object.__class__") = some true) (i := 4) (j := 10) rfl rfl rfl), (cZ.dec (p := PySem.W.mroIn K 101 (.type "object") = some true) (i := 5) (j := 5) rfl rfl rfl)⟩ | 4, _ => ⟨(cZ.dec (p := PySem.W.findIn K (.ref 120) "__getattribute__" = some (some (.builtin "BaseException.__getattribute__"))) (i := 5) (j := 6) rfl rfl rfl), (cZ.dec (p := PySem.W.findIn K (.ref 120) "__getattr__" = some none) (i := 5) (j := 7) rfl rfl rfl), (cZ.dec (p := PySem.W.subIn K (.ref 120) (.type "BaseException") = some true) (i := 4) (j := 2) rfl rfl rfl), (cZ.fact (i := 5) (j := 8) rfl rfl : PySem.W.hasDictIn K 120 = true), (cZ.dec (p := PySem.W.findIn K (.ref 120) "__class__" = some (some (.builtin "object.__class__"))) (i := 5) (j := 9) rfl rfl rfl), (cZ.dec (p := PySem.W.specialIn K (.builtin "object.__class__") "__get__" = some (some (.builtin "getset_descriptor.__get__"))) (i := 4) (j := 9) rfl rfl rfl), (cZ.dec (p := PySem.W.takesIn K (.builtin "object.__class__") = some true) (i := 4) (j := 10) rfl rfl rfl), (cZ.dec (p := PySem.W.mroIn K 120 (.type "object") = some true) (i := 5) (j := 10) rfl rfl rfl)⟩ | n + 5, h => absurd h (by omega),
    xe_BadJoint := fun c hc => match c, hc with | 0, _ => (cZ.dec (p := PySem.W.exmOne K (.ref 44) (.ref 82) = some false) (i := 5) (j := 11) rfl rfl rfl) | 1, _ => (cZ.dec (p := PySem.W.exmOne K (.ref 63) (.ref 82) = some false) (i := 5) (j := 12) rfl rfl rfl) | 2, _ => (cZ.dec (p := PySem.W.exmOne K (.ref 82) (.ref 82) = some true) (i := 5) (j := 13) rfl rfl rfl) | 3, _ => (cZ.dec (p := PySem.W.exmOne K (.ref 101) (.ref 82) = some false) (i := 5) (j := 14) rfl rfl rfl) | 4, _ => (cZ.dec (p := PySem.W.exmOne K (.ref 120) (.ref 82) = some false) (i := 5) (j := 15) rfl rfl rfl) | n + 5, h => absurd h (by omega),
    xe_NoJoint := fun c hc => match c, hc with | 0, _ => (cZ.dec (p := PySem.W.exmOne K (.ref 44) (.ref 120) = some false) (i := 5) (j := 16) rfl rfl rfl) | 1, _ => (cZ.dec (p := PySem.W.exmOne K (.ref 63) (.ref 120) = some false) (i := 5) (j := 17) rfl rfl rfl) | 2, _ => (cZ.dec (p := PySem.W.exmOne K (.ref 82) (.ref 120) = some false) (i := 5) (j := 18) rfl rfl rfl) | 3, _ => (cZ.dec (p := PySem.W.exmOne K (.ref 101) (.ref 120) = some false) (i := 5) (j := 19) rfl rfl rfl) | 4, _ => (cZ.dec (p := PySem.W.exmOne K (.ref 120) (.ref 120) = some true) (i := 5) (j := 20) rfl rfl rfl) | n + 5, h => absurd h (by omega),
    xk_BadCore := fun c hc => match c, hc with | 0, _ => (cZ.dec (p := PySem.W.kitOne K (.ref 44) (.ref 44) = some true) (i := 5) (j := 21) rfl rfl rfl) | 1, _ => (cZ.dec (p := PySem.W.kitOne K (.ref 63) (.ref 44) = some true) (i := 5) (j := 22) rfl rfl rfl) | 2, _ => (cZ.dec (p := PySem.W.kitOne K (.ref 82) (.ref 44) = some true) (i := 5) (j := 23) rfl rfl rfl) | 3, _ => (cZ.dec (p := PySem.W.kitOne K (.ref 101) (.ref 44) = some false) (i := 5) (j := 24) rfl rfl rfl) | 4, _ => (cZ.dec (p := PySem.W.kitOne K (.ref 120) (.ref 44) = some false) (i := 6) (j := 0) rfl rfl rfl) | n + 5, h => absurd h (by omega),
    xk_BadLayer := fun c hc => match c, hc with | 0, _ => (cZ.dec (p := PySem.W.kitOne K (.ref 44) (.ref 63) = some false) (i := 6) (j := 1) rfl rfl rfl) | 1, _ => (cZ.dec (p := PySem.W.kitOne K (.ref 63) (.ref 63) = some true) (i := 6) (j := 2) rfl rfl rfl) | 2, _ => (cZ.dec (p := PySem.W.kitOne K (.ref 82) (.ref 63) = some false) (i := 6) (j := 3) rfl rfl rfl) | 3, _ => (cZ.dec (p := PySem.W.kitOne K (.ref 101) (.ref 63) = some false) (i := 6) (j := 4) rfl rfl rfl) | 4, _ => (cZ.dec (p := PySem.W.kitOne K (.ref 120) (.ref 63) = some false) (i := 6) (j := 5) rfl rfl rfl) | n + 5, h => absurd h (by omega),
    xk_NoLayer := fun c hc => match c, hc with | 0, _ => (cZ.dec (p := PySem.W.kitOne K (.ref 44) (.ref 101) = some false) (i := 6) (j := 6) rfl rfl rfl) | 1, _ => (cZ.dec (p := PySem.W.kitOne K (.ref 63) (.ref 101) = some false) (i := 6) (j := 7) rfl rfl rfl) | 2, _ => (cZ.dec (p := PySem.W.kitOne K (.ref 82) (.ref 101) = some false) (i := 6) (j := 8) rfl rfl rfl) | 3, _ => (cZ.dec (p := PySem.W.kitOne K (.ref 101) (.ref 101) = some true) (i := 6) (j := 9) rfl rfl rfl) | 4, _ => (cZ.dec (p := PySem.W.kitOne K (.ref 120) (.ref 101) = some false) (i := 6) (j := 10) rfl rfl rfl) | n + 5, h => absurd h (by omega),
    ik_Core := (fun ty b h => by
      unfold i_Core at h
      split at h
      · cases h; exact (cZ.dec (p := PySem.W.kitOne K (.type "NoneType") (.ref 298) = some false) (i := 6) (j := 11) rfl rfl rfl)
      · cases h; exact (cZ.dec (p := PySem.W.kitOne K (.type "bool") (.ref 298) = some false) (i := 6) (j := 12) rfl rfl rfl)
      · cases h; exact (cZ.dec (p := PySem.W.kitOne K (.type "int") (.ref 298) = some false) (i := 6) (j := 13) rfl rfl rfl)
      · cases h; exact (cZ.dec (p := PySem.W.kitOne K (.type "str") (.ref 298) = some false) (i := 6) (j := 14) rfl rfl rfl)
      · cases h; exact (cZ.dec (p := PySem.W.kitOne K (.type "tuple") (.ref 298) = some false) (i := 6) (j := 15) rfl rfl rfl)
      · cases h; exact (cZ.dec (p := PySem.W.kitOne K (.type "list") (.ref 298) = some false) (i := 6) (j := 16) rfl rfl rfl)
      · cases h; exact (cZ.dec (p := PySem.W.kitOne K (.ref 298) (.ref 298) = some true) (i := 6) (j := 17) rfl rfl rfl)
      · cases h),
    ic_Core := (fun c b h => by
      unfold i_Core at h
      split at h
      · rename_i e; cases e
      · rename_i e; cases e
      · rename_i e; cases e
      · rename_i e; cases e
      · rename_i e; cases e
      · rename_i e; cases e
      · rename_i e; cases e; exact ⟨⟨(cZ.fact (i := 1) (j := 22) rfl rfl : PySem.W.plainGet K 298 Str.empty = true), (cZ.fact (i := 1) (j := 23) rfl rfl : PySem.W.hasDictIn K 298 = true), (cZ.fact (i := 1) (j := 24) rfl rfl : PySem.W.plainOver K 298 = true), (cZ.dec (p := PySem.W.findIn K (.ref 298) "__setattr__" = some (some (.builtin "object.__setattr__"))) (i := 2) (j := 0) rfl rfl rfl)⟩, (cZ.dec (p := PySem.W.findIn K (.ref 298) "__class__" = some (some (.builtin "object.__class__"))) (i := 6) (j := 18) rfl rfl rfl), (cZ.dec (p := PySem.W.specialIn K (.builtin "object.__class__") "__get__" = some (some (.builtin "getset_descriptor.__get__"))) (i := 4) (j := 9) rfl rfl rfl), (cZ.dec (p := PySem.W.takesIn K (.builtin "object.__class__") = some true) (i := 4) (j := 10) rfl rfl rfl), (cZ.dec (p := PySem.W.mroIn K 298 (.type "object") = some true) (i := 6) (j := 19) rfl rfl rfl)⟩
      · cases h),
    ik_bool := (fun ty b h => by
      unfold i_bool at h
      split at h
      · cases h; exact kit_ty (by decide +kernel)
      · cases h; exact kit_ty (by decide +kernel)
      · cases h; exact kit_ty (by decide +kernel)
      · cases h; exact kit_ty (by decide +kernel)
      · cases h; exact kit_ty (by decide +kernel)
      · cases h; exact kit_ty (by decide +kernel)
      · cases h; exact (cZ.dec (p := PySem.W.kitOne K (.ref 298) (.type "bool") = some false) (i := 6) (j := 20) rfl rfl rfl)
      · cases h),
    ic_bool := (fun c b h => by
      unfold i_bool at h
      split at h
      · rename_i e; cases e
      · rename_i e; cases e
      · rename_i e; cases e
      · rename_i e; cases e
      · rename_i e; cases e
      · rename_i e; cases e
      · rename_i e; cases e; exact ⟨⟨(cZ.fact (i := 1) (j := 22) rfl rfl : PySem.W.plainGet K 298 Str.empty = true), (cZ.fact (i := 1) (j := 23) rfl rfl : PySem.W.hasDictIn K 298 = true), (cZ.fact (i := 1) (j := 24) rfl rfl : PySem.W.plainOver K 298 = true), (cZ.dec (p := PySem.W.findIn K (.ref 298) "__setattr__" = some (some (.builtin "object.__setattr__"))) (i := 2) (j := 0) rfl rfl rfl)⟩, (cZ.dec (p := PySem.W.findIn K (.ref 298) "__class__" = some (some (.builtin "object.__class__"))) (i := 6) (j := 18) rfl rfl rfl), (cZ.dec (p := PySem.W.specialIn K (.builtin "object.__class__") "__get__" = some (some (.builtin "getset_descriptor.__get__"))) (i := 4) (j := 9) rfl rfl rfl), (cZ.dec (p := PySem.W.takesIn K (.builtin "object.__class__") = some true) (i := 4) (j := 10) rfl rfl rfl), (cZ.dec (p := PySem.W.mroIn K 298 (.type "object") = some true) (i := 6) (j := 19) rfl rfl rfl)⟩
      · cases h),
    ik_int := (fun ty b h => by
      unfold i_int at h
      split at h
      · cases h; exact kit_ty (by decide +kernel)
      · cases h; exact kit_ty (by decide +kernel)
      · cases h; exact kit_ty (by decide +kernel)
      · cases h; exact kit_ty (by decide +kernel)
      · cases h; exact kit_ty (by decide +kernel)
      · cases h; exact kit_ty (by decide +kernel)
      · cases h; exact (cZ.dec (p := PySem.W.kitOne K (.ref 298) (.type "int") = some false) (i := 6) (j := 21) rfl rfl rfl)
      · cases h),
    ic_int := (fun c b h => by
      unfold i_int at h
      split at h
      · rename_i e; cases e
      · rename_i e; cases e
      · rename_i e; cases e
      · rename_i e; cases e
      · rename_i e; cases e
      · rename_i e; cases e
      · rename_i e; cases e; exact ⟨⟨(cZ.fact (i := 1) (j := 22) rfl rfl : PySem.W.plainGet K 298 Str.empty = true), (cZ.fact (i := 1) (j := 23) rfl rfl : PySem.W.hasDictIn K 298 = true), (cZ.fact (i := 1) (j := 24) rfl rfl : PySem.W.plainOver K 298 = true), (cZ.dec (p := PySem.W.findIn K (.ref 298) "__setattr__" = some (some (.builtin "object.__setattr__"))) (i := 2) (j := 0) rfl rfl rfl)⟩, (cZ.dec (p := PySem.W.findIn K (.ref 298) "__class__" = some (some (.builtin "object.__class__"))) (i := 6) (j := 18) rfl rfl rfl), (cZ.dec (p := PySem.W.specialIn K (.builtin "object.__class__") "__get__" = some (some (.builtin "getset_descriptor.__get__"))) (i := 4) (j := 9) rfl rfl rfl), (cZ.dec (p := PySem.W.takesIn K (.builtin "object.__class__") = some true) (i := 4) (j := 10) rfl rfl rfl), (cZ.dec (p := PySem.W.mroIn K 298 (.type "object") = some true) (i := 6) (j := 19) rfl rfl rfl)⟩
      · cases h),
    ik_tuple := (fun ty b h => by
      unfold i_tuple at h
      split at h
      · cases h; exact kit_ty (by decide +kernel)
      · cases h; exact kit_ty (by decide +kernel)
      · cases h; exact kit_ty (by decide +kernel)
      · cases h; exact kit_ty (by decide +kernel)
      · cases h; exact kit_ty (by decide +kernel)
      · cases h; exact kit_ty (by decide +kernel)
      · cases h; exact (cZ.dec (p := PySem.W.kitOne K (.ref 298) (.type "tuple") = some false) (i := 6) (j := 22) rfl rfl rfl)
      · cases h),
    ic_tuple := (fun c b h => by
      unfold i_tuple at h
      split at h
      · rename_i e; cases e
      · rename_i e; cases e
      · rename_i e; cases e
      · rename_i e; cases e
      · rename_i e; cases e
      · rename_i e; cases e
      · rename_i e; cases e; exact ⟨⟨(cZ.fact (i := 1) (j := 22) rfl rfl : PySem.W.plainGet K 298 Str.empty = true), (cZ.fact (i := 1) (j := 23) rfl rfl : PySem.W.hasDictIn K 298 = true), (cZ.fact (i := 1) (j := 24) rfl rfl : PySem.W.plainOver K 298 = true), (cZ.dec (p := PySem.W.findIn K (.ref 298) "__setattr__" = some (some (.builtin "object.__setattr__"))) (i := 2) (j := 0) rfl rfl rfl)⟩, (cZ.dec (p := PySem.W.findIn K (.ref 298) "__class__" = some (some (.builtin "object.__class__"))) (i := 6) (j := 18) rfl rfl rfl), (cZ.dec (p := PySem.W.specialIn K (.builtin "object.__class__") "__get__" = some (some (.builtin "getset_descriptor.__get__"))) (i := 4) (j := 9) rfl rfl rfl), (cZ.dec (p := PySem.W.takesIn K (.builtin "object.__class__") = some true) (i := 4) (j := 10) rfl rfl rfl), (cZ.dec (p := PySem.W.mroIn K 298 (.type "object") = some true) (i := 6) (j := 19) rfl rfl rfl)⟩
      · cases h) }
open PySem PySem.Spec PyProof.Rows L2 ZH
theorem all_mk {w : World} {K : PySem.W.Frag} {h : Heap} {mg : Str → Option Value} {fa : Addr} (X : K.In h) (G : h.Ns mainGlobals mg) (hfa : mg "law" = some (.ref fa)) (cZ : SaysZ fbs fnl tbs w K) :
    ∃ fd : FuncData, (∀ (s : Shared) (v : Value), BindsTo s fd ⟨[v], []⟩ [("_law_script", v)]) ∧ ∀ base : Heap, K.In base → base.Ns mainGlobals mg → FnOk PySem.Challenge.pw_siltmeet_k05_core_narrowed w K mg base (L2N.CX PySem.Challenge.pw_siltmeet_k05_core_narrowed w) 9 fa fd ["_law_script"] (spLaw K) := by
  have e := hfa.symm.trans (PySem.W.mg_of X G (cZ.dec (p := PySem.W.nsIn K mainGlobals "law" = some (some (.ref 396))) (i := 1) (j := 20) rfl rfl rfl))
  cases e
  have T := tx_mk X G cZ
  obtain ⟨fd, F⟩ := fun_z (cZ.fns (i := 27) (d := dz_27) rfl) rfl rfl
  refine ⟨fd, ?_, fun base _ _ => ?_⟩
  · exact law_binds F fun _ _ _ _ _ _ s v => .of_eq rfl
  · exact (okF_law T F).imp fun vs H Q E h => sp_law h
theorem run_f (w : World) : HandSHeadRun.RunEq RR qq hkk obk 30000 nm_all (w.withFollow "special-get-raises" false) := fun os => map_trip (ra_f w os) (rb_f_0 w os)
theorem run_t (w : World) : HandSHeadRun.RunEq RR qq hkk obk 30000 nm_all (w.withFollow "special-get-raises" true) := fun os => map_trip (ra_t w os) (rb_t_0 w os)

end ZZ

set_option Elab.async false
set_option linter.all false
set_option maxRecDepth 100000
set_option maxHeartbeats 4000000
open PySem PySem.W PyProof.Rows in
set_option maxRecDepth 100000 in
set_option maxHeartbeats 0 in
theorem PySem.Challenge.cw_siltmeet_k05_core_narrowed_holds : PySem.Challenge.rw_siltmeet_k05_core_narrowed.Holds := by
  w_on; o_law
  refine HandSHeadRun.head_any (r := OpenLaw.row PySem.Challenge.rw_siltmeet_k05_core_narrowed) (q := view (OpenLaw.row PySem.Challenge.rw_siltmeet_k05_core_narrowed).prog [35]) (H := ZZ.hkk) (ob := ZZ.obk) (M := 30000) (loose := ZZ.nm_all) (d := HandSHeadRun.topDef (OpenLaw.row PySem.Challenge.rw_siltmeet_k05_core_narrowed).prog 35) (kwd := []) ZZ.obk_eq
    (by kernel_rfl) (fun s => by kernel_rfl) (PySem.W.byRow2 "special-get-raises" (P := fun w => HandSHeadRun.RunEq ZZ.RR (PySem.W.view ZZ.RR.prog [35]) ZZ.hkk ZZ.obk 30000 ZZ.nm_all w) ZZ.run_f ZZ.run_t) (by kernel_rfl) (by kernel_rfl) (by kernel_rfl) (by rfl) (by first | assumption | decide +kernel) (by decide +kernel) ⟨rfl, rfl, rfl, rfl, rfl, by decide +kernel⟩ ?hw ?hc
  case hw => w_witness2
  case hc =>
    refine ZH.walk_ofZ (l := PySem.Challenge.rw_siltmeet_k05_core_narrowed) (n := 63) (k := 9) (x := "_law_script") (CX := fun w => L2N.CX PySem.Challenge.pw_siltmeet_k05_core_narrowed w) rfl (by decide) (by kernel_rfl) ⟨rfl, by decide, by decide⟩ ?F ?E
    case F =>
      intro w mg fa h Y G hmg0
      obtain ⟨K, KX, c⟩ := Y
      have hmg : mg ("law" : PySem.Str) = some (.ref fa) := by
        have e : (HandSHeadRun.topDef (OpenLaw.row PySem.Challenge.rw_siltmeet_k05_core_narrowed).prog 35).name = ("law" : PySem.Str) := by kernel_rfl
        rw [← e]
        exact hmg0
      obtain ⟨fd, hb, hF⟩ := ZZ.all_mk KX G hmg c
      exact ⟨K, fd, ZZ.spLaw K, KX, hb, fun H a ns hl _ hS => ⟨a, ns, rfl, hS, hl, fun _ => rfl⟩, hF⟩
    case E =>
      intro _ _ _ _ _ h
      obtain ⟨_, _, _, _, _, _, _, _, _, _, _, _, z⟩ := h
      exact z

