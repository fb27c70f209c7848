import PyProof.Rows.All
import KE.KDictKeyed
import KE.KDictDisplayH
import HandS.Dict
import HandS.List
import Wide.All
import OpenK.AllK
import Wide.FinOn
import HandS.Base
import HandS.Call
import HandS.Comp
import HandS.Iter
import HandS.Ends
import HandS.Exc
import HandS.Flow
import HandS.Wide
import HandS.IsInst
import HandS.Style
import HandS.TupMul
import HandS.TupLe
import HandS.ExcOwn
import HandS.Zip
import HandS.TupAny
import HandS.CallSlots
import HandS.Words
import HandS.WordsExc
import PySem.Challenge.RW_unknownrows_k01_truths_of_three_kinds
set_option Elab.async false
set_option linter.all false
set_option maxRecDepth 100000
/-! The Z layer, K: dicts whose keys are None, bools, ints, texts and tuples of such, mixed. -/
namespace ZL
open PySem PySem.Spec PyProof.Rows
abbrev NEnt := NestedKey × Value × Value
def entryN (w : World) (x : NEnt) : DictEntry := ⟨x.1.hash w, x.2.1, x.2.2⟩
def NIs (h : Heap) (k : NestedKey) (u : Value) : Prop := NestedIs h k u ∧ k.depth ≤ 8
section
variable {prog : Program} {w : World} {A : Around} {E : Value → Shared → Prop} {s : Shared}
theorem nent_at {es : Array DictEntry} {xs : List NEnt} (he : es.toList = xs.map (entryN w)) (j : Nat) : es[j]? = (xs[j]?).map (entryN w) := by
  rw [← Array.getElem?_toList, he, List.getElem?_map]
theorem nent_size {es : Array DictEntry} {xs : List NEnt} (he : es.toList = xs.map (entryN w)) : es.size = xs.length := by
  rw [← Array.length_toList, he, List.length_map]
theorem nidx_unique {xs : List NEnt} (hn : (xs.map (·.1)).Nodup) : ∀ {i j : Nat} {k : NestedKey} {p q : Value × Value}, xs[i]? = some (k, p) → xs[j]? = some (k, q) → i = j := by
  intro i j k p q hi hj
  have hi' : (xs.map (·.1))[i]? = some k := by rw [List.getElem?_map, hi]; rfl
  have hj' : (xs.map (·.1))[j]? = some k := by rw [List.getElem?_map, hj]; rfl
  exact (List.getElem?_inj (List.getElem?_eq_some_iff.mp hi').1 hn).mp (hi'.trans hj'.symm)
theorem nk_eqBool {x y : NestedKey} {a b : Value} {Q : Bool → Shared → Prop} (hu : A.units + 8 < cLine) (hx : NIs s.heap x a) (hy : NIs s.heap y b) (h : Q (decide (x = y)) s) : wpAny (model prog w) A (eqBool a b) Q E s :=
  eqAt_key x y A s _ _ hx.1 hy.1 (by have := hx.2; omega) _ _ _ _ (by rw [← NestedKey.decide_eq]; exact h)
theorem nk_quiet {k : NestedKey} {v : Value} {Q : Bool → Shared → Prop} (hk : NIs s.heap k v) (h : Q true s) : wpAny (model prog w) A (eqIsQuiet 8 v) Q E s := quiet_key k _ 8 s hk.1 hk.2 A E Q h
theorem nk_hash {k : NestedKey} {v : Value} {Q : Int → Shared → Prop} (hu : A.units + 8 < cLine) (hk : NIs s.heap k v) (h : Q (k.hash w) { s with toks := s.toks + k.draws }) : wpAny (model prog w) A (pyHash v) Q E s :=
  pyHash_key _ _ _ _ _ hk.1 (by have := hk.2; omega) h
theorem nk_tell {k : NestedKey} {key : Value} {stored : List Value} {Q : Bool → Shared → Prop} (hkey : NIs s.heap k key) (hst : ∀ v ∈ stored, ∃ k', NIs s.heap k' v) (h : Q false s) : wpAny (model prog w) A (tableMayTell key stored) Q E s := by
  unfold tableMayTell
  split
  · exact wpAny_pure h
  · refine wpAny_bind (nk_quiet hkey ?_)
    simp only [Bool.not_true, Bool.false_eq_true, if_false]
    refine wpAny_bind ?_
    refine wpAny_forIn_list _ (fun rest r s' => s' = s ∧ r = (none, ()) ∧ ∀ v ∈ rest, ∃ k', NIs s.heap k' v) _ ?_ ?_ _ _ ⟨rfl, rfl, hst⟩
    · rintro x rest r s' ⟨rfl, rfl, hr⟩
      obtain ⟨k', hb⟩ := hr x List.mem_cons_self
      refine wpAny_bind (nk_quiet hb ?_)
      simp only [Bool.not_true, Bool.false_eq_true, if_false]
      exact wpAny_pure ⟨rfl, rfl, fun v hv => hr v (List.mem_cons_of_mem _ hv)⟩
    · rintro r s' ⟨rfl, rfl, _⟩
      exact wpAny_pure h
variable {d : Addr} {o : Obj} {es : Array DictEntry} {ep : Nat} {xs : List NEnt} {k : NestedKey} {key : Value}
theorem nk_walk {Q : Option Nat → Shared → Prop} (hu : A.units + 8 < cLine) (hkey : NIs s.heap k key)
    (ho : s.heap.get? d = some o) (hd : o.data = .dict es ep) (he : es.toList = xs.map (entryN w)) (his : ∀ x ∈ xs, NIs s.heap x.1 x.2.1)
    (hnone : (∀ (j : Nat) (p : Value × Value), xs[j]? ≠ some (k, p)) → Q none s) (hsome : ∀ (j : Nat) (p : Value × Value), xs[j]? = some (k, p) → Q (some j) s) :
    wpAny (model prog w) A (dictWalkPlain d key (k.hash w) es (placesWithHash es.size (fun i => es[i]?.map (·.hash)) (k.hash w))) Q E s := by
  have hsz : es.size = xs.length := nent_size he
  have haskey : ∀ (j : Nat) (p : Value × Value), xs[j]? = some (k, p) → ((es[j]?.map (·.hash)) == some (k.hash w)) = true := by
    intro j p hj
    rw [nent_at he j, hj]
    simp [entryN]
  refine wpAny_bind ?_
  refine wpAny_forIn_list _
    (fun rest b s' => s' = s ∧ b = (none, ()) ∧ ∃ i, rest = (List.range' i (es.size - i)).filter (fun i => (es[i]?.map (·.hash)) == some (k.hash w)) ∧ i ≤ es.size ∧
      ∀ j p, j < i → xs[j]? ≠ some (k, p)) _ ?_ ?_ _ _
    ⟨rfl, rfl, 0, by rw [placesWithHash, List.range_eq_range', Nat.sub_zero], Nat.zero_le _, fun _ _ h => absurd h (Nat.not_lt_zero _)⟩
  · rintro x rest b s' ⟨rfl, rfl, i, hr, hi, hno⟩
    obtain ⟨hix, hxn, hpx, hskip, hrest⟩ := filter_range'_cons _ _ _ _ _ hr.symm
    have hlt : x < es.size := by omega
    obtain ⟨⟨k', b, v'⟩, hkv⟩ : ∃ y, xs[x]? = some y := ⟨xs[x]'(by rw [← hsz]; exact hlt), List.getElem?_eq_getElem _⟩
    have hib : NIs s'.heap k' b := his _ (List.mem_of_getElem? hkv)
    have hex : es[x]? = some ⟨k'.hash w, b, v'⟩ := by rw [nent_at he x, hkv]; rfl
    have hno' : ∀ j p, j < x → xs[j]? ≠ some (k, p) := by
      intro j p hjx hj
      rcases Nat.lt_or_ge j i with h | h
      · exact hno j p h hj
      · have := hskip j h hjx
        rw [haskey j p hj] at this
        exact absurd this (by decide)
    have hnext : ¬ k' = k → ∃ i, rest = (List.range' i (es.size - i)).filter (fun i => (es[i]?.map (·.hash)) == some (k.hash w)) ∧ i ≤ es.size ∧
        ∀ j p, j < i → xs[j]? ≠ some (k, p) := fun hne =>
      ⟨x + 1, by rw [hrest]; congr 2; omega, hlt, fun j p hji hj => by
        rcases Nat.lt_or_ge j x with h' | h'
        · exact hno' j p h' hj
        · have : j = x := by omega
          subst this
          rw [hkv] at hj
          injection hj with hj
          injection hj with hj
          exact hne hj⟩
    rw [hex]
    dsimp only
    by_cases hh : (k'.hash w == k.hash w) = true
    · rw [if_pos hh]
      refine wpAny_bind (wpAny_dictEpoch ho hd (wpAny_bind (nk_eqBool (x := k') (y := k) hu hib hkey (wpAny_bind (wpAny_dictEpoch ho hd ?_)))))
      show wpAny _ _ (if (ep != ep) = true then _ else _) _ E _
      rw [if_neg (by simp)]
      by_cases hkk : k' = k
      · rw [decide_eq_true hkk]
        subst hkk
        exact wpAny_bind (wpAny_rule (wpAny_pure (wpAny_pure (hsome x _ hkv))))
      · rw [decide_eq_false hkk]
        exact wpAny_bind (wpAny_rule (wpAny_pure ⟨rfl, rfl, hnext hkk⟩))
    · rw [if_neg hh]
      refine wpAny_pure ⟨rfl, rfl, hnext ?_⟩
      intro hkk
      rw [hkk] at hh; simp at hh
  · rintro b s' ⟨rfl, rfl, i, hr, hi, hno⟩
    refine wpAny_pure (hnone fun j p hj => ?_)
    rcases Nat.lt_or_ge j i with h | h
    · exact hno j p h hj
    · have hjl : j < es.size := by
        rw [hsz]
        rcases Nat.lt_or_ge j xs.length with h' | h'
        · exact h'
        · rw [List.getElem?_eq_none h'] at hj; exact nomatch hj
      have := List.filter_eq_nil_iff.mp hr.symm j (List.mem_range'_1.mpr ⟨h, by omega⟩)
      exact this (haskey j p hj)
theorem nk_found {Q : Option Nat → Shared → Prop} {x : Str} {t : Tok} (hu : A.units + 8 < cLine) (hkey : NIs s.heap k (.str x t))
    (ho : s.heap.get? d = some o) (hd : o.data = .dict es ep) (he : es.toList = xs.map (entryN w)) (his : ∀ x ∈ xs, NIs s.heap x.1 x.2.1)
    (hnone : (∀ (j : Nat) (p : Value × Value), xs[j]? ≠ some (k, p)) → Q none s) (hsome : ∀ (j : Nat) (p : Value × Value), xs[j]? = some (k, p) → Q (some j) s) :
    wpAny (model prog w) A (foundByValue d (.str x t) es x) Q E s := by
  have ek : k = .text x := by have := hkey.1; cases this; rfl
  subst ek
  unfold foundByValue
  cases hf : es.findIdx? (fun e => e.key.isStr x) with
  | none =>
    refine wpAny_pure (hnone fun j p hj => ?_)
    have h1 := Array.findIdx?_eq_none_iff.mp hf
    obtain ⟨u, v⟩ := p
    have hm : es[j]? = some ⟨(NestedKey.text x).hash w, u, v⟩ := by rw [nent_at he j, hj]; rfl
    have h2 := h1 _ (Array.mem_of_getElem? hm)
    have h3 := (his _ (List.mem_of_getElem? hj)).1
    cases h3
    simp [Value.isStr] at h2
  | some i =>
    obtain ⟨hlt, hi, _⟩ := Array.findIdx?_eq_some_iff_getElem.mp hf
    obtain ⟨⟨k', b, v'⟩, hkv⟩ : ∃ y, xs[i]? = some y := ⟨xs[i]'(by rw [← nent_size he]; exact hlt), List.getElem?_eq_getElem _⟩
    have hib : NIs s.heap k' b := his _ (List.mem_of_getElem? hkv)
    have hex : es[i]? = some ⟨k'.hash w, b, v'⟩ := by rw [nent_at he i, hkv]; rfl
    have hkk : k' = .text x := by
      rw [Array.getElem?_eq_getElem hlt] at hex
      have hex := Option.some.inj hex
      have hi : b.isStr x = true := by rw [hex] at hi; exact hi
      have h1 := hib.1
      clear hf hib hkv hsome hnone hex
      cases h1 with
      | text y t => rw [eq_of_beq (show (y == x) = true from hi)]
      | _ => exact absurd hi Bool.false_ne_true
    simp only [hex]
    refine wpAny_bind (wpAny_dictEpoch ho hd (wpAny_bind (nk_eqBool hu hib hkey (wpAny_bind (wpAny_dictEpoch ho hd ?_)))))
    show wpAny _ _ (if (ep != ep) = true then _ else _) _ E _
    rw [if_neg (by simp), decide_eq_true hkk]
    subst hkk
    exact wpAny_bind (wpAny_rule (wpAny_pure (hsome i _ hkv)))
theorem nk_find {Q : Option Nat → Shared → Prop} (hu : A.units + 8 < cLine) (hkey : NIs s.heap k key)
    (ho : s.heap.get? d = some o) (hd : o.data = .dict es ep) (he : es.toList = xs.map (entryN w)) (his : ∀ x ∈ xs, NIs s.heap x.1 x.2.1) (hn : (xs.map (·.1)).Nodup)
    (hnone : (∀ (j : Nat) (p : Value × Value), xs[j]? ≠ some (k, p)) → Q none s) (hsome : ∀ (j : Nat) (p : Value × Value), xs[j]? = some (k, p) → Q (some j) s) :
    wpAny (model prog w) A (dictFind d key (k.hash w)) Q E s := by
  have hsz : es.size = xs.length := nent_size he
  have haskey : ∀ (j : Nat) (p : Value × Value), xs[j]? = some (k, p) → ((es[j]?.map (·.hash)) == some (k.hash w)) = true := by
    intro j p hj
    rw [nent_at he j, hj]
    simp [entryN]
  have hmem : ∀ e ∈ es, ∃ x ∈ xs, e = entryN w x := by
    intro e hin
    have : e ∈ xs.map (entryN w) := he ▸ Array.mem_toList_iff.mpr hin
    obtain ⟨x, hx, rfl⟩ := List.mem_map.mp this
    exact ⟨x, hx, rfl⟩
  have hany : ¬ (es.any fun e => e.key == key && e.hash != k.hash w) = true := by
    rw [← Array.any_toList, List.any_eq_true]
    rintro ⟨e, hin, hc⟩
    obtain ⟨x, hx, rfl⟩ := hmem e (Array.mem_toList_iff.mp hin)
    simp only [entryN, Bool.and_eq_true, beq_iff_eq, bne_iff_ne, ne_eq] at hc
    obtain ⟨hxa, hne⟩ := hc
    have := (his x hx).1
    rw [hxa] at this
    exact hne (by rw [NestedIs.inj _ _ _ this hkey.1])
  have hst : ∀ v ∈ (placesWithHash es.size (fun i => es[i]?.map (·.hash)) (k.hash w)).filterMap (fun i => es[i]?.map (·.key)), ∃ k', NIs s.heap k' v := by
    intro v hv
    obtain ⟨i, _, hi⟩ := List.mem_filterMap.mp hv
    cases hei : es[i]? with
    | none => rw [hei] at hi; cases hi
    | some e =>
      rw [hei] at hi
      obtain rfl : e.key = v := by simpa using hi
      obtain ⟨x, hx, rfl⟩ := hmem e (Array.mem_of_getElem? hei)
      exact ⟨x.1, his x hx⟩
  have walk := nk_walk (E := E) (Q := Q) (prog := prog) hu hkey ho hd he his hnone hsome
  unfold dictFind
  try with_reducible refine wpAny_holding ?_
  refine wpAny_bind (wpAny_dictEntries ho hd ?_)
  dsimp only
  by_cases hall : ((key :: (placesWithHash es.size (fun i => es[i]?.map (·.hash)) (k.hash w)).filterMap fun i => es[i]?.map (·.key)).all carriedByValue) = true
  · rw [if_pos hall]
    split
    next x t =>
      split
      next => exact nk_found hu hkey ho hd he his hnone hsome
      next => exact walk
    next => exact walk
  · rw [if_neg hall]
    split
    next x t =>
      by_cases hs : (es.all fun e => isExactStrKey e.key) = true
      · rw [if_pos hs]; exact nk_found hu hkey ho hd he his hnone hsome
      · rw [if_neg hs]
        dsimp only
        by_cases hone : (((placesWithHash es.size (fun i => es[i]?.map (·.hash)) (k.hash w)).filterMap (fun i => es[i]?.map (·.key))) == [Value.str x t]) = true <;>
        (first | rw [if_pos hone] | rw [if_neg hone]) <;> (first | refine wpAny_bind (wpAny_pure ?_) | refine wpAny_bind (nk_tell hkey hst ?_)) <;> (
          rw [if_neg (by simp)]
          refine wpAny_bind ?_
          refine wpAny_forIn_list _
            (fun rest b s' => s' = s ∧ ∃ i hit, b = (none, hit) ∧ rest = (List.range' i (es.size - i)).filter (fun i => (es[i]?.map (·.hash)) == some (k.hash w)) ∧ i ≤ es.size ∧
              ((hit = none ∧ ∀ j p, j < i → xs[j]? ≠ some (k, p)) ∨ ∃ j p, hit = some j ∧ j < i ∧ xs[j]? = some (k, p))) _ ?_ ?_ _ _
            ⟨rfl, 0, none, rfl, by rw [placesWithHash, List.range_eq_range', Nat.sub_zero], Nat.zero_le _, .inl ⟨rfl, fun _ _ h => absurd h (Nat.not_lt_zero _)⟩⟩
          · rintro x rest b s' ⟨rfl, i, hit, rfl, hr, hi, hH⟩
            obtain ⟨hix, hxn, hpx, hskip, hrest⟩ := filter_range'_cons _ _ _ _ _ hr.symm
            have hlt : x < es.size := by omega
            have hrest' : rest = (List.range' (x + 1) (es.size - (x + 1))).filter (fun i => (es[i]?.map (·.hash)) == some (k.hash w)) := by rw [hrest]; congr 2; omega
            obtain ⟨⟨k', b, v'⟩, hkv⟩ : ∃ y, xs[x]? = some y := ⟨xs[x]'(by rw [← hsz]; exact hlt), List.getElem?_eq_getElem _⟩
            have hib : NIs s'.heap k' b := his _ (List.mem_of_getElem? hkv)
            have hex : es[x]? = some ⟨k'.hash w, b, v'⟩ := by rw [nent_at he x, hkv]; rfl
            have hHx : (hit = none ∧ ∀ j p, j < x → xs[j]? ≠ some (k, p)) ∨ ∃ j p, hit = some j ∧ j < x ∧ xs[j]? = some (k, p) := by
              rcases hH with ⟨h0, hno⟩ | ⟨j, p, h1, hji, hj⟩
              · refine .inl ⟨h0, fun j p hjx hj => ?_⟩
                rcases Nat.lt_or_ge j i with h | h
                · exact hno j p h hj
                · have := hskip j h hjx
                  rw [haskey j p hj] at this
                  exact absurd this (by decide)
              · exact .inr ⟨j, p, h1, by omega, hj⟩
            have hstay : ¬ k' = k → ((hit = none ∧ ∀ j p, j < x + 1 → xs[j]? ≠ some (k, p)) ∨ ∃ j p, hit = some j ∧ j < x + 1 ∧ xs[j]? = some (k, p)) := by
              intro hne
              rcases hHx with ⟨h0, hno⟩ | ⟨j, p, h1, hjx, hj⟩
              · refine .inl ⟨h0, fun j p hjx hj => ?_⟩
                rcases Nat.lt_or_ge j x with h | h
                · exact hno j p h hj
                · have hjx' : j = x := by omega
                  subst hjx'
                  rw [hkv] at hj
                  injection hj with hj
                  injection hj with hj
                  exact hne hj
              · exact .inr ⟨j, p, h1, by omega, hj⟩
            rw [hex]
            dsimp only
            by_cases hh : (k'.hash w == k.hash w) = true
            · rw [if_pos hh]
              refine wpAny_bind (wpAny_dictEpoch ho hd (wpAny_bind (nk_eqBool (x := k') (y := k) hu hib hkey (wpAny_bind (wpAny_dictEpoch ho hd ?_)))))
              show wpAny _ _ (if (ep != ep) = true then _ else _) _ E _
              rw [if_neg (by simp)]
              by_cases hkk : k' = k
              · rw [decide_eq_true hkk]
                subst hkk
                rcases hHx with ⟨rfl, _⟩ | ⟨j, p, _, hjx, hj⟩
                · first | rw [if_pos rfl] | skip
                  simp only [Option.isSome_none, Bool.false_eq_true, if_false]
                  first | refine wpAny_bind (wpAny_pure ?_) | skip
                  refine wpAny_bind (wpAny_rule ?_)
                  split
                  · exact wpAny_pure (wpAny_pure (hsome x _ hkv))
                  · exact wpAny_pure ⟨rfl, x + 1, some x, rfl, hrest', hlt, .inr ⟨x, _, rfl, Nat.lt_succ_self x, hkv⟩⟩
                · exact absurd (nidx_unique hn hj hkv) (by omega)
              · rw [decide_eq_false hkk]
                simp only [Bool.false_eq_true, if_false]
                refine wpAny_bind (wpAny_rule ?_)
                first | rw [if_neg (by simp)] | skip
                first
                  | exact wpAny_pure ⟨rfl, x + 1, hit, rfl, hrest', hlt, hstay hkk⟩
                  | exact wpAny_bind (wpAny_pure (wpAny_pure ⟨rfl, x + 1, hit, rfl, hrest', hlt, hstay hkk⟩))
            · rw [if_neg hh]
              refine wpAny_pure ⟨rfl, x + 1, hit, rfl, hrest', hlt, hstay ?_⟩
              intro hkk
              rw [hkk] at hh; simp at hh
          · rintro b s' ⟨rfl, i, hit, rfl, hr, hi, hH⟩
            have hall : ∀ j, i ≤ j → j < es.size → ((es[j]?.map (·.hash)) == some (k.hash w)) = false := by
              intro j h1 h2
              have := List.filter_eq_nil_iff.mp hr.symm j (List.mem_range'_1.mpr ⟨h1, by omega⟩)
              simpa using this
            rcases hH with ⟨rfl, hno⟩ | ⟨j, p, rfl, _, hj⟩
            · refine wpAny_pure (hnone fun j p hj => ?_)
              rcases Nat.lt_or_ge j i with h | h
              · exact hno j p h hj
              · have hjl : j < es.size := by
                  rw [hsz]
                  rcases Nat.lt_or_ge j xs.length with h' | h'
                  · exact h'
                  · rw [List.getElem?_eq_none h'] at hj; exact nomatch hj
                have := hall j h hjl
                rw [haskey j p hj] at this
                exact absurd this (by decide)
            · exact wpAny_pure (hsome j p hj))
    next =>
      split
      next a hq =>
        rw [if_neg hany]
        by_cases hone : (((placesWithHash es.size (fun i => es[i]?.map (·.hash)) (k.hash w)).filterMap (fun i => es[i]?.map (·.key))) == [Value.ref a]) = true <;>
        (first | rw [if_pos hone] | rw [if_neg hone]) <;> (first | refine wpAny_bind (wpAny_pure ?_) | refine wpAny_bind (nk_tell hkey hst ?_)) <;> (
          rw [if_neg (by simp)]
          refine wpAny_bind ?_
          refine wpAny_forIn_list _
            (fun rest b s' => s' = s ∧ ∃ i hit, b = (none, hit) ∧ rest = (List.range' i (es.size - i)).filter (fun i => (es[i]?.map (·.hash)) == some (k.hash w)) ∧ i ≤ es.size ∧
              ((hit = none ∧ ∀ j p, j < i → xs[j]? ≠ some (k, p)) ∨ ∃ j p, hit = some j ∧ j < i ∧ xs[j]? = some (k, p))) _ ?_ ?_ _ _
            ⟨rfl, 0, none, rfl, by rw [placesWithHash, List.range_eq_range', Nat.sub_zero], Nat.zero_le _, .inl ⟨rfl, fun _ _ h => absurd h (Nat.not_lt_zero _)⟩⟩
          · rintro x rest b s' ⟨rfl, i, hit, rfl, hr, hi, hH⟩
            obtain ⟨hix, hxn, hpx, hskip, hrest⟩ := filter_range'_cons _ _ _ _ _ hr.symm
            have hlt : x < es.size := by omega
            have hrest' : rest = (List.range' (x + 1) (es.size - (x + 1))).filter (fun i => (es[i]?.map (·.hash)) == some (k.hash w)) := by rw [hrest]; congr 2; omega
            obtain ⟨⟨k', b, v'⟩, hkv⟩ : ∃ y, xs[x]? = some y := ⟨xs[x]'(by rw [← hsz]; exact hlt), List.getElem?_eq_getElem _⟩
            have hib : NIs s'.heap k' b := his _ (List.mem_of_getElem? hkv)
            have hex : es[x]? = some ⟨k'.hash w, b, v'⟩ := by rw [nent_at he x, hkv]; rfl
            have hHx : (hit = none ∧ ∀ j p, j < x → xs[j]? ≠ some (k, p)) ∨ ∃ j p, hit = some j ∧ j < x ∧ xs[j]? = some (k, p) := by
              rcases hH with ⟨h0, hno⟩ | ⟨j, p, h1, hji, hj⟩
              · refine .inl ⟨h0, fun j p hjx hj => ?_⟩
                rcases Nat.lt_or_ge j i with h | h
                · exact hno j p h hj
                · have := hskip j h hjx
                  rw [haskey j p hj] at this
                  exact absurd this (by decide)
              · exact .inr ⟨j, p, h1, by omega, hj⟩
            have hstay : ¬ k' = k → ((hit = none ∧ ∀ j p, j < x + 1 → xs[j]? ≠ some (k, p)) ∨ ∃ j p, hit = some j ∧ j < x + 1 ∧ xs[j]? = some (k, p)) := by
              intro hne
              rcases hHx with ⟨h0, hno⟩ | ⟨j, p, h1, hjx, hj⟩
              · refine .inl ⟨h0, fun j p hjx hj => ?_⟩
                rcases Nat.lt_or_ge j x with h | h
                · exact hno j p h hj
                · have hjx' : j = x := by omega
                  subst hjx'
                  rw [hkv] at hj
                  injection hj with hj
                  injection hj with hj
                  exact hne hj
              · exact .inr ⟨j, p, h1, by omega, hj⟩
            rw [hex]
            dsimp only
            by_cases hh : (k'.hash w == k.hash w) = true
            · rw [if_pos hh]
              refine wpAny_bind (wpAny_dictEpoch ho hd (wpAny_bind (nk_eqBool (x := k') (y := k) hu hib hkey (wpAny_bind (wpAny_dictEpoch ho hd ?_)))))
              show wpAny _ _ (if (ep != ep) = true then _ else _) _ E _
              rw [if_neg (by simp)]
              by_cases hkk : k' = k
              · rw [decide_eq_true hkk]
                subst hkk
                rcases hHx with ⟨rfl, _⟩ | ⟨j, p, _, hjx, hj⟩
                · first | rw [if_pos rfl] | skip
                  simp only [Option.isSome_none, Bool.false_eq_true, if_false]
                  first | refine wpAny_bind (wpAny_pure ?_) | skip
                  refine wpAny_bind (wpAny_rule ?_)
                  split
                  · exact wpAny_pure (wpAny_pure (hsome x _ hkv))
                  · exact wpAny_pure ⟨rfl, x + 1, some x, rfl, hrest', hlt, .inr ⟨x, _, rfl, Nat.lt_succ_self x, hkv⟩⟩
                · exact absurd (nidx_unique hn hj hkv) (by omega)
              · rw [decide_eq_false hkk]
                simp only [Bool.false_eq_true, if_false]
                refine wpAny_bind (wpAny_rule ?_)
                first | rw [if_neg (by simp)] | skip
                first
                  | exact wpAny_pure ⟨rfl, x + 1, hit, rfl, hrest', hlt, hstay hkk⟩
                  | exact wpAny_bind (wpAny_pure (wpAny_pure ⟨rfl, x + 1, hit, rfl, hrest', hlt, hstay hkk⟩))
            · rw [if_neg hh]
              refine wpAny_pure ⟨rfl, x + 1, hit, rfl, hrest', hlt, hstay ?_⟩
              intro hkk
              rw [hkk] at hh; simp at hh
          · rintro b s' ⟨rfl, i, hit, rfl, hr, hi, hH⟩
            have hall : ∀ j, i ≤ j → j < es.size → ((es[j]?.map (·.hash)) == some (k.hash w)) = false := by
              intro j h1 h2
              have := List.filter_eq_nil_iff.mp hr.symm j (List.mem_range'_1.mpr ⟨h1, by omega⟩)
              simpa using this
            rcases hH with ⟨rfl, hno⟩ | ⟨j, p, rfl, _, hj⟩
            · refine wpAny_pure (hnone fun j p hj => ?_)
              rcases Nat.lt_or_ge j i with h | h
              · exact hno j p h hj
              · have hjl : j < es.size := by
                  rw [hsz]
                  rcases Nat.lt_or_ge j xs.length with h' | h'
                  · exact h'
                  · rw [List.getElem?_eq_none h'] at hj; exact nomatch hj
                have := hall j h hjl
                rw [haskey j p hj] at this
                exact absurd this (by decide)
            · exact wpAny_pure (hsome j p hj))
      next =>
        by_cases hone : (((placesWithHash es.size (fun i => es[i]?.map (·.hash)) (k.hash w)).filterMap (fun i => es[i]?.map (·.key))) == [key]) = true <;>
        (first | rw [if_pos hone] | rw [if_neg hone]) <;> (first | refine wpAny_bind (wpAny_pure ?_) | refine wpAny_bind (nk_tell hkey hst ?_)) <;> (
          rw [if_neg (by simp)]
          refine wpAny_bind ?_
          refine wpAny_forIn_list _
            (fun rest b s' => s' = s ∧ ∃ i hit, b = (none, hit) ∧ rest = (List.range' i (es.size - i)).filter (fun i => (es[i]?.map (·.hash)) == some (k.hash w)) ∧ i ≤ es.size ∧
              ((hit = none ∧ ∀ j p, j < i → xs[j]? ≠ some (k, p)) ∨ ∃ j p, hit = some j ∧ j < i ∧ xs[j]? = some (k, p))) _ ?_ ?_ _ _
            ⟨rfl, 0, none, rfl, by rw [placesWithHash, List.range_eq_range', Nat.sub_zero], Nat.zero_le _, .inl ⟨rfl, fun _ _ h => absurd h (Nat.not_lt_zero _)⟩⟩
          · rintro x rest b s' ⟨rfl, i, hit, rfl, hr, hi, hH⟩
            obtain ⟨hix, hxn, hpx, hskip, hrest⟩ := filter_range'_cons _ _ _ _ _ hr.symm
            have hlt : x < es.size := by omega
            have hrest' : rest = (List.range' (x + 1) (es.size - (x + 1))).filter (fun i => (es[i]?.map (·.hash)) == some (k.hash w)) := by rw [hrest]; congr 2; omega
            obtain ⟨⟨k', b, v'⟩, hkv⟩ : ∃ y, xs[x]? = some y := ⟨xs[x]'(by rw [← hsz]; exact hlt), List.getElem?_eq_getElem _⟩
            have hib : NIs s'.heap k' b := his _ (List.mem_of_getElem? hkv)
            have hex : es[x]? = some ⟨k'.hash w, b, v'⟩ := by rw [nent_at he x, hkv]; rfl
            have hHx : (hit = none ∧ ∀ j p, j < x → xs[j]? ≠ some (k, p)) ∨ ∃ j p, hit = some j ∧ j < x ∧ xs[j]? = some (k, p) := by
              rcases hH with ⟨h0, hno⟩ | ⟨j, p, h1, hji, hj⟩
              · refine .inl ⟨h0, fun j p hjx hj => ?_⟩
                rcases Nat.lt_or_ge j i with h | h
                · exact hno j p h hj
                · have := hskip j h hjx
                  rw [haskey j p hj] at this
                  exact absurd this (by decide)
              · exact .inr ⟨j, p, h1, by omega, hj⟩
            have hstay : ¬ k' = k → ((hit = none ∧ ∀ j p, j < x + 1 → xs[j]? ≠ some (k, p)) ∨ ∃ j p, hit = some j ∧ j < x + 1 ∧ xs[j]? = some (k, p)) := by
              intro hne
              rcases hHx with ⟨h0, hno⟩ | ⟨j, p, h1, hjx, hj⟩
              · refine .inl ⟨h0, fun j p hjx hj => ?_⟩
                rcases Nat.lt_or_ge j x with h | h
                · exact hno j p h hj
                · have hjx' : j = x := by omega
                  subst hjx'
                  rw [hkv] at hj
                  injection hj with hj
                  injection hj with hj
                  exact hne hj
              · exact .inr ⟨j, p, h1, by omega, hj⟩
            rw [hex]
            dsimp only
            by_cases hh : (k'.hash w == k.hash w) = true
            · rw [if_pos hh]
              refine wpAny_bind (wpAny_dictEpoch ho hd (wpAny_bind (nk_eqBool (x := k') (y := k) hu hib hkey (wpAny_bind (wpAny_dictEpoch ho hd ?_)))))
              show wpAny _ _ (if (ep != ep) = true then _ else _) _ E _
              rw [if_neg (by simp)]
              by_cases hkk : k' = k
              · rw [decide_eq_true hkk]
                subst hkk
                rcases hHx with ⟨rfl, _⟩ | ⟨j, p, _, hjx, hj⟩
                · first | rw [if_pos rfl] | skip
                  simp only [Option.isSome_none, Bool.false_eq_true, if_false]
                  first | refine wpAny_bind (wpAny_pure ?_) | skip
                  refine wpAny_bind (wpAny_rule ?_)
                  split
                  · exact wpAny_pure (wpAny_pure (hsome x _ hkv))
                  · exact wpAny_pure ⟨rfl, x + 1, some x, rfl, hrest', hlt, .inr ⟨x, _, rfl, Nat.lt_succ_self x, hkv⟩⟩
                · exact absurd (nidx_unique hn hj hkv) (by omega)
              · rw [decide_eq_false hkk]
                simp only [Bool.false_eq_true, if_false]
                refine wpAny_bind (wpAny_rule ?_)
                first | rw [if_neg (by simp)] | skip
                first
                  | exact wpAny_pure ⟨rfl, x + 1, hit, rfl, hrest', hlt, hstay hkk⟩
                  | exact wpAny_bind (wpAny_pure (wpAny_pure ⟨rfl, x + 1, hit, rfl, hrest', hlt, hstay hkk⟩))
            · rw [if_neg hh]
              refine wpAny_pure ⟨rfl, x + 1, hit, rfl, hrest', hlt, hstay ?_⟩
              intro hkk
              rw [hkk] at hh; simp at hh
          · rintro b s' ⟨rfl, i, hit, rfl, hr, hi, hH⟩
            have hall : ∀ j, i ≤ j → j < es.size → ((es[j]?.map (·.hash)) == some (k.hash w)) = false := by
              intro j h1 h2
              have := List.filter_eq_nil_iff.mp hr.symm j (List.mem_range'_1.mpr ⟨h1, by omega⟩)
              simpa using this
            rcases hH with ⟨rfl, hno⟩ | ⟨j, p, rfl, _, hj⟩
            · refine wpAny_pure (hnone fun j p hj => ?_)
              rcases Nat.lt_or_ge j i with h | h
              · exact hno j p h hj
              · have hjl : j < es.size := by
                  rw [hsz]
                  rcases Nat.lt_or_ge j xs.length with h' | h'
                  · exact h'
                  · rw [List.getElem?_eq_none h'] at hj; exact nomatch hj
                have := hall j h hjl
                rw [haskey j p hj] at this
                exact absurd this (by decide)
            · exact wpAny_pure (hsome j p hj))
end
end ZL

/-! The Z layer, Kb: dicts with mixed keys: what each operation does; told of what HandS tracks. -/
namespace ZL
open PySem PySem.Spec PyProof.Rows L2
/-- at d stands just this dict -/
def DX (d : Addr) (es : Array DictEntry) (ep : Nat) : Heap → Prop := fun h => ∃ o, h.get? d = some o ∧ o.ExactDict ∧ o.data = .dict es ep
def findN (ns : List NestedKey) (k : NestedKey) : Option Nat := ns.findIdx? fun x => decide (x = k)
theorem findN_none {ns : List NestedKey} {k : NestedKey} (h : ∀ j : Nat, ns[j]? ≠ some k) : findN ns k = none := by
  unfold findN
  rw [List.findIdx?_eq_none_iff]
  intro x hx
  obtain ⟨j, hj⟩ := List.mem_iff_getElem?.mp hx
  refine decide_eq_false fun e => h j ?_
  rw [hj, e]
theorem findN_some {ns : List NestedKey} {k : NestedKey} {j : Nat} (nd : ns.Nodup) (h : ns[j]? = some k) : findN ns k = some j := by
  unfold findN
  obtain ⟨hl, e⟩ := List.getElem?_eq_some_iff.mp h
  rw [List.findIdx?_eq_some_iff_getElem]
  refine ⟨hl, decide_eq_true e, fun i hi => ?_⟩
  have ne : ns[i]'(by omega) ≠ k := fun q => by
    have := (List.getElem_inj nd).mp (q.trans e.symm)
    omega
  simpa using ne
structure DAt (w : World) (h : Heap) (d : Addr) (es : Array DictEntry) (ep : Nat) (ns : List NestedKey) : Prop where
  ob : DX d es ep h
  ne : (d == sysModules) = false
  en : ∃ xs : List NEnt, es.toList = xs.map (entryN w) ∧ xs.map (·.1) = ns ∧ ∀ x ∈ xs, NIs h x.1 x.2.1
  nd : ns.Nodup
theorem DX.typeIs {s : Shared} {d : Addr} {es : Array DictEntry} {ep : Nat} (x : DX d es ep s.heap) : s.TypeIs (.ref d) "dict" := let ⟨o, ho, hc, _⟩ := x; ⟨o, ho, hc.1⟩
section
variable {prog : Program} {w : World} {A : Around} {E : Value → Shared → Prop} {s : Shared} {d : Addr} {es : Array DictEntry} {ep : Nat} {ns : List NestedKey} {k : NestedKey} {key : Value}
theorem DAt.size (D : DAt w s.heap d es ep ns) : es.size = ns.length := by
  obtain ⟨xs, he, hk, _⟩ := D.en
  rw [nent_size he, ← hk, List.length_map]
/-- the find -/
theorem dn_find {Q : Option Nat → Shared → Prop} {t : Nat} (hu : A.units + 8 < cLine) (hkey : NIs s.heap k key) (D : DAt w s.heap d es ep ns) (h : Q (findN ns k) { s with toks := t }) :
    wpAny (model prog w) A (dictFind d key (k.hash w)) Q E { s with toks := t } := by
  obtain ⟨o, ho, _, hd⟩ := D.ob
  obtain ⟨xs, he, hk, his⟩ := D.en
  have at1 : ∀ (j : Nat) (p : Value × Value), xs[j]? = some (k, p) → ns[j]? = some k := fun j p hj => by rw [← hk, List.getElem?_map, hj]; rfl
  refine nk_find (s := { s with toks := t }) hu hkey ho hd he his (by rw [hk]; exact D.nd) (fun hno => ?_) fun j p hj => ?_
  · rw [findN_none] at h
    · exact h
    · intro j hj
      rw [← hk, List.getElem?_map] at hj
      cases q : xs[j]? with
      | none => rw [q] at hj; cases hj
      | some x =>
        rw [q] at hj
        obtain ⟨a, p⟩ := x
        have : a = k := Option.some.inj hj
        subst this
        exact hno j p q
  · rw [findN_some D.nd (at1 j p hj)] at h
    exact h
theorem dn_get {Q : Option Value → Shared → Prop} (hu : A.units + 8 < cLine) (hkey : NIs s.heap k key) (D : DAt w s.heap d es ep ns)
    (h : Q ((findN ns k).bind fun i => (es[i]?).map (·.val)) { s with toks := s.toks + k.draws }) : wpAny (model prog w) A (dictGet d key) Q E s := by
  obtain ⟨o, ho, _, hd⟩ := id D.ob
  unfold dictGet
  try with_reducible refine wpAny_holding ?_
  refine wpAny_bind (nk_hash hu hkey (wpAny_bind (dn_find (t := s.toks + k.draws) hu hkey D ?_)))
  cases e : findN ns k with
  | none => rw [e] at h; exact wpAny_pure h
  | some i =>
    rw [e] at h
    exact wpAny_bind (wpAny_dictEntries (s := { s with toks := s.toks + k.draws }) ho hd (wpAny_pure h))
theorem dn_set {v : Value} {Q : Unit → Shared → Prop} (hu : A.units + 8 < cLine) (hkey : NIs s.heap k key) (D : DAt w s.heap d es ep ns) (hz : ns.length ≤ sizeLine)
    (h1 : ∀ i h', findN ns k = some i → DX d (es.modify i fun e => { e with val := v }) ep h' → Heap.SameBut d s.heap h' → Q () { s with heap := h', toks := s.toks + k.draws })
    (h2 : ∀ h', findN ns k = none → DX d (es.push ⟨k.hash w, key, v⟩) (ep + 1) h' → Heap.SameBut d s.heap h' → Q () { s with heap := h', toks := s.toks + k.draws }) :
    wpAny (model prog w) A (dictSet d key v) Q E s := by
  obtain ⟨o, ho, hc, hd⟩ := id D.ob
  have hsz := D.size
  unfold dictSet
  try with_reducible refine wpAny_holding ?_
  refine wpAny_bind (nk_hash hu hkey ?_)
  unfold dictSetHashed
  try with_reducible refine wpAny_holding ?_
  refine wpAny_bind (dn_find (t := s.toks + k.draws) hu hkey D ?_)
  cases e : findN ns k with
  | none =>
    exact wpAny_bind (wpAny_rule (wpAny_updateDictKeys (hz := by omega) (s := { s with toks := s.toks + k.draws }) ho hd (h2 _ e ⟨_, Heap.get?_update_self _ ho (Obj.isFreed_of_dict (Obj.data_mapDictKeys hd _)),
      hc.mapDictKeys _, Obj.data_mapDictKeys hd _⟩ (Heap.SameBut.update ..))))
  | some i =>
    exact wpAny_bind (wpAny_rule (wpAny_bind (wpAny_updateDict (s := { s with toks := s.toks + k.draws }) ho hd (wpAny_point (h1 i _ e ⟨_, Heap.get?_update_self _ ho (Obj.isFreed_of_dict (Obj.data_mapDict hd _)),
      hc.mapDict _, Obj.data_mapDict hd _⟩ (Heap.SameBut.update ..))))))
theorem dn_dflt {v : Value} {Q : Value → Shared → Prop} (hu : A.units + 8 < cLine) (hkey : NIs s.heap k key) (D : DAt w s.heap d es ep ns) (hz : ns.length ≤ sizeLine)
    (h1 : ∀ i e, findN ns k = some i → es[i]? = some e → Q e.val { s with toks := s.toks + k.draws })
    (h2 : ∀ h', findN ns k = none → DX d (es.push ⟨k.hash w, key, v⟩) (ep + 1) h' → Heap.SameBut d s.heap h' → Q v { s with heap := h', toks := s.toks + k.draws }) :
    wpAny (model prog w) A (dictSetDefault d key v) Q E s := by
  obtain ⟨o, ho, hc, hd⟩ := id D.ob
  have hsz := D.size
  unfold dictSetDefault
  try with_reducible refine wpAny_holding ?_
  refine wpAny_bind (nk_hash hu hkey ?_)
  refine wpAny_bind (dn_find (t := s.toks + k.draws) hu hkey D ?_)
  cases e : findN ns k with
  | none =>
    exact wpAny_bind (wpAny_rule (wpAny_bind (wpAny_updateDictKeys (hz := by omega) (s := { s with toks := s.toks + k.draws }) ho hd (wpAny_pure (h2 _ e ⟨_, Heap.get?_update_self _ ho (Obj.isFreed_of_dict (Obj.data_mapDictKeys hd _)),
      hc.mapDictKeys _, Obj.data_mapDictKeys hd _⟩ (Heap.SameBut.update ..))))))
  | some i =>
    have hi : i < es.size := by
      have := List.findIdx?_eq_some_iff_getElem.mp e
      obtain ⟨q, _⟩ := this
      omega
    refine wpAny_bind (wpAny_dictEntries (s := { s with toks := s.toks + k.draws }) ho hd ?_)
    rw [Array.getElem?_eq_getElem hi]
    exact wpAny_bind (wpAny_rule (wpAny_pure (h1 i _ e (Array.getElem?_eq_getElem hi))))
/-- the value found -/
def gotN (es : Array DictEntry) (ns : List NestedKey) (k : NestedKey) : Option Value := (findN ns k).bind fun i => (es[i]?).map (·.val)
theorem gotN_isSome (D : DAt w s.heap d es ep ns) : (gotN es ns k).isSome = (findN ns k).isSome := by
  unfold gotN
  cases e : findN ns k with
  | none => rfl
  | some i =>
    have hi : i < es.size := by
      obtain ⟨q, _⟩ := List.findIdx?_eq_some_iff_getElem.mp e
      rw [D.size]; exact q
    show (Option.map _ _).isSome = true
    rw [Array.getElem?_eq_getElem hi]; rfl
theorem dn_contains {Q : Bool → Shared → Prop} (hu : A.in1.units + 8 < cLine) (hkey : NIs s.heap k key) (D : DAt w s.heap d es ep ns) (hp : (keyPart key).isSome = true ∨ True)
    (h : Q (findN ns k).isSome { s with toks := s.toks + k.draws }) : wpAny (model prog w) A (contains (.ref d) key) Q E s := by
  refine wpAny_contains_slot D.ob.typeIs PySem.F.slot_dict_contains ?_
  refine call_meetsIn PySem.F.slot_dict_contains D.ob.typeIs PySem.F.entry_dict_contains (PySem.F.args_dict_contains_2 _ _) (S := fun A' R s' => A' = A ∧ s' = s ∧ R (.ok (.ret (.bool (findN ns k).isSome))) { s with toks := s.toks + k.draws }) (fun A' R s' hS => ?_) ⟨rfl, rfl, wpAny_truthy_bool h⟩
  obtain ⟨rfl, rfl, hq⟩ := hS
  show wpAny _ _ (dictGet d key >>= _) _ _ _
  refine wpAny_bind (dn_get hu hkey D ?_)
  have hs := gotN_isSome (k := k) D
  unfold gotN at hs
  cases hf : (findN ns k).bind fun i => (es[i]?).map (·.val) with
  | some p =>
    rw [hf] at hs
    rw [← hs] at hq
    show wpAny _ _ (ret (.bool true)) _ _ _
    exact wpAny_pure hq
  | none =>
    rw [hf] at hs
    rw [← hs] at hq
    show wpAny _ _ (Builtin.Dict.pendingKey? d key >>= _) _ _ _
    exact wpAny_bind (wpAny_pendingKey_other D.ne (wpAny_pure hq))
end
end ZL

/-! The Z layer, Kc: the operations of dicts as HandS's rules. -/
namespace ZL
open PySem PySem.Spec PyProof.Rows L2
section
variable {prog : Program} {w : World} {A : Around} {E : Value → Shared → Prop} {s : Shared} {d : Addr} {es : Array DictEntry} {ep : Nat} {ns : List NestedKey} {k : NestedKey} {key : Value}
theorem dn_in {Q : Value → Shared → Prop} (hu : A.in1.units + 8 < cLine) (hkey : NIs s.heap k key) (D : DAt w s.heap d es ep ns)
    (h : Q (.bool (findN ns k).isSome) { s with toks := s.toks + k.draws }) : wpAny (model prog w) A (compareOp .In key (.ref d)) Q E s := by
  show wpAny _ _ (do return .bool (← contains (.ref d) key)) Q E s
  exact wpAny_bind (dn_contains hu hkey D (.inr trivial) (wpAny_pure h))
theorem dn_notIn {Q : Value → Shared → Prop} (hu : A.in1.units + 8 < cLine) (hkey : NIs s.heap k key) (D : DAt w s.heap d es ep ns)
    (h : Q (.bool (!(findN ns k).isSome)) { s with toks := s.toks + k.draws }) : wpAny (model prog w) A (compareOp .NotIn key (.ref d)) Q E s := by
  show wpAny _ _ (do return .bool (!(← contains (.ref d) key))) Q E s
  exact wpAny_bind (dn_contains hu hkey D (.inr trivial) (wpAny_pure h))
theorem dn_item {v : Value} {Q : Value → Shared → Prop} (hu : A.in1.units + 8 < cLine) (hkey : NIs s.heap k key) (D : DAt w s.heap d es ep ns) (hv : gotN es ns k = some v)
    (h : Q v { s with toks := s.toks + k.draws }) : wpAny (model prog w) A (getItem (.ref d) key) Q E s := by
  unfold getItem
  try with_reducible refine wpAny_holding ?_
  refine wpAny_bind (wpAny_sequenceKey D.ob.typeIs (by decide) ?_)
  refine wpAny_bind (wpAny_callSpecial?_slot (name := Str.ofString "__getitem__") D.ob.typeIs slot_dict_getitem
    (wpAny_call_entry slot_dict_getitem D.ob.typeIs entry_dict_getitem ?_ (args_dict_getitem _ _)))
  show wpAny _ _ (dictGet d key >>= _) _ _ s
  refine wpAny_bind (dn_get hu hkey D ?_)
  unfold gotN at hv
  rw [hv]
  exact wpAny_pure ⟨v, rfl, wpAny_pure h⟩
theorem dn_setItem {v : Value} {Q : Unit → Shared → Prop} (hu : A.in1.units + 8 < cLine) (hkey : NIs s.heap k key) (D : DAt w s.heap d es ep ns) (hz : ns.length ≤ sizeLine)
    (h1 : ∀ i h', findN ns k = some i → DX d (es.modify i fun e => { e with val := v }) ep h' → Heap.SameBut d s.heap h' → Q () { s with heap := h', toks := s.toks + k.draws })
    (h2 : ∀ h', findN ns k = none → DX d (es.push ⟨k.hash w, key, v⟩) (ep + 1) h' → Heap.SameBut d s.heap h' → Q () { s with heap := h', toks := s.toks + k.draws }) :
    wpAny (model prog w) A (setItem (.ref d) key v) Q E s := by
  unfold setItem
  try with_reducible refine wpAny_holding ?_
  refine wpAny_bind (wpAny_sequenceKey D.ob.typeIs (by decide) ?_)
  refine wpAny_bind (wpAny_callSpecial?_slot (name := Str.ofString "__setitem__") D.ob.typeIs slot_dict_setitem
    (wpAny_call_entry slot_dict_setitem D.ob.typeIs entry_dict_setitem ?_ (args_dict_setitem _ _ _)))
  show wpAny _ _ (Builtin.Dict.notOrdered "__setitem__" ⟨[.ref d, key, v], []⟩ >>= _) _ _ s
  refine wpAny_bind (wpAny_notOrdered_dict D.ob.typeIs ?_)
  show wpAny _ _ (dictSet d key v >>= _) _ _ s
  exact wpAny_bind (dn_set hu hkey D hz (fun i h' e a b => wpAny_pure ⟨.none, rfl, wpAny_pure (h1 i h' e a b)⟩) fun h' e a b => wpAny_pure ⟨.none, rfl, wpAny_pure (h2 h' e a b)⟩)
theorem dn_get1 {Q : Value → Shared → Prop} (hu : A.in1.units + 8 < cLine) (hkey : NIs s.heap k key) (D : DAt w s.heap d es ep ns)
    (h : Q ((gotN es ns k).getD .none) { s with toks := s.toks + k.draws }) : wpAny (model prog w) A (call (.builtin "dict.get") [.ref d, key]) Q E s := by
  refine call_meetsIn PySem.F.slot_dict_get D.ob.typeIs PySem.F.entry_dict_get (PySem.F.args_dict_get_2 _ _) (S := fun A' R s' => A' = A ∧ s' = s ∧ R (.ok (.ret ((gotN es ns k).getD .none))) { s with toks := s.toks + k.draws }) (.of_wp fun A' R s' hS => ?_) ⟨rfl, rfl, h⟩
  obtain ⟨rfl, rfl, hq⟩ := hS
  show wpAny _ _ (dictGet d key >>= _) _ _ _
  refine wpAny_bind (dn_get hu hkey D ?_)
  unfold gotN at hq
  cases hf : (findN ns k).bind fun i => (es[i]?).map (·.val) with
  | some v =>
    rw [hf] at hq
    exact wpAny_pure ⟨v, rfl, hq⟩
  | none =>
    rw [hf] at hq
    show wpAny _ _ (Builtin.Dict.missed d key >>= _) _ _ _
    exact wpAny_bind (wpAny_missed_other D.ne (wpAny_pure ⟨.none, rfl, hq⟩))
theorem dn_get2 {v0 : Value} {Q : Value → Shared → Prop} (hu : A.in1.units + 8 < cLine) (hkey : NIs s.heap k key) (D : DAt w s.heap d es ep ns)
    (h : Q ((gotN es ns k).getD v0) { s with toks := s.toks + k.draws }) : wpAny (model prog w) A (call (.builtin "dict.get") [.ref d, key, v0]) Q E s := by
  refine call_meetsIn PySem.F.slot_dict_get D.ob.typeIs PySem.F.entry_dict_get (PySem.F.args_dict_get_3 _ _ _) (S := fun A' R s' => A' = A ∧ s' = s ∧ R (.ok (.ret ((gotN es ns k).getD v0))) { s with toks := s.toks + k.draws }) (.of_wp fun A' R s' hS => ?_) ⟨rfl, rfl, h⟩
  obtain ⟨rfl, rfl, hq⟩ := hS
  show wpAny _ _ (dictGet d key >>= _) _ _ _
  refine wpAny_bind (dn_get hu hkey D ?_)
  unfold gotN at hq
  cases hf : (findN ns k).bind fun i => (es[i]?).map (·.val) with
  | some v =>
    rw [hf] at hq
    exact wpAny_pure ⟨v, rfl, hq⟩
  | none =>
    rw [hf] at hq
    show wpAny _ _ (Builtin.Dict.missed d key >>= _) _ _ _
    exact wpAny_bind (wpAny_missed_other D.ne (wpAny_pure ⟨v0, rfl, hq⟩))
theorem dn_setdefault {v : Value} {Q : Value → Shared → Prop} (hu : A.in1.units + 8 < cLine) (hkey : NIs s.heap k key) (D : DAt w s.heap d es ep ns) (hz : ns.length ≤ sizeLine)
    (h1 : ∀ i e, findN ns k = some i → es[i]? = some e → Q e.val { s with toks := s.toks + k.draws })
    (h2 : ∀ h', findN ns k = none → DX d (es.push ⟨k.hash w, key, v⟩) (ep + 1) h' → Heap.SameBut d s.heap h' → Q v { s with heap := h', toks := s.toks + k.draws }) :
    wpAny (model prog w) A (call (.builtin "dict.setdefault") [.ref d, key, v]) Q E s := by
  refine call_meetsIn PySem.F.slot_dict_setdefault D.ob.typeIs PySem.F.entry_dict_setdefault (PySem.F.args_dict_setdefault_3 _ _ _) (S := fun A' R s' => A' = A ∧ s' = s ∧
    (∀ i e, findN ns k = some i → es[i]? = some e → R (.ok (.ret e.val)) { s with toks := s.toks + k.draws }) ∧
    (∀ h', findN ns k = none → DX d (es.push ⟨k.hash w, key, v⟩) (ep + 1) h' → Heap.SameBut d s.heap h' → R (.ok (.ret v)) { s with heap := h', toks := s.toks + k.draws })) (.of_wp fun A' R s' hS => ?_) ⟨rfl, rfl, h1, h2⟩
  obtain ⟨rfl, rfl, q1, q2⟩ := hS
  unfold Builtin.«dict.setdefault»
  refine wpAny_bind ?_
  unfold Builtin.Dict.keyAndDefault
  refine wpAny_bind (wpAny_notOrdered_dict D.ob.typeIs ?_)
  show wpAny _ _ (pure (d, key, some v)) _ _ s'
  refine wpAny_pure ?_
  show wpAny _ _ (if (d == sysModules) = true then _ else (dictSetDefault d key v >>= _)) _ _ s'
  rw [if_neg (by rw [D.ne]; exact Bool.false_ne_true)]
  exact wpAny_bind (dn_dflt hu hkey D hz (fun i e a b => wpAny_pure ⟨_, rfl, q1 i e a b⟩) fun h' e a b => wpAny_pure ⟨v, rfl, q2 h' e a b⟩)
end

theorem sub_tail {prog : Program} {w : World} {A : Around} {E : Value → Shared → Prop} {s : Shared} {value slice : Expr} {T id : String} {o i : Value} {Q : Value → Shared → Prop} (hT : s.TypeIs o T)
    (hl : typeLookup (.type T) "__getitem__" = pure (some (.builtin id))) (hs : subscripted slice false o i = operate [o, i] (getItem o i))
    (h : wpAny (model prog w) A (getItem o i) Q E s) : wpAny (model prog w) A (subscriptTail value slice o i) Q E s := by
  unfold subscriptTail
  refine wpAny_bind ?_
  rw [getitemInPython_of_ne hT.not_modules]
  refine wpAny_bind (wpAny_specialOf hT hl ?_)
  have fin : wpAny (model prog w) A (subscripted slice false o i) (fun r s₃ => wpAny (model prog w) A (letTemporaryGo value o r >>= fun _ => pure r) Q E s₃) E s := by
    rw [hs]
    exact wpAny_operating (wpAny_mono h (fun r s₃ h₃ => wpAny_bind (wpAny_letTemporaryGo (wpAny_pure h₃))) fun _ _ x => x)
  first
    | exact wpAny_pure (wpAny_bind fin)
    | exact wpAny_bind (wpAny_pure (wpAny_bind fin))
    | exact wpAny_bind fin
/-! ### as HandS has them -/
mutual
/-- a value of HandS as a key -/
inductive VKey (K : PySem.W.Frag) (H : Hp) : NestedKey → V → Prop
  | non : VKey K H .none .non
  | bl (b : Bool) : VKey K H (.num (if b = true then 1 else 0)) (.bl b)
  | int (i : Int) : VKey K H (.num i) (.int i)
  | str (x : Str) : VKey K H (.text x) (.str x)
  | tup {a : Addr} {vs : List V} {ks : List NestedKey} : SqT K H a vs → VKeys K H ks vs → VKey K H (.tup ks) (.ref a)
inductive VKeys (K : PySem.W.Frag) (H : Hp) : List NestedKey → List V → Prop
  | nil : VKeys K H [] []
  | cons {k : NestedKey} {v : V} {ks : List NestedKey} {vs : List V} : VKey K H k v → VKeys K H ks vs → VKeys K H (k :: ks) (v :: vs)
end
section
variable {X : Cx} {pins : List (Addr × Obj)} {σ : L2.St} {H : Hp} {s : Shared}
mutual
theorem VKey.nis (I : Inv X pins σ H s) : ∀ {k : NestedKey} {v : V} {u : Value}, VKey X.K H k v → RelV v u → NestedIs s.heap k u
  | _, _, u, .non, r => by
    obtain rfl : u = .none := r
    exact .none
  | _, _, u, .bl b, r => by
    obtain rfl : u = .bool b := r
    exact .bool rfl
  | _, _, u, .int i, r => by
    obtain ⟨t, rfl⟩ : ∃ t, u = Value.int i t := r
    exact .int i t
  | _, _, u, .str x, r => by
    obtain ⟨t, rfl⟩ : ∃ t, u = Value.str x t := r
    exact .text x t
  | _, _, u, .tup (a := a) h hs, r => by
    obtain rfl : u = .ref a := r
    obtain ⟨its, rv, ⟨o, ho, hc, n, hd⟩, _⟩ := I.tuple h
    exact .tup ho hc hd (VKeys.nis I hs (by simpa using rv))
theorem VKeys.nis (I : Inv X pins σ H s) : ∀ {ks : List NestedKey} {vs : List V} {us : List Value}, VKeys X.K H ks vs → Vals vs us → NestedAll s.heap ks us
  | _, _, _, .nil, .nil => .nil
  | _, _, _, .cons h t, .cons r q => .cons (VKey.nis I h r) (VKeys.nis I t q)
end
/-- a tracked dict: its entries, its keys -/
structure DOf (K : PySem.W.Frag) (w : World) (H : Hp) (a : Addr) (es : Array DictEntry) (ep : Nat) (ns : List NestedKey) : Prop where
  ob : H a = some (.ext (DX a es ep))
  ne : (a == sysModules) = false
  en : Paired (fun (e : DictEntry) (k : NestedKey) => e.hash = k.hash w ∧ k.depth ≤ 8 ∧ ∃ v, RelV v e.key ∧ VKey K H k v) es.toList ns
  nd : ns.Nodup
  sz : ns.length ≤ sizeLine
theorem entries_of {P : Heap → Prop} {w : World} {h : Heap} {Rk : NestedKey → Value → Prop} (f : ∀ k u, Rk k u → NIs h k u) : ∀ {es : List DictEntry} {ns : List NestedKey}, Paired (fun (e : DictEntry) (k : NestedKey) => e.hash = k.hash w ∧ Rk k e.key) es ns →
    ∃ xs : List NEnt, es = xs.map (entryN w) ∧ xs.map (·.1) = ns ∧ ∀ x ∈ xs, NIs h x.1 x.2.1
  | _, _, .nil => ⟨[], rfl, rfl, fun _ hx => by cases hx⟩
  | _, _, .cons (a := e) (b := k) r t => by
    obtain ⟨xs, h1, h2, h3⟩ := entries_of (P := P) f t
    refine ⟨(k, e.key, e.val) :: xs, ?_, ?_, ?_⟩
    · rw [List.map_cons, ← h1]
      unfold entryN
      rw [← r.1]
    · rw [List.map_cons, h2]
    · intro x hx
      rcases List.mem_cons.mp hx with q | q
      · rw [q]; exact f _ _ r.2
      · exact h3 x q
theorem DOf.at (I : Inv X pins σ H s) {a : Addr} {es : Array DictEntry} {ep : Nat} {ns : List NestedKey} (D : DOf X.K X.w H a es ep ns) : DAt X.w s.heap a es ep ns where
  ob := (I.hok a _ D.ob).1
  ne := D.ne
  en := entries_of (P := fun _ => True) (Rk := fun k u => k.depth ≤ 8 ∧ ∃ v, RelV v u ∧ VKey X.K H k v) (fun k u ⟨h1, v, h2, h3⟩ => ⟨h3.nis I h2, h1⟩) D.en
  nd := D.nd
theorem dx_ok {P : Program} {w : World} {H : Hp} {h : Heap} {a : Addr} {es : Array DictEntry} {ep : Nat} (x : DX a es ep h) : ObjOk P w H h a (.ext (DX a es ep)) :=
  ⟨x, let ⟨o, e, _⟩ := x; ⟨o, e⟩, fun h1 h2 ⟨o, e, c⟩ k => ⟨o, k o e, c⟩⟩
theorem dx_write {a : Addr} {es es' : Array DictEntry} {ep ep' : Nat} {h' : Heap} {t' : Nat} (I : Inv X pins σ H s) (e : H a = some (.ext (DX a es ep))) (x : DX a es' ep' h') (hs : Heap.SameBut a s.heap h') :
    Inv X pins σ (upd H a (.ext (DX a es' ep'))) { s with heap := h', toks := t' } :=
  I.write (x := a) (e := a) (by rw [e]; exact True.intro) (.inl rfl) (fun b q hb z => (hs.2 b hb).trans z) (let ⟨o, q, _⟩ := x; ⟨o, q⟩) (dx_ok x)
end
section
variable {X : Cx}
/-- what a dict op sees: the dict, the key -/
def DSee (K : PySem.W.Frag) (w : World) (x y : V) (H : Hp) (Q : Addr → Array DictEntry → Nat → List NestedKey → NestedKey → Prop) : Prop :=
  ∃ a es ep ns k, x = .ref a ∧ DOf K w H a es ep ns ∧ VKey K H k y ∧ k.depth ≤ 8 ∧ Q a es ep ns k
def rInN (K : PySem.W.Frag) (w : World) (neg : Bool) : R2 := fun y x H Q => DSee K w x y H fun _ _ _ ns k => Q (.bl (neg != (findN ns k).isSome)) H
theorem op_inN (hu : X.A.in1.units + 8 < cLine) : OpR X (compareOp .In) (rInN X.K X.w false) := by
  intro pins s σ H y x u v Q I ry rx h
  obtain ⟨a, es, ep, ns, k, rfl, D, hk, hd, q⟩ := h
  obtain rfl : v = .ref a := rx
  refine dn_in hu ⟨hk.nis I ry, hd⟩ (D.at I) ⟨.bl _, H, I.tok _, rfl, ?_⟩
  simpa using q
theorem op_notInN (hu : X.A.in1.units + 8 < cLine) : OpR X (compareOp .NotIn) (rInN X.K X.w true) := by
  intro pins s σ H y x u v Q I ry rx h
  obtain ⟨a, es, ep, ns, k, rfl, D, hk, hd, q⟩ := h
  obtain rfl : v = .ref a := rx
  refine dn_notIn hu ⟨hk.nis I ry, hd⟩ (D.at I) ⟨.bl _, H, I.tok _, rfl, ?_⟩
  simpa using q
def rIxN (K : PySem.W.Frag) (w : World) : R2 := fun x y H Q => DSee K w x y H fun _ es _ ns k => ∃ u v, gotN es ns k = some u ∧ RelV v u ∧ Q v H
theorem ix_dictN (hu : X.A.in1.units + 8 < cLine) : IxR X (rIxN X.K X.w) := by
  intro value slice pins s σ H x y v u Q I rx ry h hs
  obtain ⟨a, es, ep, ns, k, rfl, D, hk, hd, g, z, hg, rz, q⟩ := h
  obtain rfl : v = .ref a := rx
  exact sub_tail (D.at I).ob.typeIs slot_dict_getitem.lookup hs (dn_item hu ⟨hk.nis I ry, hd⟩ (D.at I) hg ⟨z, H, I.tok _, rz, q⟩)
def rSetN (K : PySem.W.Frag) (w : World) : V → V → V → Hp → (Hp → Prop) → Prop := fun o i v H Q => DSee K w o i H fun a es ep ns k =>
  (∀ j u, findN ns k = some j → RelV v u → Q (upd H a (.ext (DX a (es.modify j fun e => { e with val := u }) ep)))) ∧
  (∀ ku u, findN ns k = none → RelV i ku → RelV v u → Q (upd H a (.ext (DX a (es.push ⟨k.hash w, ku, u⟩) (ep + 1)))))
theorem set_dictN (hu : X.A.in1.units + 8 < cLine) : PSet X (rSetN X.K X.w) := by
  intro pins s σ H o i v ov iv u Q I ro ri rv h
  obtain ⟨a, es, ep, ns, k, rfl, D, hk, hd, q1, q2⟩ := h
  obtain rfl : ov = .ref a := ro
  exact dn_setItem hu ⟨hk.nis I ri, hd⟩ (D.at I) D.sz (fun j h' e x hs => ⟨_, dx_write I D.ob x hs, q1 j u e rv⟩) fun h' e x hs => ⟨_, dx_write I D.ob x hs, q2 iv u e ri rv⟩
def rGetN (K : PySem.W.Frag) (w : World) : V → List V → Hp → VK → Prop := fun x vs H Q => ∃ y more, vs = y :: more ∧ DSee K w x y H fun _ es _ ns k =>
  (∃ u v, gotN es ns k = some u ∧ RelV v u ∧ (more = [] ∨ ∃ z, more = [z]) ∧ Q v H) ∨ (gotN es ns k = none ∧ ((more = [] ∧ Q .non H) ∨ ∃ z, more = [z] ∧ Q z H))
theorem mt_getN (hu : X.A.in1.units + 8 < cLine) : MtR X "dict.get" (rGetN X.K X.w) := by
  intro pins s σ H x vs v us Q I rx rs h
  obtain ⟨y, more, rfl, a, es, ep, ns, k, rfl, D, hk, hd, q⟩ := h
  obtain rfl : v = .ref a := rx
  cases rs with
  | cons ry rm =>
    rcases q with ⟨g, z, hg, rz, hm, q⟩ | ⟨hg, q⟩
    · rcases hm with rfl | ⟨z', rfl⟩
      · cases rm
        refine dn_get1 hu ⟨hk.nis I ry, hd⟩ (D.at I) ?_
        rw [hg]
        exact ⟨z, H, I.tok _, rz, q⟩
      · obtain ⟨u, rfl, ru⟩ := L2.Vals.one rm
        refine dn_get2 hu ⟨hk.nis I ry, hd⟩ (D.at I) ?_
        rw [hg]
        exact ⟨z, H, I.tok _, rz, q⟩
    · rcases q with ⟨rfl, q⟩ | ⟨z', rfl, q⟩
      · cases rm
        refine dn_get1 hu ⟨hk.nis I ry, hd⟩ (D.at I) ?_
        rw [hg]
        exact ⟨.non, H, I.tok _, rfl, q⟩
      · obtain ⟨u, rfl, ru⟩ := L2.Vals.one rm
        refine dn_get2 hu ⟨hk.nis I ry, hd⟩ (D.at I) ?_
        rw [hg]
        exact ⟨z', H, I.tok _, ru, q⟩
def rDefN (K : PySem.W.Frag) (w : World) : V → List V → Hp → VK → Prop := fun x vs H Q => ∃ y z, vs = [y, z] ∧ DSee K w x y H fun a es ep ns k =>
  (∀ j e, findN ns k = some j → es[j]? = some e → ∃ v, RelV v e.val ∧ Q v H) ∧
  (∀ ku u, findN ns k = none → RelV y ku → RelV z u → Q z (upd H a (.ext (DX a (es.push ⟨k.hash w, ku, u⟩) (ep + 1)))))
theorem mt_defN (hu : X.A.in1.units + 8 < cLine) : MtR X "dict.setdefault" (rDefN X.K X.w) := by
  intro pins s σ H x vs v us Q I rx rs h
  obtain ⟨y, z, rfl, a, es, ep, ns, k, rfl, D, hk, hd, q1, q2⟩ := h
  obtain rfl : v = .ref a := rx
  obtain ⟨u1, u2, rfl, r1, r2⟩ := L2.Vals.two rs
  refine dn_setdefault hu ⟨hk.nis I r1, hd⟩ (D.at I) D.sz (fun j e a b => ?_) fun h' e x hs => ⟨z, _, dx_write I D.ob x hs, r2, q2 u1 u2 e r1 r2⟩
  obtain ⟨v, rv, q⟩ := q1 j e a b
  exact ⟨v, H, I.tok _, rv, q⟩
/-- {} -/
def tNewN : TE := fun _ H Q => ∀ p, H p = none → (p == sysModules) = false → Q (.ref p) (upd H p (.ext (DX p #[] 0)))
theorem dx_new (h : Heap) : DX h.objs.size #[] 0 (h.push { cls := .type "dict", data := .dict #[] }) := ⟨_, Heap.get?_push_size _ rfl, ⟨rfl, rfl, rfl⟩, rfl⟩
theorem not_mods {n : Nat} (hb : sysModules < n) : (n == sysModules) = false := beq_eq_false_iff_ne.mpr (Ne.symm (Nat.ne_of_lt hb))
theorem pe_newN {pos : Pos} : PE X (.Dict [] [] pos) tNewN := ⟨fun pins s σ H Q I h =>
  wpAny_Dict_empty ⟨.ref s.heap.objs.size, _, I.laid (a := s.heap.objs.size) (o := .ext (DX s.heap.objs.size #[] 0)) (t' := s.toks) (fun _ _ q => Heap.get?_push_of_some _ q) (Nat.le_refl _) (dx_ok (dx_new s.heap)), rfl, h _ (I.hok.fresh (Nat.le_refl _)) (not_mods I.big)⟩⟩
end
end ZL

/-! The Z layer, Kd: dict displays with mixed keys. -/
namespace ZL
open PySem PySem.Spec PyProof.Rows L2
/-- the entries of pairs -/
def entsN (w : World) : List (Value × Value) → List NestedKey → List DictEntry
  | p :: ps, k :: ks => ⟨k.hash w, p.1, p.2⟩ :: entsN w ps ks
  | _, _ => []
section
variable {prog : Program} {w : World} {A : Around} {E : Value → Shared → Prop} {d : Addr}
theorem NIs.keeps {h h' : Heap} {k : NestedKey} {u : Value} {es : Array DictEntry} {ep : Nat} (x : NIs h k u) (D : DX d es ep h) (hs : Heap.SameBut d h h') : NIs h' k u := by
  obtain ⟨od, ho, _, hd⟩ := D
  refine ⟨NestedIs.at (fun b ob vs n hb hc => (hs.2 b fun e => ?_).trans hb) k _ x.1, x.2⟩
  subst e
  rw [ho] at hb
  cases hb
  rw [hd] at hc
  cases hc
theorem dn_storeAll (hu : A.units + 8 < cLine) : ∀ (vs : List (Value × Value)) (ks : List NestedKey) (es : Array DictEntry) (ep : Nat) (ns : List NestedKey) (s : Shared) (Q : PUnit → Shared → Prop),
    Paired (fun (p : Value × Value) (k : NestedKey) => NIs s.heap k p.1) vs ks → DAt w s.heap d es ep ns → (ns ++ ks).Nodup → ns.length + ks.length ≤ sizeLine →
    (∀ h' tk es', es'.toList = es.toList ++ entsN w vs ks → DX d es' (ep + ks.length) h' → Heap.SameBut d s.heap h' → Q PUnit.unit { s with heap := h', toks := tk }) →
    wpAny (model prog w) A (forIn vs PUnit.unit fun (x : Value × Value) (_ : PUnit) => (do dictSet d x.1 x.2; pure (ForInStep.yield PUnit.unit) : Sem (ForInStep PUnit))) Q E s
  | _, _, es, ep, ns, s, Q, .nil, D, _, _, h => by
    rw [List.forIn_nil]
    exact wpAny_pure (h s.heap s.toks es (by simp [entsN]) D.ob (Heap.SameBut.refl _ _))
  | _, _, es, ep, ns, s, Q, .cons (a := p) (b := k) (l₁ := vs) (l₂ := ks) hp t, D, hn, hz, h => by
    rw [List.length_cons] at hz
    have hnot : findN ns k = none := findN_none fun j hj => by
      have hm := List.mem_of_getElem? hj
      rw [List.nodup_append] at hn
      exact hn.2.2 k hm k List.mem_cons_self rfl
    rw [List.forIn_cons]
    refine wpAny_bind (wpAny_bind (dn_set hu hp D (by omega) (fun i h' e _ _ => by rw [hnot] at e; cases e) fun h1 _ x hs => wpAny_pure ?_))
    obtain ⟨xs, e1, e2, e3⟩ := D.en
    have D' : DAt w h1 d (es.push ⟨k.hash w, p.1, p.2⟩) (ep + 1) (ns ++ [k]) := by
      refine ⟨x, D.ne, ⟨xs ++ [(k, p.1, p.2)], ?_, ?_, fun y hy => ?_⟩, ?_⟩
      · rw [Array.toList_push, e1, List.map_append]; rfl
      · rw [List.map_append, e2]; rfl
      · rcases List.mem_append.mp hy with q | q
        · exact (e3 y q).keeps D.ob hs
        · simp only [List.mem_singleton] at q
          subst q
          exact hp.keeps D.ob hs
      · have : ns ++ k :: ks = (ns ++ [k]) ++ ks := by simp
        rw [this, List.nodup_append] at hn
        exact hn.1
    refine dn_storeAll hu vs ks _ _ _ _ _ (L2.Paired.mapP t fun _ _ q => q.keeps D.ob hs) D' (by rw [List.append_assoc]; exact hn) (by rw [List.length_append, List.length_singleton]; omega) fun h' tk es' he x' hs' => ?_
    refine h h' tk es' ?_ ?_ (hs.trans hs')
    · rw [he, Array.toList_push, List.append_assoc]; rfl
    · rw [List.length_cons]
      have : ep + 1 + ks.length = ep + (ks.length + 1) := by omega
      rw [this] at x'
      exact x'
theorem dn_sub {s : Shared} {pairs : List (Sem Value × Sem Value)} {Q : Addr → Shared → Prop} (hu : A.units + 8 < cLine) (hlen : pairs.length ≤ 15) (hne : (s.heap.objs.size == sysModules) = false)
    (h : wpAny (model prog w) A (evalPairs pairs) (fun vs s₁ => ∃ ks, Paired (fun (p : Value × Value) (k : NestedKey) => NIs s₁.heap k p.1) vs ks ∧ ks.Nodup ∧ DX s.heap.objs.size #[] 0 s₁.heap ∧
      ∀ h' tk es', es'.toList = entsN w vs ks → DX s.heap.objs.size es' ks.length h' → Heap.SameBut s.heap.objs.size s₁.heap h' → Q s.heap.objs.size { s₁ with heap := h', toks := tk }) E
      { s with heap := s.heap.push { cls := .type "dict", data := .dict #[] } }) :
    wpAny (model prog w) A (subDict pairs) Q E s := by
  unfold subDict
  refine wpAny_bind (wpAny_alloc ?_)
  refine wpAny_bind (wpAny_holding ?_)
  rw [if_pos hlen]
  refine wpAny_bind (wpAny_mono (wpAny_evalPairs_len h) (fun vs s₁ h₁ => ?_) fun _ _ e => e)
  obtain ⟨hvl, ks, hc, hn, hm, hQ⟩ := h₁
  have hsz : ([] : List NestedKey).length + ks.length ≤ sizeLine := by
    have e := Paired.length hc
    rw [sizeLine_eq, List.length_nil]; omega
  refine wpAny_holding ?_
  refine wpAny_bind (dn_storeAll hu vs ks #[] 0 [] s₁ _ hc ⟨hm, hne, ⟨[], rfl, rfl, fun _ hx => by cases hx⟩, List.nodup_nil⟩ hn hsz fun h' tk es' he x' hs' => wpAny_pure (wpAny_pure (hQ h' tk es' ?_ ?_ hs')))
  · rw [he]; rfl
  · rw [Nat.zero_add] at x'; exact x'
end
section
variable {X : Cx}
theorem vkeys_nis {pins : List (Addr × Obj)} {σ : L2.St} {H : Hp} {s : Shared} (I : Inv X pins σ H s) : ∀ {ps : List (V × V)} {vs : List (Value × Value)} {ks : List NestedKey}, VV ps vs → Paired (fun (q : V × V) (k : NestedKey) => VKey X.K H k q.1 ∧ k.depth ≤ 8) ps ks →
    Paired (fun (p : Value × Value) (k : NestedKey) => NIs s.heap k p.1) vs ks
  | _, _, _, .nil, .nil => .nil
  | _, _, _, .cons r t, .cons r2 t2 => .cons ⟨r2.1.nis I r.1, r2.2⟩ (vkeys_nis I t t2)
/-- {k: v, ..}, keys that differ -/
def tDispN (K : PySem.W.Frag) (w : World) (trs : List (TE × TE)) : TE := fun σ H Q => ∀ p, H p = none → (p == sysModules) = false → tPairs trs σ (upd H p (.ext (DX p #[] 0))) fun ps H2 =>
  H2 p = some (.ext (DX p #[] 0)) ∧ ∃ ks : List NestedKey, Paired (fun (q : V × V) (k : NestedKey) => VKey K H2 k q.1 ∧ k.depth ≤ 8) ps ks ∧ ks.Nodup ∧
    ∀ vs es, VV ps vs → es.toList = entsN w vs ks → Q (.ref p) (upd H2 p (.ext (DX p es ks.length)))
theorem pe_dispN {pos : Pos} {keys : List (Option Expr)} {values : List Expr} {trs : List (TE × TE)} (hu : X.A.units + 8 < cLine) (h : PPs X pos keys values trs) (hall : keys.all (·.isSome) = true) (hl : keys.length = values.length) (h0 : keys ≠ [])
    (h15 : keys.length ≤ 15) : PE X (.Dict keys values pos) (tDispN X.K X.w trs) := by
  refine ⟨fun pins s σ H Q I q => ?_⟩
  have hp := I.hok.fresh (Nat.le_refl s.heap.objs.size)
  have hne := not_mods I.big
  have I1 := I.laid (a := s.heap.objs.size) (o := .ext (DX s.heap.objs.size #[] 0)) (h' := s.heap.push { cls := .type "dict", data := .dict #[] }) (t' := s.toks) (fun _ _ q => Heap.get?_push_of_some _ q) (Nat.le_refl _) (dx_ok (dx_new s.heap))
  have hn := pairTrees_length keys values X.env pos hall hl
  have hpn : pairTrees keys values X.env pos ≠ [] := by
    intro he
    rw [he] at hn
    exact h0 (List.length_eq_zero_iff.mp hn.symm)
  rw [arm_eval_Dict, zip_pairTrees keys values X.env pos hall hl, dictDisplay_pairs _ hpn (by omega)]
  refine wpAny_bind (wpAny_standAt (wpAny_bind (dn_sub (Q := fun d s' => wpAny (model X.prog X.w) X.A (pure (Value.ref d)) (EP X pins σ Q) X.xe s') hu (by omega) hne ?_)))
  refine thn (h.run pins _ σ _ _ I1 (q _ hp hne)) fun vs s2 ⟨ps, H2, I2, rel, e, ks, pk, nd, q2⟩ => ?_
  refine ⟨ks, ?_, nd, (I2.hok _ _ e).1, fun h' tk es' he x hs => wpAny_pure ⟨.ref s.heap.objs.size, _, dx_write I2 e x hs, rfl, q2 vs es' rel he⟩⟩
  exact vkeys_nis I2 rel pk
end
end ZL

/-! The Z layer, 1: values whose tuples are pure, heaps of what may change, and how L2's values and heaps stand for them. -/
namespace ZL
open PySem PySem.Spec PyProof.Rows L2

/-- a value; a tuple is what it holds, wherever it stands; ro: a list that is read alone (the script) -/
inductive W where
  | non | bl (b : Bool) | int (i : Int) | str (x : Str) | ref (a : Addr) | ty (n : String) | tup (ws : List W) | ro (ws : List W)
instance : Inhabited W := ⟨.non⟩
/-- what stands at an address: a list, an instance of the class of a code with its fields by codes -/
inductive ZO where
  | lst (ws : List W) | ins (c : Nat) (fs : List (Nat × W))
  | dct (ep : Nat) (kvs : List (W × W))
abbrev Zp := Addr → Option ZO
abbrev ZSt := List (Option W)
def upz (Z : Zp) (a : Addr) (o : ZO) : Zp := fun b => if b = a then some o else Z b
theorem upz_same {Z : Zp} {a : Addr} {o : ZO} : upz Z a o a = some o := if_pos rfl
theorem upz_ne {Z : Zp} {a b : Addr} {o : ZO} (h : b ≠ a) : upz Z a o b = Z b := if_neg h
theorem upz_upz {Z : Zp} {a : Addr} {o u : ZO} : upz (upz Z a o) a u = upz Z a u := by
  funext b; unfold upz; split <;> rfl
/-- less is known -/
def Zle (Z Z' : Zp) : Prop := ∀ a o, Z a = some o → Z' a = some o
theorem Zle.refl {Z : Zp} : Zle Z Z := fun _ _ h => h
theorem Zle.trans {Z Z1 Z2 : Zp} (h : Zle Z Z1) (h' : Zle Z1 Z2) : Zle Z Z2 := fun a o e => h' a o (h a o e)
theorem Zle.new {Z : Zp} {p : Addr} {o : ZO} (h : Z p = none) : Zle Z (upz Z p o) := fun a u e => by
  have : a ≠ p := fun q => by rw [q, h] at e; cases e
  rw [upz_ne this]; exact e
theorem Zle.upd {Z Z' : Zp} {p : Addr} {o : ZO} (h : Zle Z Z') : Zle (upz Z p o) (upz Z' p o) := fun a u e => by
  by_cases q : a = p
  · subst q; rw [upz_same] at e ⊢; exact e
  · rw [upz_ne q] at e ⊢; exact h a u e
theorem Zle.fresh {Z Z' : Zp} {p : Addr} (h : Zle Z Z') (e : Z' p = none) : Z p = none := by
  cases q : Z p with
  | none => rfl
  | some o => rw [h _ _ q] at e; cases e

/-! ### how L2's values stand for W -/
/-- a list that nothing may change -/
def FzK (K : PySem.W.Frag) (H : Hp) (a : Addr) (xs : List V) : Prop := (∃ o, H a = some (.frz o (.lst xs))) ∨
    ∃ (o : Obj) (its : Array Value) (n : Nat), K.lookup a = some o ∧ o.cls = .type "list" ∧ o.dict = none ∧ o.data = .seq its n ∧ its.size ≤ sizeLine ∧ Vals xs its.toList
theorem FzK.sq {K : PySem.W.Frag} {H : Hp} {a : Addr} {xs : List V} (h : FzK K H a xs) : SqL K H a xs := by
  rcases h with h | h
  · exact .inl (.inr h)
  · exact .inr h
mutual
inductive Rep (K : PySem.W.Frag) (H : Hp) : W → V → Prop
  | non : Rep K H .non .non
  | bl (b : Bool) : Rep K H (.bl b) (.bl b)
  | int (i : Int) : Rep K H (.int i) (.int i)
  | str (x : Str) : Rep K H (.str x) (.str x)
  | ref (a : Addr) : Rep K H (.ref a) (.ref a)
  | ty (n : String) : Rep K H (.ty n) (.ty n)
  | tup {a : Addr} {vs : List V} {ws : List W} : SqT K H a vs → Reps K H ws vs → Rep K H (.tup ws) (.ref a)
  | ro {a : Addr} {vs : List V} {ws : List W} : FzK K H a vs → Reps K H ws vs → Rep K H (.ro ws) (.ref a)
inductive Reps (K : PySem.W.Frag) (H : Hp) : List W → List V → Prop
  | nil : Reps K H [] []
  | cons {w : W} {v : V} {ws : List W} {vs : List V} : Rep K H w v → Reps K H ws vs → Reps K H (w :: ws) (v :: vs)
end
/-- the tuples stay, and what is read alone -/
structure TupLe (K : PySem.W.Frag) (H H' : Hp) : Prop where
  t : ∀ a xs, SqT K H a xs → SqT K H' a xs
  l : ∀ a xs, FzK K H a xs → FzK K H' a xs
theorem TupLe.refl {K : PySem.W.Frag} {H : Hp} : TupLe K H H := ⟨fun _ _ h => h, fun _ _ h => h⟩
theorem TupLe.trans {K : PySem.W.Frag} {H H1 H2 : Hp} (h : TupLe K H H1) (h' : TupLe K H1 H2) : TupLe K H H2 := ⟨fun a xs e => h'.t a xs (h.t a xs e), fun a xs e => h'.l a xs (h.l a xs e)⟩
theorem TupLe.of {K : PySem.W.Frag} {H H' : Hp} (h : ∀ a xs, H a = some (.tup xs) → H' a = some (.tup xs)) (f : ∀ a o u, H a = some (.frz o u) → H' a = some (.frz o u)) : TupLe K H H' := ⟨fun a xs e => by
  rcases e with (e | ⟨o, e⟩) | e
  · exact .inl (.inl (h a xs e))
  · exact .inl (.inr ⟨o, f a o _ e⟩)
  · exact .inr e, fun a xs e => by
  rcases e with ⟨o, e⟩ | e
  · exact .inl ⟨o, f a o _ e⟩
  · exact .inr e⟩
theorem TupLe.new {K : PySem.W.Frag} {H : Hp} {p : Addr} {o : HO} (h : H p = none) : TupLe K H (upd H p o) := .of
  (fun a xs e => by rw [upd_ne (ne_of_none e h)]; exact e) (fun a x u e => by rw [upd_ne (ne_of_none e h)]; exact e)
/-- what may change is no tuple -/
def mutO : HO → Bool
  | .lst _ => true
  | .ins _ _ _ => true
  | .ext _ => true
  | _ => false
theorem TupLe.put {K : PySem.W.Frag} {H : Hp} {p : Addr} {o u : HO} (h : H p = some o) (m : mutO o = true) : TupLe K H (upd H p u) := .of
  (fun a xs e => by
    have ne : a ≠ p := fun q => by subst q; rw [h] at e; cases e; cases m
    rw [upd_ne ne]; exact e)
  (fun a x v e => by
    have ne : a ≠ p := fun q => by subst q; rw [h] at e; cases e; cases m
    rw [upd_ne ne]; exact e)
mutual
theorem Rep.mono {K : PySem.W.Frag} {H H' : Hp} (t : TupLe K H H') : ∀ {w : W} {v : V}, Rep K H w v → Rep K H' w v
  | _, _, .non => .non
  | _, _, .bl b => .bl b
  | _, _, .int i => .int i
  | _, _, .str x => .str x
  | _, _, .ref a => .ref a
  | _, _, .ty n => .ty n
  | _, _, .tup h r => .tup (t.t _ _ h) (Reps.mono t r)
  | _, _, .ro h r => .ro (t.l _ _ h) (Reps.mono t r)
theorem Reps.mono {K : PySem.W.Frag} {H H' : Hp} (t : TupLe K H H') : ∀ {ws : List W} {vs : List V}, Reps K H ws vs → Reps K H' ws vs
  | _, _, .nil => .nil
  | _, _, .cons h r => .cons (Rep.mono t h) (Reps.mono t r)
end
section
variable {K : PySem.W.Frag} {H : Hp}
theorem Reps.length : ∀ {ws : List W} {vs : List V}, Reps K H ws vs → ws.length = vs.length
  | _, _, .nil => rfl
  | _, _, .cons _ r => congrArg (· + 1) (Reps.length r)
theorem Reps.get : ∀ {ws : List W} {vs : List V} {i : Nat} {v : V}, Reps K H ws vs → vs[i]? = some v → ∃ w, ws[i]? = some w ∧ Rep K H w v
  | _, _, _, _, .nil, e => by simp at e
  | _, _, 0, _, .cons h _, e => by simp at e; subst e; exact ⟨_, rfl, h⟩
  | _, _, i + 1, _, .cons _ r, e => by
    obtain ⟨w, h1, h2⟩ := Reps.get (i := i) r (by simpa using e)
    exact ⟨w, by simpa using h1, h2⟩
theorem Reps.getW : ∀ {ws : List W} {vs : List V} {i : Nat} {w : W}, Reps K H ws vs → ws[i]? = some w → ∃ v, vs[i]? = some v ∧ Rep K H w v
  | _, _, _, _, .nil, e => by simp at e
  | _, _, 0, _, .cons h _, e => by simp at e; subst e; exact ⟨_, rfl, h⟩
  | _, _, i + 1, _, .cons _ r, e => by
    obtain ⟨w, h1, h2⟩ := Reps.getW (i := i) r (by simpa using e)
    exact ⟨w, by simpa using h1, h2⟩
theorem Reps.append : ∀ {ws ys : List W} {vs us : List V}, Reps K H ws vs → Reps K H ys us → Reps K H (ws ++ ys) (vs ++ us)
  | _, _, _, _, .nil, r => r
  | _, _, _, _, .cons h t, r => .cons h (Reps.append t r)
theorem Reps.take : ∀ {ws : List W} {vs : List V} (n : Nat), Reps K H ws vs → Reps K H (ws.take n) (vs.take n)
  | _, _, 0, _ => .nil
  | _, _, _ + 1, .nil => .nil
  | _, _, n + 1, .cons h r => .cons h (Reps.take n r)
theorem Reps.drop : ∀ {ws : List W} {vs : List V} (n : Nat), Reps K H ws vs → Reps K H (ws.drop n) (vs.drop n)
  | _, _, 0, r => r
  | _, _, _ + 1, .nil => .nil
  | _, _, n + 1, .cons _ r => Reps.drop n r
theorem Reps.set {w : W} {v : V} (q : Rep K H w v) : ∀ {ws : List W} {vs : List V} (i : Nat), Reps K H ws vs → Reps K H (ws.set i w) (vs.set i v)
  | _, _, _, .nil => .nil
  | _, _, 0, .cons _ r => .cons q r
  | _, _, i + 1, .cons h r => .cons h (Reps.set q i r)
theorem Reps.reverse {ws : List W} {vs : List V} (r : Reps K H ws vs) : Reps K H ws.reverse vs.reverse := by
  induction ws generalizing vs with
  | nil => cases r; exact .nil
  | cons w ws ih =>
    cases r with
    | cons h t => rw [List.reverse_cons, List.reverse_cons]; exact (ih t).append (.cons h .nil)
theorem Reps.erase : ∀ {ws : List W} {vs : List V} (i : Nat), Reps K H ws vs → Reps K H (ws.eraseIdx i) (vs.eraseIdx i)
  | _, _, _, .nil => .nil
  | _, _, 0, .cons _ r => r
  | _, _, i + 1, .cons h r => .cons h (Reps.erase i r)
theorem Reps.ints : ∀ {ns : List Int}, Reps K H (ns.map W.int) (ns.map V.int)
  | [] => .nil
  | _ :: _ => .cons (.int _) Reps.ints
theorem Reps.ints_back : ∀ {ns : List Int} {vs : List V}, Reps K H (ns.map W.int) vs → vs = ns.map V.int
  | [], _, .nil => rfl
  | _ :: _, _, .cons (.int _) r => by rw [Reps.ints_back r]; rfl
theorem Reps.bls_back : ∀ {bs : List Bool} {vs : List V}, Reps K H (bs.map W.bl) vs → vs = bs.map V.bl
  | [], _, .nil => rfl
  | _ :: _, _, .cons (.bl _) r => by rw [Reps.bls_back r]; rfl
/-- back: the value of a W that is no tuple is known -/
theorem Rep.non_inv {v : V} (r : Rep K H .non v) : v = .non := by cases r; rfl
theorem Rep.bl_inv {b : Bool} {v : V} (r : Rep K H (.bl b) v) : v = .bl b := by cases r; rfl
theorem Rep.int_inv {i : Int} {v : V} (r : Rep K H (.int i) v) : v = .int i := by cases r; rfl
theorem Rep.str_inv {x : Str} {v : V} (r : Rep K H (.str x) v) : v = .str x := by cases r; rfl
theorem Rep.ref_inv {a : Addr} {v : V} (r : Rep K H (.ref a) v) : v = .ref a := by cases r; rfl
theorem Rep.ty_inv {n : String} {v : V} (r : Rep K H (.ty n) v) : v = .ty n := by cases r; rfl
theorem Rep.tup_inv {ws : List W} {v : V} (r : Rep K H (.tup ws) v) : ∃ a vs, v = .ref a ∧ SqT K H a vs ∧ Reps K H ws vs := by
  cases r with
  | tup h t => exact ⟨_, _, rfl, h, t⟩
end

/-! ### the heap -/
structure Nms where
  /-- the names by their codes; where the class of a code stands; the world -/
  nm : Nat → Str
  cl : Nat → Addr
  w : World
mutual
/-- a value as a key -/
def keyW : W → Option NestedKey
  | .non => some .none
  | .bl b => some (.num (if b = true then 1 else 0))
  | .int i => some (.num i)
  | .str x => some (.text x)
  | .tup ws => (keyWs ws).map .tup
  | _ => none
def keyWs : List W → Option (List NestedKey)
  | [] => some []
  | w :: ws => (match keyW w, keyWs ws with
    | some k, some ks => some (k :: ks)
    | _, _ => none)
end
mutual
theorem Rep.key {K : PySem.W.Frag} {H : Hp} : ∀ {w : W} {v : V} {k : NestedKey}, Rep K H w v → keyW w = some k → VKey K H k v
  | _, _, _, .non, e => by cases e; exact .non
  | _, _, _, .bl b, e => by cases e; exact .bl b
  | _, _, _, .int i, e => by cases e; exact .int i
  | _, _, _, .str x, e => by cases e; exact .str x
  | _, _, _, .ref a, e => by cases e
  | _, _, _, .ty n, e => by cases e
  | _, _, _, .ro _ _, e => by cases e
  | _, _, _, .tup (ws := ws) h r, e => by
    have e : (keyWs ws).map NestedKey.tup = some _ := e
    cases q : keyWs ws with
    | none => rw [q] at e; cases e
    | some ks => rw [q] at e; cases e; exact .tup h (Reps.keys r q)
theorem Reps.keys {K : PySem.W.Frag} {H : Hp} : ∀ {ws : List W} {vs : List V} {ks : List NestedKey}, Reps K H ws vs → keyWs ws = some ks → VKeys K H ks vs
  | _, _, _, .nil, e => by cases e; exact .nil
  | _, _, _, .cons (w := w) (ws := ws) h r, e => by
    unfold keyWs at e
    cases q1 : keyW w with
    | none => rw [q1] at e; cases e
    | some k =>
      cases q2 : keyWs ws with
      | none => rw [q1, q2] at e; cases e
      | some ks => rw [q1, q2] at e; cases e; exact .cons (Rep.key h q1) (Reps.keys r q2)
end
/-- a key that a dict takes -/
def keyOf (w : W) : Option NestedKey := match keyW w with
  | some k => if k.depth ≤ 8 then some k else none
  | none => none
theorem keyOf_inv {w : W} {k : NestedKey} (h : keyOf w = some k) : keyW w = some k ∧ k.depth ≤ 8 := by
  unfold keyOf at h
  cases e : keyW w with
  | none => rw [e] at h; cases h
  | some k' =>
    rw [e] at h
    by_cases hd : k'.depth ≤ 8
    · simp only [if_pos hd] at h; cases h; exact ⟨rfl, hd⟩
    · simp only [if_neg hd] at h; cases h
def keyD (p : W × W) : NestedKey := (keyOf p.1).getD .none
def dfind (kvs : List (W × W)) (k : NestedKey) : Option Nat := findN (kvs.map keyD) k
/-- an entry of a dict -/
def EntZ (T : Nms) (K : PySem.W.Frag) (H : Hp) (p : W × W) (e : DictEntry) : Prop :=
  ∃ k v u, keyOf p.1 = some k ∧ e.hash = k.hash T.w ∧ RelV v e.key ∧ Rep K H p.1 v ∧ RelV u e.val ∧ Rep K H p.2 u
theorem EntZ.mono {T : Nms} {K : PySem.W.Frag} {H H' : Hp} (t : TupLe K H H') {p : W × W} {e : DictEntry} (x : EntZ T K H p e) : EntZ T K H' p e := by
  obtain ⟨k, v, u, h1, h2, h3, h4, h5, h6⟩ := x
  exact ⟨k, v, u, h1, h2, h3, h4.mono t, h5, h6.mono t⟩
def RepO (T : Nms) (K : PySem.W.Frag) (H : Hp) (a : Addr) : ZO → Prop
  | .lst ws => ∃ vs, H a = some (.lst vs) ∧ Reps K H ws vs
  | .ins c fs => ∃ dx gs, H a = some (.ins (T.cl c) dx gs) ∧ Paired (fun (p : Nat × W) (q : Str × V) => q.1 = T.nm p.1 ∧ Rep K H p.2 q.2) fs gs
  | .dct ep kvs => ∃ es : Array DictEntry, H a = some (.ext (DX a es ep)) ∧ (a == sysModules) = false ∧ kvs.length ≤ sizeLine ∧ (kvs.map keyD).Nodup ∧ Paired (EntZ T K H) kvs es.toList
def ZRel (T : Nms) (K : PySem.W.Frag) (Z : Zp) (H : Hp) : Prop := ∀ a o, Z a = some o → RepO T K H a o
/-- the frame: what stays as it is -/
def Fr (F : List (Addr × HO)) (Z : Zp) (H : Hp) : Prop := ∀ p ∈ F, H p.1 = some p.2 ∧ Z p.1 = none
def RepS (K : PySem.W.Frag) (H : Hp) (ς : ZSt) (σ : L2.St) : Prop := ς.length = σ.length ∧ ∀ (i : Nat) (w : W), ς[i]? = some (some w) → ∃ v, σ[i]? = some (some v) ∧ Rep K H w v
def HLen (K : PySem.W.Frag) (H : Hp) : Prop := (∀ a xs, Rd H a (.lst xs) → xs.length ≤ sizeLine) ∧ ∀ a xs, SqT K H a xs → xs.length ≤ sizeLine
theorem pairedMap {α β : Type} {P Q : α → β → Prop} (h : ∀ a b, P a b → Q a b) : ∀ {xs : List α} {ys : List β}, Paired P xs ys → Paired Q xs ys := fun p => Paired.mapP p h
section
variable {T : Nms} {K : PySem.W.Frag} {H H' : Hp} {Z Z' : Zp} {a p : Addr} {o u : HO} {z : ZO} {F : List (Addr × HO)} {ς : ZSt} {σ : L2.St}
theorem RepO.there (r : RepO T K H a z) : ∃ o, H a = some o := by
  cases z with
  | lst ws => obtain ⟨vs, e, _⟩ := r; exact ⟨_, e⟩
  | ins c fs => obtain ⟨_, _, e, _⟩ := r; exact ⟨_, e⟩
  | dct _ _ => obtain ⟨_, e, _⟩ := r; exact ⟨_, e⟩
theorem RepO.mono (t : TupLe K H H') (e : H' a = H a) (r : RepO T K H a z) : RepO T K H' a z := by
  cases z with
  | lst ws => obtain ⟨vs, h, q⟩ := r; exact ⟨vs, by rw [e]; exact h, q.mono t⟩
  | ins c fs => obtain ⟨dx, gs, h, q⟩ := r; exact ⟨dx, gs, by rw [e]; exact h, pairedMap (fun _ _ x => ⟨x.1, x.2.mono t⟩) q⟩
  | dct _ _ => obtain ⟨es, h, h2, h3, h4, q⟩ := r; exact ⟨es, by rw [e]; exact h, h2, h3, h4, pairedMap (fun _ _ x => x.mono t) q⟩
theorem ZRel.fresh (r : ZRel T K Z H) (h : H p = none) : Z p = none := by
  cases q : Z p with
  | none => rfl
  | some o => obtain ⟨_, e⟩ := (r _ _ q).there; rw [h] at e; cases e
theorem ZRel.le (r : ZRel T K Z H) (h : Zle Z' Z) : ZRel T K Z' H := fun a o e => r a o (h a o e)
/-- a new object that Z doesn't show (a tuple) -/
theorem ZRel.hid (r : ZRel T K Z H) (h : H p = none) : ZRel T K Z (upd H p o) := fun b u e => by
  have ne : b ≠ p := fun q => by rw [q, r.fresh h] at e; cases e
  exact (r b u e).mono (.new h) (upd_ne ne)
/-- a new object -/
theorem ZRel.new (r : ZRel T K Z H) (h : H p = none) (q : RepO T K (upd H p o) p z) : ZRel T K (upz Z p z) (upd H p o) := fun b u e => by
  by_cases hb : b = p
  · subst hb; rw [upz_same] at e; cases e; exact q
  · rw [upz_ne hb] at e; exact (r b u e).mono (.new h) (upd_ne hb)
/-- an object is changed -/
theorem ZRel.put (r : ZRel T K Z H) (h : H p = some o) (m : mutO o = true) (q : RepO T K (upd H p u) p z) : ZRel T K (upz Z p z) (upd H p u) := fun b v e => by
  by_cases hb : b = p
  · subst hb; rw [upz_same] at e; cases e; exact q
  · rw [upz_ne hb] at e; exact (r b v e).mono (.put h m) (upd_ne hb)
theorem Fr.hid (f : Fr F Z H) (h : H p = none) : Fr F Z (upd H p o) := fun q hq => by
  obtain ⟨e, k⟩ := f q hq
  exact ⟨by rw [upd_ne (ne_of_none e h)]; exact e, k⟩
theorem Fr.new (f : Fr F Z H) (h : H p = none) : Fr F (upz Z p z) (upd H p o) := fun q hq => by
  obtain ⟨e, k⟩ := f q hq
  have ne := ne_of_none e h
  exact ⟨by rw [upd_ne ne]; exact e, by rw [upz_ne ne]; exact k⟩
theorem Fr.put {z' : ZO} (f : Fr F Z H) (h : Z p = some z') : Fr F (upz Z p z) (upd H p u) := fun q hq => by
  obtain ⟨e, k⟩ := f q hq
  have ne : q.1 ≠ p := fun x => by rw [x, h] at k; cases k
  exact ⟨by rw [upd_ne ne]; exact e, by rw [upz_ne ne]; exact k⟩
theorem Fr.le (f : Fr F Z H) (h : Zle Z' Z) : Fr F Z' H := fun q hq => ⟨(f q hq).1, h.fresh (f q hq).2⟩
theorem RepS.mono (r : RepS K H ς σ) (t : TupLe K H H') : RepS K H' ς σ := ⟨r.1, fun i w e => by
  obtain ⟨v, h, q⟩ := r.2 i w e
  exact ⟨v, h, q.mono t⟩⟩
theorem RepS.set {w : W} {v : V} (r : RepS K H ς σ) (q : Rep K H w v) (i : Nat) : RepS K H (ς.set i (some w)) (σ.set i (some v)) := ⟨by rw [List.length_set, List.length_set]; exact r.1, fun j x e => by
  by_cases h : i = j
  · subst h
    by_cases hl : i < ς.length
    · rw [List.getElem?_set_self hl] at e
      cases e
      exact ⟨v, by rw [List.getElem?_set_self (by rw [← r.1]; exact hl)], q⟩
    · rw [List.getElem?_eq_none (by rw [List.length_set]; omega)] at e; cases e
  · rw [List.getElem?_set_ne h] at e ⊢
    exact r.2 j x e⟩
theorem Inv.hlen {X : Cx} {pins : List (Addr × Obj)} {s : Shared} (I : Inv X pins σ H s) : HLen X.K H := ⟨fun a xs h => by
  obtain ⟨z, _⟩ := Rd.ok (P := X.prog) (w := X.w) h I.hok
  exact z, fun a xs h => by
  obtain ⟨_, _, _, z⟩ := I.tuple h
  exact z⟩
end
theorem Paired.to {α β γ : Type} {P : α → β → Prop} {Q : β → γ → Prop} (f : α → γ) (h : ∀ a b, P a b → Q b (f a)) : ∀ {xs : List α} {ys : List β}, Paired P xs ys → Paired Q ys (xs.map f)
  | _, _, .nil => .nil
  | _, _, .cons r t => .cons (h _ _ r) (Paired.to f h t)
/-- a dict of Z as a tracked dict -/
theorem ZRel.dct {T : Nms} {K : PySem.W.Frag} {Z : Zp} {H : Hp} (r : ZRel T K Z H) {a : Addr} {ep : Nat} {kvs : List (W × W)} (h : Z a = some (.dct ep kvs)) :
    ∃ es : Array DictEntry, DOf K T.w H a es ep (kvs.map keyD) ∧ Paired (EntZ T K H) kvs es.toList := by
  obtain ⟨es, e, h2, h3, h4, q⟩ := r _ _ h
  refine ⟨es, ⟨e, h2, Paired.to keyD (fun p e ⟨k, v, u, h1, h2, h3, h4, h5, h6⟩ => ?_) q, h4, by rw [List.length_map]; exact h3⟩, q⟩
  have ek : keyD p = k := by unfold keyD; rw [h1]; rfl
  rw [ek]
  exact ⟨h2, (keyOf_inv h1).2, v, h3, h4.key (keyOf_inv h1).1⟩
theorem Paired.at {α β : Type} {P : α → β → Prop} : ∀ {xs : List α} {ys : List β} {i : Nat} {b : β}, Paired P xs ys → ys[i]? = some b → ∃ a, xs[i]? = some a ∧ P a b
  | _, _, _, _, .nil, e => by simp at e
  | _, _, 0, _, .cons r _, e => by simp at e; subst e; exact ⟨_, rfl, r⟩
  | _, _, i + 1, _, .cons _ t, e => by
    obtain ⟨a, h1, h2⟩ := Paired.at (i := i) t (by simpa using e)
    exact ⟨a, by simpa using h1, h2⟩
theorem Paired.atL {α β : Type} {P : α → β → Prop} : ∀ {xs : List α} {ys : List β} {i : Nat} {a : α}, Paired P xs ys → xs[i]? = some a → ∃ b, ys[i]? = some b ∧ P a b
  | _, _, _, _, .nil, e => by simp at e
  | _, _, 0, _, .cons r _, e => by simp at e; subst e; exact ⟨_, rfl, r⟩
  | _, _, i + 1, _, .cons _ t, e => by
    obtain ⟨a, h1, h2⟩ := Paired.atL (i := i) t (by simpa using e)
    exact ⟨a, by simpa using h1, h2⟩
theorem Paired.modify {α β : Type} {P : α → β → Prop} (f : α → α) (g : β → β) (h : ∀ a b, P a b → P (f a) (g b)) : ∀ {xs : List α} {ys : List β} (i : Nat), Paired P xs ys → Paired P (xs.modify i f) (ys.modify i g)
  | _, _, _, .nil => by simp; exact .nil
  | _, _, 0, .cons r t => by simp; exact .cons (h _ _ r) t
  | _, _, i + 1, .cons r t => by simp; exact .cons r (Paired.modify f g h i t)
theorem Paired.snoc' {α β : Type} {P : α → β → Prop} {a : α} {b : β} (h : P a b) : ∀ {xs : List α} {ys : List β}, Paired P xs ys → Paired P (xs ++ [a]) (ys ++ [b])
  | _, _, .nil => .cons h .nil
  | _, _, .cons r t => .cons r (Paired.snoc' h t)
end ZL

/-! The Z layer, 2: the small syntax and its weakest preconditions. -/
namespace ZL
open PySem PySem.Spec PyProof.Rows L2

inductive BF where
  | len | int | abs | tuple | list | isi | min | max | sum | any | all | sorted | bool | set | str
  deriving DecidableEq
inductive IK where
  | val | range1 | range2 | enum | zip | rev
  deriving DecidableEq
inductive MG where
  | nm (i : Nat)
  | tup (ts : List MG)
inductive ME where
  | var (i : Nat)
  | non | bl (b : Bool) | int (i : Int)
  | sc (c : Nat)
  | gl (c : Nat)
  | bty (b : BF)
  | bin (op : Operator) (a b : ME)
  | neg (a : ME)
  | cmp (op : CmpOp) (a b : ME)
  | cmp2 (o1 o2 : CmpOp) (a b c : ME)
  | and (as : List ME)
  | or (as : List ME)
  | not (t : ME)
  | ife (t a b : ME)
  | tup (as : List ME)
  | lst (as : List ME)
  | dct (kvs : List ME)
  | ix (a i : ME)
  | sl (a : ME) (lo hi : List ME)
  | rev (a : ME)
  | call (f : Nat) (as : List ME)
  | blt (b : BF) (as : List ME)
  | mth (m : Nat) (o : ME) (as : List ME)
  | fld (o : ME) (f : Nat)
  | new (c : Nat) (as : List ME)
  | comp (elt : ME) (tg : MG) (k : IK) (it : List ME) (ts : List ME) (own : List Nat)
  -- tests
  | tv (a : ME)
  | tand (as : List ME)
  | tor (as : List ME)
  | tnot (a : ME)
inductive MS where
  | set (i : Nat) (e : ME)
  | asg (t : MG) (e : ME)
  | par (ts : List Nat) (es : List ME)
  | setix (o i e : ME)
  | setfl (o : ME) (f : Nat) (e : ME)
  | aug (i : Nat) (op : Operator) (e : ME)
  | augfl (o : ME) (f : Nat) (op : Operator) (e : ME)
  | augix (o i : ME) (op : Operator) (e : ME)
  | ex (e : ME)
  | ret (e : ME)
  | retN
  | ife (t : ME) (a b : List MS)
  | for (tg : MG) (k : IK) (it : List ME) (body : List MS)
  | whl (t : ME) (body : List MS)
  | pass | brk | cnt
  | rais (c : Nat) (as : List ME)

abbrev ZQ := W → Zp → Prop
/-- what is wanted of an exception: its class's code, its fields, the heap -/
abbrev ZE := Nat → List (Nat × W) → Zp → Prop
abbrev ZSp := List W → Zp → ZQ → ZE → Prop
structure Ctx where
  nm : Nat → Str
  fn : Nat → Option (Nat → ZSp)
  con : Nat → Option W
  ini : Nat → Option (Nat → ZSp)
  mth : Nat → Nat → Option (Nat → ZSp)
  room : Nat
  E : Nat → List (Nat × W) → ZSt → Zp → Prop
structure ZD where
  nx : ZSt → Zp → Prop
  rt : W → Zp → Prop
  bk : ZSt → Zp → Prop := fun _ _ => False
  ct : ZSt → Zp → Prop := fun _ _ => False
abbrev Ctx.calm (C : Ctx) : Ctx := { C with E := fun _ _ _ _ => False }

/-! ### data -/
mutual
inductive Dat (Z : Zp) : W → PyData → Prop
  | non : Dat Z .non .none
  | bl (b : Bool) : Dat Z (.bl b) (.bool b)
  | int (i : Int) : Dat Z (.int i) (.int i)
  | str (x : Str) : Dat Z (.str x) (.str x)
  | tup {ws : List W} {ds : List PyData} : Dats Z ws ds → Dat Z (.tup ws) (.tuple ds)
  | lst {a : Addr} {ws : List W} {ds : List PyData} : Z a = some (.lst ws) → Dats Z ws ds → Dat Z (.ref a) (.list ds)
  | ro {ws : List W} {ds : List PyData} : Dats Z ws ds → Dat Z (.ro ws) (.list ds)
inductive Dats (Z : Zp) : List W → List PyData → Prop
  | nil : Dats Z [] []
  | cons {w : W} {d : PyData} {ws : List W} {ds : List PyData} : Dat Z w d → Dats Z ws ds → Dats Z (w :: ws) (d :: ds)
end
def SeqZ (a : Addr) (xs : List W) (Z : Zp) : Prop := Z a = some (.lst xs)

/-- the list at an address -/
def wrl : Option ZO → Option (List W)
  | some (.lst ws) => some ws
  | _ => none
theorem wrl_inv {o : Option ZO} {ws : List W} (h : wrl o = some ws) : o = some (.lst ws) := by
  rcases o with _ | o
  · cases h
  · cases o <;> first | cases h | skip
    rfl
/-! ### operators -/
def wpEq (neg : Bool) (a b : W) (Z : Zp) (Q : ZQ) : Prop := match a, b with
  | .int i, .int j => Q (.bl (neg != decide (i = j))) Z
  | .str x, .str y => Q (.bl (neg != decide (x = y))) Z
  | .bl x, .bl y => Q (.bl (neg != decide (x = y))) Z
  | .non, .non => Q (.bl (neg != true)) Z
  | a, b => ∃ d e, Dat Z a d ∧ Dat Z b e ∧ SeqAt.shaped d = true ∧ SeqAt.shaped e = true ∧ Q (.bl (neg != PyData.eqv d e)) Z
def wpBin (op : Operator) (a b : W) (Z : Zp) (Q : ZQ) : Prop := match op, a, b with
  | .Add, .int i, .int j => Q (.int (i + j)) Z
  | .Add, .str x, .str y => x.length + y.length ≤ sizeLine ∧ Q (.str (x ++ y)) Z
  | .Add, .tup xs, .tup ys => xs.length + ys.length ≤ sizeLine ∧ Q (.tup (xs ++ ys)) Z
  | .Add, .ref p, .ref q => (match wrl (Z p), wrl (Z q) with
    | some xs, some ys => xs.length + ys.length ≤ sizeLine ∧ ∀ r, Z r = none → Q (.ref r) (upz Z r (.lst (xs ++ ys)))
    | _, _ => False)
  | .Sub, .int i, .int j => Q (.int (i - j)) Z
  | .Mult, .int i, .int j => IntMulOk i j ∧ Q (.int (i * j)) Z
  | .Mult, .tup xs, .int k => xs ≠ [] ∧ xs.length ≤ 1000 ∧ 2 ≤ k ∧ k ≤ 1000 ∧ Q (.tup (List.replicate k.toNat xs).flatten) Z
  | .Mult, .ref p, .int k => (match wrl (Z p) with
    | some xs => -(2 ^ 63) ≤ k ∧ k < 2 ^ 63 ∧ xs.length * k.toNat ≤ sizeLine ∧ ∀ r, Z r = none → Q (.ref r) (upz Z r (.lst (List.replicate k.toNat xs).flatten))
    | _ => False)
  | .FloorDiv, .int i, .int j => CDivW i j ∧ Q (.int (i / j)) Z
  | .Mod, .int i, .int j => 0 < j ∧ Q (.int (i % j)) Z
  | .Pow, .int i, .int j => CPow i j ∧ Q (.int (i ^ j.toNat)) Z
  | _, _, _ => False
def flatW : W → Bool
  | .non => true
  | .bl _ => true
  | .int _ => true
  | .str _ => true
  | _ => false
def eqF : W → W → Bool
  | .non, .non => true
  | .bl a, .bl b => decide (a = b)
  | .int a, .int b => decide (a = b)
  | .bl a, .int b => decide ((if a = true then (1 : Int) else 0) = b)
  | .int a, .bl b => decide (a = (if b = true then (1 : Int) else 0))
  | .str a, .str b => decide (a = b)
  | _, _ => false
/-- by twos -/
def pairUp : List W → Option (List (W × W))
  | [] => some []
  | [_] => none
  | a :: b :: r => (pairUp r).map ((a, b) :: ·)
/-- in, [] of a dict -/
def wpInD (neg : Bool) (o : Option ZO) (a : W) (Z : Zp) (Q : ZQ) : Prop := match o, keyOf a with
  | some (.dct _ kvs), some k => Q (.bl (neg != (dfind kvs k).isSome)) Z
  | _, _ => False
/-- what stands behind a key -/
def dget (kvs : List (W × W)) (k : NestedKey) : Option W := (dfind kvs k).bind fun j => (kvs[j]?).map (·.2)
def wpIxD (o : Option ZO) (i : W) (Z : Zp) (Q : ZQ) : Prop := match o, keyOf i with
  | some (.dct _ kvs), some k => (match dget kvs k with
    | some w => Q w Z
    | none => False)
  | _, _ => False
/-- d[k] = v -/
def dput (kvs : List (W × W)) (i v : W) (k : NestedKey) : List (W × W) := match dfind kvs k with
  | some j => kvs.modify j fun p => (p.1, v)
  | none => kvs ++ [(i, v)]
def dep (ep : Nat) (kvs : List (W × W)) (k : NestedKey) : Nat := match dfind kvs k with
  | some _ => ep
  | none => ep + 1
def wpSetD (p : Addr) (o : Option ZO) (i v : W) (Z : Zp) (Q : Zp → Prop) : Prop := match o, keyOf i with
  | some (.dct ep kvs), some k => kvs.length < sizeLine ∧ Q (upz Z p (.dct (dep ep kvs k) (dput kvs i v k)))
  | _, _ => False
/-- methods of dicts, by their names' codes: 7 get, 8 setdefault -/
def wpMD (m : Nat) (o : W) (as : List W) (Z : Zp) (Q : ZQ) : Prop := match o with
  | .ref p => (match Z p with
    | some (.dct ep kvs) => (match m, as with
      | 7, [i] => (match keyOf i with
        | some k => Q ((dget kvs k).getD .non) Z
        | none => False)
      | 7, [i, d] => (match keyOf i with
        | some k => Q ((dget kvs k).getD d) Z
        | none => False)
      | 8, [i, d] => (match keyOf i with
        | some k => (match dget kvs k with
          | some w => Q w Z
          | none => kvs.length < sizeLine ∧ Q d (upz Z p (.dct (ep + 1) (kvs ++ [(i, d)]))))
        | none => False)
      | _, _ => False)
    | _ => False)
  | _ => False
def wpIn (neg : Bool) (a b : W) (Z : Zp) (Q : ZQ) : Prop := match b with
  | .ro ws => flatW a = true ∧ ws.all flatW = true ∧ Q (.bl (neg != ws.any fun w => eqF w a)) Z
  | .tup ws => flatW a = true ∧ ws.all flatW = true ∧ Q (.bl (neg != ws.any fun w => eqF w a)) Z
  | .ref p => (match wrl (Z p) with
    | some ws => flatW a = true ∧ ws.all flatW = true ∧ Q (.bl (neg != ws.any fun w => eqF w a)) Z
    | none => wpInD neg (Z p) a Z Q)
  | .str y => (match a with
    | .str x => Q (.bl (neg != !(Builtin.Str.occurrences y x 0 y.length 1).isEmpty)) Z
    | _ => False)
  | _ => False
def isNonW : W → Bool
  | .non => true
  | _ => false
def isBlW (b : Bool) : W → Bool
  | .bl c => decide (c = b)
  | _ => false
def wpIs (neg : Bool) (a b : W) (Z : Zp) (Q : ZQ) : Prop := match b with
  | .non => Q (.bl (neg != isNonW a)) Z
  | .bl c => Q (.bl (neg != isBlW c a)) Z
  | _ => False
def wpCmp (op : CmpOp) (a b : W) (Z : Zp) (Q : ZQ) : Prop := match op, a, b with
  | .Eq, a, b => wpEq false a b Z Q
  | .NotEq, a, b => wpEq true a b Z Q
  | .Lt, .int i, .int j => Q (.bl (decide (i < j))) Z
  | .LtE, .int i, .int j => Q (.bl (decide (i ≤ j))) Z
  | .Gt, .int i, .int j => Q (.bl (decide (j < i))) Z
  | .GtE, .int i, .int j => Q (.bl (decide (j ≤ i))) Z
  | .Is, a, b => wpIs false a b Z Q
  | .IsNot, a, b => wpIs true a b Z Q
  | .In, a, b => wpIn false a b Z Q
  | .NotIn, a, b => wpIn true a b Z Q
  | _, _, _ => False
def truW (Z : Zp) : W → Option Bool
  | .non => some false
  | .bl b => some b
  | .int i => some (i != 0)
  | .tup ws => some (!ws.isEmpty)
  | .ro ws => some (!ws.isEmpty)
  | .ref p => (match wrl (Z p) with
    | some ws => some (!ws.isEmpty)
    | _ => none)
  | _ => none
def wpIx (a i : W) (Z : Zp) (Q : ZQ) : Prop := match a, i with
  | .ro ws, .int k => (match atI ws k with
    | some w => Q w Z
    | none => False)
  | .tup ws, .int k => (match atI ws k with
    | some w => Q w Z
    | none => False)
  | .ref p, .int k => (match wrl (Z p) with
    | some ws => (match atI ws k with
      | some w => Q w Z
      | none => False)
    | none => wpIxD (Z p) (.int k) Z Q)
  | .ref p, i => wpIxD (Z p) i Z Q
  | .str z, .int k => z.length ≤ sizeLine ∧ (match atI z.cps.toList k with
    | some c => Q (.str ⟨#[c]⟩) Z
    | none => False)
  | _, _ => False
def cutW (xs : List W) (lo hi : Option Int) : List W := (xs.drop (HT.sIx xs.length 0 lo)).take (HT.sIx xs.length xs.length hi - HT.sIx xs.length 0 lo)
def partW : List W → Option (Option Int)
  | [] => some none
  | [.int i] => some (some i)
  | _ => none
def wpSl (a : W) (l h : Option Int) (Z : Zp) (Q : ZQ) : Prop := match a with
  | .tup ws => Q (.tup (cutW ws l h)) Z
  | .ro ws => ∀ r, Z r = none → Q (.ref r) (upz Z r (.lst (cutW ws l h)))
  | .ref p => (match wrl (Z p) with
    | some ws => ∀ r, Z r = none → Q (.ref r) (upz Z r (.lst (cutW ws l h)))
    | none => False)
  | _ => False
def wpRev (a : W) (Z : Zp) (Q : ZQ) : Prop := match a with
  | .ref p => (match wrl (Z p) with
    | some ws => ∀ r, Z r = none → Q (.ref r) (upz Z r (.lst ws.reverse))
    | _ => False)
  | _ => False
/-- the ints, the bools of a list -/
def intsW : List W → Option (List Int)
  | [] => some []
  | .int i :: ws => (intsW ws).map (i :: ·)
  | _ => none
def blsW : List W → Option (List Bool)
  | [] => some []
  | .bl i :: ws => (blsW ws).map (i :: ·)
  | _ => none
def tyName : W → Option String
  | .non => some "NoneType"
  | .bl _ => some "bool"
  | .int _ => some "int"
  | .str _ => some "str"
  | .tup _ => some "tuple"
  | .ro _ => some "list"
  | _ => none
def tyOf (Z : Zp) (w : W) : Option String := match w with
  | .ref p => (match Z p with
    | some (.lst _) => some "list"
    | _ => none)
  | w => tyName w
def seqOf (Z : Zp) : W → Option (List W)
  | .tup ws => some ws
  | .ro ws => some ws
  | .ref p => (match wrl (Z p) with
    | some ws => some ws
    | _ => none)
  | _ => none
def listOf (Z : Zp) : W → Option (List W)
  | .ro ws => some ws
  | .ref p => (match wrl (Z p) with
    | some ws => some ws
    | _ => none)
  | _ => none
def wpB (b : BF) (ws : List W) (Z : Zp) (Q : ZQ) : Prop := match b, ws with
  | .len, [.str x] => x.length ≤ sizeLine ∧ Q (.int x.length) Z
  | .len, [w] => (match seqOf Z w with
    | some xs => Q (.int xs.length) Z
    | none => False)
  | .int, [.int i] => Q (.int i) Z
  | .int, [.bl k] => Q (.int (if k = true then 1 else 0)) Z
  | .abs, [.int i] => Q (.int (if i < 0 then -i else i)) Z
  | .tuple, [w] => (match seqOf Z w with
    | some xs => Q (.tup xs) Z
    | none => False)
  | .list, [w] => (match seqOf Z w with
    | some xs => ∀ r, Z r = none → Q (.ref r) (upz Z r (.lst xs))
    | none => False)
  | .isi, [w, .ty n] => (match tyOf Z w with
    | some t => (match kitB t n with
      | some r => Q (.bl r) Z
      | none => False)
    | none => False)
  | .min, [.int i, .int j] => Q (.int (if j < i then j else i)) Z
  | .max, [.int i, .int j] => Q (.int (if j > i then j else i)) Z
  | .sum, [w] => (match (listOf Z w).bind intsW with
    | some ns => Q (.int ns.sum) Z
    | none => False)
  | .any, [w] => (match (listOf Z w).bind blsW with
    | some bs => Q (.bl (bs.any id)) Z
    | none => False)
  | .all, [w] => (match (listOf Z w).bind blsW with
    | some bs => Q (.bl (bs.all id)) Z
    | none => False)
  | _, _ => False
/-- the kinds of things that have methods -/
inductive MK where
  | lst | dct | str | ins (c : Nat) (fs : List (Nat × W))
def kndW (Z : Zp) : W → Option MK
  | .str _ => some .str
  | .ref p => (match Z p with
    | some (.lst _) => some .lst
    | some (.dct _ _) => some .dct
    | some (.ins c fs) => some (.ins c fs)
    | none => none)
  | _ => none
/-- methods of lists, by their names' codes: 0 append, 1 extend, 2 pop, 3 reverse, 4 clear -/
def wpML (m : Nat) (o : W) (as : List W) (Z : Zp) (Q : ZQ) : Prop := match o with
  | .ref p => (match wrl (Z p) with
    | some ws => (match m, as with
      | 0, [x] => ws.length < sizeLine ∧ Q .non (upz Z p (.lst (ws ++ [x])))
      | 1, [.ref b] => (match wrl (Z b) with
        | some ys => ws.length + ys.length ≤ sizeLine ∧ Q .non (upz Z p (.lst (ws ++ ys)))
        | none => False)
      | 2, [] => (match ws[ws.length - 1]? with
        | some x => Q x (upz Z p (.lst ws.dropLast))
        | none => False)
      | 2, [.int i] => (match seqIndex? i ws.length with
        | some k => -(2 ^ 63) ≤ i ∧ i < 2 ^ 63 ∧ (match ws[k]? with
          | some x => Q x (upz Z p (.lst (ws.eraseIdx k)))
          | none => False)
        | none => False)
      | 3, [] => Q .non (upz Z p (.lst ws.reverse))
      | 4, [] => Q .non (upz Z p (.lst []))
      | _, _ => False)
    | none => False)
  | _ => False

mutual
def MG.slots : MG → List Nat
  | .nm i => [i]
  | .tup ts => MG.slotsL ts
def MG.slotsL : List MG → List Nat
  | [] => []
  | t :: ts => MG.slots t ++ MG.slotsL ts
end
/-! ### what a for, a comprehension walks -/
def wpI (k : IK) (ws : List W) (Z : Zp) (R : List W → (Zp → Prop) → Prop) : Prop := match k, ws with
  | .val, [.ref p] => (match wrl (Z p) with
    | some xs => xs.length ≤ sizeLine → R xs (SeqZ p xs)
    | _ => False)
  | .val, [.ro xs] => xs.length ≤ sizeLine → R xs (fun _ => True)
  | .val, [.tup xs] => xs.length ≤ sizeLine → R xs (fun _ => True)
  | .val, [.str x] => R (x.cps.toList.map fun c => .str ⟨#[c]⟩) (fun _ => True)
  | .range1, [.int j] => -(2 ^ 62) ≤ j ∧ j < 2 ^ 62 ∧ R ((List.range j.toNat).map fun (i : Nat) => .int (0 + i)) (fun _ => True)
  | .range2, [.int i, .int j] => (-(2 ^ 62) ≤ i ∧ i < 2 ^ 62 ∧ -(2 ^ 62) ≤ j ∧ j < 2 ^ 62) ∧ R ((List.range (j - i).toNat).map fun (m : Nat) => .int (i + m)) (fun _ => True)
  | .enum, [.ref p] => (match wrl (Z p) with
    | some xs => xs.length ≤ sizeLine → R (xs.zipIdx.map fun (q : W × Nat) => .tup [.int q.2, q.1]) (SeqZ p xs)
    | _ => False)
  | .enum, [.ro xs] => xs.length ≤ sizeLine → R (xs.zipIdx.map fun (q : W × Nat) => .tup [.int q.2, q.1]) (fun _ => True)
  | .zip, [.ref p, .ref q] => (match seqOf Z (.ref p), seqOf Z (.ref q) with
    | some xs, some ys => xs.length ≤ sizeLine → ys.length ≤ sizeLine → R ((xs.zip ys).map fun (q : W × W) => .tup [q.1, q.2]) (fun Z' => SeqZ p xs Z' ∧ SeqZ q ys Z')
    | _, _ => False)
  | .zip, [.tup xs, .tup ys] => xs.length ≤ sizeLine → ys.length ≤ sizeLine → R ((xs.zip ys).map fun (q : W × W) => .tup [q.1, q.2]) (fun _ => True)
  | _, _ => False
mutual
def wpG : MG → W → ZSt → Zp → (ZSt → Zp → Prop) → Prop
  | .nm i, w, ς, Z, Q => Q (ς.set i (some w)) Z
  | .tup ts, w, ς, Z, Q => (match w with
    | .tup ws => ws.length = ts.length ∧ wpGs ts ws ς Z Q
    | _ => False)
def wpGs : List MG → List W → ZSt → Zp → (ZSt → Zp → Prop) → Prop
  | [], [], ς, Z, Q => Q ς Z
  | t :: ts, w :: ws, ς, Z, Q => wpG t w ς Z fun ς' Z' => wpGs ts ws ς' Z' Q
  | _, _, _, _, _ => False
end
def compL (step : W → Zp → (Option W → Zp → Prop) → Prop) (still : Zp → Prop) : List W → List W → Zp → (List W → Zp → Prop) → Prop
  | [], acc, Z, R => still Z ∧ R acc Z
  | x :: xs, acc, Z, R => still Z ∧ step x Z fun r Z' => ∃ Z'', Zle Z'' Z' ∧ compL step still xs (match r with
    | some w => acc ++ [w]
    | none => acc) Z'' R
def forL (step : W → ZSt → Zp → ZD → Prop) (still : Zp → Prop) (D : ZD) : List W → ZSt → Zp → Prop
  | [], ς, Z => still Z ∧ D.nx ς Z
  | x :: xs, ς, Z => still Z ∧ step x ς Z { nx := fun ς' Z' => ∃ Z'', Zle Z'' Z' ∧ forL step still D xs ς' Z'', rt := D.rt, bk := D.nx, ct := fun ς' Z' => ∃ Z'', Zle Z'' Z' ∧ forL step still D xs ς' Z'' }
def wipeZ (ς : ZSt) : List Nat → ZSt
  | [] => ς
  | v :: vs => (wipeZ ς vs).set v none

mutual
def wpE (C : Ctx) : ME → ZSt → Zp → ZQ → Prop
  | .var i, ς, Z, Q => (match ς[i]? with
    | some (some w) => Q w Z
    | _ => False)
  | .non, _, Z, Q => Q .non Z
  | .bl b, _, Z, Q => Q (.bl b) Z
  | .int i, _, Z, Q => Q (.int i) Z
  | .sc c, _, Z, Q => Q (.str (C.nm c)) Z
  | .gl c, _, Z, Q => (match C.con c with
    | some w => Q w Z
    | none => False)
  | .bty b, _, Z, Q => (match b with
    | .int => Q (.ty "int") Z
    | .tuple => Q (.ty "tuple") Z
    | .list => Q (.ty "list") Z
    | .bool => Q (.ty "bool") Z
    | .str => Q (.ty "str") Z
    | _ => False)
  | .bin op a b, ς, Z, Q => wpE C a ς Z fun x Z1 => wpE C b ς Z1 fun y Z2 => wpBin op x y Z2 Q
  | .neg a, ς, Z, Q => wpE C a ς Z fun x Z1 => (match x with
    | .int i => Q (.int (-i)) Z1
    | _ => False)
  | .cmp op a b, ς, Z, Q => wpE C a ς Z fun x Z1 => wpE C b ς Z1 fun y Z2 => wpCmp op x y Z2 Q
  | .cmp2 o1 o2 a b c, ς, Z, Q => wpE C a ς Z fun x Z1 => wpE C b ς Z1 fun y Z2 => wpCmp o1 x y Z2 fun r Z3 => (match r with
    | .bl true => wpE C c ς Z3 fun z Z4 => wpCmp o2 y z Z4 Q
    | .bl false => Q (.bl false) Z3
    | _ => False)
  | .and as, ς, Z, Q => wpAndV C as ς Z Q
  | .or as, ς, Z, Q => wpOrV C as ς Z Q
  | .not t, ς, Z, Q => wpE C t ς Z fun x Z1 => (match truW Z1 x with
    | some k => Q (.bl (!k)) Z1
    | none => False)
  | .ife t a b, ς, Z, Q => wpT C t ς Z fun k Z1 => if k = true then wpE C a ς Z1 Q else wpE C b ς Z1 Q
  | .tup as, ς, Z, Q => wpA C as ς Z fun ws Z1 => ws.length ≤ 1000 ∧ Q (.tup ws) Z1
  | .lst as, ς, Z, Q => wpA C as ς Z fun ws Z1 => ws.length ≤ 1000 ∧ ∀ r, Z1 r = none → Q (.ref r) (upz Z1 r (.lst ws))
  | .dct kvs, ς, Z, Q => wpA C kvs ς Z fun ws Z1 => (match pairUp ws with
    | some ps => ps.length ≤ 15 ∧ (ps.all fun p => (keyOf p.1).isSome) = true ∧ (ps.map keyD).Nodup ∧ ∀ r, Z1 r = none → Q (.ref r) (upz Z1 r (.dct ps.length ps))
    | none => False)
  | .ix a i, ς, Z, Q => wpE C a ς Z fun x Z1 => wpE C i ς Z1 fun y Z2 => wpIx x y Z2 Q
  | .sl a lo hi, ς, Z, Q => wpE C a ς Z fun x Z1 => wpA C lo ς Z1 fun l Z2 => (match partW l with
    | some l => wpA C hi ς Z2 fun h Z3 => (match partW h with
      | some h => wpSl x l h Z3 Q
      | none => False)
    | none => False)
  | .rev a, ς, Z, Q => wpE C a ς Z fun x Z1 => wpRev x Z1 Q
  | .call f as, ς, Z, Q => (match C.fn f with
    | some sp => wpA C as ς Z fun ws Z1 => sp C.room ws Z1 Q fun c fs Z2 => C.E c fs ς Z2
    | none => False)
  | .blt b as, ς, Z, Q => wpA C as ς Z fun ws Z1 => wpB b ws Z1 Q
  | .mth m o as, ς, Z, Q => wpE C o ς Z fun x Z1 => (match kndW Z1 x with
    | some .lst => if m < 5 then wpA C as ς Z1 fun ws Z2 => wpML m x ws Z2 Q else False
    | some .dct => if m = 7 ∨ m = 8 then wpA C as ς Z1 fun ws Z2 => wpMD m x ws Z2 Q else False
    | some (.ins c fs) => (match C.mth c m with
      | some sp => (fs.all fun p => p.1 != m) = true ∧ wpA C as ς Z1 fun ws Z2 => sp C.room (x :: ws) Z2 Q fun c fs Z3 => C.E c fs ς Z3
      | none => False)
    | _ => False)
  | .fld _ _, _, _, _ => False
  | .new _ _, _, _, _ => False
  | .comp elt tg k it ts own, ς, Z, Q => wpA C it ς Z fun ws Z1 => wpI k ws Z1 fun items still => items.length ≤ sizeLine ∧
      compL (fun x Z2 R => wpG tg x (wipeZ ς own) Z2 fun ς' Z3 => wpTs (C.calm) ts ς' Z3 fun b Z4 => if b = true then wpE (C.calm) elt ς' Z4 fun w Z5 => R (some w) Z5 else R none Z4) still items [] Z1
        fun acc Z2 => ∀ r, Z2 r = none → Q (.ref r) (upz Z2 r (.lst acc))
  | .tv _, _, _, _ => False
  | .tand _, _, _, _ => False
  | .tor _, _, _, _ => False
  | .tnot _, _, _, _ => False
def wpA (C : Ctx) : List ME → ZSt → Zp → (List W → Zp → Prop) → Prop
  | [], _, Z, Q => Q [] Z
  | a :: as, ς, Z, Q => wpE C a ς Z fun x Z1 => wpA C as ς Z1 fun xs Z2 => Q (x :: xs) Z2
def wpT (C : Ctx) : ME → ZSt → Zp → (Bool → Zp → Prop) → Prop
  | .tv a, ς, Z, Q => wpE C a ς Z fun x Z1 => (match truW Z1 x with
    | some k => Q k Z1
    | none => False)
  | .tand as, ς, Z, Q => wpAndT C as ς Z Q
  | .tor as, ς, Z, Q => wpOrT C as ς Z Q
  | .tnot a, ς, Z, Q => wpT C a ς Z fun k Z1 => Q (!k) Z1
  | _, _, _, _ => False
def wpAndV (C : Ctx) : List ME → ZSt → Zp → ZQ → Prop
  | [], _, _, _ => False
  | a :: as, ς, Z, Q => wpE C a ς Z fun x Z1 => (match as with
    | [] => Q x Z1
    | _ :: _ => (match truW Z1 x with
      | some true => wpAndV C as ς Z1 Q
      | some false => Q x Z1
      | none => False))
def wpOrV (C : Ctx) : List ME → ZSt → Zp → ZQ → Prop
  | [], _, _, _ => False
  | a :: as, ς, Z, Q => wpE C a ς Z fun x Z1 => (match as with
    | [] => Q x Z1
    | _ :: _ => (match truW Z1 x with
      | some true => Q x Z1
      | some false => wpOrV C as ς Z1 Q
      | none => False))
def wpAndT (C : Ctx) : List ME → ZSt → Zp → (Bool → Zp → Prop) → Prop
  | [], _, _, _ => False
  | a :: as, ς, Z, Q => wpT C a ς Z fun k Z1 => (match as with
    | [] => Q k Z1
    | _ :: _ => if k = true then wpAndT C as ς Z1 Q else Q false Z1)
def wpOrT (C : Ctx) : List ME → ZSt → Zp → (Bool → Zp → Prop) → Prop
  | [], _, _, _ => False
  | a :: as, ς, Z, Q => wpT C a ς Z fun k Z1 => (match as with
    | [] => Q k Z1
    | _ :: _ => if k = true then Q true Z1 else wpOrT C as ς Z1 Q)
def wpTs (C : Ctx) : List ME → ZSt → Zp → (Bool → Zp → Prop) → Prop
  | [], _, Z, Q => Q true Z
  | [t], ς, Z, Q => wpT C t ς Z Q
  | _ :: _ :: _, _, _, _ => False
end
end ZL

/-! The Z layer, 3: operators, subscripts, built-in functions and methods, from L2's rules. -/
namespace ZL
open PySem PySem.Spec PyProof.Rows L2

/-- what is wanted of a value at the level of Z, and of L2 -/
def Pst (T : Nms) (K : PySem.W.Frag) (F : List (Addr × HO)) (H : Hp) (Qz : ZQ) (Q : VK) : Prop :=
  ∀ H' v w Z', TupLe K H H' → Rep K H' w v → ZRel T K Z' H' → Fr F Z' H' → Qz w Z' → Q v H'
structure Now (T : Nms) (K : PySem.W.Frag) (F : List (Addr × HO)) (H : Hp) (Z : Zp) : Prop where
  z : ZRel T K Z H
  f : Fr F Z H
section
variable {T : Nms} {K : PySem.W.Frag} {F : List (Addr × HO)} {H : Hp} {Z : Zp} {Qz : ZQ} {Q : VK}
theorem Pst.here (p : Pst T K F H Qz Q) (n : Now T K F H Z) {w : W} {v : V} (r : Rep K H w v) (q : Qz w Z) : Q v H := p _ _ _ _ .refl r n.z n.f q
theorem Pst.tup (p : Pst T K F H Qz Q) (n : Now T K F H Z) {ws : List W} {vs : List V} {a : Addr} (h : H a = none) (r : Reps K H ws vs) (q : Qz (.tup ws) Z) : Q (.ref a) (upd H a (.tup vs)) :=
  p _ _ _ _ (.new h) (.tup (.inl (.inl upd_same)) (r.mono (.new h))) (n.z.hid h) (n.f.hid h) q
theorem Pst.lst (p : Pst T K F H Qz Q) (n : Now T K F H Z) {ws : List W} {vs : List V} {a : Addr} (h : H a = none) (r : Reps K H ws vs) (q : ∀ r, Z r = none → Qz (.ref r) (upz Z r (.lst ws))) : Q (.ref a) (upd H a (.lst vs)) :=
  p _ _ _ _ (.new h) (.ref _) (n.z.new (z := .lst ws) h ⟨vs, upd_same, r.mono (.new h)⟩) (n.f.new h) (q a (n.z.fresh h))
/-- a list that stands in Z is changed -/
theorem Pst.put (p : Pst T K F H Qz Q) (n : Now T K F H Z) {ws ws' : List W} {vs vs' : List V} {a : Addr} {w : W} {v : V} (hz : Z a = some (.lst ws)) (h : H a = some (.lst vs)) (r : Reps K H ws' vs') (rv : Rep K H w v) (q : Qz w (upz Z a (.lst ws'))) :
    Q v (upd H a (.lst vs')) :=
  have t : TupLe K H (upd H a (.lst vs')) := .put h rfl
  p _ _ _ _ t (rv.mono t) (n.z.put (z := .lst ws') h rfl ⟨vs', upd_same, r.mono t⟩) (n.f.put hz) q
theorem Now.lst (n : Now T K F H Z) {a : Addr} {ws : List W} (h : Z a = some (.lst ws)) : ∃ vs, H a = some (.lst vs) ∧ Reps K H ws vs := n.z a _ h
theorem Now.seq (n : Now T K F H Z) {a : Addr} {ws : List W} (h : Z a = some (.lst ws)) : ∃ vs, SqL K H a vs ∧ Rd H a (.lst vs) ∧ Reps K H ws vs := by
  obtain ⟨vs, e, r⟩ := n.z a _ h
  exact ⟨vs, .inl (.inl e), .inl e, r⟩
end
section
variable {T : Nms} {K : PySem.W.Frag} {F : List (Addr × HO)} {H : Hp} {Z : Zp}
mutual
theorem Dat.dp (n : Now T K F H Z) : ∀ {w : W} {d : PyData} {v : V}, Dat Z w d → Rep K H w v → Dp K H v d
  | _, _, _, .non, .non => .non
  | _, _, _, .bl b, .bl _ => .bl b
  | _, _, _, .int i, .int _ => .int i
  | _, _, _, .str x, .str _ => .str x
  | _, _, _, .tup h, .tup q r => .tup q (Dats.dp n h r)
  | _, _, _, .ro h, .ro q r => .lst q.sq (Dats.dp n h r)
  | _, _, _, .lst h ds, r => by
    cases r
    obtain ⟨vs, q, _, r⟩ := n.seq h
    exact .lst q (Dats.dp n ds r)
theorem Dats.dp (n : Now T K F H Z) : ∀ {ws : List W} {ds : List PyData} {vs : List V}, Dats Z ws ds → Reps K H ws vs → DpAll K H vs ds
  | _, _, _, .nil, .nil => .nil
  | _, _, _, .cons h t, .cons r q => .cons (Dat.dp n h r) (Dats.dp n t q)
end
end

/-! ### operators -/
section
variable {X : Cx} {T : Nms} {F : List (Addr × HO)}
/-- an operator's rule reads what Z says -/
def R2Z (T : Nms) (K : PySem.W.Frag) (F : List (Addr × HO)) (wp : W → W → Zp → ZQ → Prop) (r : R2) : Prop :=
  ∀ {H : Hp} {Z : Zp} {w1 w2 : W} {x y : V} {Qz : ZQ} {Q : VK}, Now T K F H Z → Rep K H w1 x → Rep K H w2 y → wp w1 w2 Z Qz → Pst T K F H Qz Q → r x y H Q
def blV (c : Bool) : V → Bool
  | .bl b => decide (b = c)
  | _ => false
theorem RelV.bool_iff {x : V} {v : Value} (r : RelV x v) (c : Bool) : (v == Value.bool c) = blV c x := by
  cases x with
  | non => cases r; rfl
  | bl b => cases r; cases b <;> cases c <;> rfl
  | int _ => obtain ⟨t, rfl⟩ := r; rfl
  | str _ => obtain ⟨t, rfl⟩ := r; rfl
  | byt _ => obtain ⟨t, rfl⟩ := r; rfl
  | flt _ => obtain ⟨t, rfl⟩ := r; rfl
  | ref _ => cases r; rfl
  | ty _ => cases r; rfl
theorem op_isB : OpR X (compareOp .Is) (fun x y H Q => ∃ c, y = .bl c ∧ Q (.bl (blV c x)) H) := by
  intro pins s σ H x y v u Q I rx ry h
  obtain ⟨c, rfl, q⟩ := h
  cases ry
  have fin : EP X pins σ Q (.bool (v == .bool c)) s := fin_bl I q (RelV.bool_iff rx c).symm
  cases x with
  | int _ => obtain ⟨t, rfl⟩ := rx; exact wpAny_pure fin
  | str _ => obtain ⟨t, rfl⟩ := rx; exact wpAny_pure fin
  | byt _ => obtain ⟨t, rfl⟩ := rx; exact wpAny_pure fin
  | flt _ => obtain ⟨t, rfl⟩ := rx; exact wpAny_pure fin
  | _ => cases rx; exact wpAny_pure fin
theorem op_isnotB : OpR X (compareOp .IsNot) (fun x y H Q => ∃ c, y = .bl c ∧ Q (.bl (!blV c x)) H) := by
  intro pins s σ H x y v u Q I rx ry h
  obtain ⟨c, rfl, q⟩ := h
  cases ry
  have fin : EP X pins σ Q (.bool (!(v == .bool c))) s := fin_bl I q (by rw [RelV.bool_iff rx c])
  cases x with
  | int _ => obtain ⟨t, rfl⟩ := rx; exact wpAny_pure fin
  | str _ => obtain ⟨t, rfl⟩ := rx; exact wpAny_pure fin
  | byt _ => obtain ⟨t, rfl⟩ := rx; exact wpAny_pure fin
  | flt _ => obtain ⟨t, rfl⟩ := rx; exact wpAny_pure fin
  | _ => cases rx; exact wpAny_pure fin
theorem op_mulK : OpR X (binaryOp .Mult) (rI IntMulOk fun i j => .int (i * j)) := opI fun _ _ _ _ _ _ _ hc q => mul_int q hc
def rAddZ (K : PySem.W.Frag) : R2 := fun x y H Q => rI0 (fun i j => .int (i + j)) x y H Q ∨ (∃ i j, x = .str i ∧ y = .str j ∧ i.length + j.length ≤ sizeLine ∧ Q (.str (i ++ j)) H) ∨ rCatA K x y H Q ∨ rCat x y H Q
theorem op_addZ : OpR X (binaryOp .Add) (rAddZ X.K) := op_add.or (op_add_str.or (op_catA.or op_cat))
def rMulZ (K : PySem.W.Frag) : R2 := fun x y H Q => rI IntMulOk (fun i j => .int (i * j)) x y H Q ∨ rRepT K x y H Q ∨ rRep x y H Q
theorem op_mulZ : OpR X (binaryOp .Mult) (rMulZ X.K) := op_mulK.or (op_repT.or op_rep)
theorem reps_flat {K : PySem.W.Frag} {H : Hp} {ws : List W} {vs : List V} (r : Reps K H ws vs) : ∀ k : Nat, Reps K H (List.replicate k ws).flatten (List.replicate k vs).flatten
  | 0 => .nil
  | k + 1 => by rw [List.replicate_succ, List.replicate_succ, List.flatten_cons, List.flatten_cons]; exact r.append (reps_flat r k)
theorem Reps.ne {K : PySem.W.Frag} {H : Hp} {ws : List W} {vs : List V} (r : Reps K H ws vs) (h : ws ≠ []) : vs ≠ [] := fun e => by subst e; cases r; exact h rfl
theorem Reps.nil_iff {K : PySem.W.Frag} {H : Hp} {ws : List W} {vs : List V} (r : Reps K H ws vs) : ws = [] ↔ vs = [] := by cases r <;> simp

theorem z_add {K : PySem.W.Frag} : R2Z T K F (wpBin .Add) (rAddZ K) := by
  intro H Z w1 w2 x y Qz Q n r1 r2 h p
  cases r1 with
  | int i =>
    cases r2 with
    | int j => exact .inl ⟨i, j, rfl, rfl, p.here n (.int _) h⟩
    | _ => exact h.elim
  | str a =>
    cases r2 with
    | str b => exact .inr (.inl ⟨a, b, rfl, rfl, h.1, p.here n (.str _) h.2⟩)
    | _ => exact h.elim
  | tup h1 q1 =>
    cases r2 with
    | tup h2 q2 =>
      refine .inr (.inr (.inl ⟨_, _, _, _, rfl, rfl, h1, h2, by rw [← q1.length, ← q2.length]; exact h.1, fun e => ?_, fun e e2 => ?_, fun e e2 r hr => p.tup n hr (q1.append q2) h.2⟩))
      · have := q1.nil_iff.mpr e
        subst this
        exact p.here n (.tup h2 q2) h.2
      · have := q2.nil_iff.mpr e2
        subst this
        have h3 := h.2
        rw [List.append_nil] at h3
        exact p.here n (.tup h1 q1) h3
    | _ => exact h.elim
  | ref a =>
    cases r2 with
    | ref b =>
      cases e1 : wrl (Z a) with
      | none => simp only [wpBin, e1] at h
      | some xs =>
      cases e2 : wrl (Z b) with
      | none => simp only [wpBin, e1, e2] at h
      | some ys =>
        simp only [wpBin, e1, e2] at h
        obtain ⟨vs, g1, q1⟩ := n.lst (wrl_inv e1)
        obtain ⟨us, g2, q2⟩ := n.lst (wrl_inv e2)
        exact .inr (.inr (.inr ⟨a, b, vs, us, rfl, rfl, g1, g2, by rw [← q1.length, ← q2.length]; exact h.1, fun r hr => p.lst n hr (q1.append q2) h.2⟩))
    | _ => exact h.elim
  | _ => cases r2 <;> exact h.elim
theorem z_sub {K : PySem.W.Frag} : R2Z T K F (wpBin .Sub) (rI0 fun i j => .int (i - j)) := by
  intro H Z w1 w2 x y Qz Q n r1 r2 h p
  cases r1 <;> cases r2 <;> first | exact h.elim | exact ⟨_, _, rfl, rfl, p.here n (.int _) h⟩
theorem z_mul {K : PySem.W.Frag} : R2Z T K F (wpBin .Mult) (rMulZ K) := by
  intro H Z w1 w2 x y Qz Q n r1 r2 h p
  cases r2 with
  | int j =>
    cases r1 with
    | int i => exact .inl ⟨i, j, rfl, rfl, h.1, p.here n (.int _) h.2⟩
    | tup h1 q1 => exact .inr (.inl ⟨_, j, _, rfl, rfl, h1, q1.ne h.1, h.2.2.1, h.2.2.2.1, by rw [← q1.length]; exact h.2.1, fun r hr => p.tup n hr (reps_flat q1 _) h.2.2.2.2⟩)
    | ref a =>
      cases e1 : wrl (Z a) with
      | none => simp only [wpBin, e1] at h
      | some xs =>
        simp only [wpBin, e1] at h
        obtain ⟨vs, g1, q1⟩ := n.lst (wrl_inv e1)
        exact .inr (.inr ⟨a, j, vs, rfl, rfl, g1, h.1, h.2.1, by rw [← q1.length]; exact h.2.2.1, fun r hr => p.lst n hr (reps_flat q1 _) h.2.2.2⟩)
    | _ => exact h.elim
  | _ => cases r1 <;> exact h.elim
theorem z_fdiv {K : PySem.W.Frag} : R2Z T K F (wpBin .FloorDiv) (rI CDivW fun i j => .int (i / j)) := by
  intro H Z w1 w2 x y Qz Q n r1 r2 h p
  cases r1 <;> cases r2 <;> first | exact h.elim | exact ⟨_, _, rfl, rfl, h.1, p.here n (.int _) h.2⟩
theorem z_mod {K : PySem.W.Frag} : R2Z T K F (wpBin .Mod) (rI (fun _ j => 0 < j) fun i j => .int (i % j)) := by
  intro H Z w1 w2 x y Qz Q n r1 r2 h p
  cases r1 <;> cases r2 <;> first | exact h.elim | exact ⟨_, _, rfl, rfl, h.1, p.here n (.int _) h.2⟩
theorem z_pow {K : PySem.W.Frag} : R2Z T K F (wpBin .Pow) (rI CPow fun i j => .int (i ^ j.toNat)) := by
  intro H Z w1 w2 x y Qz Q n r1 r2 h p
  cases r1 <;> cases r2 <;> first | exact h.elim | exact ⟨_, _, rfl, rfl, h.1, p.here n (.int _) h.2⟩

/-! ### comparisons -/
theorem bxor_ft (b : Bool) : (false != b) = b := by cases b <;> rfl
theorem bxor_tt (b : Bool) : (true != b) = !b := by cases b <;> rfl
def rEqZ (K : PySem.W.Frag) : R2 := fun x y H Q => rEq x y H Q ∨ rEqD K x y H Q
def rNeZ (K : PySem.W.Frag) : R2 := fun x y H Q => rNe x y H Q ∨ rNeD K x y H Q
theorem z_eq {K : PySem.W.Frag} : R2Z T K F (wpCmp .Eq) (rEqZ K) := by
  intro H Z w1 w2 x y Qz Q n r1 r2 h p
  have h : wpEq false w1 w2 Z Qz := by cases w1 <;> exact h
  unfold wpEq at h
  split at h
  · cases r1; cases r2; exact .inl ⟨rfl, p.here n (.bl _) (by rw [dec_int, Bool.beq_eq_decide_eq]; rw [bxor_ft] at h; exact h)⟩
  · cases r1; cases r2; exact .inl ⟨rfl, p.here n (.bl _) (by rw [dec_str, Bool.beq_eq_decide_eq]; rw [bxor_ft] at h; exact h)⟩
  · cases r1; cases r2; exact .inl ⟨rfl, p.here n (.bl _) (by rw [dec_bl, Bool.beq_eq_decide_eq]; rw [bxor_ft] at h; exact h)⟩
  · cases r1; cases r2; exact .inl ⟨rfl, p.here n (.bl _) (by rw [bxor_ft] at h; simpa using h)⟩
  · obtain ⟨d, e, h1, h2, h3, h4, h5⟩ := h
    exact .inr ⟨d, e, h1.dp n r1, h2.dp n r2, h3, h4, p.here n (.bl _) (by rw [bxor_ft] at h5; exact h5)⟩
theorem z_ne {K : PySem.W.Frag} : R2Z T K F (wpCmp .NotEq) (rNeZ K) := by
  intro H Z w1 w2 x y Qz Q n r1 r2 h p
  have h : wpEq true w1 w2 Z Qz := by cases w1 <;> exact h
  unfold wpEq at h
  split at h
  · cases r1; cases r2; exact .inl ⟨rfl, p.here n (.bl _) (by rw [dec_int, Bool.beq_eq_decide_eq]; rw [bxor_tt] at h; exact h)⟩
  · cases r1; cases r2; exact .inl ⟨rfl, p.here n (.bl _) (by rw [dec_str, Bool.beq_eq_decide_eq]; rw [bxor_tt] at h; exact h)⟩
  · cases r1; cases r2; exact .inl ⟨rfl, p.here n (.bl _) (by rw [dec_bl, Bool.beq_eq_decide_eq]; rw [bxor_tt] at h; exact h)⟩
  · cases r1; cases r2; exact .inl ⟨rfl, p.here n (.bl _) (by rw [bxor_tt] at h; simpa using h)⟩
  · obtain ⟨d, e, h1, h2, h3, h4, h5⟩ := h
    exact .inr ⟨d, e, h1.dp n r1, h2.dp n r2, h3, h4, p.here n (.bl _) (by rw [bxor_tt] at h5; exact h5)⟩
theorem z_lt {K : PySem.W.Frag} : R2Z T K F (wpCmp .Lt) (rI0 fun i j => .bl (decide (i < j))) := by
  intro H Z w1 w2 x y Qz Q n r1 r2 h p
  cases r1 <;> cases r2 <;> first | exact h.elim | exact ⟨_, _, rfl, rfl, p.here n (.bl _) h⟩
theorem z_le {K : PySem.W.Frag} : R2Z T K F (wpCmp .LtE) (rI0 fun i j => .bl (decide (i ≤ j))) := by
  intro H Z w1 w2 x y Qz Q n r1 r2 h p
  cases r1 <;> cases r2 <;> first | exact h.elim | exact ⟨_, _, rfl, rfl, p.here n (.bl _) h⟩
theorem z_gt {K : PySem.W.Frag} : R2Z T K F (wpCmp .Gt) (rI0 fun i j => .bl (decide (j < i))) := by
  intro H Z w1 w2 x y Qz Q n r1 r2 h p
  cases r1 <;> cases r2 <;> first | exact h.elim | exact ⟨_, _, rfl, rfl, p.here n (.bl _) h⟩
theorem z_ge {K : PySem.W.Frag} : R2Z T K F (wpCmp .GtE) (rI0 fun i j => .bl (decide (j ≤ i))) := by
  intro H Z w1 w2 x y Qz Q n r1 r2 h p
  cases r1 <;> cases r2 <;> first | exact h.elim | exact ⟨_, _, rfl, rfl, p.here n (.bl _) h⟩
def rIsZ : R2 := fun x y H Q => (y = .non ∧ Q (.bl (decide (x = .non))) H) ∨ ∃ c, y = .bl c ∧ Q (.bl (blV c x)) H
def rIsNotZ : R2 := fun x y H Q => (y = .non ∧ Q (.bl (!decide (x = .non))) H) ∨ ∃ c, y = .bl c ∧ Q (.bl (!blV c x)) H
theorem op_isZ : OpR X (compareOp .Is) rIsZ := op_isN.or op_isB
theorem op_isNotZ : OpR X (compareOp .IsNot) rIsNotZ := op_notN.or op_isnotB
theorem isNon_rep {K : PySem.W.Frag} {H : Hp} {w : W} {v : V} (r : Rep K H w v) : decide (v = .non) = isNonW w := by cases r <;> rfl
theorem isBl_rep {K : PySem.W.Frag} {H : Hp} {w : W} {v : V} (r : Rep K H w v) (c : Bool) : blV c v = isBlW c w := by cases r <;> rfl
theorem z_is {K : PySem.W.Frag} : R2Z T K F (wpCmp .Is) rIsZ := by
  intro H Z w1 w2 x y Qz Q n r1 r2 h p
  have h : wpIs false w1 w2 Z Qz := by cases w1 <;> exact h
  cases r2 <;> first
    | exact .inl ⟨rfl, p.here n (.bl _) (by rw [isNon_rep r1]; rw [show isNonW w1 = (false != isNonW w1) from (bxor_ft _).symm]; exact h)⟩
    | exact .inr ⟨_, rfl, p.here n (.bl _) (by rw [isBl_rep r1, ← bxor_ft (isBlW _ w1)]; exact h)⟩
    | exact h.elim
theorem z_isnot {K : PySem.W.Frag} : R2Z T K F (wpCmp .IsNot) rIsNotZ := by
  intro H Z w1 w2 x y Qz Q n r1 r2 h p
  have h : wpIs true w1 w2 Z Qz := by cases w1 <;> exact h
  cases r2 <;> first
    | exact .inl ⟨rfl, p.here n (.bl _) (by rw [isNon_rep r1, ← bxor_tt]; exact h)⟩
    | exact .inr ⟨_, rfl, p.here n (.bl _) (by rw [isBl_rep r1, ← bxor_tt]; exact h)⟩
    | exact h.elim
theorem flat_rep {K : PySem.W.Frag} {H : Hp} {w : W} {v : V} (r : Rep K H w v) (h : flatW w = true) : flatV v = true := by cases r <;> first | rfl | cases h
theorem flats_rep {K : PySem.W.Frag} {H : Hp} : ∀ {ws : List W} {vs : List V}, Reps K H ws vs → ws.all flatW = true → vs.all flatV = true
  | _, _, .nil, _ => rfl
  | _, _, .cons r t, h => by
    rw [List.all_cons, Bool.and_eq_true] at h ⊢
    exact ⟨flat_rep r h.1, flats_rep t h.2⟩
theorem eqF_rep {K : PySem.W.Frag} {H : Hp} {w w' : W} {v v' : V} (r : Rep K H w v) (r' : Rep K H w' v') (h : flatW w = true) (h' : flatW w' = true) : eqV v v' = eqF w w' := by
  cases r <;> cases r' <;> first | rfl | cases h | cases h' | (simp [eqV, eqF])
theorem any_rep {K : PySem.W.Frag} {H : Hp} {w : W} {v : V} (r : Rep K H w v) (h : flatW w = true) : ∀ {ws : List W} {vs : List V}, Reps K H ws vs → ws.all flatW = true → inV v vs = ws.any fun u => eqF u w
  | _, _, .nil, _ => rfl
  | _, _, .cons q t, g => by
    rw [List.all_cons, Bool.and_eq_true] at g
    have ih := any_rep r h t g.2
    unfold inV at ih ⊢
    rw [List.any_cons, List.any_cons, ih, eqF_rep q r g.1 h]
def rInZ (K : PySem.W.Frag) : R2 := fun x y H Q => rIn K false x y H Q ∨ ∃ i j, x = .str i ∧ y = .str j ∧ Q (.bl (!(Builtin.Str.occurrences j i 0 j.length 1).isEmpty)) H
def rNotInZ (K : PySem.W.Frag) : R2 := fun x y H Q => rIn K true x y H Q ∨ ∃ i j, x = .str i ∧ y = .str j ∧ Q (.bl (!(!(Builtin.Str.occurrences j i 0 j.length 1).isEmpty))) H
def rInZ2 (K : PySem.W.Frag) (w : World) : R2 := fun x y H Q => rInN K w false x y H Q ∨ rInZ K x y H Q
def rNotInZ2 (K : PySem.W.Frag) (w : World) : R2 := fun x y H Q => rInN K w true x y H Q ∨ rNotInZ K x y H Q
/-- what a dict op sees -/
theorem dsee {K : PySem.W.Frag} {H : Hp} {Z : Zp} (n : Now T K F H Z) {a : Addr} {w : W} {y : V} {ep : Nat} {kvs : List (W × W)} {k : NestedKey} (hz : Z a = some (.dct ep kvs)) (r : Rep K H w y) (hk : keyOf w = some k) {Q : Addr → Array DictEntry → Nat → List NestedKey → NestedKey → Prop}
    (h : ∀ es, DOf K T.w H a es ep (kvs.map keyD) → Paired (EntZ T K H) kvs es.toList → Q a es ep (kvs.map keyD) k) : DSee K T.w (.ref a) y H Q := by
  obtain ⟨es, D, pr⟩ := n.z.dct hz
  exact ⟨a, es, ep, _, k, rfl, D, r.key (keyOf_inv hk).1, (keyOf_inv hk).2, h es D pr⟩
theorem z_inD {K : PySem.W.Frag} {neg : Bool} {H : Hp} {Z : Zp} {a : Addr} {w : W} {y : V} {Qz : ZQ} {Q : VK} (n : Now T K F H Z) (r : Rep K H w y) (h : wpInD neg (Z a) w Z Qz) (p : Pst T K F H Qz Q) : rInN K T.w neg y (.ref a) H Q := by
  unfold wpInD at h
  split at h
  · rename_i ep kvs k hz hk
    exact dsee n hz r hk fun es D pr => p.here n (.bl _) h
  · exact h.elim
theorem op_inZ : OpR X (compareOp .In) (rInZ X.K) := op_in_seq.or op_in_str
theorem op_notInZ : OpR X (compareOp .NotIn) (rNotInZ X.K) := op_notIn_seq.or op_notin_str
theorem z_in {K : PySem.W.Frag} : R2Z T K F (wpCmp .In) (rInZ2 K T.w) := by
  intro H Z w1 w2 x y Qz Q n r1 r2 h p
  have h : wpIn false w1 w2 Z Qz := by cases w1 <;> exact h
  cases r2 with
  | ro h2 q2 => exact .inr (.inl ⟨_, _, rfl, .inl h2.sq, flat_rep r1 h.1, flats_rep q2 h.2.1, p.here n (.bl _) (by
      show Qz (.bl (inV _ _)) Z
      rw [any_rep r1 h.1 q2 h.2.1]; have := h.2.2; rw [bxor_ft] at this; exact this)⟩)
  | tup h2 q2 => exact .inr (.inl ⟨_, _, rfl, .inr h2, flat_rep r1 h.1, flats_rep q2 h.2.1, p.here n (.bl _) (by
      show Qz (.bl (inV _ _)) Z
      rw [any_rep r1 h.1 q2 h.2.1]; have := h.2.2; rw [bxor_ft] at this; exact this)⟩)
  | ref a =>
    cases e : wrl (Z a) with
    | none =>
      simp only [wpIn, e] at h
      exact .inl (z_inD n r1 h p)
    | some ws =>
      simp only [wpIn, e] at h
      obtain ⟨vs, g, _, q2⟩ := n.seq (wrl_inv e)
      exact .inr (.inl ⟨_, _, rfl, .inl g, flat_rep r1 h.1, flats_rep q2 h.2.1, p.here n (.bl _) (by
        show Qz (.bl (inV _ _)) Z
        rw [any_rep r1 h.1 q2 h.2.1]; have := h.2.2; rw [bxor_ft] at this; exact this)⟩)
  | str z =>
    cases r1 with
    | str a => exact .inr (.inr ⟨_, _, rfl, rfl, p.here n (.bl _) (by have h : Qz (.bl (false != !(Builtin.Str.occurrences z a 0 z.length 1).isEmpty)) Z := h; rw [bxor_ft] at h; exact h)⟩)
    | _ => exact h.elim
  | _ => exact h.elim
theorem z_notin {K : PySem.W.Frag} : R2Z T K F (wpCmp .NotIn) (rNotInZ2 K T.w) := by
  intro H Z w1 w2 x y Qz Q n r1 r2 h p
  have h : wpIn true w1 w2 Z Qz := by cases w1 <;> exact h
  cases r2 with
  | ro h2 q2 => exact .inr (.inl ⟨_, _, rfl, .inl h2.sq, flat_rep r1 h.1, flats_rep q2 h.2.1, p.here n (.bl _) (by
      show Qz (.bl (!inV _ _)) Z
      rw [any_rep r1 h.1 q2 h.2.1]; have := h.2.2; rw [bxor_tt] at this; exact this)⟩)
  | tup h2 q2 => exact .inr (.inl ⟨_, _, rfl, .inr h2, flat_rep r1 h.1, flats_rep q2 h.2.1, p.here n (.bl _) (by
      show Qz (.bl (!inV _ _)) Z
      rw [any_rep r1 h.1 q2 h.2.1]; have := h.2.2; rw [bxor_tt] at this; exact this)⟩)
  | ref a =>
    cases e : wrl (Z a) with
    | none =>
      simp only [wpIn, e] at h
      exact .inl (z_inD n r1 h p)
    | some ws =>
      simp only [wpIn, e] at h
      obtain ⟨vs, g, _, q2⟩ := n.seq (wrl_inv e)
      exact .inr (.inl ⟨_, _, rfl, .inl g, flat_rep r1 h.1, flats_rep q2 h.2.1, p.here n (.bl _) (by
        show Qz (.bl (!inV _ _)) Z
        rw [any_rep r1 h.1 q2 h.2.1]; have := h.2.2; rw [bxor_tt] at this; exact this)⟩)
  | str z =>
    cases r1 with
    | str a => exact .inr (.inr ⟨_, _, rfl, rfl, p.here n (.bl _) (by have h : Qz (.bl (true != !(Builtin.Str.occurrences z a 0 z.length 1).isEmpty)) Z := h; rw [bxor_tt] at h; exact h)⟩)
    | _ => exact h.elim
  | _ => exact h.elim
end
end ZL

/-! The Z layer, 4: subscripts, slices, built-in functions. -/
namespace ZL
open PySem PySem.Spec PyProof.Rows L2
section
variable {X : Cx} {T : Nms} {F : List (Addr × HO)} {K : PySem.W.Frag}
theorem atI_rep {H : Hp} {ws : List W} {vs : List V} {i : Int} {w : W} (r : Reps K H ws vs) (h : atI ws i = some w) : ∃ v, atI vs i = some v ∧ Rep K H w v := by
  unfold atI at h ⊢
  rw [← r.length]
  cases e : ixN ws.length i with
  | none => rw [e] at h; cases h
  | some j =>
    rw [e] at h
    obtain ⟨v, h1, h2⟩ := r.getW h
    exact ⟨v, h1, h2⟩
/-- what stands behind a key, below -/
theorem dget_some {H : Hp} {kvs : List (W × W)} {es : Array DictEntry} {k : NestedKey} {w : W} (pr : Paired (EntZ T K H) kvs es.toList) (h : dget kvs k = some w) : ∃ u v, gotN es (kvs.map keyD) k = some u ∧ RelV v u ∧ Rep K H w v := by
  unfold dget dfind at h
  unfold gotN
  cases e : findN (kvs.map keyD) k with
  | none => rw [e] at h; cases h
  | some j =>
    rw [e] at h
    have h : (kvs[j]?).map (·.2) = some w := h
    cases e2 : kvs[j]? with
    | none => rw [e2] at h; cases h
    | some p =>
      rw [e2] at h
      cases h
      obtain ⟨b, h1, k', v, u, _, _, _, _, h5, h6⟩ := Paired.atL pr e2
      rw [Array.getElem?_toList] at h1
      exact ⟨b.val, u, by show Option.map _ _ = _; rw [h1]; rfl, h5, h6⟩
theorem dget_none {H : Hp} {kvs : List (W × W)} {es : Array DictEntry} {k : NestedKey} (pr : Paired (EntZ T K H) kvs es.toList) (h : dget kvs k = none) : gotN es (kvs.map keyD) k = none ∧ findN (kvs.map keyD) k = none := by
  unfold dget dfind at h
  unfold gotN
  cases e : findN (kvs.map keyD) k with
  | none => exact ⟨rfl, rfl⟩
  | some j =>
    rw [e] at h
    have h : (kvs[j]?).map (·.2) = none := h
    obtain ⟨q, _⟩ := List.findIdx?_eq_some_iff_getElem.mp e
    rw [List.length_map] at q
    rw [List.getElem?_eq_getElem q] at h
    cases h
def rIxZ (K : PySem.W.Frag) (w : World) : R2 := fun x y H Q => rIxN K w x y H Q ∨ rIx K x y H Q
theorem z_ixD {H : Hp} {Z : Zp} {a : Addr} {w : W} {y : V} {Qz : ZQ} {Q : VK} (n : Now T K F H Z) (r : Rep K H w y) (h : wpIxD (Z a) w Z Qz) (p : Pst T K F H Qz Q) : rIxN K T.w (.ref a) y H Q := by
  unfold wpIxD at h
  split at h
  · rename_i ep kvs k hz hk
    split at h
    · rename_i w' hg
      refine dsee n hz r hk fun es D pr => ?_
      obtain ⟨u, v, h1, h2, h3⟩ := dget_some pr hg
      exact ⟨u, v, h1, h2, p.here n h3 h⟩
    · exact h.elim
  · exact h.elim
theorem z_ix : R2Z T K F wpIx (rIxZ K T.w) := by
  intro H Z w1 w2 x y Qz Q n r1 r2 h p
  have r2' := r2
  cases r2 with
  | int i =>
    cases r1 with
    | tup h1 q1 =>
      rename_i ws
      cases e : atI ws i with
      | none => simp only [wpIx, e] at h
      | some w =>
        simp only [wpIx, e] at h
        obtain ⟨v, g, r⟩ := atI_rep q1 e
        exact .inr (.inr (.inl ⟨_, _, i, v, rfl, rfl, h1, g, p.here n r h⟩))
    | ro h1 q1 =>
      rename_i ws
      cases e : atI ws i with
      | none => simp only [wpIx, e] at h
      | some w =>
        simp only [wpIx, e] at h
        obtain ⟨v, g, r⟩ := atI_rep q1 e
        exact .inr (.inl ⟨_, _, i, v, rfl, rfl, h1.sq, g, p.here n r h⟩)
    | ref a =>
      cases e : wrl (Z a) with
      | none =>
        simp only [wpIx, e] at h
        exact .inl (z_ixD n (.int i) h p)
      | some ws =>
        cases e2 : atI ws i with
        | none => simp only [wpIx, e, e2] at h
        | some w =>
          simp only [wpIx, e, e2] at h
          obtain ⟨vs, g, _, q⟩ := n.seq (wrl_inv e)
          obtain ⟨v, g2, r⟩ := atI_rep q e2
          exact .inr (.inl ⟨_, _, i, v, rfl, rfl, g, g2, p.here n r h⟩)
    | str z =>
      cases e : atI z.cps.toList i with
      | none => simp only [wpIx, e] at h; exact h.2.elim
      | some c =>
        simp only [wpIx, e] at h
        exact .inr (.inr (.inr ⟨z, i, c, rfl, rfl, h.1, e, p.here n (.str _) h.2⟩))
    | _ => exact h.elim
  | _ =>
    cases r1 with
    | ref a => exact .inl (z_ixD n r2' h p)
    | _ => exact h.elim
/-! slices -/
theorem cut_rep {H : Hp} {ws : List W} {vs : List V} (r : Reps K H ws vs) (lo hi : Option Int) : Reps K H (cutW ws lo hi) (cutV vs lo hi) := by
  unfold cutW cutV
  rw [← r.length]
  exact (r.drop _).take _
def rSlZ (K : PySem.W.Frag) : V → Option Int → Option Int → Hp → VK → Prop := fun x lo hi H Q => rSlA K x lo hi H Q ∨ rSlL K x lo hi H Q
theorem sl_Z : SlR X (rSlZ X.K) := sl_tupA.or sl_list
theorem cut_whole {ws : List W} {lo hi : Option Int} (h : HT.sIx ws.length 0 lo = 0 ∧ HT.sIx ws.length ws.length hi = ws.length) : cutW ws lo hi = ws := by
  unfold cutW
  rw [h.1, h.2]
  simp
theorem z_sl {H : Hp} {Z : Zp} {w : W} {x : V} {lo hi : Option Int} {Qz : ZQ} {Q : VK} (n : Now T K F H Z) (r : Rep K H w x)
    (h : wpSl w lo hi Z Qz) (p : Pst T K F H Qz Q) : rSlZ K x lo hi H Q := by
  cases r with
  | tup h1 q1 =>
    refine .inl ⟨_, _, rfl, h1, fun e => ?_, fun e r hr => p.tup n hr (cut_rep q1 lo hi) h⟩
    rw [← q1.length] at e
    have h : Qz (.tup (cutW _ lo hi)) Z := h
    rw [cut_whole e] at h
    exact p.here n (.tup h1 q1) h
  | ro h1 q1 => exact .inr ⟨_, _, rfl, h1.sq, fun r hr => p.lst n hr (cut_rep q1 lo hi) h⟩
  | ref a =>
    cases e : wrl (Z a) with
    | none => simp only [wpSl, e] at h
    | some ws =>
      simp only [wpSl, e] at h
      obtain ⟨vs, g, _, q⟩ := n.seq (wrl_inv e)
      exact .inr ⟨a, vs, rfl, g, fun r hr => p.lst n hr (cut_rep q lo hi) h⟩
  | _ => exact h.elim

/-! ### built-in functions, by what they are called with -/
/-- a callee's rule reads what Z says -/
def CallZ (T : Nms) (K : PySem.W.Frag) (F : List (Addr × HO)) (wp : List W → Zp → ZQ → Prop) (r : List V → Hp → VK → Prop) : Prop :=
  ∀ {H : Hp} {Z : Zp} {ws : List W} {vs : List V} {Qz : ZQ} {Q : VK}, Now T K F H Z → Reps K H ws vs → wp ws Z Qz → Pst T K F H Qz Q → r vs H Q
theorem reps1 {H : Hp} {w : W} {vs : List V} (r : Reps K H [w] vs) : ∃ v, vs = [v] ∧ Rep K H w v := by
  cases r with
  | cons h t => cases t; exact ⟨_, rfl, h⟩
theorem reps2 {H : Hp} {w w' : W} {vs : List V} (r : Reps K H [w, w'] vs) : ∃ v v', vs = [v, v'] ∧ Rep K H w v ∧ Rep K H w' v' := by
  cases r with
  | cons h t =>
    obtain ⟨v', rfl, h'⟩ := reps1 t
    exact ⟨_, _, rfl, h, h'⟩
theorem reps0 {H : Hp} {vs : List V} (r : Reps K H [] vs) : vs = [] := by cases r; rfl
theorem Now.seqW {H : Hp} {Z : Zp} {w : W} {v : V} {xs : List W} (n : Now T K F H Z) (r : Rep K H w v) (h : seqOf Z w = some xs) : ∃ a vs, v = .ref a ∧ (SqL K H a vs ∨ SqT K H a vs) ∧ Reps K H xs vs := by
  cases r with
  | tup h1 q1 => cases h; exact ⟨_, _, rfl, .inr h1, q1⟩
  | ro h1 q1 => cases h; exact ⟨_, _, rfl, .inl h1.sq, q1⟩
  | ref a =>
    cases e : wrl (Z a) with
    | none => simp only [seqOf, e] at h; cases h
    | some ws =>
      simp only [seqOf, e] at h
      cases h
      obtain ⟨vs, g, _, q⟩ := n.seq (wrl_inv e)
      exact ⟨a, vs, rfl, .inl g, q⟩
  | _ => cases h
theorem Now.listW {H : Hp} {Z : Zp} {w : W} {v : V} {xs : List W} (n : Now T K F H Z) (r : Rep K H w v) (h : listOf Z w = some xs) : ∃ a vs, v = .ref a ∧ SqL K H a vs ∧ Reps K H xs vs := by
  cases r with
  | ro h1 q1 => cases h; exact ⟨_, _, rfl, h1.sq, q1⟩
  | ref a =>
    cases e : wrl (Z a) with
    | none => simp only [listOf, e] at h; cases h
    | some ws =>
      simp only [listOf, e] at h
      cases h
      obtain ⟨vs, g, _, q⟩ := n.seq (wrl_inv e)
      exact ⟨a, vs, rfl, g, q⟩
  | _ => cases h
theorem intsW_inv : ∀ {ws : List W} {ns : List Int}, intsW ws = some ns → ws = ns.map W.int
  | [], _, h => by cases h; rfl
  | w :: ws, ns, h => by
    cases w with
    | int i =>
      have h : (intsW ws).map (i :: ·) = some ns := h
      cases e : intsW ws with
      | none => rw [e] at h; cases h
      | some ms => rw [e] at h; cases h; rw [intsW_inv e]; rfl
    | _ => cases h
theorem blsW_inv : ∀ {ws : List W} {ns : List Bool}, blsW ws = some ns → ws = ns.map W.bl
  | [], _, h => by cases h; rfl
  | w :: ws, ns, h => by
    cases w with
    | bl i =>
      have h : (blsW ws).map (i :: ·) = some ns := h
      cases e : blsW ws with
      | none => rw [e] at h; cases h
      | some ms => rw [e] at h; cases h; rw [blsW_inv e]; rfl
    | _ => cases h
def rLenZ (K : PySem.W.Frag) : List V → Hp → VK → Prop := fun xs H Q => (∃ p ys, xs = [.ref p] ∧ (SqL K H p ys ∨ SqT K H p ys) ∧ Q (.int ys.length) H) ∨ ∃ z, xs = [.str z] ∧ z.length ≤ sizeLine ∧ Q (.int z.length) H
theorem call_lenZ : CallR X (.builtin "len") (rLenZ X.K) := call_len_seq.or call_len_str
theorem z_len : CallZ T K F (wpB .len) (rLenZ K) := by
  intro H Z ws vs Qz Q n r h p
  match ws, r, h with
  | [], _, h => exact h.elim
  | [w], r, h =>
    obtain ⟨v, rfl, rv⟩ := reps1 r
    have key : (∃ x, w = .str x) ∨ (match seqOf Z w with
      | some xs => Qz (.int xs.length) Z
      | none => False) := by cases w <;> first | exact .inr h | exact .inl ⟨_, rfl⟩
    rcases key with ⟨x, rfl⟩ | h
    · cases rv
      exact .inr ⟨x, rfl, h.1, p.here n (.int _) h.2⟩
    · cases e : seqOf Z w with
      | none => rw [e] at h; exact h.elim
      | some xs =>
        rw [e] at h
        obtain ⟨a, vs, rfl, g, q⟩ := n.seqW rv e
        exact .inl ⟨a, vs, rfl, g, p.here n (.int _) (by rw [← q.length]; exact h)⟩
  | w :: w' :: r', _, h => cases w <;> exact h.elim
theorem z_int : CallZ T K F (wpB .int) (fun xs H Q => (∃ i, xs = [.int i] ∧ Q (.int i) H) ∨ ∃ k, xs = [.bl k] ∧ Q (.int (if k then 1 else 0)) H) := by
  intro H Z ws vs Qz Q n r h p
  match ws, r, h with
  | [], _, h => exact h.elim
  | [w], r, h =>
    obtain ⟨v, rfl, rv⟩ := reps1 r
    cases rv with
    | int i => exact .inl ⟨i, rfl, p.here n (.int _) h⟩
    | bl k => exact .inr ⟨k, rfl, p.here n (.int _) h⟩
    | _ => exact h.elim
  | w :: w' :: r', _, h => cases w <;> exact h.elim
theorem z_abs : CallZ T K F (wpB .abs) (fun xs H Q => ∃ i, xs = [.int i] ∧ Q (.int (if i < 0 then -i else i)) H) := by
  intro H Z ws vs Qz Q n r h p
  match ws, r, h with
  | [], _, h => exact h.elim
  | [w], r, h =>
    obtain ⟨v, rfl, rv⟩ := reps1 r
    cases rv with
    | int i => exact ⟨i, rfl, p.here n (.int _) h⟩
    | _ => exact h.elim
  | w :: w' :: r', _, h => cases w <;> exact h.elim
theorem z_tuple : CallZ T K F (wpB .tuple) (fun xs H Q => ∃ p ys, xs = [.ref p] ∧ ((SqL K H p ys ∧ ∀ l, H l = none → Q (.ref l) (upd H l (.tup ys))) ∨ (SqT K H p ys ∧ Q (.ref p) H))) := by
  intro H Z ws vs Qz Q n r h p
  match ws, r, h with
  | [], _, h => exact h.elim
  | [w], r, h =>
    obtain ⟨v, rfl, rv⟩ := reps1 r
    have h : (match seqOf Z w with
      | some xs => Qz (.tup xs) Z
      | none => False) := by cases w <;> exact h
    cases e : seqOf Z w with
    | none => rw [e] at h; exact h.elim
    | some xs =>
      rw [e] at h
      obtain ⟨a, vs, rfl, g, q⟩ := n.seqW rv e
      rcases g with g | g
      · exact ⟨a, vs, rfl, .inl ⟨g, fun l hl => p.tup n hl q h⟩⟩
      · exact ⟨a, vs, rfl, .inr ⟨g, p.here n (.tup g q) h⟩⟩
  | w :: w' :: r', _, h => cases w <;> exact h.elim
theorem z_list : CallZ T K F (wpB .list) (fun xs H Q => ∃ p ys, xs = [.ref p] ∧ (SqL K H p ys ∨ SqT K H p ys) ∧ ∀ l, H l = none → Q (.ref l) (upd H l (.lst ys))) := by
  intro H Z ws vs Qz Q n r h p
  match ws, r, h with
  | [], _, h => exact h.elim
  | [w], r, h =>
    obtain ⟨v, rfl, rv⟩ := reps1 r
    have h : (match seqOf Z w with
      | some xs => ∀ r, Z r = none → Qz (.ref r) (upz Z r (.lst xs))
      | none => False) := by cases w <;> exact h
    cases e : seqOf Z w with
    | none => rw [e] at h; exact h.elim
    | some xs =>
      rw [e] at h
      obtain ⟨a, vs, rfl, g, q⟩ := n.seqW rv e
      exact ⟨a, vs, rfl, g, fun l hl => p.lst n hl q h⟩
  | w :: w' :: r', _, h => cases w <;> exact h.elim
theorem tyOf_rep {H : Hp} {Z : Zp} {w : W} {v : V} {t : String} (n : Now T K F H Z) (r : Rep K H w v) (h : tyOf Z w = some t) : TyX K H v (.type t) := by
  cases r with
  | non => cases h; exact .base .non
  | bl b => cases h; exact .base (.bl b)
  | int i => cases h; exact .base (.int i)
  | str x => cases h; exact .base (.str x)
  | ty n => cases h
  | tup h1 q1 =>
    cases h
    rcases h1 with (h1 | ⟨o, h1⟩) | ⟨o, its, m, h1, h2, _⟩
    · exact .base (.tup h1)
    · exact .fTuple h1
    · exact .kTuple h1 h2
  | ro h1 q1 =>
    cases h
    rcases h1 with ⟨o, h1⟩ | ⟨o, its, m, h1, h2, _⟩
    · exact .base (.frz h1)
    · exact .kList h1 h2
  | ref a =>
    rcases e : Z a with _ | o
    · simp only [tyOf, e] at h; cases h
    · cases o with
      | lst ws =>
        simp only [tyOf, e] at h; cases h
        obtain ⟨vs, g, _⟩ := n.lst e
        exact .base (.lst g)
      | _ => simp only [tyOf, e] at h; cases h
theorem z_isi : CallZ T K F (wpB .isi) (rIsi K) := by
  intro H Z ws vs Qz Q n r h p
  match ws, r, h with
  | [], _, h => exact h.elim
  | [w], _, h => cases w <;> exact h.elim
  | [w, w'], r, h =>
    obtain ⟨v, v', rfl, rv, rv'⟩ := reps2 r
    cases rv' with
    | ty nn =>
      have h : (match tyOf Z w with
        | some t => (match kitB t nn with
          | some r => Qz (.bl r) Z
          | none => False)
        | none => False) := by cases w <;> exact h
      cases e : tyOf Z w with
      | none => rw [e] at h; exact h.elim
      | some t =>
        rw [e] at h
        have h : (match kitB t nn with
          | some r => Qz (.bl r) Z
          | none => False) := h
        cases e2 : kitB t nn with
        | none => rw [e2] at h; exact h.elim
        | some b =>
          rw [e2] at h
          exact ⟨v, .ty nn, .type t, .type nn, b, rfl, .ty nn, tyOf_rep n rv e, kit_ty e2, p.here n (.bl _) h⟩
    | _ => cases w <;> exact h.elim
  | w :: w' :: w'' :: r', _, h => cases w <;> cases w' <;> exact h.elim
theorem z_sum : CallZ T K F (wpB .sum) (rSum K) := by
  intro H Z ws vs Qz Q n r h p
  match ws, r, h with
  | [], _, h => exact h.elim
  | [w], r, h =>
    obtain ⟨v, rfl, rv⟩ := reps1 r
    have h : (match (listOf Z w).bind intsW with
      | some ns => Qz (.int ns.sum) Z
      | none => False) := by cases w <;> exact h
    cases e : listOf Z w with
    | none => rw [e] at h; exact h.elim
    | some xs =>
      cases e2 : intsW xs with
      | none => rw [e, Option.bind_some, e2] at h; exact h.elim
      | some ns =>
        rw [e, Option.bind_some, e2] at h
        obtain ⟨a, vs, rfl, g, q⟩ := n.listW rv e
        rw [intsW_inv e2] at q
        rw [q.ints_back] at g
        exact ⟨a, ns, rfl, g, p.here n (.int _) h⟩
  | w :: w' :: r', _, h => cases w <;> exact h.elim
theorem z_any : CallZ T K F (wpB .any) (rAny K) := by
  intro H Z ws vs Qz Q n r h p
  match ws, r, h with
  | [], _, h => exact h.elim
  | [w], r, h =>
    obtain ⟨v, rfl, rv⟩ := reps1 r
    have h : (match (listOf Z w).bind blsW with
      | some ns => Qz (.bl (ns.any id)) Z
      | none => False) := by cases w <;> exact h
    cases e : listOf Z w with
    | none => rw [e] at h; exact h.elim
    | some xs =>
      cases e2 : blsW xs with
      | none => rw [e, Option.bind_some, e2] at h; exact h.elim
      | some ns =>
        rw [e, Option.bind_some, e2] at h
        obtain ⟨a, vs, rfl, g, q⟩ := n.listW rv e
        rw [blsW_inv e2] at q
        rw [q.bls_back] at g
        exact ⟨a, ns, rfl, g, p.here n (.bl _) h⟩
  | w :: w' :: r', _, h => cases w <;> exact h.elim
theorem z_all : CallZ T K F (wpB .all) (rAll K) := by
  intro H Z ws vs Qz Q n r h p
  match ws, r, h with
  | [], _, h => exact h.elim
  | [w], r, h =>
    obtain ⟨v, rfl, rv⟩ := reps1 r
    have h : (match (listOf Z w).bind blsW with
      | some ns => Qz (.bl (ns.all id)) Z
      | none => False) := by cases w <;> exact h
    cases e : listOf Z w with
    | none => rw [e] at h; exact h.elim
    | some xs =>
      cases e2 : blsW xs with
      | none => rw [e, Option.bind_some, e2] at h; exact h.elim
      | some ns =>
        rw [e, Option.bind_some, e2] at h
        obtain ⟨a, vs, rfl, g, q⟩ := n.listW rv e
        rw [blsW_inv e2] at q
        rw [q.bls_back] at g
        exact ⟨a, ns, rfl, g, p.here n (.bl _) h⟩
  | w :: w' :: r', _, h => cases w <;> exact h.elim
theorem z_min : CallZ T K F (wpB .min) (fun xs H Q => ∃ i j, xs = [.int i, .int j] ∧ Q (.int (if j < i then j else i)) H) := by
  intro H Z ws vs Qz Q n r h p
  match ws, r, h with
  | [], _, h => exact h.elim
  | [w], _, h => cases w <;> exact h.elim
  | [w, w'], r, h =>
    obtain ⟨v, v', rfl, rv, rv'⟩ := reps2 r
    cases rv with
    | int i =>
      cases rv' with
      | int j => exact ⟨i, j, rfl, p.here n (.int _) h⟩
      | _ => exact h.elim
    | _ => exact h.elim
  | w :: w' :: w'' :: r', _, h => cases w <;> cases w' <;> exact h.elim
theorem z_max : CallZ T K F (wpB .max) (fun xs H Q => ∃ i j, xs = [.int i, .int j] ∧ Q (.int (if j > i then j else i)) H) := by
  intro H Z ws vs Qz Q n r h p
  match ws, r, h with
  | [], _, h => exact h.elim
  | [w], _, h => cases w <;> exact h.elim
  | [w, w'], r, h =>
    obtain ⟨v, v', rfl, rv, rv'⟩ := reps2 r
    cases rv with
    | int i =>
      cases rv' with
      | int j => exact ⟨i, j, rfl, p.here n (.int _) h⟩
      | _ => exact h.elim
    | _ => exact h.elim
  | w :: w' :: w'' :: r', _, h => cases w <;> cases w' <;> exact h.elim
end
end ZL

/-! The Z layer, 5: what is walked; readings of L2 that say what Z wants; the checker of expressions and its soundness. -/
namespace ZL
open PySem PySem.Spec PyProof.Rows L2 RZ

/-! ### anything walked -/
def iAny (K : PySem.W.Frag) (tl : TE) : TI := fun σ H R => tl σ H fun x H1 => (∃ a, x = .ref a ∧ (∃ xs, SqL K H1 a xs) ∧ R (Itl K a) H1) ∨ (∃ a, x = .ref a ∧ (∃ xs, SqT K H1 a xs) ∧ R (Itt K a) H1) ∨ ∃ z, x = .str z ∧ R (Its z) H1
theorem pi_any {X : Cx} {tg l : Expr} {tl : TE} (hl : PE X l tl) : PI X tg l (iAny X.K tl) := by
  refine ⟨fun pins s σ H R I h => ?_⟩
  refine thn (hl.run pins s σ H _ I h) fun v s1 ⟨x, H1, I1, r1, q1⟩ => ?_
  rcases q1 with ⟨a, e, ⟨xs, hq⟩, q⟩ | ⟨a, e, ⟨xs, hq⟩, q⟩ | ⟨z, e, q⟩
  · subst e
    cases r1
    obtain ⟨its, rv, p, hz⟩ := I1.list hq
    exact wpAny_pyIter_list p.isList (pi_one (tk := s1.toks) I1 _ (turn_list a _) ⟨_, Heap.get?_push_size _ rfl, rfl, rfl⟩ q)
  · subst e
    cases r1
    obtain ⟨its, rv, p, hz⟩ := I1.tuple hq
    exact wpAny_pyIter_tuple (show s1.heap.IsTuple a its.toArray from p) (pi_one (tk := s1.toks) I1 _ (turn_tuple a _) ⟨_, Heap.get?_push_size _ rfl, rfl, rfl⟩ q)
  · subst e
    obtain ⟨t, rfl⟩ := r1
    cases ha : z.cps.all (· < 128)
    · exact wpAny_pyIter_wide ha (pi_one (tk := s1.toks) I1 _ (turn_str _ z t "str_iterator" (.inr rfl)) ⟨_, Heap.get?_push_size _ rfl, rfl, rfl⟩ q)
    · exact wpAny_pyIter_ascii ha (pi_one (tk := s1.toks) I1 _ (turn_str _ z t "str_ascii_iterator" (.inl rfl)) ⟨_, Heap.get?_push_size _ rfl, rfl, rfl⟩ q)
/-- how L2's iterator tells the items -/
structure ItOk (T : Nms) (K : PySem.W.Frag) (F : List (Addr × HO)) (J : It) (items : List W) (still : Zp → Prop) : Prop where
  go : ∀ i H Z, Now T K F H Z → still Z → i < items.length → J.go i H
  yld : ∀ i H Z x H', Now T K F H Z → still Z → J.yld i H x H' → i < items.length → ∃ w, items[i]? = some w ∧ Rep K H' w x ∧ TupLe K H H' ∧ Now T K F H' Z
  stop : ∀ i H Z, Now T K F H Z → still Z → items.length ≤ i → J.stop i H
section
variable {T : Nms} {K : PySem.W.Frag} {F : List (Addr × HO)}
theorem lt_get {α : Type} {xs : List α} {i : Nat} (h : i < xs.length) : ∃ x, xs[i]? = some x := ⟨xs[i], List.getElem?_eq_getElem h⟩
theorem it_list {a : Addr} {xs : List W} : ItOk T K F (Itl K a) xs (SeqZ a xs) where
  go := fun i H Z n st hi => by
    obtain ⟨vs, g, _, r⟩ := n.seq st
    obtain ⟨x, e⟩ := lt_get (xs := vs) (i := i) (by rw [← r.length]; exact hi)
    exact ⟨vs, x, g, e⟩
  yld := fun i H Z x H' n st y hi => by
    obtain ⟨vs, g, _, r⟩ := n.seq st
    obtain ⟨e, y⟩ := y
    subst e
    obtain ⟨w, h1, h2⟩ := r.get (y vs g)
    exact ⟨w, h1, h2, .refl, n⟩
  stop := fun i H Z n st hi => by
    obtain ⟨vs, g, _, r⟩ := n.seq st
    exact ⟨vs, g, by rw [← r.length]; exact hi⟩
theorem it_tup {a : Addr} {xs : List W} {vs : List V} {H0 : Hp} (g0 : SqT K H0 a vs) (r0 : Reps K H0 xs vs) : ∀ {H : Hp}, TupLe K H0 H → True := fun _ => trivial
theorem it_range {lo : Int} {m : Nat} : ItOk T K F (Itr lo m) ((List.range m).map fun (i : Nat) => .int (lo + i)) (fun _ => True) where
  go := fun i H Z n st hi => by rw [List.length_map, List.length_range] at hi; exact hi
  yld := fun i H Z x H' n st y hi => by
    rw [List.length_map, List.length_range] at hi
    obtain ⟨e, y⟩ := y
    subst e y
    refine ⟨.int (lo + i), ?_, .int _, .refl, n⟩
    rw [List.getElem?_map, List.getElem?_range hi]
    rfl
  stop := fun i H Z n st hi => by rw [List.length_map, List.length_range] at hi; exact hi
theorem it_str {z : Str} : ItOk T K F (Its z) (z.cps.toList.map fun c => .str ⟨#[c]⟩) (fun _ => True) where
  go := fun i H Z n st hi => by rw [List.length_map, Array.length_toList] at hi; exact hi
  yld := fun i H Z x H' n st y hi => by
    obtain ⟨e, c, ec, y⟩ := y
    subst e y
    refine ⟨.str ⟨#[c]⟩, ?_, .str _, .refl, n⟩
    rw [List.getElem?_map, Array.getElem?_toList, ec]
    rfl
  stop := fun i H Z n st hi => by rw [List.length_map, Array.length_toList] at hi; exact hi
theorem it_enum {a : Addr} {xs : List W} : ItOk T K F (Ite K a) (xs.zipIdx.map fun (q : W × Nat) => .tup [.int q.2, q.1]) (SeqZ a xs) where
  go := fun i H Z n st hi => by
    rw [List.length_map, List.length_zipIdx] at hi
    obtain ⟨vs, g, _, r⟩ := n.seq st
    obtain ⟨x, e⟩ := lt_get (xs := vs) (i := i) (by rw [← r.length]; exact hi)
    exact ⟨vs, x, g, e⟩
  yld := fun i H Z x H' n st y hi => by
    obtain ⟨vs, g, _, r⟩ := n.seq st
    obtain ⟨p, v, rfl, hp, rfl, y⟩ := y
    obtain ⟨w, h1, h2⟩ := r.get (y vs g)
    refine ⟨.tup [.int i, w], ?_, .tup (.inl (.inl upd_same)) (.cons (.int _) (.cons (h2.mono (.new hp)) .nil)), .new hp, ⟨n.z.hid hp, n.f.hid hp⟩⟩
    rw [List.getElem?_map, List.getElem?_zipIdx, h1]
    simp
  stop := fun i H Z n st hi => by
    rw [List.length_map, List.length_zipIdx] at hi
    obtain ⟨vs, g, _, r⟩ := n.seq st
    exact ⟨vs, g, by rw [← r.length]; exact hi⟩
theorem it_zip {a b : Addr} {xs ys : List W} : ItOk T K F (Itz K a b) ((xs.zip ys).map fun (q : W × W) => .tup [q.1, q.2]) (fun Z => SeqZ a xs Z ∧ SeqZ b ys Z) where
  go := fun i H Z n st hi => by
    rw [List.length_map, List.length_zip] at hi
    obtain ⟨vs, g, _, r⟩ := n.seq st.1
    obtain ⟨us, g2, _, r2⟩ := n.seq st.2
    obtain ⟨x, e⟩ := lt_get (xs := vs) (i := i) (by rw [← r.length]; omega)
    obtain ⟨y, e2⟩ := lt_get (xs := us) (i := i) (by rw [← r2.length]; omega)
    exact ⟨vs, us, x, y, g, g2, e, e2⟩
  yld := fun i H Z x H' n st y hi => by
    obtain ⟨vs, g, _, r⟩ := n.seq st.1
    obtain ⟨us, g2, _, r2⟩ := n.seq st.2
    obtain ⟨p, v, u, rfl, hp, rfl, y1, y2⟩ := y
    obtain ⟨w, h1, h2⟩ := r.get (y1 vs g)
    obtain ⟨w', h3, h4⟩ := r2.get (y2 us g2)
    refine ⟨.tup [w, w'], ?_, .tup (.inl (.inl upd_same)) (.cons (h2.mono (.new hp)) (.cons (h4.mono (.new hp)) .nil)), .new hp, ⟨n.z.hid hp, n.f.hid hp⟩⟩
    rw [List.getElem?_map, (List.getElem?_zip_eq_some (z := (w, w'))).mpr ⟨h1, h3⟩]
    rfl
  stop := fun i H Z n st hi => by
    rw [List.length_map, List.length_zip] at hi
    obtain ⟨vs, g, _, r⟩ := n.seq st.1
    obtain ⟨us, g2, _, r2⟩ := n.seq st.2
    exact ⟨vs, us, g, g2, by rw [← r.length, ← r2.length]; omega⟩
end
/-! a tuple that is walked stands: what is told of the heap at the start is told of later ones -/
structure ItOkAt (T : Nms) (K : PySem.W.Frag) (F : List (Addr × HO)) (H0 : Hp) (J : It) (items : List W) (still : Zp → Prop) : Prop where
  go : ∀ i H Z, TupLe K H0 H → Now T K F H Z → still Z → i < items.length → J.go i H
  yld : ∀ i H Z x H', TupLe K H0 H → Now T K F H Z → still Z → J.yld i H x H' → i < items.length → ∃ w, items[i]? = some w ∧ Rep K H' w x ∧ TupLe K H H' ∧ Now T K F H' Z
  stop : ∀ i H Z, TupLe K H0 H → Now T K F H Z → still Z → items.length ≤ i → J.stop i H
section
variable {T : Nms} {K : PySem.W.Frag} {F : List (Addr × HO)}
theorem ItOk.at' {J : It} {items : List W} {still : Zp → Prop} (h : ItOk T K F J items still) (H0 : Hp) : ItOkAt T K F H0 J items still :=
  ⟨fun i H Z _ => h.go i H Z, fun i H Z x H' _ => h.yld i H Z x H', fun i H Z _ => h.stop i H Z⟩
/-- a tuple is one thing: by L2's rule two tuples at one address are alike only over a state; here what is told is asked of ONE list -/
theorem itt_at {a : Addr} {xs : List W} {vs : List V} {H0 : Hp} (g0 : SqT K H0 a vs) (r0 : Reps K H0 xs vs) : ItOkAt T K F H0 (Itt K a) xs (fun _ => True) where
  go := fun i H Z t n st hi => by
    obtain ⟨x, e⟩ := lt_get (xs := vs) (i := i) (by rw [← r0.length]; exact hi)
    exact ⟨vs, x, t.t _ _ g0, e⟩
  yld := fun i H Z x H' t n st y hi => by
    obtain ⟨e, y⟩ := y
    subst e
    obtain ⟨w, h1, h2⟩ := (r0.mono t).get (y vs (t.t _ _ g0))
    exact ⟨w, h1, h2, .refl, n⟩
  stop := fun i H Z t n st hi => ⟨vs, t.t _ _ g0, by rw [← r0.length]; exact hi⟩
/-- a list that is read alone, walked -/
theorem itf_at {a : Addr} {xs : List W} {vs : List V} {H0 : Hp} (g0 : FzK K H0 a vs) (r0 : Reps K H0 xs vs) : ItOkAt T K F H0 (Itl K a) xs (fun _ => True) where
  go := fun i H Z t n st hi => by
    obtain ⟨x, e⟩ := lt_get (xs := vs) (i := i) (by rw [← r0.length]; exact hi)
    exact ⟨vs, x, (t.l _ _ g0).sq, e⟩
  yld := fun i H Z x H' t n st y hi => by
    obtain ⟨e, y⟩ := y
    subst e
    obtain ⟨w, h1, h2⟩ := (r0.mono t).get (y vs (t.l _ _ g0).sq)
    exact ⟨w, h1, h2, .refl, n⟩
  stop := fun i H Z t n st hi => ⟨vs, (t.l _ _ g0).sq, by rw [← r0.length]; exact hi⟩
theorem ite_at {a : Addr} {xs : List W} {vs : List V} {H0 : Hp} (g0 : FzK K H0 a vs) (r0 : Reps K H0 xs vs) : ItOkAt T K F H0 (Ite K a) (xs.zipIdx.map fun (q : W × Nat) => .tup [.int q.2, q.1]) (fun _ => True) where
  go := fun i H Z t n st hi => by
    rw [List.length_map, List.length_zipIdx] at hi
    obtain ⟨x, e⟩ := lt_get (xs := vs) (i := i) (by rw [← r0.length]; exact hi)
    exact ⟨vs, x, (t.l _ _ g0).sq, e⟩
  yld := fun i H Z x H' t n st y hi => by
    obtain ⟨p, v, rfl, hp, rfl, y⟩ := y
    obtain ⟨w, h1, h2⟩ := (r0.mono t).get (y vs (t.l _ _ g0).sq)
    refine ⟨.tup [.int i, w], ?_, .tup (.inl (.inl upd_same)) (.cons (.int _) (.cons (h2.mono (.new hp)) .nil)), .new hp, ⟨n.z.hid hp, n.f.hid hp⟩⟩
    rw [List.getElem?_map, List.getElem?_zipIdx, h1]
    simp
  stop := fun i H Z t n st hi => by
    rw [List.length_map, List.length_zipIdx] at hi
    exact ⟨vs, (t.l _ _ g0).sq, by rw [← r0.length]; exact hi⟩
theorem itzT_at {a b : Addr} {xs ys : List W} {vs us : List V} {H0 : Hp} (g0 : SqT K H0 a vs) (r0 : Reps K H0 xs vs) (g1 : SqT K H0 b us) (r1 : Reps K H0 ys us) :
    ItOkAt T K F H0 (ItzT K a b) ((xs.zip ys).map fun (q : W × W) => .tup [q.1, q.2]) (fun _ => True) where
  go := fun i H Z t n st hi => by
    rw [List.length_map, List.length_zip] at hi
    obtain ⟨x, e⟩ := lt_get (xs := vs) (i := i) (by rw [← r0.length]; omega)
    obtain ⟨y, e2⟩ := lt_get (xs := us) (i := i) (by rw [← r1.length]; omega)
    exact ⟨vs, us, x, y, t.t _ _ g0, t.t _ _ g1, e, e2⟩
  yld := fun i H Z x H' t n st y hi => by
    obtain ⟨p, v, u, rfl, hp, rfl, y1, y2⟩ := y
    obtain ⟨w, h1, h2⟩ := (r0.mono t).get (y1 vs (t.t _ _ g0))
    obtain ⟨w', h3, h4⟩ := (r1.mono t).get (y2 us (t.t _ _ g1))
    refine ⟨.tup [w, w'], ?_, .tup (.inl (.inl upd_same)) (.cons (h2.mono (.new hp)) (.cons (h4.mono (.new hp)) .nil)), .new hp, ⟨n.z.hid hp, n.f.hid hp⟩⟩
    rw [List.getElem?_map, (List.getElem?_zip_eq_some (z := (w, w'))).mpr ⟨h1, h3⟩]
    rfl
  stop := fun i H Z t n st hi => by
    rw [List.length_map, List.length_zip] at hi
    exact ⟨vs, us, t.t _ _ g0, t.t _ _ g1, by rw [← r0.length, ← r1.length]; omega⟩
end

/-! ### a rule's reading, turned to what Z says -/
section
variable {X : Cx} {e : Expr}
theorem PE.up {t0 t : TE} (h : PE X e t0) (w : ∀ σ H Q, t σ H Q → t0 σ H Q) : PE X e t := ⟨fun pins s σ H Q I q =>
  thn (h.run pins s σ H _ I (w σ H Q q)) fun u s' ⟨v, H', I', r, k⟩ => ⟨v, H', I', r, k⟩⟩
theorem PI.up {tg : Expr} {t0 t : TI} (h : PI X tg e t0) (w : ∀ σ H R, t σ H R → t0 σ H (fun J H1 => HLen X.K H1 → R J H1)) : PI X tg e t := ⟨fun pins s σ H R I q =>
  thn (h.run pins s σ H _ I (w σ H R q)) fun v s1 h1 => thn h1 fun itv s2 ⟨it, fp, tn, J, H', e1, I', T', st, f, k⟩ => ⟨it, fp, tn, J, H', e1, I', T', st, f, k (ZL.Inv.hlen I')⟩⟩
theorem PT.up {t0 t : TT} (h : PT X e t0) (w : ∀ σ H Q, t σ H Q → t0 σ H Q) : PT X e t := ⟨fun pins s σ H Q I q =>
  thn (h.run pins s σ H _ I (w σ H Q q)) fun b s' ⟨H', I', k⟩ => ⟨H', I', k⟩⟩
theorem PA.up {es : List Expr} {t0 t : TA} (h : PA X es t0) (w : ∀ σ H Q, t σ H Q → t0 σ H Q) : PA X es t := ⟨fun pos pins s σ H Q I q =>
  thn (h.run pos pins s σ H _ I (w σ H Q q)) fun b s' ⟨vs, H', I', r, k⟩ => ⟨vs, H', I', r, k⟩⟩
end
section
variable (T : Nms) (K : PySem.W.Frag) (F : List (Addr × HO)) (C : Ctx)
def lE (m : ME) : TE := fun σ H Q => ∃ F' ς Z Qz, F ⊆ F' ∧ RepS K H ς σ ∧ Now T K F' H Z ∧ wpE C m ς Z Qz ∧ Pst T K F' H Qz Q
def lA (ms : List ME) : TA := fun σ H Q => ∃ F' ς Z Qz, F ⊆ F' ∧ RepS K H ς σ ∧ Now T K F' H Z ∧ wpA C ms ς Z Qz ∧
  ∀ H' vs ws Z', TupLe K H H' → Reps K H' ws vs → Now T K F' H' Z' → Qz ws Z' → Q vs H'
def lT (m : ME) : TT := fun σ H Q => ∃ F' ς Z Qz, F ⊆ F' ∧ RepS K H ς σ ∧ Now T K F' H Z ∧ wpT C m ς Z Qz ∧
  ∀ H' b Z', TupLe K H H' → Now T K F' H' Z' → Qz b Z' → Q b H'
def lTs (ms : List ME) : TT := fun σ H Q => ∃ F' ς Z Qz, F ⊆ F' ∧ RepS K H ς σ ∧ Now T K F' H Z ∧ wpTs C ms ς Z Qz ∧
  ∀ H' b Z', TupLe K H H' → Now T K F' H' Z' → Qz b Z' → Q b H'
def lG (t : MG) : TG := fun v σ H Q => ∃ F' ς Z w Qz, F ⊆ F' ∧ RepS K H ς σ ∧ Now T K F' H Z ∧ Rep K H w v ∧ wpG t w ς Z Qz ∧
  ∀ H' σ' ς' Z', TupLe K H H' → RepS K H' ς' σ' → Now T K F' H' Z' → σ'.length = σ.length → (∀ j, j ∉ MG.slots t → σ'[j]? = σ[j]?) → Qz ς' Z' → Q σ' H'
def lGs (ts : List MG) : TGs := fun vs σ H Q => ∃ F' ς Z ws Qz, F ⊆ F' ∧ RepS K H ς σ ∧ Now T K F' H Z ∧ Reps K H ws vs ∧ wpGs ts ws ς Z Qz ∧
  ∀ H' σ' ς' Z', TupLe K H H' → RepS K H' ς' σ' → Now T K F' H' Z' → σ'.length = σ.length → (∀ j, j ∉ MG.slotsL ts → σ'[j]? = σ[j]?) → Qz ς' Z' → Q σ' H'
def lI (k : IK) (it : List ME) : TI := fun σ H R => ∃ (F' : List (Addr × HO)) (ς : ZSt) (Z : Zp) (Rz : Zp → List W → (Zp → Prop) → Prop), F ⊆ F' ∧ RepS K H ς σ ∧ Now T K F' H Z ∧ wpA C it ς Z (fun ws Z1 => wpI k ws Z1 (Rz Z1)) ∧
  ∀ H1 J items still Z1, TupLe K H H1 → HLen K H1 → Now T K F' H1 Z1 → (∀ F2, ItOkAt T K F2 H1 J items still) → Rz Z1 items still → R J H1
/-- an exception as L2 has it -/
def ExcRep (H : Hp) (c : Nat) (fs : List (Nat × W)) (cls : Value) (d : Option Addr) : Prop :=
  cls = .ref (T.cl c) ∧ ((d = none ∧ fs = []) ∨ ∃ a gs, d = some a ∧ H a = some (.xd gs) ∧ Paired (fun (p : Nat × W) (q : Str × V) => q.1 = T.nm p.1 ∧ Rep K H p.2 q.2) fs gs)
def liftW (E : Nat → List (Nat × W) → ZSt → Zp → Prop) : WX := fun cls d σ H => ∃ c fs ς Z, ExcRep T K H c fs cls d ∧ RepS K H ς σ ∧ Now T K F H Z ∧ E c fs ς Z
def liftSp (sp : ZSp) : Sp := fun vs H Q E => ∃ ws Z F Qz Ez, Reps K H ws vs ∧ Now T K F H Z ∧ sp ws Z Qz Ez ∧ Pst T K F H Qz Q ∧
  ∀ H' c fs Z' cls d, TupLe K H H' → ExcRep T K H' c fs cls d → Now T K F H' Z' → Ez c fs Z' → E cls d H'
end
end ZL

/-! The Z layer, 6: the checker of expressions. -/
namespace ZL
open PySem PySem.Spec PyProof.Rows L2 RZ

def nodbg (x : Str) : Bool := !(x == ("__debug__" : Str)) && !(x == ("__classdict__" : Str)) && !(x == ("__name__" : Str))
def visB (sc : Scope) (x : Str) : Bool := match sc.names.lookup x with
  | some .local => true
  | some .cell => true
  | some .free => true
  | _ => false
def locB (sc : Scope) (x : Str) : Bool := match sc.names.lookup x with
  | some .local => true
  | some .cell => true
  | _ => false
def glB (sc : Scope) (x : Str) : Bool := decide (sc.names.lookup x = some .globalImplicit) && nodbg x
def bfN : BF → Str
  | .len => "len" | .int => "int" | .abs => "abs" | .tuple => "tuple" | .list => "list" | .isi => "isinstance" | .min => "min" | .max => "max"
  | .sum => "sum" | .any => "any" | .all => "all" | .sorted => "sorted" | .bool => "bool" | .set => "set" | .str => "str"
/-- methods of built-in types by their codes -/
def bmN : List Str := ["append", "extend", "pop", "reverse", "clear", "insert", "index", "get", "setdefault", "items", "keys", "values", "update", "count", "sort", "join", "strip", "split"]
def isStar : Expr → Bool
  | .Starred _ _ => true
  | _ => false
def isSetE : Expr → Bool
  | .Set _ _ _ => true
  | _ => false
def isSlc : Expr → Bool
  | .Slice _ _ _ _ => true
  | _ => false
def isSup : Expr → Bool
  | .Call (.Name _ _) [] [] _ => true
  | _ => false
def isCompE : Expr → Bool
  | .ListComp _ _ _ _ => true
  | .SetComp _ _ _ _ => true
  | .DictComp _ _ _ _ _ => true
  | _ => false
/-- an expression that a test takes by its parts -/
def tstE : Expr → Bool
  | .UnaryOp .Not _ _ => true
  | .BoolOp _ _ _ => true
  | .IfExp _ _ _ _ => true
  | .Compare _ _ _ _ => true
  | _ => false
def opOk : Operator → Bool
  | .Add => true
  | .Sub => true
  | .Mult => true
  | .FloorDiv => true
  | .Mod => true
  | .Pow => true
  | _ => false
def bltOk : BF → Bool
  | .sorted => false
  | .bool => false
  | .set => false
  | .str => false
  | _ => true
def iterArgs (sc : Scope) : IK → Expr → Expr → Option (List Expr)
  | .val, _, e => if isSetE e || isStar e then none else some [e]
  | .range1, _, .Call (.Name x _) [a] [] _ => if decide (x = "range") && glB sc x && !isStar a then some [a] else none
  | .range2, _, .Call (.Name x _) [a, b] [] _ => if decide (x = "range") && glB sc x && !isStar a && !isStar b then some [a, b] else none
  | .enum, .Tuple _ _ _, .Call (.Name x _) [a] [] _ => if decide (x = "enumerate") && glB sc x && !isStar a then some [a] else none
  | .zip, .Tuple _ _ _, .Call (.Name x _) [a, b] [] _ => if decide (x = "zip") && glB sc x && !isStar a && !isStar b then some [a, b] else none
  | _, _, _ => none
mutual
def chkG (sc : Scope) (N : List Str) : MG → Expr → Bool
  | .nm i, .Name x _ => decide (N[i]? = some x) && locB sc x
  | .tup ts, .Tuple es _ _ => chkGs sc N ts es
  | _, _ => false
def chkGs (sc : Scope) (N : List Str) : List MG → List Expr → Bool
  | [], [] => true
  | t :: ts, e :: es => !isStar e && chkG sc N t e && chkGs sc N ts es
  | _, _ => false
end
def ownOf (N : List Str) (own : List Nat) : List (Str × Nat) := own.map fun j => (N.getD j Str.empty, j)
/-- a value as a test: a comparison by its own rule, else what no test takes by its parts -/
def tvOk (a : ME) (e : Expr) : Bool := match e with
  | .Compare _ _ _ _ => (match a with
    | .cmp _ _ _ => true
    | .cmp2 _ _ _ _ _ => true
    | _ => false)
  | e => !tstE e
mutual
def chkE (T : Nms) (sc : Scope) (N : List Str) : ME → Expr → Bool
  | .var i, .Name x _ => decide (N[i]? = some x) && visB sc x && nodbg x
  | .non, .Constant .none _ _ => true
  | .bl b, .Constant (.bool c) _ _ => b == c
  | .int i, .Constant (.int j) _ _ => decide (i = j)
  | .sc c, .Constant (.str x) _ _ => decide (x = T.nm c)
  | .gl c, .Name x _ => decide (x = T.nm c) && glB sc x
  | .bty b, .Name x _ => decide (x = bfN b) && glB sc x && (match b with
    | .int => true | .tuple => true | .list => true | .bool => true | .str => true | _ => false)
  | .bin op a b, .BinOp l o r _ => decide (o = op) && opOk op && chkE T sc N a l && chkE T sc N b r
  | .neg a, .UnaryOp .USub e _ => chkE T sc N a e
  | .cmp op a b, .Compare l [o] [r] _ => decide (o = op) && !isSetE r && chkE T sc N a l && chkE T sc N b r
  | .cmp2 p q a b c, .Compare l [o, o'] [r, r'] _ => decide (o = p) && decide (o' = q) && !isSetE r && !isSetE r' && chkE T sc N a l && chkE T sc N b r && chkE T sc N c r'
  | .and as, .BoolOp .And es _ => chkL T sc N as es
  | .or as, .BoolOp .Or es _ => chkL T sc N as es
  | .not a, .UnaryOp .Not e _ => chkE T sc N a e
  | .ife t a b, .IfExp c x y _ => chkT T sc N t c && chkE T sc N a x && chkE T sc N b y
  | .tup as, .Tuple es _ _ => chkA T sc N as es
  | .lst as, .List es _ => chkA T sc N as es
  | .dct kvs, .Dict keys values _ => decide (keys.length ≤ 15) && chkP T sc N kvs keys values
  | .ix a i, .Subscript e s _ => !isSlc s && chkE T sc N a e && chkE T sc N i s
  | .sl a lo hi, .Subscript e (.Slice l h none _) _ => chkE T sc N a e && chkO T sc N lo l && chkO T sc N hi h
  | .rev a, .Subscript e (.Slice none none (some (.UnaryOp .USub (.Constant (.int 1) _ _) _)) _) _ => chkE T sc N a e
  | .call f as, .Call (.Name x _) (e :: es) [] _ => decide (x = T.nm f) && glB sc x && chkA T sc N as (e :: es)
  | .blt b as, .Call (.Name x _) (e :: es) [] _ => decide (x = bfN b) && bltOk b && glB sc x && chkA T sc N as (e :: es)
  | .mth m o as, .Call (.Attribute e n ap) es [] p => decide (n = T.nm m) && !isSup e && decide (ap.endLine = p.line) && decide (es.length < 30) && chkE T sc N o e && chkA T sc N as es
  | .comp elt tg k it ts own, .ListComp e [⟨g, i, ifs, a⟩] scope _ => decide (a = 0) && ((MG.slots tg).all fun j => own.contains j) && blkC N sc scope (ownOf N own) && chkG scope N tg g && !isSetE i && (match iterArgs sc k g i with
    | some es => chkA T sc N it es
    | none => false) && chkTs T (relS scope sc) N ts ifs && !isStar e && chkE T (relS scope sc) N elt e
  | _, _ => false
def chkA (T : Nms) (sc : Scope) (N : List Str) : List ME → List Expr → Bool
  | [], [] => true
  | a :: as, e :: es => !isStar e && chkE T sc N a e && chkA T sc N as es
  | _, _ => false
def chkP (T : Nms) (sc : Scope) (N : List Str) : List ME → List (Option Expr) → List Expr → Bool
  | [], [], [] => true
  | a :: b :: r, some k :: ks, v :: vs => chkE T sc N a k && chkE T sc N b v && chkP T sc N r ks vs
  | _, _, _ => false
/-- the parts of an and, an or, one at least -/
def chkL (T : Nms) (sc : Scope) (N : List Str) : List ME → List Expr → Bool
  | [], _ => false
  | a :: as, es => (match es with
    | [] => false
    | e :: es => chkE T sc N a e && (match as, es with
      | [], [] => true
      | _ :: _, _ :: _ => chkL T sc N as es
      | _, _ => false))
def chkO (T : Nms) (sc : Scope) (N : List Str) : List ME → Option Expr → Bool
  | [], none => true
  | [a], some e => chkE T sc N a e
  | _, _ => false
def chkT (T : Nms) (sc : Scope) (N : List Str) : ME → Expr → Bool
  | .tv a, e => tvOk a e && chkE T sc N a e
  | .tand as, .BoolOp .And es _ => chkTL T sc N as es
  | .tor as, .BoolOp .Or es _ => chkTL T sc N as es
  | .tnot a, .UnaryOp .Not e _ => chkT T sc N a e
  | _, _ => false
def chkTL (T : Nms) (sc : Scope) (N : List Str) : List ME → List Expr → Bool
  | [], _ => false
  | a :: as, es => (match es with
    | [] => false
    | e :: es => chkT T sc N a e && (match as, es with
      | [], [] => true
      | _ :: _, _ :: _ => chkTL T sc N as es
      | _, _ => false))
def chkTs (T : Nms) (sc : Scope) (N : List Str) : List ME → List Expr → Bool
  | [], [] => true
  | [a], [e] => chkT T sc N a e
  | _, _ => false
end
end ZL

/-! The Z layer, 7: what the checker takes is sound: expressions. -/
namespace ZL
open PySem PySem.Spec PyProof.Rows L2 RZ

/-! ### small facts of the syntax -/
theorem star_cons {e : Expr} {es : List Expr} {env : Env} (h : isStar e = false) : starEach (e :: es) env = (false, eval e env) :: starEach es env := by
  cases e <;> first | rfl | cases h
theorem plain_of : ∀ {es : List Expr} {env : Env} {pos : Pos}, (∀ e ∈ es, isStar e = false) → (backTo pos (starEach es env)).any (·.1) = false
  | [], _, _, _ => rfl
  | e :: es, env, pos, h => by
    rw [star_cons (h e List.mem_cons_self)]
    have ih := plain_of (es := es) (env := env) (pos := pos) fun x hx => h x (List.mem_cons_of_mem _ hx)
    show (false || (backTo pos (starEach es env)).any (·.1)) = false
    rw [ih]; rfl
theorem star_len : ∀ {es : List Expr} {env : Env}, (starEach es env).length = es.length
  | [], _ => rfl
  | e :: es, env => by cases e <;> exact congrArg (· + 1) (star_len (es := es))
theorem folded_plain {e : Expr} {env : Env} (h : isSetE e = false) : ∀ x, foldedSetIterable e env x = pure x := by
  intro x; cases e <;> first | rfl | cases h
theorem mark_plain {op : CmpOp} {e : Expr} (h : isSetE e = false) : behindInMarks op e = false := by
  cases e <;> first | rfl | cases h
theorem base_plain {e : Expr} {n : Str} {env : Env} (h : isSup e = false) : attributeBase e n env (eval e env) = eval e env := by
  cases e <;> try rfl
  rename_i f as ks pos
  cases f <;> try rfl
  cases as <;> try rfl
  cases ks <;> try rfl
  cases h
theorem true_plain {e : Expr} {env : Env} (h : tstE e = false) : ∀ whole, isTrue e env whole = (do let v ← whole; standAt e.pos; holding [v] (truthy v)) := by
  intro whole
  cases e <;> try rfl
  all_goals first | cases h | skip
  rename_i op a pos
  cases op <;> first | rfl | cases h
theorem ix_plain {e : Expr} (h : isSlc e = false) : PlainIx e := by
  intro o i
  cases e <;> first | rfl | cases h
theorem vis_of {sc : Scope} {x : Str} (h : visB sc x = true) : Vis sc x := by
  unfold visB at h
  split at h
  · exact .inl (by assumption)
  · exact .inr (.inl (by assumption))
  · exact .inr (.inr (by assumption))
  · cases h
theorem loc_of {sc : Scope} {x : Str} (h : locB sc x = true) : Loc sc x := by
  unfold locB at h
  split at h
  · exact .inl (by assumption)
  · exact .inr (by assumption)
  · cases h
theorem dbg_of {x : Str} (h : nodbg x = true) : (x == ("__debug__" : Str)) = false ∧ (x == ("__classdict__" : Str)) = false ∧ x ≠ "__name__" := by
  unfold nodbg at h
  simp only [Bool.and_eq_true, Bool.not_eq_true'] at h
  refine ⟨h.1.1, h.1.2, fun e => ?_⟩
  have := h.2
  rw [e] at this
  simp at this

/-! ### the context -/
/-- what is known of the module's names -/
structure GOk (T : Nms) (P : Program) (w : World) (K : PySem.W.Frag) (mg : Str → Option Value) (base : Heap) (C : Ctx) : Prop where
  nm : C.nm = T.nm
  fn : ∀ c sp, C.fn c = some sp → ∃ (f : Addr) (fd : FuncData) (ps : List Str), mg (T.nm c) = some (.ref f) ∧ PySem.W.keepIn K (.ref f) = true ∧ Binds K fd ps [] ∧ FnOk P w K mg base (L2.CX P w) C.room f fd ps (liftSp T K (sp C.room))
  con : ∀ c u, C.con c = some u → ∃ v z, mg (T.nm c) = some z ∧ RelV v z ∧ ∀ H, Rep K H u v
  mth : ∀ c m sp, C.mth c m = some sp → ∃ (f : Addr) (fd : FuncData) (ps : List Str), Cls K (T.cl c) ∧ Meth K (T.cl c) (T.nm m) f ∧ Binds K fd ps [] ∧ FnOk P w K mg base (L2.CX P w) C.room f fd ps (liftSp T K (sp C.room))
  blt : ∀ b, mg (bfN b) = none
  rng : mg "range" = none
  enu : mg "enumerate" = none
  zip : mg "zip" = none
  inj : ∀ c d, T.nm c = T.nm d → c = d
  bm : ∀ i, i < 18 → T.nm i = bmN.getD i Str.empty
  ww : T.w = w
structure XOk (T : Nms) (F : List (Addr × HO)) (C : Ctx) (X : Cx) (sc : Scope) (N : List Str) : Prop where
  g : GOk T X.prog X.w X.K X.mg X.base C
  sc : X.env.scope = sc
  N : X.N = N
  nd : X.N.Nodup
  calm : X.calm = true
  room : Room C.room X.A
  tk : Takes X (liftW T X.K F C.E)
section
variable {T : Nms} {F : List (Addr × HO)} {C : Ctx} {X : Cx} {sc : Scope} {N : List Str}
theorem XOk.gl (o : XOk T F C X sc N) {x : Str} (h : glB sc x = true) : Gl X x ∧ (x == ("__debug__" : Str)) = false ∧ x ≠ "__name__" := by
  unfold glB at h
  rw [Bool.and_eq_true, decide_eq_true_eq] at h
  refine ⟨?_, (dbg_of h.2).1, (dbg_of h.2).2.2⟩
  show X.env.scope.names.lookup x = _
  rw [o.sc]
  exact h.1
theorem Pst.step {K : PySem.W.Frag} {H H1 : Hp} {Qz : ZQ} {Q : VK} (p : Pst T K F H Qz Q) (t : TupLe K H H1) : Pst T K F H1 Qz Q := fun H' v w Z' t' => p H' v w Z' (t.trans t')

theorem Now.sub {T : Nms} {K : PySem.W.Frag} {F F' : List (Addr × HO)} {H : Hp} {Z : Zp} (n : Now T K F' H Z) (h : F ⊆ F') : Now T K F H Z := ⟨n.z, fun p hp => n.f p (h hp)⟩
/-! ### the constructs one by one -/
theorem r_bin {op : Operator} {a b : ME} {x y : Expr} {pos : Pos} {r : R2} (ho : OpR X (binaryOp op) r) (hz : ∀ F, R2Z T X.K F (wpBin op) r) (ha : PE X x (lE T X.K F C a)) (hb : PE X y (lE T X.K F C b)) : PE X (.BinOp x op y pos) (lE T X.K F C (.bin op a b)) := by
  refine PE.up (pe_op ho ha hb) ?_
  rintro σ H Q ⟨F', ς, Z, Qz, hF', rs, n, h, p⟩
  exact ⟨F', ς, Z, _, hF', rs, n, h, fun H1 v1 w1 Z1 t1 r1 z1 f1 q1 => ⟨F', ς, Z1, _, hF', rs.mono t1, ⟨z1, f1⟩, q1, fun H2 v2 w2 Z2 t2 r2 z2 f2 q2 => hz F' ⟨z2, f2⟩ (r1.mono t2) r2 q2 (p.step (t1.trans t2))⟩⟩
theorem r_cmp {op : CmpOp} {a b : ME} {x y : Expr} {pos : Pos} {r : R2} (ho : OpR X (compareOp op) r) (hz : ∀ F, R2Z T X.K F (wpCmp op) r) (hm : isSetE y = false) (ha : PE X x (lE T X.K F C a)) (hb : PE X y (lE T X.K F C b)) : PE X (.Compare x [op] [y] pos) (lE T X.K F C (.cmp op a b)) := by
  refine PE.up (pe_cmpR ho ha hb (mark_plain hm)) ?_
  rintro σ H Q ⟨F', ς, Z, Qz, hF', rs, n, h, p⟩
  exact ⟨F', ς, Z, _, hF', rs, n, h, fun H1 v1 w1 Z1 t1 r1 z1 f1 q1 => ⟨F', ς, Z1, _, hF', rs.mono t1, ⟨z1, f1⟩, q1, fun H2 v2 w2 Z2 t2 r2 z2 f2 q2 => hz F' ⟨z2, f2⟩ (r1.mono t2) r2 q2 (p.step (t1.trans t2))⟩⟩
/-- a comparison gives a bool -/
theorem wpCmp_bl {op : CmpOp} {a b : W} {Z : Zp} {Q : ZQ} (h : wpCmp op a b Z Q) : wpCmp op a b Z fun w Z' => (∃ k, w = .bl k) ∧ Q w Z' := by
  have eqc : ∀ neg, wpEq neg a b Z Q → wpEq neg a b Z fun w Z' => (∃ k, w = .bl k) ∧ Q w Z' := fun neg h => by
    unfold wpEq at h ⊢
    split at h
    · exact ⟨⟨_, rfl⟩, h⟩
    · exact ⟨⟨_, rfl⟩, h⟩
    · exact ⟨⟨_, rfl⟩, h⟩
    · exact ⟨⟨_, rfl⟩, h⟩
    · obtain ⟨d, e, h1, h2, h3, h4, h5⟩ := h
      exact ⟨d, e, h1, h2, h3, h4, ⟨_, rfl⟩, h5⟩
  have inc : ∀ neg, wpIn neg a b Z Q → wpIn neg a b Z fun w Z' => (∃ k, w = .bl k) ∧ Q w Z' := fun neg h => by
    cases b with
    | tup ws => exact ⟨h.1, h.2.1, ⟨_, rfl⟩, h.2.2⟩
    | ro ws => exact ⟨h.1, h.2.1, ⟨_, rfl⟩, h.2.2⟩
    | ref p =>
      cases e : wrl (Z p) with
      | none =>
        simp only [wpIn, e] at h ⊢
        unfold wpInD at h ⊢
        split at h
        · exact ⟨⟨_, rfl⟩, h⟩
        · exact h.elim
      | some ws => simp only [wpIn, e] at h ⊢; exact ⟨h.1, h.2.1, ⟨_, rfl⟩, h.2.2⟩
    | str y => cases a <;> first | exact h.elim | exact ⟨⟨_, rfl⟩, h⟩
    | _ => exact h.elim
  have isc : ∀ neg, wpIs neg a b Z Q → wpIs neg a b Z fun w Z' => (∃ k, w = .bl k) ∧ Q w Z' := fun neg h => by
    cases b <;> first | exact h.elim | exact ⟨⟨_, rfl⟩, h⟩
  cases op with
  | Eq => have h : wpEq false a b Z Q := by cases a <;> exact h
          have := eqc _ h
          cases a <;> exact this
  | NotEq => have h : wpEq true a b Z Q := by cases a <;> exact h
             have := eqc _ h
             cases a <;> exact this
  | Is => have h : wpIs false a b Z Q := by cases a <;> exact h
          have := isc _ h
          cases a <;> exact this
  | IsNot => have h : wpIs true a b Z Q := by cases a <;> exact h
             have := isc _ h
             cases a <;> exact this
  | In => have h : wpIn false a b Z Q := by cases a <;> exact h
          have := inc _ h
          cases a <;> exact this
  | NotIn => have h : wpIn true a b Z Q := by cases a <;> exact h
             have := inc _ h
             cases a <;> exact this
  | _ => cases a <;> cases b <;> first | exact h.elim | exact ⟨⟨_, rfl⟩, h⟩
/-- the rules of the comparisons -/
theorem in1_8 {A : Around} (hu : A.units + 64 < cLine) : A.in1.units + 8 < cLine := by
  show A.units + 1 + 8 < cLine
  omega
theorem op_inZ2 (hw : T.w = X.w) (hu : X.A.units + 64 < cLine) : OpR X (compareOp .In) (rInZ2 X.K T.w) := by rw [hw]; exact (op_inN (in1_8 hu)).or op_inZ
theorem op_notInZ2 (hw : T.w = X.w) (hu : X.A.units + 64 < cLine) : OpR X (compareOp .NotIn) (rNotInZ2 X.K T.w) := by rw [hw]; exact (op_notInN (in1_8 hu)).or op_notInZ
theorem cmp_rule (X : Cx) (T : Nms) (hw : T.w = X.w) (hu : X.A.units + 64 < cLine) : ∀ op, ∃ r, OpR X (compareOp op) r ∧ ∀ F, R2Z T X.K F (wpCmp op) r
  | .Eq => ⟨_, op_eq.or (op_eqD hu), fun _ => z_eq⟩
  | .NotEq => ⟨_, op_ne.or (op_neD hu), fun _ => z_ne⟩
  | .Lt => ⟨_, op_lt, fun _ => z_lt⟩
  | .LtE => ⟨_, op_le, fun _ => z_le⟩
  | .Gt => ⟨_, op_gt, fun _ => z_gt⟩
  | .GtE => ⟨_, op_ge, fun _ => z_ge⟩
  | .Is => ⟨_, op_isZ, fun _ => z_is⟩
  | .IsNot => ⟨_, op_isNotZ, fun _ => z_isnot⟩
  | .In => ⟨_, op_inZ2 hw hu, fun _ => z_in⟩
  | .NotIn => ⟨_, op_notInZ2 hw hu, fun _ => z_notin⟩
theorem bin_rule (X : Cx) (T : Nms) : ∀ op, opOk op = true → ∃ r, OpR X (binaryOp op) r ∧ ∀ F, R2Z T X.K F (wpBin op) r
  | .Add, _ => ⟨_, op_addZ, fun _ => z_add⟩
  | .Sub, _ => ⟨_, op_sub, fun _ => z_sub⟩
  | .Mult, _ => ⟨_, op_mulZ, fun _ => z_mul⟩
  | .FloorDiv, _ => ⟨_, op_fdivW, fun _ => z_fdiv⟩
  | .Mod, _ => ⟨_, op_mod, fun _ => z_mod⟩
  | .Pow, _ => ⟨_, op_pow, fun _ => z_pow⟩
theorem tru_rep {K : PySem.W.Frag} {H : Hp} {Z : Zp} {w : W} {v : V} {k : Bool} (n : Now T K F H Z) (r : Rep K H w v) (h : truW Z w = some k) : TruV K v H k := by
  cases r with
  | non => cases h; rfl
  | bl b => cases h; rfl
  | int i => cases h; rfl
  | str x => cases h
  | ty x => cases h
  | tup h1 q1 =>
    cases h
    refine .inr (.inl ⟨_, h1, ?_⟩)
    cases q1 <;> rfl
  | ro h1 q1 =>
    cases h
    refine .inl ⟨_, h1.sq, ?_⟩
    cases q1 <;> rfl
  | ref a =>
    cases e : wrl (Z a) with
    | none => simp only [truW, e] at h; cases h
    | some ws =>
      simp only [truW, e] at h
      cases h
      obtain ⟨vs, g, _, q⟩ := n.seq (wrl_inv e)
      refine .inl ⟨vs, g, ?_⟩
      cases q <;> rfl
theorem r_not {a : ME} {x : Expr} {pos : Pos} (ha : PE X x (lE T X.K F C a)) : PE X (.UnaryOp .Not x pos) (lE T X.K F C (.not a)) := by
  refine PE.up (pe_notT ha) ?_
  rintro σ H Q ⟨F', ς, Z, Qz, hF', rs, n, h, p⟩
  refine ⟨F', ς, Z, _, hF', rs, n, h, fun H1 v1 w1 Z1 t1 r1 z1 f1 q1 => ?_⟩
  cases e : truW Z1 w1 with
  | none => simp only [e] at q1
  | some k =>
    simp only [e] at q1
    exact ⟨k, tru_rep ⟨z1, f1⟩ r1 e, (p.step t1).here ⟨z1, f1⟩ (.bl _) q1⟩
theorem r_neg {a : ME} {x : Expr} {pos : Pos} (ha : PE X x (lE T X.K F C a)) : PE X (.UnaryOp .USub x pos) (lE T X.K F C (.neg a)) := by
  refine PE.up (pe_un un_neg ha) ?_
  rintro σ H Q ⟨F', ς, Z, Qz, hF', rs, n, h, p⟩
  refine ⟨F', ς, Z, _, hF', rs, n, h, fun H1 v1 w1 Z1 t1 r1 z1 f1 q1 => ?_⟩
  cases r1 with
  | int i => exact ⟨i, rfl, (p.step t1).here ⟨z1, f1⟩ (.int _) q1⟩
  | _ => exact q1.elim
theorem r_var {i : Nat} {x : Str} {pos : Pos} (hN : X.N[i]? = some x) (hv : Vis X.env.scope x) (hd : nodbg x = true) : PE X (.Name x pos) (lE T X.K F C (.var i)) := by
  refine PE.up (pe_var hN hv (dbg_of hd).1 (dbg_of hd).2.1) ?_
  rintro σ H Q ⟨F', ς, Z, Qz, hF', rs, n, h, p⟩
  have h : (match ς[i]? with
    | some (some w) => Qz w Z
    | _ => False) := h
  rcases e : ς[i]? with _ | o
  · rw [e] at h; exact h.elim
  · rw [e] at h
    cases o with
    | none => exact h.elim
    | some w =>
      obtain ⟨v, h1, h2⟩ := rs.2 i w e
      exact ⟨v, h1, p.here n h2 h⟩
theorem r_const {e : Expr} {v : V} {m : ME} {w : W} (h : PE X e (tC v)) (hw : ∀ ς Z Q, wpE C m ς Z Q → Q w Z) (r : ∀ H, Rep X.K H w v) : PE X e (lE T X.K F C m) := by
  refine PE.up h ?_
  rintro σ H Q ⟨F', ς, Z, Qz, hF', rs, n, h, p⟩
  exact p.here n (r H) (hw _ _ _ h)
theorem r_ix {a b : ME} {x y : Expr} {pos : Pos} (ok : XOk T F C X sc N) (hs : isSlc y = false) (ha : PE X x (lE T X.K F C a)) (hb : PE X y (lE T X.K F C b)) : PE X (.Subscript x y pos) (lE T X.K F C (.ix a b)) := by
  have ixz : IxR X (rIxZ X.K T.w) := by rw [ok.g.ww]; exact (ix_dictN (in1_8 ok.room.units)).or ix_seq
  refine PE.up (pe_ix ixz ha hb (ix_plain hs)) ?_
  rintro σ H Q ⟨F', ς, Z, Qz, hF', rs, n, h, p⟩
  exact ⟨F', ς, Z, _, hF', rs, n, h, fun H1 v1 w1 Z1 t1 r1 z1 f1 q1 => ⟨F', ς, Z1, _, hF', rs.mono t1, ⟨z1, f1⟩, q1, fun H2 v2 w2 Z2 t2 r2 z2 f2 q2 => z_ix ⟨z2, f2⟩ (r1.mono t2) r2 q2 (p.step (t1.trans t2))⟩⟩
theorem r_rev {a : ME} {x : Expr} {k : Nat} {p1 p2 p3 pos : Pos} (ha : PE X x (lE T X.K F C a)) : PE X (.Subscript x (.Slice none none (some (.UnaryOp .USub (.Constant (.int 1) k p1) p2)) p3) pos) (lE T X.K F C (.rev a)) := by
  refine PE.up (pe_revL ha) ?_
  rintro σ H Q ⟨F', ς, Z, Qz, hF', rs, n, h, p⟩
  refine ⟨F', ς, Z, _, hF', rs, n, h, fun H1 v1 w1 Z1 t1 r1 z1 f1 q1 => ?_⟩
  cases r1 with
  | ref a =>
    cases e : wrl (Z1 a) with
    | none => simp only [wpRev, e] at q1
    | some ws =>
      simp only [wpRev, e] at q1
      obtain ⟨vs, g, _, q⟩ := (Now.mk z1 f1).seq (wrl_inv e)
      exact ⟨a, vs, rfl, g, fun r hr => (p.step t1).lst ⟨z1, f1⟩ hr q.reverse q1⟩
  | _ => exact q1.elim
theorem r_ife {t a b : ME} {c x y : Expr} {pos : Pos} (ht : PT X c (lT T X.K F C t)) (ha : PE X x (lE T X.K F C a)) (hb : PE X y (lE T X.K F C b)) : PE X (.IfExp c x y pos) (lE T X.K F C (.ife t a b)) := by
  refine PE.up (pe_ifExp ht ha hb) ?_
  rintro σ H Q ⟨F', ς, Z, Qz, hF', rs, n, h, p⟩
  refine ⟨F', ς, Z, _, hF', rs, n, h, fun H1 k Z1 t1 n1 q1 => ?_⟩
  cases k with
  | true => exact ⟨F', ς, Z1, Qz, hF', rs.mono t1, n1, q1, fun H' v w Z' t' r' z' f' q' => p H' v w Z' (t1.trans t') r' z' f' q'⟩
  | false => exact ⟨F', ς, Z1, Qz, hF', rs.mono t1, n1, q1, fun H' v w Z' t' r' z' f' q' => p H' v w Z' (t1.trans t') r' z' f' q'⟩
/-! lists of expressions -/
theorem r_nil : PA X [] (lA T X.K F C []) := by
  refine PA.up pa_nil ?_
  rintro σ H Q ⟨F', ς, Z, Qz, hF', rs, n, h, p⟩
  exact p H [] [] Z .refl .nil n h
theorem r_cons {a : ME} {as : List ME} {e : Expr} {es : List Expr} (hs : isStar e = false) (ha : PE X e (lE T X.K F C a)) (hr : PA X es (lA T X.K F C as)) : PA X (e :: es) (lA T X.K F C (a :: as)) := by
  refine PA.up (pa_cons ha hr (star_cons hs)) ?_
  rintro σ H Q ⟨F', ς, Z, Qz, hF', rs, n, h, p⟩
  exact ⟨F', ς, Z, _, hF', rs, n, h, fun H1 v1 w1 Z1 t1 r1 z1 f1 q1 => ⟨F', ς, Z1, _, hF', rs.mono t1, ⟨z1, f1⟩, q1, fun H2 vs ws Z2 t2 r2 n2 q2 => p H2 _ _ Z2 (t1.trans t2) (.cons (r1.mono t2) r2) n2 q2⟩⟩
theorem line1000 {n : Nat} (h : n ≤ 1000) : n ≤ sizeLine := Nat.le_trans h (by decide)
theorem r_tup {as : List ME} {es : List Expr} {k : Nat} {pos : Pos} (ha : PA X es (lA T X.K F C as)) : PE X (.Tuple es k pos) (lE T X.K F C (.tup as)) := by
  refine PE.up (pe_tup ha) ?_
  rintro σ H Q ⟨F', ς, Z, Qz, hF', rs, n, h, p⟩
  exact ⟨F', ς, Z, _, hF', rs, n, h, fun H1 vs ws Z1 t1 r1 n1 q1 => ⟨by rw [← r1.length]; exact line1000 q1.1, fun r hr => (p.step t1).tup n1 hr r1 q1.2⟩⟩
theorem r_lst {as : List ME} {es : List Expr} {pos : Pos} (ha : PA X es (lA T X.K F C as)) : PE X (.List es pos) (lE T X.K F C (.lst as)) := by
  refine PE.up (pe_lst ha) ?_
  rintro σ H Q ⟨F', ς, Z, Qz, hF', rs, n, h, p⟩
  exact ⟨F', ς, Z, _, hF', rs, n, h, fun H1 vs ws Z1 t1 r1 n1 q1 => ⟨by rw [← r1.length]; exact line1000 q1.1, fun r hr => (p.step t1).lst n1 hr r1 q1.2⟩⟩
/-- the parts of a slice -/
def lO (T : Nms) (K : PySem.W.Frag) (F : List (Addr × HO)) (C : Ctx) (ms : List ME) : TO := fun σ H Q => ∃ F' ς Z Qz, F ⊆ F' ∧ RepS K H ς σ ∧ Now T K F' H Z ∧ wpA C ms ς Z Qz ∧
  ∀ H' ws Z', TupLe K H H' → Now T K F' H' Z' → Qz ws Z' → ∃ o, partW ws = some o ∧ Q o H'
theorem r_po_none : PO X none (lO T X.K F C []) := ⟨fun pins s σ H Q I h => by
  obtain ⟨F', ς, Z, Qz, hF', rs, n, h, p⟩ := h
  obtain ⟨o, e, q⟩ := p H [] Z .refl n h
  cases e
  exact po_none.run pins s σ H Q I q⟩
theorem r_po_some {a : ME} {e : Expr} (ha : PE X e (lE T X.K F C a)) : PO X (some e) (lO T X.K F C [a]) := ⟨fun pins s σ H Q I h => by
  obtain ⟨F', ς, Z, Qz, hF', rs, n, h, p⟩ := h
  refine (po_some ha).run pins s σ H Q I ?_
  refine ⟨F', ς, Z, _, hF', rs, n, h, fun H1 v1 w1 Z1 t1 r1 z1 f1 q1 => ?_⟩
  obtain ⟨o, e, q⟩ := p H1 [w1] Z1 t1 ⟨z1, f1⟩ q1
  cases r1 with
  | int i => cases e; exact ⟨i, rfl, q⟩
  | _ => cases e⟩
theorem r_sl {a : ME} {lo hi : List ME} {x : Expr} {l u : Option Expr} {p2 pos : Pos} (ha : PE X x (lE T X.K F C a)) (hl : PO X l (lO T X.K F C lo)) (hu : PO X u (lO T X.K F C hi)) : PE X (.Subscript x (.Slice l u none p2) pos) (lE T X.K F C (.sl a lo hi)) := by
  refine PE.up (pe_slice sl_Z ha hl hu) ?_
  rintro σ H Q ⟨F', ς, Z, Qz, hF', rs, n, h, p⟩
  refine ⟨F', ς, Z, _, hF', rs, n, h, fun H1 v1 w1 Z1 t1 r1 z1 f1 q1 => ?_⟩
  refine ⟨F', ς, Z1, _, hF', rs.mono t1, ⟨z1, f1⟩, q1, fun H2 ls Z2 t2 n2 q2 => ?_⟩
  cases e : partW ls with
  | none => simp only [e] at q2
  | some o =>
    simp only [e] at q2
    refine ⟨o, rfl, F', ς, Z2, _, hF', rs.mono (t1.trans t2), n2, q2, fun H3 hs Z3 t3 n3 q3 => ?_⟩
    cases e' : partW hs with
    | none => simp only [e'] at q3
    | some o' =>
      simp only [e'] at q3
      exact ⟨o', rfl, z_sl n3 (r1.mono (t2.trans t3)) q3 (p.step (t1.trans (t2.trans t3)))⟩
/-- two comparisons in a row -/
theorem r_cmp2 {o1 o2 : CmpOp} {a b c : ME} {x y z : Expr} {pos : Pos} (ok : XOk T F C X sc N) (hm1 : isSetE y = false) (hm2 : isSetE z = false) (ha : PE X x (lE T X.K F C a)) (hb : PE X y (lE T X.K F C b)) (hc : PE X z (lE T X.K F C c)) :
    PE X (.Compare x [o1, o2] [y, z] pos) (lE T X.K F C (.cmp2 o1 o2 a b c)) := by
  obtain ⟨r, ho, hz⟩ := cmp_rule X T ok.g.ww ok.room.units o1
  obtain ⟨r', ho', hz'⟩ := cmp_rule X T ok.g.ww ok.room.units o2
  refine PE.up (pe_chain ho ho' ha hb hc (by show behindInMarks o2 z = false; exact mark_plain hm2)) ?_
  rintro σ H Q ⟨F', ς, Z, Qz, hF', rs, n, h, p⟩
  refine ⟨F', ς, Z, _, hF', rs, n, h, fun H1 v1 w1 Z1 t1 r1 z1 f1 q1 => ⟨F', ς, Z1, _, hF', rs.mono t1, ⟨z1, f1⟩, q1, fun H2 v2 w2 Z2 t2 r2 z2 f2 q2 => ?_⟩⟩
  refine hz F' ⟨z2, f2⟩ (r1.mono t2) r2 (wpCmp_bl q2) fun H3 v3 w3 Z3 t3 r3 z3 f3 q3 => ?_
  obtain ⟨⟨k, rfl⟩, q3⟩ := q3
  refine ⟨k, r3.bl_inv, ?_⟩
  cases k with
  | false => exact p H3 _ _ Z3 (t1.trans (t2.trans t3)) (.bl _) z3 f3 q3
  | true => exact ⟨F', ς, Z3, _, hF', rs.mono (t1.trans (t2.trans t3)), ⟨z3, f3⟩, q3, fun H4 v4 w4 Z4 t4 r4 z4 f4 q4 => hz' F' ⟨z4, f4⟩ (r2.mono (t3.trans t4)) r4 q4 (p.step (t1.trans (t2.trans (t3.trans t4))))⟩
/-! and, or by truth -/
theorem r_and1 {a : ME} {e : Expr} {pos : Pos} (ha : PE X e (lE T X.K F C a)) : PE X (.BoolOp .And [e] pos) (lE T X.K F C (.and [a])) := by
  refine PE.up (pe_one ha) ?_
  rintro σ H Q ⟨F', ς, Z, Qz, hF', rs, n, h, p⟩
  exact ⟨F', ς, Z, _, hF', rs, n, h, p⟩
theorem r_or1 {a : ME} {e : Expr} {pos : Pos} (ha : PE X e (lE T X.K F C a)) : PE X (.BoolOp .Or [e] pos) (lE T X.K F C (.or [a])) := by
  refine PE.up (pe_one ha) ?_
  rintro σ H Q ⟨F', ς, Z, Qz, hF', rs, n, h, p⟩
  exact ⟨F', ς, Z, _, hF', rs, n, h, p⟩
theorem r_and {a b : ME} {as : List ME} {e e2 : Expr} {es : List Expr} {pos : Pos} (ha : PE X e (lE T X.K F C a)) (hb : PE X (.BoolOp .And (e2 :: es) pos) (lE T X.K F C (.and (b :: as)))) :
    PE X (.BoolOp .And (e :: e2 :: es) pos) (lE T X.K F C (.and (a :: b :: as))) := by
  refine PE.up (pe_andT ha hb) ?_
  rintro σ H Q ⟨F', ς, Z, Qz, hF', rs, n, h, p⟩
  refine ⟨F', ς, Z, _, hF', rs, n, h, fun H1 v1 w1 Z1 t1 r1 z1 f1 q1 => ?_⟩
  cases e : truW Z1 w1 with
  | none => simp only [e] at q1
  | some k =>
    simp only [e] at q1
    refine ⟨k, tru_rep ⟨z1, f1⟩ r1 e, ?_⟩
    cases k with
    | true => exact ⟨F', ς, Z1, _, hF', rs.mono t1, ⟨z1, f1⟩, q1, p.step t1⟩
    | false => exact (p.step t1).here ⟨z1, f1⟩ r1 q1
theorem r_or {a b : ME} {as : List ME} {e e2 : Expr} {es : List Expr} {pos : Pos} (ha : PE X e (lE T X.K F C a)) (hb : PE X (.BoolOp .Or (e2 :: es) pos) (lE T X.K F C (.or (b :: as)))) :
    PE X (.BoolOp .Or (e :: e2 :: es) pos) (lE T X.K F C (.or (a :: b :: as))) := by
  refine PE.up (pe_orT ha hb) ?_
  rintro σ H Q ⟨F', ς, Z, Qz, hF', rs, n, h, p⟩
  refine ⟨F', ς, Z, _, hF', rs, n, h, fun H1 v1 w1 Z1 t1 r1 z1 f1 q1 => ?_⟩
  cases e : truW Z1 w1 with
  | none => simp only [e] at q1
  | some k =>
    simp only [e] at q1
    refine ⟨k, tru_rep ⟨z1, f1⟩ r1 e, ?_⟩
    cases k with
    | false => exact ⟨F', ς, Z1, _, hF', rs.mono t1, ⟨z1, f1⟩, q1, p.step t1⟩
    | true => exact (p.step t1).here ⟨z1, f1⟩ r1 q1
/-! tests -/
theorem t_val {a : ME} {e : Expr} (hs : tstE e = false) (ha : PE X e (lE T X.K F C a)) : PT X e (lT T X.K F C (.tv a)) := by
  refine PT.up (pt_truth ha (true_plain hs)) ?_
  rintro σ H Q ⟨F', ς, Z, Qz, hF', rs, n, h, p⟩
  refine ⟨F', ς, Z, _, hF', rs, n, h, fun H1 v1 w1 Z1 t1 r1 z1 f1 q1 => ?_⟩
  cases e : truW Z1 w1 with
  | none => simp only [e] at q1
  | some k =>
    simp only [e] at q1
    exact ⟨k, tru_rep ⟨z1, f1⟩ r1 e, p H1 k Z1 t1 ⟨z1, f1⟩ q1⟩
theorem t_cmp {op : CmpOp} {a b : ME} {x y : Expr} {pos : Pos} {r : R2} (ho : OpR X (compareOp op) r) (hz : ∀ F, R2Z T X.K F (wpCmp op) r) (hm : isSetE y = false) (ha : PE X x (lE T X.K F C a)) (hb : PE X y (lE T X.K F C b)) : PT X (.Compare x [op] [y] pos) (lT T X.K F C (.tv (.cmp op a b))) := by
  refine PT.up (pt_cmpR ho ha hb (mark_plain hm)) ?_
  rintro σ H Q ⟨F', ς, Z, Qz, hF', rs, n, h, p⟩
  refine ⟨F', ς, Z, _, hF', rs, n, h, fun H1 v1 w1 Z1 t1 r1 z1 f1 q1 => ⟨F', ς, Z1, _, hF', rs.mono t1, ⟨z1, f1⟩, q1, fun H2 v2 w2 Z2 t2 r2 z2 f2 q2 => hz F' ⟨z2, f2⟩ (r1.mono t2) r2 (wpCmp_bl q2) fun H3 v3 w3 Z3 t3 r3 z3 f3 q3 => ?_⟩⟩
  obtain ⟨⟨k, rfl⟩, q3⟩ := q3
  exact ⟨k, r3.bl_inv, p H3 k Z3 (t1.trans (t2.trans t3)) ⟨z3, f3⟩ q3⟩
theorem t_cmp2 {o1 o2 : CmpOp} {a b c : ME} {x y z : Expr} {pos : Pos} (ok : XOk T F C X sc N) (hm1 : isSetE y = false) (hm2 : isSetE z = false) (ha : PE X x (lE T X.K F C a)) (hb : PE X y (lE T X.K F C b)) (hc : PE X z (lE T X.K F C c)) :
    PT X (.Compare x [o1, o2] [y, z] pos) (lT T X.K F C (.tv (.cmp2 o1 o2 a b c))) := by
  obtain ⟨r, ho, hz⟩ := cmp_rule X T ok.g.ww ok.room.units o1
  obtain ⟨r', ho', hz'⟩ := cmp_rule X T ok.g.ww ok.room.units o2
  refine PT.up (pt_chain ho ho' ha hb hc (by show behindInMarks o2 z = false; exact mark_plain hm2)) ?_
  rintro σ H Q ⟨F', ς, Z, Qz, hF', rs, n, h, p⟩
  refine ⟨F', ς, Z, _, hF', rs, n, h, fun H1 v1 w1 Z1 t1 r1 z1 f1 q1 => ⟨F', ς, Z1, _, hF', rs.mono t1, ⟨z1, f1⟩, q1, fun H2 v2 w2 Z2 t2 r2 z2 f2 q2 => ?_⟩⟩
  refine hz F' ⟨z2, f2⟩ (r1.mono t2) r2 (wpCmp_bl q2) fun H3 v3 w3 Z3 t3 r3 z3 f3 q3 => ?_
  obtain ⟨⟨k, rfl⟩, q3⟩ := q3
  refine ⟨k, r3.bl_inv, ?_⟩
  cases k with
  | false => exact ⟨false, rfl, p H3 false Z3 (t1.trans (t2.trans t3)) ⟨z3, f3⟩ q3⟩
  | true =>
    refine ⟨F', ς, Z3, _, hF', rs.mono (t1.trans (t2.trans t3)), ⟨z3, f3⟩, q3, fun H4 v4 w4 Z4 t4 r4 z4 f4 q4 => hz' F' ⟨z4, f4⟩ (r2.mono (t3.trans t4)) r4 (wpCmp_bl q4) fun H5 v5 w5 Z5 t5 r5 z5 f5 q5 => ?_⟩
    obtain ⟨⟨k, rfl⟩, q5⟩ := q5
    exact ⟨k, r5.bl_inv, p H5 k Z5 (t1.trans (t2.trans (t3.trans (t4.trans t5)))) ⟨z5, f5⟩ q5⟩
theorem t_not {a : ME} {e : Expr} {pos : Pos} (ha : PT X e (lT T X.K F C a)) : PT X (.UnaryOp .Not e pos) (lT T X.K F C (.tnot a)) := by
  refine PT.up (pt_not ha) ?_
  rintro σ H Q ⟨F', ς, Z, Qz, hF', rs, n, h, p⟩
  exact ⟨F', ς, Z, _, hF', rs, n, h, fun H1 k Z1 t1 n1 q1 => p H1 _ Z1 t1 n1 q1⟩
theorem t_and1 {a : ME} {e : Expr} {pos : Pos} (ha : PT X e (lT T X.K F C a)) : PW X (.BoolOp .And [e] pos) (lT T X.K F C (.tand [a])) := by
  refine ⟨fun wh pins s σ H Q I h => (pw_and1 ha).run wh pins s σ H Q I ?_⟩
  obtain ⟨F', ς, Z, Qz, hF', rs, n, h, p⟩ := h
  exact ⟨F', ς, Z, _, hF', rs, n, h, p⟩
theorem t_or1 {a : ME} {e : Expr} {pos : Pos} (ha : PT X e (lT T X.K F C a)) : PW X (.BoolOp .Or [e] pos) (lT T X.K F C (.tor [a])) := by
  refine ⟨fun wh pins s σ H Q I h => (pw_or1 ha).run wh pins s σ H Q I ?_⟩
  obtain ⟨F', ς, Z, Qz, hF', rs, n, h, p⟩ := h
  exact ⟨F', ς, Z, _, hF', rs, n, h, p⟩
theorem t_and {a b : ME} {as : List ME} {e e2 : Expr} {es : List Expr} {pos : Pos} (ha : PT X e (lT T X.K F C a)) (hb : PW X (.BoolOp .And (e2 :: es) pos) (lT T X.K F C (.tand (b :: as)))) : PW X (.BoolOp .And (e :: e2 :: es) pos) (lT T X.K F C (.tand (a :: b :: as))) := by
  refine ⟨fun wh pins s σ H Q I h => (pw_and ha hb).run wh pins s σ H Q I ?_⟩
  obtain ⟨F', ς, Z, Qz, hF', rs, n, h, p⟩ := h
  refine ⟨F', ς, Z, _, hF', rs, n, h, fun H1 k Z1 t1 n1 q1 => ?_⟩
  cases k with
  | true => exact ⟨F', ς, Z1, _, hF', rs.mono t1, n1, q1, fun H' b Z' t' n' q' => p H' b Z' (t1.trans t') n' q'⟩
  | false => exact p H1 false Z1 t1 n1 q1
theorem t_or {a b : ME} {as : List ME} {e e2 : Expr} {es : List Expr} {pos : Pos} (ha : PT X e (lT T X.K F C a)) (hb : PW X (.BoolOp .Or (e2 :: es) pos) (lT T X.K F C (.tor (b :: as)))) : PW X (.BoolOp .Or (e :: e2 :: es) pos) (lT T X.K F C (.tor (a :: b :: as))) := by
  refine ⟨fun wh pins s σ H Q I h => (pw_or ha hb).run wh pins s σ H Q I ?_⟩
  obtain ⟨F', ς, Z, Qz, hF', rs, n, h, p⟩ := h
  refine ⟨F', ς, Z, _, hF', rs, n, h, fun H1 k Z1 t1 n1 q1 => ?_⟩
  cases k with
  | false => exact ⟨F', ς, Z1, _, hF', rs.mono t1, n1, q1, fun H' b Z' t' n' q' => p H' b Z' (t1.trans t') n' q'⟩
  | true => exact p H1 true Z1 t1 n1 q1
theorem r_blt {b : BF} {as : List ME} {e : Expr} {es : List Expr} {x : Str} {p pos : Pos} {r : List V → Hp → VK → Prop} (ok : XOk T F C X sc N) (hx : x = bfN b) (hg : glB sc x = true) (hes : ∀ y ∈ e :: es, isStar y = false)
    (hc : (∃ id, CallR X (.builtin id) r ∧ bootBuiltins x = some (.builtin id)) ∨ ∃ id, CallR X (.type id) r ∧ bootBuiltins x = some (.type id)) (hz : ∀ F, CallZ T X.K F (wpB b) r) (ha : PA X (e :: es) (lA T X.K F C as)) :
    PE X (.Call (.Name x p) (e :: es) [] pos) (lE T X.K F C (.blt b as)) := by
  obtain ⟨g1, g2, g3⟩ := ok.gl hg
  have hm : X.mg x = none := by rw [hx]; exact ok.g.blt b
  have key : PE X (.Call (.Name x p) (e :: es) [] pos) (tCB r (lA T X.K F C as)) := by
    rcases hc with ⟨id, h1, h2⟩ | ⟨id, h1, h2⟩
    · exact pe_callB h1 g1 hm h2 ha g3 g2 (star_cons (hes e List.mem_cons_self)) (plain_of fun y hy => hes y (List.mem_cons_of_mem _ hy))
    · exact pe_callTy h1 g1 hm h2 ha g3 g2 (star_cons (hes e List.mem_cons_self)) (plain_of fun y hy => hes y (List.mem_cons_of_mem _ hy))
  refine PE.up key ?_
  rintro σ H Q ⟨F', ς, Z, Qz, hF', rs, n, h, p⟩
  exact ⟨F', ς, Z, _, hF', rs, n, h, fun H1 vs ws Z1 t1 r1 n1 q1 => hz F' n1 r1 q1 (p.step t1)⟩
theorem blt_rule (ok : XOk T F C X sc N) : ∀ b, bltOk b = true → ∃ r, ((∃ id, CallR X (.builtin id) r ∧ bootBuiltins (bfN b) = some (.builtin id)) ∨ ∃ id, CallR X (.type id) r ∧ bootBuiltins (bfN b) = some (.type id)) ∧ ∀ F, CallZ T X.K F (wpB b) r
  | .len, _ => ⟨_, .inl ⟨_, call_lenZ, by decide +kernel⟩, fun _ => z_len⟩
  | .int, _ => ⟨_, .inr ⟨_, call_int1, by decide +kernel⟩, fun _ => z_int⟩
  | .abs, _ => ⟨_, .inl ⟨_, call_abs, by decide +kernel⟩, fun _ => z_abs⟩
  | .tuple, _ => ⟨_, .inr ⟨_, call_tuple_of, by decide +kernel⟩, fun _ => z_tuple⟩
  | .list, _ => ⟨_, .inr ⟨_, call_list_of, by decide +kernel⟩, fun _ => z_list⟩
  | .isi, _ => ⟨_, .inl ⟨_, call_isi, by decide +kernel⟩, fun _ => z_isi⟩
  | .min, _ => ⟨_, .inl ⟨_, call_min2 ok.calm, by decide +kernel⟩, fun _ => z_min⟩
  | .max, _ => ⟨_, .inl ⟨_, call_max2 ok.calm, by decide +kernel⟩, fun _ => z_max⟩
  | .sum, _ => ⟨_, .inl ⟨_, cr_sum ok.calm, by decide +kernel⟩, fun _ => z_sum⟩
  | .any, _ => ⟨_, .inl ⟨_, cr_any ok.calm, by decide +kernel⟩, fun _ => z_any⟩
  | .all, _ => ⟨_, .inl ⟨_, cr_all ok.calm, by decide +kernel⟩, fun _ => z_all⟩
/-- a call of a def -/
theorem r_call {f : Nat} {as : List ME} {e : Expr} {es : List Expr} {x : Str} {p pos : Pos} (ok : XOk T F C X sc N) (hx : x = T.nm f) (hg : glB sc x = true) (hes : ∀ y ∈ e :: es, isStar y = false) (ha : PA X (e :: es) (lA T X.K F C as)) :
    PE X (.Call (.Name x p) (e :: es) [] pos) (lE T X.K F C (.call f as)) := by
  obtain ⟨g1, g2, g3⟩ := ok.gl hg
  cases esp : C.fn f with
  | none =>
    refine ⟨fun pins s σ H Q I h => ?_⟩
    obtain ⟨F', ς, Z, Qz, hF', rs, n, h, p⟩ := h
    simp only [wpE, esp] at h
  | some sp =>
    obtain ⟨fa, fd, ps, hm, hk, hb, hF⟩ := ok.g.fn f sp esp
    refine PE.up (pe_callSD hF ok.room g1 (by rw [hx]; exact hm) hk hb .nil (fun σ => passAt ok.tk σ) ha g2 (star_cons (hes e List.mem_cons_self)) (plain_of fun y hy => hes y (List.mem_cons_of_mem _ hy))) ?_
    rintro σ H Q ⟨F', ς, Z, Qz, hF', rs, n, h, p⟩
    simp only [wpE, esp] at h
    refine ⟨F', ς, Z, _, hF', rs, n, h, fun H1 vs ws Z1 t1 r1 n1 q1 => ?_⟩
    show liftSp T X.K (sp C.room) (vs ++ []) H1 Q (WE (liftW T X.K F C.E) σ)
    rw [List.append_nil]
    refine ⟨ws, Z1, F', Qz, _, r1, n1, q1, fun H' v w Z' t' r' z' f' q' => p H' v w Z' (t1.trans t') r' z' f' q', fun H' c fs Z' cls d t' er n' ez => ?_⟩
    exact ⟨c, fs, ς, Z', er, rs.mono (t1.trans t'), n'.sub hF', ez⟩
/-! ### displays of dicts -/
def trsOf (T : Nms) (K : PySem.W.Frag) (F : List (Addr × HO)) (C : Ctx) : List ME → List (TE × TE)
  | a :: b :: r => (lE T K F C a, lE T K F C b) :: trsOf T K F C r
  | _ => []
def evenL : List ME → Bool
  | [] => true
  | [_] => false
  | _ :: _ :: r => evenL r
def unpair : List (V × V) → List V
  | [] => []
  | p :: r => p.1 :: p.2 :: unpair r
theorem pairs_read {K : PySem.W.Frag} : ∀ (ms : List ME), evenL ms = true → ∀ {F' : List (Addr × HO)} {σ : L2.St} {H : Hp} {ς : ZSt} {Z : Zp} {Qz : List W → Zp → Prop} {Q : List (V × V) → Hp → Prop}, F ⊆ F' → RepS K H ς σ → Now T K F' H Z → wpA C ms ς Z Qz →
    (∀ H' ws vps Z', TupLe K H H' → Reps K H' ws (unpair vps) → Now T K F' H' Z' → Qz ws Z' → Q vps H') → tPairs (trsOf T K F C ms) σ H Q
  | [], _, F', σ, H, ς, Z, Qz, Q, hF, rs, n, h, p => p H [] [] Z .refl .nil n h
  | [_], e, _, _, _, _, _, _, _, _, _, _, _, _ => by cases e
  | a :: b :: r, e, F', σ, H, ς, Z, Qz, Q, hF, rs, n, h, p => by
    refine ⟨F', ς, Z, _, hF, rs, n, h, fun H1 v1 w1 Z1 t1 r1 z1 f1 q1 => ⟨F', ς, Z1, _, hF, rs.mono t1, ⟨z1, f1⟩, q1, fun H2 v2 w2 Z2 t2 r2 z2 f2 q2 => ?_⟩⟩
    refine pairs_read r e hF (rs.mono (t1.trans t2)) ⟨z2, f2⟩ q2 fun H3 ws vps Z3 t3 r3 n3 q3 => ?_
    exact p H3 (w1 :: w2 :: ws) ((v1, v2) :: vps) Z3 (t1.trans (t2.trans t3)) (.cons (r1.mono (t2.trans t3)) (.cons (r2.mono t3) r3)) n3 q3
theorem pairUp_rep {K : PySem.W.Frag} {H : Hp} : ∀ {vps : List (V × V)} {ws : List W} {ps : List (W × W)}, Reps K H ws (unpair vps) → pairUp ws = some ps → Paired (fun (p : W × W) (q : V × V) => Rep K H p.1 q.1 ∧ Rep K H p.2 q.2) ps vps
  | [], _, ps, .nil, e => by cases e; exact .nil
  | (v1, v2) :: vps, _, ps, .cons (w := w1) r1 (.cons (w := w2) (ws := ws) r2 r3), e => by
    have e : (pairUp ws).map ((w1, w2) :: ·) = some ps := e
    cases q : pairUp ws with
    | none => rw [q] at e; cases e
    | some ps' => rw [q] at e; cases e; exact .cons ⟨r1, r2⟩ (pairUp_rep r3 q)
theorem pairs_keys {K : PySem.W.Frag} {H : Hp} : ∀ {vps : List (V × V)} {ps : List (W × W)}, Paired (fun (p : W × W) (q : V × V) => Rep K H p.1 q.1 ∧ Rep K H p.2 q.2) ps vps → (ps.all fun p => (keyOf p.1).isSome) = true →
    Paired (fun (q : V × V) (k : NestedKey) => VKey K H k q.1 ∧ k.depth ≤ 8) vps (ps.map keyD)
  | _, _, .nil, _ => .nil
  | _, _, .cons (a := p) r t, h => by
    rw [List.all_cons, Bool.and_eq_true] at h
    refine .cons ?_ (pairs_keys t h.2)
    obtain ⟨k, hk⟩ := Option.isSome_iff_exists.mp h.1
    have ek : keyD p = k := by unfold keyD; rw [hk]; rfl
    rw [ek]
    exact ⟨r.1.key (keyOf_inv hk).1, (keyOf_inv hk).2⟩
theorem pairs_ents {K : PySem.W.Frag} {H : Hp} : ∀ {vps : List (V × V)} {ps : List (W × W)} {vs : List (Value × Value)}, Paired (fun (p : W × W) (q : V × V) => Rep K H p.1 q.1 ∧ Rep K H p.2 q.2) ps vps → VV vps vs → (ps.all fun p => (keyOf p.1).isSome) = true →
    Paired (EntZ T K H) ps (entsN T.w vs (ps.map keyD))
  | _, _, _, .nil, .nil, _ => .nil
  | _, _, _, .cons (a := p) (b := q) r t, .cons r2 t2, h => by
    rw [List.all_cons, Bool.and_eq_true] at h
    refine .cons ?_ (pairs_ents t t2 h.2)
    obtain ⟨k, hk⟩ := Option.isSome_iff_exists.mp h.1
    have ek : keyD p = k := by unfold keyD; rw [hk]; rfl
    exact ⟨k, q.1, q.2, hk, by rw [ek], r2.1, r.1, r2.2, r.2⟩
theorem r_dct0 {pos : Pos} : PE X (.Dict [] [] pos) (lE T X.K F C (.dct [])) := by
  refine PE.up pe_newN ?_
  rintro σ H Q ⟨F', ς, Z, Qz, hF', rs, n, h, p⟩
  intro a ha hne
  obtain ⟨_, _, _, h⟩ := (show ([] : List (W × W)).length ≤ 15 ∧ (([] : List (W × W)).all fun p => (keyOf p.1).isSome) = true ∧ (([] : List (W × W)).map keyD).Nodup ∧ ∀ r, Z r = none → Qz (.ref r) (upz Z r (.dct 0 [])) from h)
  exact p _ _ _ _ (.new ha) (.ref _) (n.z.new (z := .dct 0 []) ha ⟨#[], upd_same, hne, Nat.zero_le _, List.nodup_nil, .nil⟩) (n.f.new ha) (h a (n.z.fresh ha))
theorem r_dct {ms : List ME} {pos : Pos} {keys : List (Option Expr)} {values : List Expr} (ok : XOk T F C X sc N) (hp : PPs X pos keys values (trsOf T X.K F C ms)) (hev : evenL ms = true) (hlm : ms.length = 2 * keys.length) (hall : keys.all (·.isSome) = true) (hl : keys.length = values.length) (h0 : keys ≠ [])
    (h15 : keys.length ≤ 15) : PE X (.Dict keys values pos) (lE T X.K F C (.dct ms)) := by
  have hu : X.A.units + 8 < cLine := by have := ok.room.units; omega
  refine PE.up (pe_dispN hu hp hall hl h0 h15) ?_
  rintro σ H Q ⟨F', ς, Z, Qz, hF', rs, n, h, p⟩
  intro a ha hne
  have n1 : Now T X.K ((a, .ext (DX a #[] 0)) :: F') (upd H a (.ext (DX a #[] 0))) Z := ⟨n.z.hid ha, fun q hq => by
    rcases List.mem_cons.mp hq with e | hq
    · subst e; exact ⟨upd_same, n.z.fresh ha⟩
    · exact n.f.hid ha q hq⟩
  refine pairs_read ms hev (F' := (a, .ext (DX a #[] 0)) :: F') (fun x hx => List.mem_cons_of_mem _ (hF' hx)) (rs.mono (.new ha)) n1 h fun H2 ws vps Z2 t2 r2 n2 q2 => ?_
  obtain ⟨e2, za⟩ := n2.f (a, .ext (DX a #[] 0)) List.mem_cons_self
  refine ⟨e2, ?_⟩
  cases e : pairUp ws with
  | none => rw [e] at q2; exact q2.elim
  | some ps =>
    rw [e] at q2
    obtain ⟨k0, k1, k2, k3⟩ := q2
    have pr := pairUp_rep r2 e
    refine ⟨ps.map keyD, pairs_keys pr k1, k2, fun vs es hv he => ?_⟩
    rw [List.length_map]
    have tt : TupLe X.K H2 (upd H2 a (.ext (DX a es ps.length))) := .put e2 rfl
    have hlen : ps.length ≤ sizeLine := by rw [sizeLine_eq]; omega
    refine p _ _ _ _ ((TupLe.new ha).trans (t2.trans tt)) (.ref _) (n2.z.put (z := .dct ps.length ps) e2 rfl ⟨es, upd_same, hne, hlen, k2, ?_⟩) (fun q hq => ?_) (k3 a za)
    · rw [he, ← ok.g.ww]
      exact pairedMap (fun _ _ x => x.mono tt) (pairs_ents pr hv k1)
    · have ne : q.1 ≠ a := fun x => by have := (n.f q hq).1; rw [x, ha] at this; cases this
      obtain ⟨g1, g2⟩ := n2.f q (List.mem_cons_of_mem _ hq)
      exact ⟨by rw [upd_ne ne]; exact g1, by rw [upz_ne ne]; exact g2⟩
end
end ZL

/-! The Z layer, 8: methods, targets, what is walked, comprehensions. -/
namespace ZL
open PySem PySem.Spec PyProof.Rows L2 RZ

theorem call_mth {prog : Program} {w : World} {A : Around} {E : Value → Shared → Prop} {s : Shared} {env : Env} {o : Expr} {name : Str} {apos pos : Pos} {args : List Expr} {Q : Value → Shared → Prop}
    (hbase : attributeBase o name env (eval o env) = eval o env) (hst : ∀ e ∈ args, isStar e = false) (hlen : args.length < 30) (hline : apos.endLine = pos.line)
    (h : wpAny (model prog w) A (eval o env) (fun ov s₁ => ∀ pl, wpAny (model prog w) A (getMethod ov name pl) (fun fx s₂ => wpAny (model prog w) A (callWith pos fx.1 fx.2 (backTo pos (starEach args env)) []) Q E s₂) E s₁) E s) :
    wpAny (model prog w) A (eval (.Call (.Attribute o name apos) args [] pos) env) Q E s := by
  rw [arm_eval_Call, hbase]
  refine wpAny_bind (wpAny_mono h (fun ov s₁ h₁ => ?_) fun _ _ e => e)
  refine wpAny_bind (wpAny_standAt ?_)
  have hall : (backTo pos (starEach args env)).all (!·.1) = true := by
    have q := plain_of (env := env) (pos := pos) hst
    rw [List.all_eq_not_any_not]
    simpa using q
  have few : methodCallForm (args.length + ([] : List Keyword).length) (backTo pos (starEach args env)) (backToKw pos (keywordEach [] env)) = true := by
    unfold methodCallForm
    rw [hall]
    show (true && ([] : List (Option Str × Sem Value)).all (·.1.isSome) && decide (args.length + 0 + (if ([] : List (Option Str × Sem Value)).isEmpty then 0 else 1) < 30)) = true
    simpa using hlen
  have hpos : methodCallPos true o env apos pos = pure pos := by unfold methodCallPos; simp [hline]
  unfold methodCall
  rw [few]
  refine wpAny_bind (wpAny_holding ?_)
  show wpAny _ _ (getMethod ov name _) _ _ _
  refine wpAny_mono (h₁ _) (fun fx s₂ h₂ => ?_) fun _ _ e => e
  exact wpAny_bind (wpAny_of_eq hpos h₂)
section
variable {X : Cx} {o e : Expr} {es : List Expr} {to : TE} {t : TA} {name : Str} {apos pos : Pos}
/-- what kind of built-in x is; a dict, too -/
def tyZ (K : PySem.W.Frag) (Ty : String) (x : V) (H : Hp) : Prop := tyV K Ty x H ∨ (Ty = "dict" ∧ ∃ a es ep, x = .ref a ∧ H a = some (.ext (DX a es ep)))
theorem tyZ_is {pins : List (Addr × Obj)} {σ : L2.St} {H : Hp} {s : Shared} {T : String} {x : V} {v : Value} (I : Inv X pins σ H s) (r : RelV x v) (ty : tyZ X.K T x H) :
    s.TypeIs v T ∧ ∀ a, v = .ref a → ∃ ob, s.heap.get? a = some ob ∧ ob.dict = none := by
  rcases ty with ty | ⟨rfl, a, es, ep, rfl, h⟩
  · exact tyV_is I r ty
  · obtain rfl : v = .ref a := r
    have x := (I.hok _ _ h).1
    refine ⟨DX.typeIs x, fun b e => ?_⟩
    cases e
    obtain ⟨o, ho, hc, _⟩ := x
    exact ⟨o, ho, hc.2.1⟩
/-- o.m(..): a built-in's method, or an own class's, by what o is -/
def tMth (X : Cx) (name : Str) (to : TE) (t : TA) : TE := fun σ H Q => to σ H fun x H1 =>
  (∃ Ty id r, PlainAttrs Ty ∧ Slot Ty name id ∧ typeOf (.builtin id) = pure (.type "method_descriptor") ∧ MtR X id r ∧ tyZ X.K Ty x H1 ∧ t σ H1 fun xs H2 => r x xs H2 Q) ∨
  (∃ (a C dx : Addr) (fs : List (Str × V)) (f : Addr) (fd : FuncData) (ps : List Str) (sp : Sp) (k : Nat) (E : XK), x = .ref a ∧ H1 a = some (.ins C dx fs) ∧ Cls X.K C ∧ Meth X.K C name f ∧ fs.lookup name = none ∧
    FnOk X.prog X.w X.K X.mg X.base (L2.CX X.prog X.w) k f fd ps sp ∧ Room k X.A ∧ Binds X.K fd ps [] ∧ PassesAt (L2.CX X.prog X.w) X σ E ∧ t σ H1 fun vs H2 => sp (x :: vs) H2 Q E)
theorem pe_mth (hbase : attributeBase o name X.env (eval o X.env) = eval o X.env) (hst : ∀ e ∈ es, isStar e = false) (hlen : es.length < 30) (hline : apos.endLine = pos.line) (ho : PE X o to) (ha : PA X es t) (h0 : es = [] → ∀ σ H Q, t σ H Q → Q [] H) :
    PE X (.Call (.Attribute o name apos) es [] pos) (tMth X name to t) := by
  refine ⟨fun pins s σ H Q I h => ?_⟩
  refine call_mth hbase hst hlen hline (thn (ho.run pins s σ H _ I h) fun v s1 ⟨x, H1, I1, r1, q1⟩ pl => ?_)
  rcases q1 with ⟨Ty, id, r, pa, slot, hty, hm, ty, q1⟩ | ⟨a, C, dx, fs, f, fd, ps, sp, k, E, ex, ea, c, hm, hl, hF, hr, hb, hx, q1⟩
  · obtain ⟨h1, h2⟩ := tyZ_is I1 r1 ty
    refine getMethod_builtin h1 pa slot hty h2 ?_
    cases es with
    | nil =>
      refine Calls.callWith_builtin rfl (PySem.evalArgs_none ?_)
      exact hm pins s1 σ H1 x [] v [] Q I1 r1 .nil (h0 rfl _ _ _ q1)
    | cons e es =>
      have hA := ha.run pos pins s1 σ H1 _ I1 q1
      rw [star_cons (hst e List.mem_cons_self)] at hA ⊢
      refine Calls.callWith_builtin (by show (false || (backTo pos (starEach es X.env)).any (·.1)) = false; rw [plain_of fun y hy => hst y (List.mem_cons_of_mem _ hy)]; rfl) (Calls.evalArgs_plain ?_)
      exact thn hA fun us s2 ⟨vs, H2, I2, r2, q2⟩ => hm pins s2 σ H2 x vs v us Q I2 r1 r2 q2
  · subst ex
    obtain rfl : v = Value.ref a := r1
    refine getmeth_ok I1 ea c hm hl ?_
    cases es with
    | nil => exact PySem.W.callWith_K0 (first := [.ref a]) I1.kIn hm.kp (run_fnS (E := fun _ => E) (us := [.ref a]) (vs := [.ref a]) hF hr hb hx I1 (.cons rfl .nil) (h0 rfl _ _ _ q1))
    | cons e es =>
      have hA := ha.run pos pins s1 σ H1 _ I1 q1
      refine PySem.W.callWith_K (first := [.ref a]) (h₀ := X.base) I1.ok.mod.kin hm.kp (thn hA fun us s2 ⟨vs, H2, I2, r, q2⟩ => ⟨I2.kIn, ?_⟩) (star_cons (hst e List.mem_cons_self)) (plain_of fun y hy => hst y (List.mem_cons_of_mem _ hy))
      exact run_fnS (E := fun _ => E) (us := .ref a :: us) (vs := .ref a :: vs) hF hr hb hx I2 (.cons rfl r) q2
end
/-! ### the methods of lists -/
section
variable {T : Nms} {F : List (Addr × HO)} {C : Ctx} {X : Cx} {sc : Scope} {N : List Str}
def MthZ (T : Nms) (K : PySem.W.Frag) (F : List (Addr × HO)) (wp : W → List W → Zp → ZQ → Prop) (r : V → List V → Hp → VK → Prop) : Prop :=
  ∀ {H : Hp} {Z : Zp} {w : W} {x : V} {ws : List W} {vs : List V} {Qz : ZQ} {Q : VK}, Now T K F H Z → Rep K H w x → Reps K H ws vs → wp w ws Z Qz → Pst T K F H Qz Q → r x vs H Q
theorem last_rep {K : PySem.W.Frag} {H : Hp} {ws : List W} {vs : List V} (r : Reps K H ws vs) : Reps K H ws.dropLast vs.dropLast := by
  rw [List.dropLast_eq_take, List.dropLast_eq_take, ← r.length]
  exact r.take _
theorem z_append {K : PySem.W.Frag} : MthZ T K F (wpML 0) rAppend := by
  intro H Z w x ws vs Qz Q n r rs h p
  cases r with
  | ref a =>
    cases e : wrl (Z a) with
    | none => simp only [wpML, e] at h
    | some xs =>
      simp only [wpML, e] at h
      split at h
      · obtain ⟨v, rfl, rv⟩ := reps1 rs
        obtain ⟨us, g, q⟩ := n.lst (wrl_inv e)
        exact ⟨a, us, v, rfl, rfl, g, by rw [← q.length]; exact h.1, p.put n (wrl_inv e) g (q.append (.cons rv .nil)) .non h.2⟩
      all_goals first | contradiction | (exact h.elim)
  | _ => exact h.elim
theorem z_extend {K : PySem.W.Frag} : MthZ T K F (wpML 1) rExtend := by
  intro H Z w x ws vs Qz Q n r rs h p
  cases r with
  | ref a =>
    cases e : wrl (Z a) with
    | none => simp only [wpML, e] at h
    | some xs =>
      simp only [wpML, e] at h
      split at h
      all_goals first | contradiction | skip
      · rename_i b _
        obtain ⟨v, rfl, rv⟩ := reps1 rs
        cases rv
        cases e2 : wrl (Z b) with
        | none => simp only [e2] at h
        | some ys =>
          simp only [e2] at h
          obtain ⟨us, g, q⟩ := n.lst (wrl_inv e)
          obtain ⟨us2, g2, q2⟩ := n.lst (wrl_inv e2)
          exact ⟨a, b, us, us2, rfl, rfl, g, g2, by rw [← q.length, ← q2.length]; exact h.1, p.put n (wrl_inv e) g (q.append q2) .non h.2⟩
  | _ => exact h.elim
theorem z_pop {K : PySem.W.Frag} : MthZ T K F (wpML 2) (fun x vs H Q => rPop x vs H Q ∨ rPopAt x vs H Q) := by
  intro H Z w x ws vs Qz Q n r rs h p
  cases r with
  | ref a =>
    cases e : wrl (Z a) with
    | none => simp only [wpML, e] at h
    | some xs =>
      simp only [wpML, e] at h
      obtain ⟨us, g, q⟩ := n.lst (wrl_inv e)
      split at h
      all_goals first | contradiction | skip
      · cases rs
        cases e2 : xs[xs.length - 1]? with
        | none => simp only [e2] at h
        | some y =>
          simp only [e2] at h
          obtain ⟨v, h1, h2⟩ := q.getW e2
          exact .inl ⟨a, us, v, rfl, rfl, g, by rw [← q.length]; exact h1, p.put n (wrl_inv e) g (last_rep q) h2 h⟩
      · rename_i i _
        obtain ⟨v, rfl, rv⟩ := reps1 rs
        cases rv
        cases e2 : seqIndex? i xs.length with
        | none => simp only [e2] at h
        | some k =>
          simp only [e2] at h
          cases e3 : xs[k]? with
          | none => simp only [e3] at h; exact h.2.2.elim
          | some y =>
            simp only [e3] at h
            obtain ⟨v, h1, h2⟩ := q.getW e3
            exact .inr ⟨a, us, i, k, v, rfl, rfl, g, h.1, h.2.1, by rw [← q.length]; exact e2, h1, p.put n (wrl_inv e) g (q.erase k) h2 h.2.2⟩
  | _ => exact h.elim
theorem z_reverse {K : PySem.W.Frag} : MthZ T K F (wpML 3) rReverse := by
  intro H Z w x ws vs Qz Q n r rs h p
  cases r with
  | ref a =>
    cases e : wrl (Z a) with
    | none => simp only [wpML, e] at h
    | some xs =>
      simp only [wpML, e] at h
      obtain ⟨us, g, q⟩ := n.lst (wrl_inv e)
      split at h
      all_goals first | contradiction | skip
      · cases rs
        exact ⟨a, us, rfl, rfl, g, p.put n (wrl_inv e) g q.reverse .non h⟩
  | _ => exact h.elim
theorem z_clear {K : PySem.W.Frag} : MthZ T K F (wpML 4) rClear := by
  intro H Z w x ws vs Qz Q n r rs h p
  cases r with
  | ref a =>
    cases e : wrl (Z a) with
    | none => simp only [wpML, e] at h
    | some xs =>
      simp only [wpML, e] at h
      obtain ⟨us, g, q⟩ := n.lst (wrl_inv e)
      split at h
      all_goals first | contradiction | skip
      · cases rs
        exact ⟨a, us, rfl, rfl, g, p.put n (wrl_inv e) g .nil .non h⟩
  | _ => exact h.elim
theorem lst_rule (ok : XOk T F C X sc N) : ∀ m, m < 5 → ∃ id r, Slot "list" (T.nm m) id ∧ typeOf (.builtin id) = pure (.type "method_descriptor") ∧ MtR X id r ∧ ∀ F, MthZ T X.K F (wpML m) r
  | 0, _ => ⟨_, _, by rw [ok.g.bm 0 (by decide)]; exact PySem.F.slot_list_append, PySem.F.type_list_append, mt_append, fun _ => z_append⟩
  | 1, _ => ⟨_, _, by rw [ok.g.bm 1 (by decide)]; exact PySem.F.slot_list_extend, PySem.F.type_list_extend, mt_extend, fun _ => z_extend⟩
  | 2, _ => ⟨_, _, by rw [ok.g.bm 2 (by decide)]; exact PySem.F.slot_list_pop, PySem.F.type_list_pop, MtR.or mt_pop mt_popAt, fun _ => z_pop⟩
  | 3, _ => ⟨_, _, by rw [ok.g.bm 3 (by decide)]; exact PySem.F.slot_list_reverse, PySem.F.type_list_reverse, mt_reverse, fun _ => z_reverse⟩
  | 4, _ => ⟨_, _, by rw [ok.g.bm 4 (by decide)]; exact PySem.F.slot_list_clear, PySem.F.type_list_clear, mt_clear, fun _ => z_clear⟩
/-! ### the methods of dicts -/
theorem Paired.modL {α β : Type} {P : α → β → Prop} {f : α → α} {g : β → β} : ∀ {xs : List α} {ys : List β} (i : Nat), Paired P xs ys → (∀ a b, xs[i]? = some a → P a b → P (f a) (g b)) → Paired P (xs.modify i f) (ys.modify i g)
  | _, _, _, .nil, _ => by simp; exact .nil
  | _, _, 0, .cons r t, h => by simp; exact .cons (h _ _ rfl r) t
  | _, _, i + 1, .cons r t, h => by simp; exact .cons r (Paired.modL i t fun a b e q => h a b (by simpa using e) q)
/-- a new entry at the end -/
theorem put_new {K : PySem.W.Frag} {H : Hp} {kvs : List (W × W)} {es : Array DictEntry} {k : NestedKey} {i v : W} {x y : V} {ku u : Value} (pr : Paired (EntZ T K H) kvs es.toList) (hk : keyOf i = some k) (rk : Rep K H i x) (rv : Rep K H v y) (h1 : RelV x ku) (h2 : RelV y u) :
    Paired (EntZ T K H) (kvs ++ [(i, v)]) (es.push ⟨k.hash T.w, ku, u⟩).toList := by
  rw [Array.toList_push]
  exact Paired.snoc' ⟨k, x, y, hk, rfl, h1, rk, h2, rv⟩ pr
theorem nodup_new {kvs : List (W × W)} {k : NestedKey} {i v : W} (nd : (kvs.map keyD).Nodup) (hk : keyOf i = some k) (hn : findN (kvs.map keyD) k = none) : ((kvs ++ [(i, v)]).map keyD).Nodup := by
  have ek : keyD (i, v) = k := by unfold keyD; rw [hk]; rfl
  rw [List.map_append, List.nodup_append]
  refine ⟨nd, by simp, fun a ha b hb => ?_⟩
  simp only [List.map_cons, List.map_nil, List.mem_singleton] at hb
  subst hb
  intro e
  subst e
  unfold findN at hn
  rw [List.findIdx?_eq_none_iff] at hn
  have := hn _ ha
  rw [ek] at this
  simp at this
theorem z_dget {K : PySem.W.Frag} : MthZ T K F (wpMD 7) (rGetN K T.w) := by
  intro H Z w x ws vs Qz Q n r rs h p
  cases r with
  | ref a =>
    rcases hz : Z a with _ | ob
    · simp only [wpMD, hz] at h
    · cases ob with
      | lst _ => simp only [wpMD, hz] at h
      | ins _ _ => simp only [wpMD, hz] at h
      | dct ep kvs =>
      match ws, rs, h with
      | [], _, h => simp only [wpMD, hz] at h
      | _ :: _ :: _ :: _, _, h => simp only [wpMD, hz] at h
      | [i], rs, h =>
        simp only [wpMD, hz] at h
        obtain ⟨v, rfl, rv⟩ := reps1 rs
        cases hk : keyOf i with
        | none => simp only [hk] at h
        | some k =>
          simp only [hk] at h
          refine ⟨v, [], rfl, dsee n hz rv hk fun es D pr => ?_⟩
          cases hg : dget kvs k with
          | some w' =>
            rw [hg] at h
            obtain ⟨u, z, g1, g2, g3⟩ := dget_some pr hg
            exact .inl ⟨u, z, g1, g2, .inl rfl, p.here n g3 h⟩
          | none =>
            rw [hg] at h
            exact .inr ⟨(dget_none pr hg).1, .inl ⟨rfl, p.here n .non h⟩⟩
      | [i, d], rs, h =>
        simp only [wpMD, hz] at h
        obtain ⟨v, v', rfl, rv, rv'⟩ := reps2 rs
        cases hk : keyOf i with
        | none => simp only [hk] at h
        | some k =>
          simp only [hk] at h
          refine ⟨v, [v'], rfl, dsee n hz rv hk fun es D pr => ?_⟩
          cases hg : dget kvs k with
          | some w' =>
            rw [hg] at h
            obtain ⟨u, z, g1, g2, g3⟩ := dget_some pr hg
            exact .inl ⟨u, z, g1, g2, .inr ⟨_, rfl⟩, p.here n g3 h⟩
          | none =>
            rw [hg] at h
            exact .inr ⟨(dget_none pr hg).1, .inr ⟨_, rfl, p.here n rv' h⟩⟩
  | _ => exact h.elim
theorem z_dsetd {K : PySem.W.Frag} : MthZ T K F (wpMD 8) (rDefN K T.w) := by
  intro H Z w x ws vs Qz Q n r rs h p
  cases r with
  | ref a =>
    rcases hz : Z a with _ | ob
    · simp only [wpMD, hz] at h
    · cases ob with
      | lst _ => simp only [wpMD, hz] at h
      | ins _ _ => simp only [wpMD, hz] at h
      | dct ep kvs =>
      match ws, rs, h with
      | [], _, h => simp only [wpMD, hz] at h
      | [_], _, h => simp only [wpMD, hz] at h
      | _ :: _ :: _ :: _, _, h => simp only [wpMD, hz] at h
      | [i, d], rs, h =>
        simp only [wpMD, hz] at h
        obtain ⟨v, v', rfl, rv, rv'⟩ := reps2 rs
        cases hk : keyOf i with
        | none => simp only [hk] at h
        | some k =>
          simp only [hk] at h
          refine ⟨v, v', rfl, dsee n hz rv hk fun es D pr => ?_⟩
          obtain ⟨es', he, hne, hsz, hnd, hpr⟩ := n.z _ _ hz
          cases hg : dget kvs k with
          | some w' =>
            rw [hg] at h
            refine ⟨fun j e h1 h2 => ?_, fun ku u hn _ _ => ?_⟩
            · obtain ⟨u, z, g1, g2, g3⟩ := dget_some pr hg
              unfold gotN at g1
              rw [h1] at g1
              have g1 : (es[j]?).map (·.val) = some u := g1
              rw [h2] at g1
              cases g1
              exact ⟨z, g2, p.here n g3 h⟩
            · obtain ⟨u, z, g1, _⟩ := dget_some pr hg
              unfold gotN at g1
              rw [hn] at g1
              cases g1
          | none =>
            rw [hg] at h
            refine ⟨fun j e h1 _ => ?_, fun ku u hn q1 q2 => ?_⟩
            · rw [(dget_none pr hg).2] at h1; cases h1
            · have t : TupLe K H (upd H a (.ext (DX a (es.push ⟨k.hash T.w, ku, u⟩) (ep + 1)))) := .put D.ob rfl
              refine p _ _ _ _ t (rv'.mono t) (n.z.put (z := .dct (ep + 1) (kvs ++ [(i, d)])) D.ob rfl ⟨_, upd_same, hne, by rw [List.length_append]; exact h.1, nodup_new hnd hk hn, ?_⟩) (n.f.put hz) h.2
              exact pairedMap (fun _ _ x => x.mono t) (put_new pr hk rv rv' q1 q2)
  | _ => exact h.elim
theorem dct_rule (ok : XOk T F C X sc N) : ∀ m, m = 7 ∨ m = 8 → ∃ id r, Slot "dict" (T.nm m) id ∧ typeOf (.builtin id) = pure (.type "method_descriptor") ∧ MtR X id r ∧ ∀ F, MthZ T X.K F (wpMD m) r
  | m, h => by
    rcases h with rfl | rfl
    · exact ⟨_, _, by rw [ok.g.bm 7 (by decide)]; exact PySem.F.slot_dict_get, PySem.F.type_dict_get, mt_getN (in1_8 ok.room.units), fun _ => by rw [← ok.g.ww]; exact z_dget⟩
    · exact ⟨_, _, by rw [ok.g.bm 8 (by decide)]; exact PySem.F.slot_dict_setdefault, PySem.F.type_dict_setdefault, mt_defN (in1_8 ok.room.units), fun _ => by rw [← ok.g.ww]; exact z_dsetd⟩
theorem paired_no {K : PySem.W.Frag} {H : Hp} {m : Nat} (inj : ∀ c d, T.nm c = T.nm d → c = d) : ∀ {fs : List (Nat × W)} {gs : List (Str × V)}, Paired (fun (p : Nat × W) (q : Str × V) => q.1 = T.nm p.1 ∧ Rep K H p.2 q.2) fs gs → (fs.all fun p => p.1 != m) = true → gs.lookup (T.nm m) = none
  | _, _, .nil, _ => rfl
  | _, _, .cons (a := a) (b := b) h t, g => by
    rw [List.all_cons, Bool.and_eq_true] at g
    have ih := paired_no inj t g.2
    obtain ⟨x, y⟩ := b
    have e1 : x = T.nm a.1 := h.1
    have ne : (T.nm m == x) = false := by
      rw [e1]
      refine beq_false_of_ne fun e => ?_
      have := inj _ _ e
      have h2 := g.1
      rw [← this] at h2
      simp at h2
    rw [List.lookup_cons, ne]
    exact ih
/-- a method's call -/
theorem r_mth {m : Nat} {a : ME} {as : List ME} {o : Expr} {es : List Expr} {x : Str} {apos pos : Pos} (ok : XOk T F C X sc N) (hx : x = T.nm m) (hs : isSup o = false) (hl : apos.endLine = pos.line) (hlen : es.length < 30) (hes : ∀ y ∈ es, isStar y = false)
    (ho : PE X o (lE T X.K F C a)) (ha : PA X es (lA T X.K F C as)) (hn : es = [] → as = []) : PE X (.Call (.Attribute o x apos) es [] pos) (lE T X.K F C (.mth m a as)) := by
  refine PE.up (pe_mth (base_plain hs) hes hlen hl ho ha ?_) ?_
  · intro e σ H Q h
    have e2 := hn e
    subst e2
    obtain ⟨F', ς, Z, Qz, hF', rs, n, h, p⟩ := h
    exact p H [] [] Z .refl .nil n h
  · rintro σ H Q ⟨F', ς, Z, Qz, hF', rs, n, h, p⟩
    refine ⟨F', ς, Z, _, hF', rs, n, h, fun H1 v1 w1 Z1 t1 r1 z1 f1 q1 => ?_⟩
    cases e : kndW Z1 w1 with
    | none => simp only [e] at q1
    | some k =>
      cases k with
      | lst =>
        simp only [e] at q1
        by_cases hm : m < 5
        · rw [if_pos hm] at q1
          obtain ⟨id, r, s1, s2, s3, s4⟩ := lst_rule ok m hm
          have ty : tyV X.K "list" v1 H1 := by
            cases r1 with
            | ref b =>
              have key : ∃ xs, Z1 b = some (.lst xs) := by
                rcases e1 : Z1 b with _ | ob
                · simp only [kndW, e1] at e; cases e
                · cases ob with
                  | lst xs => exact ⟨xs, rfl⟩
                  | _ => simp only [kndW, e1] at e; cases e
              obtain ⟨xs, hxs⟩ := key
              obtain ⟨vs, g, _⟩ := (Now.mk z1 f1).seq hxs
              exact .inl ⟨rfl, vs, g⟩
            | _ => cases e
          refine .inl ⟨"list", id, r, PySem.F.plainAttrs_list, by rw [hx]; exact s1, s2, s3, .inl ty, F', ς, Z1, _, hF', rs.mono t1, ⟨z1, f1⟩, q1, fun H2 vs ws Z2 t2 r2 n2 q2 => s4 F' n2 (r1.mono t2) r2 q2 (p.step (t1.trans t2))⟩
        · rw [if_neg hm] at q1; exact q1.elim
      | dct =>
        simp only [e] at q1
        by_cases hm : m = 7 ∨ m = 8
        · rw [if_pos hm] at q1
          obtain ⟨id, r, s1, s2, s3, s4⟩ := dct_rule ok m hm
          have ty : tyZ X.K "dict" v1 H1 := by
            cases r1 with
            | ref b =>
              have key : ∃ ep kvs, Z1 b = some (.dct ep kvs) := by
                rcases e1 : Z1 b with _ | ob
                · simp only [kndW, e1] at e; cases e
                · cases ob with
                  | dct ep kvs => exact ⟨ep, kvs, rfl⟩
                  | _ => simp only [kndW, e1] at e; cases e
              obtain ⟨ep, kvs, hz⟩ := key
              obtain ⟨es, he, _⟩ := z1 _ _ hz
              exact .inr ⟨rfl, b, es, ep, rfl, he⟩
            | _ => cases e
          refine .inl ⟨"dict", id, r, PySem.F.plainAttrs_dict, by rw [hx]; exact s1, s2, s3, ty, F', ς, Z1, _, hF', rs.mono t1, ⟨z1, f1⟩, q1, fun H2 vs ws Z2 t2 r2 n2 q2 => s4 F' n2 (r1.mono t2) r2 q2 (p.step (t1.trans t2))⟩
        · rw [if_neg hm] at q1; exact q1.elim
      | ins c fs =>
        simp only [e] at q1
        cases e2 : C.mth c m with
        | none => simp only [e2] at q1
        | some sp =>
          simp only [e2] at q1
          obtain ⟨f, fd, ps, h1, h2, h3, h4⟩ := ok.g.mth c m sp e2
          cases r1 with
          | ref b =>
            have key : Z1 b = some (.ins c fs) := by
              rcases e1 : Z1 b with _ | ob
              · simp only [kndW, e1] at e; cases e
              · cases ob with
                | ins c' fs' => simp only [kndW, e1] at e; cases e; rfl
                | _ => simp only [kndW, e1] at e; cases e
            obtain ⟨dx, gs, g, pr⟩ := z1 b _ key
            refine .inr ⟨b, T.cl c, dx, gs, f, fd, ps, _, C.room, WE (liftW T X.K F C.E) σ, rfl, g, h1, by rw [hx]; exact h2, by rw [hx]; exact paired_no ok.g.inj pr q1.1, h4, ok.room, h3, passAt ok.tk σ,
              F', ς, Z1, _, hF', rs.mono t1, ⟨z1, f1⟩, q1.2, fun H2 vs ws Z2 t2 r2 n2 q2 => ?_⟩
            refine ⟨.ref b :: ws, Z2, F', Qz, _, .cons (.ref b) r2, n2, q2, p.step (t1.trans t2), fun H' c fs Z' cls d t' er n' ez => ?_⟩
            exact ⟨c, fs, ς, Z', er, rs.mono (t1.trans (t2.trans t')), n'.sub hF', ez⟩
          | _ => cases e
      | _ => simp only [e] at q1
end
end ZL

/-! The Z layer, 9: targets, what is walked, comprehensions. -/
namespace ZL
open PySem PySem.Spec PyProof.Rows L2 RZ
section
variable {T : Nms} {F : List (Addr × HO)} {C : Ctx} {X : Cx} {sc : Scope} {N : List Str}
theorem asg_cons {e : Expr} {es : List Expr} {env : Env} (h : isStar e = false) : assignEach (e :: es) env = (false, assign e env) :: assignEach es env := by
  cases e <;> first | rfl | cases h
theorem asg_len : ∀ {es : List Expr} {env : Env}, (assignEach es env).length = es.length
  | [], _ => rfl
  | e :: es, env => by cases e <;> exact congrArg (· + 1) (asg_len (es := es))
theorem asg_nostar : ∀ {es : List Expr} {env : Env}, (∀ e ∈ es, isStar e = false) → (assignEach es env).findIdx? (·.1) = none
  | [], _, _ => rfl
  | e :: es, env, h => by
    rw [asg_cons (h e List.mem_cons_self), List.findIdx?_cons]
    simp only [Bool.false_eq_true, if_false]
    rw [asg_nostar fun x hx => h x (List.mem_cons_of_mem _ hx)]
    rfl
theorem PG.up {e : Expr} {t0 t : TG} (h : PG X e t0) (w : ∀ v σ H Q, t v σ H Q → t0 v σ H Q) : PG X e t := ⟨fun pins s σ H v u Q I r q => h.run pins s σ H v u Q I r (w v σ H Q q)⟩
theorem PGs.up {es : List Expr} {t0 t : TGs} (h : PGs X es t0) (w : ∀ v σ H Q, t v σ H Q → t0 v σ H Q) : PGs X es t := ⟨fun pins s σ H v u Q I r q => h.run pins s σ H v u Q I r (w v σ H Q q)⟩
theorem g_name {i : Nat} {x : Str} {pos : Pos} (hN : X.N.Nodup) (hi : X.N[i]? = some x) (hx : Loc X.env.scope x) (hf : X.fn x = true ∨ X.env.scope.names.lookup x = some .local) : PG X (.Name x pos) (lG T X.K F (.nm i)) := by
  refine PG.up (pg_name hN hi hx hf) ?_
  rintro v σ H Q ⟨F', ς, Z, w, Qz, hF', rs, n, r, h, p⟩
  refine p H _ _ Z .refl (rs.set r i) n (by rw [List.length_set]) (fun j hj => ?_) h
  rw [List.getElem?_set_ne]
  intro e
  exact hj (by rw [e]; exact List.mem_cons_self)
theorem g_nil : PGs X [] (lGs T X.K F []) := by
  refine PGs.up pgs_nil ?_
  rintro v σ H Q ⟨F', ς, Z, ws, Qz, hF', rs, n, r, h, p⟩
  cases r with
  | nil => exact ⟨rfl, p H σ ς Z .refl rs n rfl (fun _ _ => rfl) h⟩
  | cons _ _ => exact h.elim
theorem g_cons {t : MG} {ts : List MG} {e : Expr} {es : List Expr} (hs : isStar e = false) (h1 : PG X e (lG T X.K F t)) (h2 : PGs X es (lGs T X.K F ts)) : PGs X (e :: es) (lGs T X.K F (t :: ts)) := by
  refine PGs.up (pgs_cons h1 h2 (by rw [asg_cons hs]; rfl)) ?_
  rintro v σ H Q ⟨F', ς, Z, ws, Qz, hF', rs, n, r, h, p⟩
  cases r with
  | nil => exact h.elim
  | cons r rr =>
    refine ⟨_, _, rfl, F', ς, Z, _, _, hF', rs, n, r, h, fun H1 σ1 ς1 Z1 t1 rs1 n1 hl1 hj1 q1 => ?_⟩
    refine ⟨F', ς1, Z1, _, _, hF', rs1, n1, rr.mono t1, q1, fun H2 σ2 ς2 Z2 t2 rs2 n2 hl2 hj2 q2 => ?_⟩
    refine p H2 σ2 ς2 Z2 (t1.trans t2) rs2 n2 (hl2.trans hl1) (fun j hj => ?_) q2
    have hj : j ∉ MG.slots t ++ MG.slotsL ts := hj
    rw [List.mem_append, not_or] at hj
    rw [hj2 j hj.2, hj1 j hj.1]
theorem wpGs_len : ∀ {ts : List MG} {ws : List W} {ς : ZSt} {Z : Zp} {Q : ZSt → Zp → Prop}, wpGs ts ws ς Z Q → True := fun _ => trivial
theorem g_tup {ts : List MG} {es : List Expr} {k : Nat} {pos : Pos} (hc : X.calm = true) (hs : ∀ e ∈ es, isStar e = false) (hl : ts.length = es.length) (h : PGs X es (lGs T X.K F ts)) : PG X (.Tuple es k pos) (lG T X.K F (.tup ts)) := by
  refine PG.up (pg_tup (n := es.length) hc h asg_len (asg_nostar hs)) ?_
  rintro v σ H Q ⟨F', ς, Z, w, Qz, hF', rs, n, r, h, p⟩
  cases r with
  | tup h1 q1 =>
    rename_i ws
    have h : ws.length = ts.length ∧ wpGs ts ws ς Z Qz := h
    exact ⟨_, _, rfl, h1, by rw [← q1.length, h.1, hl], F', ς, Z, _, _, hF', rs, n, q1, h.2, p⟩
  | _ => exact h.elim
/-! what is walked -/
theorem r_ival {m : ME} {tg e : Expr} (ha : PE X e (lE T X.K F C m)) : PI X tg e (lI T X.K F C .val [m]) := by
  refine PI.up (pi_any ha) ?_
  rintro σ H R ⟨F', ς, Z, Rz, hF', rs, n, h, p⟩
  refine ⟨F', ς, Z, _, hF', rs, n, h, fun H1 v1 w1 Z1 t1 r1 z1 f1 q1 => ?_⟩
  have n1 : Now T X.K F' H1 Z1 := ⟨z1, f1⟩
  cases r1 with
  | ref a =>
    cases e : wrl (Z1 a) with
    | none => have q1 : wpI .val [.ref a] Z1 (Rz Z1) := q1; simp only [wpI, e] at q1
    | some xs =>
      have q1 : wpI .val [.ref a] Z1 (Rz Z1) := q1
      simp only [wpI, e] at q1
      obtain ⟨vs, g, gr, q⟩ := n1.seq (wrl_inv e)
      exact .inl ⟨a, rfl, ⟨vs, g⟩, fun l => p H1 _ xs _ Z1 t1 l n1 (fun F2 => it_list.at' H1) (q1 (by rw [q.length]; exact l.1 _ _ gr))⟩
  | tup h1 q =>
    have q1 : wpI .val [.tup _] Z1 (Rz Z1) := q1
    exact .inr (.inl ⟨_, rfl, ⟨_, h1⟩, fun l => p H1 _ _ _ Z1 t1 l n1 (fun F2 => itt_at h1 q) (q1 (by rw [q.length]; exact l.2 _ _ h1))⟩)
  | ro h1 q =>
    have q1 : wpI .val [.ro _] Z1 (Rz Z1) := q1
    exact .inl ⟨_, rfl, ⟨_, h1.sq⟩, fun l => p H1 _ _ _ Z1 t1 l n1 (fun F2 => itf_at h1 q) (q1 (by
      rw [q.length]
      rcases h1 with ⟨o, h1⟩ | ⟨o, its, m, h1, h2, h3, h4, h5, h6⟩
      · exact l.1 _ _ (.inr ⟨o, h1⟩)
      · rw [h6.length, Array.length_toList]; exact h5))⟩
  | str z =>
    have q1 : wpI .val [.str z] Z1 (Rz Z1) := q1
    exact .inr (.inr ⟨z, rfl, fun l => p H1 _ _ _ Z1 t1 l n1 (fun F2 => it_str.at' H1) q1⟩)
  | _ => exact q1.elim
theorem r_irange1 {ms : List ME} {tg a : Expr} {x : Str} {p pos : Pos} (ok : XOk T F C X sc N) (hx : x = "range") (hg : glB sc x = true) (sa : isStar a = false) (ha : PA X [a] (lA T X.K F C ms)) :
    PI X tg (.Call (.Name x p) [a] [] pos) (lI T X.K F C .range1 ms) := by
  subst hx
  obtain ⟨g1, _, _⟩ := ok.gl hg
  refine PI.up (pi_range1 g1 ok.g.rng ha (by rw [star_cons sa]; rfl)) ?_
  rintro σ H R ⟨F', ς, Z, Rz, hF', rs, n, h, p⟩
  refine ⟨F', ς, Z, _, hF', rs, n, h, fun H1 vs ws Z1 t1 r1 n1 q1 => ?_⟩
  match ws, r1, q1 with
  | [w], r1, q1 =>
    obtain ⟨v, rfl, rv⟩ := reps1 r1
    cases rv with
    | int j => exact ⟨j, rfl, q1.1, q1.2.1, fun l => p H1 _ _ _ Z1 t1 l n1 (fun F2 => it_range.at' H1) q1.2.2⟩
    | _ => exact q1.elim
  | [], _, q1 => exact q1.elim
  | w :: w' :: r, _, q1 => cases w <;> exact q1.elim
theorem r_irange2 {ms : List ME} {tg a b : Expr} {x : Str} {p pos : Pos} (ok : XOk T F C X sc N) (hx : x = "range") (hg : glB sc x = true) (sa : isStar a = false) (sb : isStar b = false) (ha : PA X [a, b] (lA T X.K F C ms)) :
    PI X tg (.Call (.Name x p) [a, b] [] pos) (lI T X.K F C .range2 ms) := by
  subst hx
  obtain ⟨g1, _, _⟩ := ok.gl hg
  refine PI.up (pi_range2 g1 ok.g.rng ha (by rw [star_cons sa, star_cons sb]; rfl) (by rw [star_cons sb]; rfl)) ?_
  rintro σ H R ⟨F', ς, Z, Rz, hF', rs, n, h, p⟩
  refine ⟨F', ς, Z, _, hF', rs, n, h, fun H1 vs ws Z1 t1 r1 n1 q1 => ?_⟩
  match ws, r1, q1 with
  | [w, w'], r1, q1 =>
    obtain ⟨v, v', rfl, rv, rv'⟩ := reps2 r1
    cases rv with
    | int i =>
      cases rv' with
      | int j => exact ⟨i, j, rfl, q1.1, fun l => p H1 _ _ _ Z1 t1 l n1 (fun F2 => it_range.at' H1) q1.2⟩
      | _ => exact q1.elim
    | _ => cases rv' <;> exact q1.elim
  | [], _, q1 => exact q1.elim
  | [w], _, q1 => cases w <;> exact q1.elim
  | w :: w' :: w'' :: r, _, q1 => cases w <;> cases w' <;> exact q1.elim
theorem r_ienum {ms : List ME} {a : Expr} {es : List Expr} {k : Nat} {x : Str} {p pos tpos : Pos} (ok : XOk T F C X sc N) (hx : x = "enumerate") (hg : glB sc x = true) (sa : isStar a = false) (ha : PA X [a] (lA T X.K F C ms)) :
    PI X (.Tuple es k tpos) (.Call (.Name x p) [a] [] pos) (lI T X.K F C .enum ms) := by
  subst hx
  obtain ⟨g1, _, _⟩ := ok.gl hg
  refine PI.up (pi_enum g1 ok.g.enu ha (by rw [star_cons sa]; rfl)) ?_
  rintro σ H R ⟨F', ς, Z, Rz, hF', rs, n, h, p⟩
  refine ⟨F', ς, Z, _, hF', rs, n, h, fun H1 vs ws Z1 t1 r1 n1 q1 => ?_⟩
  match ws, r1, q1 with
  | [w], r1, q1 =>
    obtain ⟨v, rfl, rv⟩ := reps1 r1
    cases rv with
    | ro h1 q => exact ⟨_, _, rfl, h1.sq, fun l => p H1 _ _ _ Z1 t1 l n1 (fun F2 => ite_at h1 q) (q1 (by
        rw [q.length]
        rcases h1 with ⟨o, h1⟩ | ⟨o, its, m, h1, h2, h3, h4, h5, h6⟩
        · exact l.1 _ _ (.inr ⟨o, h1⟩)
        · rw [h6.length, Array.length_toList]; exact h5))⟩
    | ref b =>
      cases e : wrl (Z1 b) with
      | none => simp only [wpI, e] at q1
      | some xs =>
        simp only [wpI, e] at q1
        obtain ⟨vs, g, gr, q⟩ := n1.seq (wrl_inv e)
        exact ⟨b, vs, rfl, g, fun l => p H1 _ _ _ Z1 t1 l n1 (fun F2 => it_enum.at' H1) (q1 (by rw [q.length]; exact l.1 _ _ gr))⟩
    | _ => exact q1.elim
  | [], _, q1 => exact q1.elim
  | w :: w' :: r, _, q1 => cases w <;> exact q1.elim
theorem r_izip {ms : List ME} {a b : Expr} {es : List Expr} {k : Nat} {x : Str} {p pos tpos : Pos} (ok : XOk T F C X sc N) (hx : x = "zip") (hg : glB sc x = true) (sa : isStar a = false) (sb : isStar b = false) (ha : PA X [a, b] (lA T X.K F C ms)) :
    PI X (.Tuple es k tpos) (.Call (.Name x p) [a, b] [] pos) (lI T X.K F C .zip ms) := by
  subst hx
  obtain ⟨g1, _, _⟩ := ok.gl hg
  refine PI.up (pi_zipA g1 ok.g.zip ha (star_cons sa) (by rw [star_cons sb]; rfl)) ?_
  rintro σ H R ⟨F', ς, Z, Rz, hF', rs, n, h, p⟩
  refine ⟨F', ς, Z, _, hF', rs, n, h, fun H1 vs ws Z1 t1 r1 n1 q1 => ?_⟩
  match ws, r1, q1 with
  | [w, w'], r1, q1 =>
    obtain ⟨v, v', rfl, rv, rv'⟩ := reps2 r1
    cases rv with
    | ref c =>
      cases rv' with
      | ref d =>
        cases e : wrl (Z1 c) with
        | none => simp only [wpI, seqOf, e] at q1
        | some xs =>
          cases e2 : wrl (Z1 d) with
          | none => simp only [wpI, seqOf, e, e2] at q1
          | some ys =>
            simp only [wpI, seqOf, e, e2] at q1
            obtain ⟨vs, g, gr, q⟩ := n1.seq (wrl_inv e)
            obtain ⟨us, g2, gr2, q2⟩ := n1.seq (wrl_inv e2)
            exact ⟨c, d, vs, us, rfl, .inl ⟨g, g2, fun l => p H1 _ _ _ Z1 t1 l n1 (fun F2 => it_zip.at' H1) (q1 (by rw [q.length]; exact l.1 _ _ gr) (by rw [q2.length]; exact l.1 _ _ gr2))⟩⟩
      | _ => exact q1.elim
    | tup h1 q =>
      cases rv' with
      | tup h2 q2 => exact ⟨_, _, _, _, rfl, .inr ⟨h1, h2, fun l => p H1 _ _ _ Z1 t1 l n1 (fun F2 => itzT_at h1 q h2 q2) (q1 (by rw [q.length]; exact l.2 _ _ h1) (by rw [q2.length]; exact l.2 _ _ h2))⟩⟩
      | _ => exact q1.elim
    | _ => cases rv' <;> exact q1.elim
  | [], _, q1 => exact q1.elim
  | [w], _, q1 => cases w <;> exact q1.elim
  | w :: w' :: w'' :: r, _, q1 => cases w <;> cases w' <;> exact q1.elim
end
/-! ### comprehensions -/
section
variable {T : Nms} {F : List (Addr × HO)} {C : Ctx} {X : Cx} {sc : Scope} {N : List Str}
theorem wipe_rep {K : PySem.W.Frag} {H : Hp} {ς : ZSt} {σ : L2.St} (rs : RepS K H ς σ) : ∀ vs : List Nat, RepS K H (wipeZ ς vs) (wipe σ vs)
  | [] => rs
  | v :: vs => by
    have ih := wipe_rep rs vs
    refine ⟨by show (List.set _ _ _).length = (List.set _ _ _).length; rw [List.length_set, List.length_set]; exact ih.1, fun j w e => ?_⟩
    have e : ((wipeZ ς vs).set v none)[j]? = some (some w) := e
    show ∃ u, ((wipe σ vs).set v none)[j]? = some (some u) ∧ _
    by_cases h : v = j
    · subst h
      by_cases hl : v < (wipeZ ς vs).length
      · rw [List.getElem?_set_self hl] at e; cases e
      · rw [List.getElem?_eq_none (by rw [List.length_set]; omega)] at e; cases e
    · rw [List.getElem?_set_ne h] at e ⊢
      exact ih.2 j w e
theorem wipe_get {σ : L2.St} {j : Nat} : ∀ {vs : List Nat}, j ∉ vs → (wipe σ vs)[j]? = σ[j]?
  | [], _ => rfl
  | v :: vs, h => by
    rw [List.mem_cons, not_or] at h
    show ((wipe σ vs).set v none)[j]? = _
    rw [List.getElem?_set_ne (Ne.symm h.1)]
    exact wipe_get h.2
theorem wipe_in {σ : L2.St} {j : Nat} : ∀ {vs : List Nat}, j ∈ vs → j < σ.length → (wipe σ vs)[j]? = some none
  | v :: vs, h, hl => by
    show ((wipe σ vs).set v none)[j]? = _
    by_cases e : v = j
    · subst e
      exact List.getElem?_set_self (by rw [wipe_length]; exact hl)
    · rw [List.getElem?_set_ne e]
      rcases List.mem_cons.mp h with q | q
      · exact absurd q.symm e
      · exact wipe_in q hl
theorem wipe_eq {σ σ' : L2.St} {vs : List Nat} (hl : σ'.length = σ.length) (h : ∀ j, j ∉ vs → σ'[j]? = σ[j]?) : wipe σ' vs = wipe σ vs := by
  refine List.ext_getElem? fun j => ?_
  by_cases e : j ∈ vs
  · by_cases q : j < σ.length
    · rw [wipe_in e q, wipe_in e (by rw [hl]; exact q)]
    · rw [List.getElem?_eq_none (by rw [wipe_length, hl]; omega), List.getElem?_eq_none (by rw [wipe_length]; omega)]
  · rw [wipe_get e, wipe_get e, h j e]
theorem wipe_wipe {σ : L2.St} {vs : List Nat} : wipe (wipe σ vs) vs = wipe σ vs := wipe_eq (wipe_length _ _) fun j hj => wipe_get hj
theorem own_snd (N : List Str) (own : List Nat) : (ownOf N own).map (·.2) = own := by
  unfold ownOf
  rw [List.map_map]
  have : ((fun (x : Str × Nat) => x.2) ∘ fun j => (N.getD j Str.empty, j)) = (id : Nat → Nat) := rfl
  rw [this, List.map_id]
/-- the turns of a comprehension, by W's own rows -/
theorem comp_read {elt : ME} {tg : MG} {k : IK} {it ts : List ME} {own : List Nat} (hsl : ∀ j ∈ MG.slots tg, j ∈ own) : ∀ σ H Q, lE T X.K F C (.comp elt tg k it ts own) σ H Q →
    tLc (lI T X.K F C k it) (lG T X.K F tg) (lTs T X.K F C.calm ts) (lE T X.K F C.calm elt) ((ownOf N own).map (·.2)) σ H Q := by
  rintro σ H Q ⟨F', ς, Z, Qz, hF', rs, n, h, p⟩
  rw [own_snd]
  refine ⟨F', ς, Z, _, hF', rs, n, h, fun H1 J items still Z1 t1 l1 n1 hJ q1 => ?_⟩
  obtain ⟨hlen, q1⟩ := q1
  intro D hD
  refine ⟨fun i m H2 => i + m = items.length ∧ ∃ acc vacc Z2, H2 D = some (.lst vacc) ∧ Reps X.K H2 acc vacc ∧ TupLe X.K H1 H2 ∧ Now T X.K F' H2 Z2 ∧ Z2 D = none ∧ acc.length ≤ i ∧
      compL (fun x Z2 R => wpG tg x (wipeZ ς own) Z2 fun ς' Z3 => wpTs (C.calm) ts ς' Z3 fun b Z4 => if b = true then wpE (C.calm) elt ς' Z4 fun w Z5 => R (some w) Z5 else R none Z4) still (items.drop i) acc Z2
        fun acc Z2 => ∀ r, Z2 r = none → Qz (.ref r) (upz Z2 r (.lst acc)),
    ⟨items.length, by omega, [], [], Z1, upd_same, .nil, .new hD, ⟨n1.z.hid hD, n1.f.hid hD⟩, n1.z.fresh hD, Nat.le_refl _, q1⟩, ?_⟩
  rintro i m H2 ⟨him, acc, vacc, Z2, hD2, racc, t2, n2, zD, hacc, cl⟩
  by_cases hlt : i < items.length
  · obtain ⟨x, hx⟩ := lt_get hlt
    have hdrop : items.drop i = x :: items.drop (i + 1) := by
      rw [List.drop_eq_getElem_cons hlt]
      rw [List.getElem?_eq_getElem hlt] at hx
      rw [Option.some.inj hx]
    rw [hdrop] at cl
    obtain ⟨st, cl⟩ := cl
    refine .inr ⟨(hJ F').go i H2 Z2 t2 n2 st hlt, fun H' => ∃ acc vacc Z2, H' D = some (.lst vacc) ∧ Reps X.K H' acc vacc ∧ TupLe X.K H1 H' ∧ Now T X.K F' H' Z2 ∧ Z2 D = none ∧ acc.length ≤ i + 1 ∧ compL _ still (items.drop (i + 1)) acc Z2 _, fun H' hN => ⟨m - 1, by omega, by omega, hN⟩, fun v H3 hy => ?_⟩
    have nF : Now T X.K ((D, .lst vacc) :: F') H2 Z2 := ⟨n2.z, fun q hq => by
      rcases List.mem_cons.mp hq with e | hq
      · rw [e]; exact ⟨hD2, zD⟩
      · exact n2.f q hq⟩
    obtain ⟨w, hw, rw1, t3, n3⟩ := (hJ ((D, .lst vacc) :: F')).yld i H2 Z2 v H3 t2 nF st hy hlt
    rw [hx] at hw
    cases hw
    have sub : F ⊆ (D, HO.lst vacc) :: F' := fun q hq => List.mem_cons_of_mem _ (hF' hq)
    refine ⟨(D, .lst vacc) :: F', wipeZ ς own, Z2, x, _, sub, (wipe_rep rs own).mono (t1.trans (t2.trans t3)), n3, rw1, cl, fun H4 σ4 ς4 Z4 t4 rs4 n4 hl4 hj4 q4 => ⟨?_, ?_⟩⟩
    · rw [wipe_eq hl4 fun j hj => hj4 j fun hm => hj (hsl j hm), wipe_wipe]
    · refine ⟨(D, .lst vacc) :: F', ς4, Z4, _, sub, rs4, n4, q4, fun H5 b Z5 t5 n5 q5 => ?_⟩
      have back : ∀ {H6 : Hp} {Z6 Z7 : Zp}, Now T X.K ((D, .lst vacc) :: F') H6 Z6 → Zle Z7 Z6 → H6 D = some (.lst vacc) ∧ Z7 D = none ∧ Now T X.K F' H6 Z7 := fun {H6 Z6 Z7} n6 le => by
        obtain ⟨e1, e2⟩ := n6.f _ List.mem_cons_self
        exact ⟨e1, le.fresh e2, n6.z.le le, Fr.le (fun q hq => n6.f q (List.mem_cons_of_mem _ hq)) le⟩
      cases b with
      | false =>
        simp only [Bool.false_eq_true, if_false] at q5 ⊢
        obtain ⟨Z7, le, q5⟩ := q5
        obtain ⟨e1, e2, n7⟩ := back n5 le
        exact ⟨acc, vacc, Z7, e1, racc.mono (t3.trans (t4.trans t5)), t2.trans (t3.trans (t4.trans t5)), n7, e2, Nat.le_succ_of_le hacc, q5⟩
      | true =>
        simp only [if_true] at q5 ⊢
        refine ⟨(D, .lst vacc) :: F', ς4, Z5, _, sub, rs4.mono t5, n5, q5, fun H6 y w6 Z6 t6 r6 z6 f6 q6 => ?_⟩
        obtain ⟨Z7, le, q6⟩ := q6
        obtain ⟨e1, e2, n7⟩ := back ⟨z6, f6⟩ le
        have tt : TupLe X.K H6 (upd H6 D (.lst (vacc ++ [y]))) := .put e1 rfl
        refine ⟨vacc, e1, ?_, acc ++ [w6], vacc ++ [y], Z7, upd_same, ((racc.mono (t3.trans (t4.trans (t5.trans t6)))).append (.cons r6 .nil)).mono tt, t2.trans (t3.trans (t4.trans (t5.trans (t6.trans tt)))), ?_, e2, ?_, q6⟩
        · rw [← racc.length]
          omega
        · refine ⟨fun b u e => ?_, fun q hq => ?_⟩
          · have ne : b ≠ D := fun z => by rw [z, e2] at e; cases e
            exact (n7.z b u e).mono tt (upd_ne ne)
          · obtain ⟨g1, g2⟩ := n7.f q hq
            have ne : q.1 ≠ D := fun z => by
              have := n1.f q hq
              rw [z] at this
              rw [this.1] at hD; cases hD
            exact ⟨by rw [upd_ne ne]; exact g1, g2⟩
        · rw [List.length_append, List.length_singleton]
          omega
  · have hi : items.drop i = [] := List.drop_eq_nil_of_le (by omega)
    rw [hi] at cl
    obtain ⟨st, cl⟩ := cl
    refine .inl ⟨(hJ F').stop i H2 Z2 t2 n2 st (by omega), ?_⟩
    refine p H2 _ _ _ (t1.trans t2) (.ref D) ?_ ?_ (cl D zD)
    · intro b u e
      by_cases hb : b = D
      · subst hb; rw [upz_same] at e; cases e; exact ⟨vacc, hD2, racc⟩
      · rw [upz_ne hb] at e; exact n2.z b u e
    · intro q hq
      obtain ⟨g1, g2⟩ := n2.f q hq
      have ne : q.1 ≠ D := fun z => by
        have := n1.f q hq
        rw [z] at this
        rw [this.1] at hD; cases hD
      exact ⟨g1, by rw [upz_ne ne]; exact g2⟩
theorem r_comp {elt : ME} {tg : MG} {k : IK} {it ts : List ME} {own : List Nat} {e g i : Expr} {ifs : List Expr} {scope : Scope} {pos : Pos} (ok : XOk T F C X sc N) (hb : BlkOk X.N X.env.scope scope (ownOf N own)) (hfs : isSetE i = false) (hsl : ∀ j ∈ MG.slots tg, j ∈ own)
    (hi : PI X g i (lI T X.K F C k it)) (hg : ∀ (s : Shared) (H : Hp) (Ca : Addr) (cl : List (Str × Addr)) (fp : List Addr), PG (X.blk s H scope (compEnvC scope cl Ca X.env) fp) g (lG T X.K F tg))
    (ht : ∀ (s : Shared) (H : Hp) (Ca : Addr) (cl : List (Str × Addr)) (fp : List Addr), PTs (X.blk s H scope (compEnvC scope cl Ca X.env) fp) ifs (lTs T X.K F C.calm ts))
    (he : ∀ (s : Shared) (H : Hp) (Ca : Addr) (cl : List (Str × Addr)) (fp : List Addr), PE (X.blk s H scope (compEnvC scope cl Ca X.env) fp) e (lE T X.K F C.calm elt)) :
    PE X (.ListComp e [⟨g, i, ifs, 0⟩] scope pos) (lE T X.K F C (.comp elt tg k it ts own)) :=
  PE.up (pe_lc (own := ownOf N own) ok.calm ok.nd hi hb hg ht he (folded_plain hfs)) (comp_read hsl)
theorem PS.up {st : Stmt} {t0 t : TS} (h : PS X st t0) (w : ∀ D σ H, t D σ H → t0 D σ H) : PS X st t := ⟨fun pins s σ H D I q => h.run pins s σ H D I (w D σ H q)⟩
theorem PSs.up {st : List Stmt} {t0 t : TS} (h : PSs X st t0) (w : ∀ D σ H, t D σ H → t0 D σ H) : PSs X st t := ⟨fun pins s σ H D I q => h.run pins s σ H D I (w D σ H q)⟩
/-- y = [..] on one line -/
theorem s_comp {elt : ME} {tg : MG} {k : IK} {it ts : List ME} {own : List Nat} {e g i : Expr} {ifs : List Expr} {scope : Scope} {pos spos py : Pos} {y : Str} {j : Nat} (ok : XOk T F C X sc N) (hb : BlkOk X.N X.env.scope scope (ownOf N own)) (hfs : isSetE i = false) (hsl : ∀ j ∈ MG.slots tg, j ∈ own)
    (hy : X.N[j]? = some y) (hyl : X.env.scope.names.lookup y = some .local) (hsw : swapsWith (.ListComp e [⟨g, i, ifs, 0⟩] scope pos) (some (.Name y py)) spos.line X.env = pure true)
    (hi : PI X g i (lI T X.K F C k it)) (hg : ∀ (s : Shared) (H : Hp) (Ca : Addr) (cl : List (Str × Addr)) (fp : List Addr), PG (X.blk s H scope (compEnvC scope cl Ca X.env) fp) g (lG T X.K F tg))
    (ht : ∀ (s : Shared) (H : Hp) (Ca : Addr) (cl : List (Str × Addr)) (fp : List Addr), PTs (X.blk s H scope (compEnvC scope cl Ca X.env) fp) ifs (lTs T X.K F C.calm ts))
    (he : ∀ (s : Shared) (H : Hp) (Ca : Addr) (cl : List (Str × Addr)) (fp : List Addr), PE (X.blk s H scope (compEnvC scope cl Ca X.env) fp) e (lE T X.K F C.calm elt)) :
    PS X (.Assign [.Name y py] (.ListComp e [⟨g, i, ifs, 0⟩] scope pos) spos) (tAsg (lE T X.K F C (.comp elt tg k it ts own)) (gName j)) :=
  PS.up (ps_setLc (own := ownOf N own) ok.calm ok.nd hy hyl hsw hi hb hg ht he (folded_plain hfs)) fun D σ H q => comp_read hsl _ _ _ q
end
end ZL

/-! The Z layer, 10: every expression that the checker takes is sound. -/
namespace ZL
open PySem PySem.Spec PyProof.Rows L2 RZ
section
variable {T : Nms}
theorem GOk.calm {P : Program} {w : World} {K : PySem.W.Frag} {mg : Str → Option Value} {base : Heap} {C : Ctx} (g : GOk T P w K mg base C) : GOk T P w K mg base C.calm :=
  ⟨g.nm, g.fn, g.con, g.mth, g.blt, g.rng, g.enu, g.zip, g.inj, g.bm, g.ww⟩
theorem XOk.blk {F : List (Addr × HO)} {C : Ctx} {X : Cx} {sc : Scope} {N : List Str} (ok : XOk T F C X sc N) (scope : Scope) (s : Shared) (H : Hp) (Ca : Addr) (cl : List (Str × Addr)) (fp : List Addr) :
    XOk T F C.calm (X.blk s H scope (compEnvC scope cl Ca X.env) fp) (relS scope sc) N :=
  ⟨ok.g.calm, by show relS scope X.env.scope = _; rw [ok.sc], ok.N, ok.nd, ok.calm, ok.room, fun u s' x => by
    obtain ⟨a, B, sI, pins, σ, H, cls, d, _, _, _, _, _, _, _, _, w⟩ := x
    obtain ⟨c, fs, ς, Z, _, _, _, h⟩ := w
    exact h⟩
theorem PTs.up {X : Cx} {ifs : List Expr} {t0 t : TT} (h : PTs X ifs t0) (w : ∀ σ H Q, t σ H Q → t0 σ H Q) : PTs X ifs t := ⟨fun pins s σ H Q I q => h.run pins s σ H Q I (w σ H Q q)⟩
theorem and3 {a b c : Bool} (h : (a && b && c) = true) : a = true ∧ b = true ∧ c = true := by
  rw [Bool.and_eq_true, Bool.and_eq_true] at h; exact ⟨h.1.1, h.1.2, h.2⟩
theorem and2 {a b : Bool} (h : (a && b) = true) : a = true ∧ b = true := by rw [Bool.and_eq_true] at h; exact h
theorem nt {a : Bool} (h : (!a) = true) : a = false := by cases a <;> first | rfl | cases h
theorem dec {p : Prop} [Decidable p] (h : decide p = true) : p := of_decide_eq_true h

/-! targets -/
/-- what a target's names must be -/
def TgOk (X : Cx) (sc : Scope) : Prop := ∀ x, locB sc x = true → Loc X.env.scope x ∧ (X.fn x = true ∨ X.env.scope.names.lookup x = some .local)
mutual
theorem sndG {F : List (Addr × HO)} {X : Cx} {sc : Scope} {N : List Str} (hN : X.N = N) (nd : X.N.Nodup) (hc : X.calm = true) (tg : TgOk X sc) : ∀ (t : MG) (e : Expr), chkG sc N t e = true → PG X e (lG T X.K F t)
  | .nm i, e, h => by
    cases e with
    | Name x pos =>
      obtain ⟨h1, h2⟩ := and2 h
      obtain ⟨t1, t2⟩ := tg x h2
      exact g_name nd (by rw [hN]; exact dec h1) t1 t2
    | _ => cases h
  | .tup ts, e, h => by
    cases e with
    | Tuple es k pos =>
      obtain ⟨h1, h2, h3⟩ := sndGs (F := F) hN nd hc tg ts es h
      exact g_tup hc h2 h3 h1
    | _ => cases h
theorem sndGs {F : List (Addr × HO)} {X : Cx} {sc : Scope} {N : List Str} (hN : X.N = N) (nd : X.N.Nodup) (hc : X.calm = true) (tg : TgOk X sc) : ∀ (ts : List MG) (es : List Expr), chkGs sc N ts es = true → PGs X es (lGs T X.K F ts) ∧ (∀ e ∈ es, isStar e = false) ∧ ts.length = es.length
  | [], [], _ => ⟨g_nil, (fun _ z => nomatch z), rfl⟩
  | [], _ :: _, h => by cases h
  | _ :: _, [], h => by cases h
  | t :: ts, e :: es, h => by
    obtain ⟨h1, h2, h3⟩ := and3 h
    obtain ⟨i1, i2, i3⟩ := sndGs (F := F) hN nd hc tg ts es h3
    refine ⟨g_cons (nt h1) (sndG hN nd hc tg t e h2) i1, fun x hx => ?_, congrArg (· + 1) i3⟩
    rcases List.mem_cons.mp hx with q | q
    · rw [q]; exact nt h1
    · exact i2 x q
end
theorem tg_blk {X : Cx} (scope : Scope) (s : Shared) (H : Hp) (Ca : Addr) (cl : List (Str × Addr)) (fp : List Addr) : TgOk (X.blk s H scope (compEnvC scope cl Ca X.env) fp) scope := fun x h => by
  have hs : (compEnvC scope cl Ca X.env).scope = relS scope X.env.scope := rfl
  rcases loc_of h with k | k
  · have q : (relS scope X.env.scope).names.lookup x = some .local := lookup_relS_keep (by decide) k
    exact ⟨.inl q, .inr q⟩
  · have q : (relS scope X.env.scope).names.lookup x = some .cell := lookup_relS_keep (by decide) k
    exact ⟨.inr q, .inl (by show (scope.names.lookup x == some NameKind.cell) = true; rw [k]; rfl)⟩
theorem iter_snd {F : List (Addr × HO)} {C : Ctx} {X : Cx} {sc : Scope} {N : List Str} (ok : XOk T F C X sc N) {k : IK} {g i : Expr} {es : List Expr} {it : List ME} (ei : iterArgs sc k g i = some es) (ha : PA X es (lA T X.K F C it))
    (h1 : ∀ m e, it = [m] → es = [e] → PE X e (lE T X.K F C m)) (hl : it.length = es.length) : PI X g i (lI T X.K F C k it) := by
  unfold iterArgs at ei
  split at ei
  · split at ei
    · cases ei
    · cases ei
      match it, hl with
      | [m], _ => exact r_ival (h1 m _ rfl rfl)
  · split at ei
    · rename_i hc
      cases ei
      obtain ⟨q1, q2, q3⟩ := and3 hc
      exact r_irange1 ok (dec q1) q2 (nt q3) ha
    · cases ei
  · split at ei
    · rename_i hc
      cases ei
      obtain ⟨q1, q4⟩ := and2 hc
      obtain ⟨q1, q2, q3⟩ := and3 q1
      exact r_irange2 ok (dec q1) q2 (nt q3) (nt q4) ha
    · cases ei
  · split at ei
    · rename_i hc
      cases ei
      obtain ⟨q1, q2, q3⟩ := and3 hc
      exact r_ienum ok (dec q1) q2 (nt q3) ha
    · cases ei
  · split at ei
    · rename_i hc
      cases ei
      obtain ⟨q1, q4⟩ := and2 hc
      obtain ⟨q1, q2, q3⟩ := and3 q1
      exact r_izip ok (dec q1) q2 (nt q3) (nt q4) ha
    · cases ei
  · cases ei
theorem chkA_len {T : Nms} {sc : Scope} {N : List Str} : ∀ {ms : List ME} {es : List Expr}, chkA T sc N ms es = true → ms.length = es.length
  | [], [], _ => rfl
  | [], _ :: _, h => by cases h
  | _ :: _, [], h => by cases h
  | a :: as, e :: es, h => congrArg (· + 1) (chkA_len (and3 h).2.2)
/-- a comparison as a test -/
theorem t_cmpE {F : List (Addr × HO)} {C : Ctx} {X : Cx} {sc : Scope} {N : List Str} (ok : XOk T F C X sc N) {op : CmpOp} {a b : ME} {l r : Expr} {pos : Pos} (hm : isSetE r = false) (ha : PE X l (lE T X.K F C a)) (hb : PE X r (lE T X.K F C b)) : PT X (.Compare l [op] [r] pos) (lT T X.K F C (.tv (.cmp op a b))) := by
  obtain ⟨rr, q1, q2⟩ := cmp_rule X T ok.g.ww ok.room.units op
  exact t_cmp q1 q2 hm ha hb

theorem tv_other {a : ME} {e : Expr} (h : tvOk a e = true) (hn : ∀ l o r p, e ≠ .Compare l o r p) : tstE e = false := by
  cases e with
  | Compare l o r p => exact absurd rfl (hn l o r p)
  | _ => exact nt h
mutual
theorem sndE : ∀ (m : ME) {F : List (Addr × HO)} {C : Ctx} {X : Cx} {sc : Scope} {N : List Str} (ok : XOk T F C X sc N) (e : Expr), chkE T sc N m e = true → PE X e (lE T X.K F C m)
  | .var i, F, C, X, sc, N, ok, e, h => by
    cases e with
    | Name x pos =>
      obtain ⟨h1, h2, h3⟩ := and3 h
      exact r_var (by rw [ok.N]; exact dec h1) (by rw [ok.sc]; exact vis_of h2) h3
    | _ => cases h
  | .non, F, C, X, sc, N, ok, e, h => by
    cases e with
    | Constant c k pos =>
      cases c with
      | none => exact r_const pe_non (fun _ _ _ q => q) fun _ => .non
      | _ => cases h
    | _ => cases h
  | .bl b, F, C, X, sc, N, ok, e, h => by
    cases e with
    | Constant c k pos =>
      cases c with
      | bool b' =>
        have e : b = b' := by have h : (b == b') = true := h; simpa using h
        subst e
        exact r_const pe_bl (fun _ _ _ q => q) fun _ => .bl _
      | _ => cases h
    | _ => cases h
  | .int i, F, C, X, sc, N, ok, e, h => by
    cases e with
    | Constant c k pos =>
      cases c with
      | int j =>
        have e : i = j := dec h
        subst e
        exact r_const pe_int (fun _ _ _ q => q) fun _ => .int _
      | _ => cases h
    | _ => cases h
  | .sc c, F, C, X, sc, N, ok, e, h => by
    cases e with
    | Constant k _ pos =>
      cases k with
      | str x =>
        have e : x = T.nm c := dec h
        subst e
        exact r_const pe_str (w := .str (T.nm c)) (fun _ _ _ q => by rw [← ok.g.nm]; exact q) fun _ => .str _
      | _ => cases h
    | _ => cases h
  | .gl c, F, C, X, sc, N, ok, e, h => by
    cases e with
    | Name x pos =>
      obtain ⟨h1, h2⟩ := and2 h
      have e : x = T.nm c := dec h1
      obtain ⟨g1, g2, g3⟩ := ok.gl h2
      cases ec : C.con c with
      | none =>
        refine ⟨fun pins s σ H Q I q => ?_⟩
        obtain ⟨F', ς, Z, Qz, hF', rs, n, q, p⟩ := q
        simp only [wpE, ec] at q
      | some u =>
        obtain ⟨v, z, k1, k2, k3⟩ := ok.g.con c u ec
        exact r_const (pe_glob g1 (by rw [e]; exact k1) k2 g2) (fun ς Z Q q => by simp only [wpE, ec] at q; exact q) k3
    | _ => cases h
  | .bty b, F, C, X, sc, N, ok, e, h => by
    cases e with
    | Name x pos =>
      obtain ⟨h1, h2, h3⟩ := and3 h
      have e : x = bfN b := dec h1
      obtain ⟨g1, g2, g3⟩ := ok.gl h2
      have hm : X.mg x = none := by rw [e]; exact ok.g.blt b
      cases b with
      | int => exact r_const (w := .ty "int") (pe_bltn g1 hm (by rw [e]; decide +kernel) (v := .ty "int") rfl g3 g2) (fun _ _ _ q => q) fun _ => .ty _
      | tuple => exact r_const (w := .ty "tuple") (pe_bltn g1 hm (by rw [e]; decide +kernel) (v := .ty "tuple") rfl g3 g2) (fun _ _ _ q => q) fun _ => .ty _
      | list => exact r_const (w := .ty "list") (pe_bltn g1 hm (by rw [e]; decide +kernel) (v := .ty "list") rfl g3 g2) (fun _ _ _ q => q) fun _ => .ty _
      | bool => exact r_const (w := .ty "bool") (pe_bltn g1 hm (by rw [e]; decide +kernel) (v := .ty "bool") rfl g3 g2) (fun _ _ _ q => q) fun _ => .ty _
      | str => exact r_const (w := .ty "str") (pe_bltn g1 hm (by rw [e]; decide +kernel) (v := .ty "str") rfl g3 g2) (fun _ _ _ q => q) fun _ => .ty _
      | _ => cases h3
    | _ => cases h
  | .bin op a b, F, C, X, sc, N, ok, e, h => by
    cases e with
    | BinOp l o r pos =>
      obtain ⟨h1, h2⟩ := and2 h
      obtain ⟨h3, h4, h5⟩ := and3 h1
      have e : o = op := dec h3
      subst e
      obtain ⟨rr, q1, q2⟩ := bin_rule X T o h4
      exact r_bin q1 q2 (sndE a ok l h5) (sndE b ok r h2)
    | _ => cases h
  | .neg a, F, C, X, sc, N, ok, e, h => by
    cases e with
    | UnaryOp o x pos =>
      cases o with
      | USub => exact r_neg (sndE a ok x h)
      | _ => cases h
    | _ => cases h
  | .cmp op a b, F, C, X, sc, N, ok, e, h => by
    cases e with
    | Compare l ops rs pos =>
      match ops, rs, h with
      | [o], [r], h =>
        obtain ⟨h1, h2⟩ := and2 h
        obtain ⟨h3, h4, h5⟩ := and3 h1
        have e : o = op := dec h3
        subst e
        obtain ⟨rr, q1, q2⟩ := cmp_rule X T ok.g.ww ok.room.units o
        exact r_cmp q1 q2 (nt h4) (sndE a ok l h5) (sndE b ok r h2)
      | [], _, h => cases h
      | [_], [], h => cases h
      | [_], _ :: _ :: _, h => cases h
      | _ :: _ :: _, _, h => cases h
    | _ => cases h
  | .cmp2 p q a b c, F, C, X, sc, N, ok, e, h => by
    cases e with
    | Compare l ops rs pos =>
      match ops, rs, h with
      | [o, o'], [r, r'], h =>
        obtain ⟨h1, h2⟩ := and2 h
        obtain ⟨h3, h4, h5⟩ := and3 h1
        obtain ⟨h6, h7⟩ := and2 h3
        obtain ⟨h8, h9, h10⟩ := and3 h6
        have e : o = p := dec h8
        have e' : o' = q := dec h9
        subst e e'
        exact r_cmp2 ok (nt h10) (nt h7) (sndE a ok l h4) (sndE b ok r h5) (sndE c ok r' h2)
      | [], _, h => cases h
      | [_], [], h => cases h
      | [_], _ :: _, h => cases h
      | [_, _], [], h => cases h
      | [_, _], [_], h => cases h
      | [_, _], _ :: _ :: _ :: _, h => cases h
      | _ :: _ :: _ :: _, _, h => cases h
    | _ => cases h
  | .and as, F, C, X, sc, N, ok, e, h => by
    cases e with
    | BoolOp o es pos =>
      cases o with
      | And => exact (sndL as ok es h pos).1
      | _ => cases h
    | _ => cases h
  | .or as, F, C, X, sc, N, ok, e, h => by
    cases e with
    | BoolOp o es pos =>
      cases o with
      | Or => exact (sndL as ok es h pos).2
      | _ => cases h
    | _ => cases h
  | .not a, F, C, X, sc, N, ok, e, h => by
    cases e with
    | UnaryOp o x pos =>
      cases o with
      | Not => exact r_not (sndE a ok x h)
      | _ => cases h
    | _ => cases h
  | .ife t a b, F, C, X, sc, N, ok, e, h => by
    cases e with
    | IfExp c x y pos =>
      obtain ⟨h1, h2, h3⟩ := and3 h
      exact r_ife (sndT t ok c h1) (sndE a ok x h2) (sndE b ok y h3)
    | _ => cases h
  | .tup as, F, C, X, sc, N, ok, e, h => by
    cases e with
    | Tuple es k pos => exact r_tup (sndA as ok es h).1
    | _ => cases h
  | .lst as, F, C, X, sc, N, ok, e, h => by
    cases e with
    | List es pos => exact r_lst (sndA as ok es h).1
    | _ => cases h
  | .dct kvs, F, C, X, sc, N, ok, e, h => by
    cases e with
    | Dict keys values pos =>
      obtain ⟨h1, h2⟩ := and2 h
      obtain ⟨i1, i2, i3, i4, i5⟩ := sndP kvs ok keys values h2 pos
      match kvs, keys, i3 with
      | [], [], _ =>
        cases values with
        | nil => exact r_dct0
        | cons _ _ => cases i5
      | [], _ :: _, i3 => simp at i3
      | _ :: _, [], i3 => simp at i3
      | _ :: _, _ :: _, i3 => exact r_dct ok i1 i2 i3 i4 i5 (List.cons_ne_nil _ _) (dec h1)
    | _ => cases h
  | .ix a i, F, C, X, sc, N, ok, e, h => by
    cases e with
    | Subscript x y pos =>
      have h : (!isSlc y && chkE T sc N a x && chkE T sc N i y) = true := by cases y <;> exact h
      obtain ⟨h1, h2, h3⟩ := and3 h
      exact r_ix ok (nt h1) (sndE a ok x h2) (sndE i ok y h3)
    | _ => cases h
  | .sl a lo hi, F, C, X, sc, N, ok, e, h => by
    cases e with
    | Subscript x y pos =>
      cases y with
      | Slice l u st p2 =>
        cases st with
        | none =>
          obtain ⟨h1, h2, h3⟩ := and3 h
          exact r_sl (sndE a ok x h1) (sndO lo ok l h2) (sndO hi ok u h3)
        | some _ => cases h
      | _ => cases h
    | _ => cases h
  | .rev a, F, C, X, sc, N, ok, e, h => by
    cases e with
    | Subscript x y pos =>
      match y, h with
      | .Slice none none (some (.UnaryOp .USub (.Constant (.int 1) k p1) p2)) p3, h => exact r_rev (sndE a ok x h)
    | _ => cases h
  | .call f as, F, C, X, sc, N, ok, e, h => by
    cases e with
    | Call g es ks pos =>
      match g, es, ks, h with
      | .Name x p, e :: es, [], h =>
        obtain ⟨h1, h2, h3⟩ := and3 h
        obtain ⟨i1, i2, _⟩ := sndA as ok (e :: es) h3
        exact r_call ok (dec h1) h2 i2 i1
    | _ => cases h
  | .blt b as, F, C, X, sc, N, ok, e, h => by
    cases e with
    | Call g es ks pos =>
      match g, es, ks, h with
      | .Name x p, e :: es, [], h =>
        obtain ⟨h1, h2⟩ := and2 h
        obtain ⟨h3, h4, h5⟩ := and3 h1
        obtain ⟨i1, i2, _⟩ := sndA as ok (e :: es) h2
        obtain ⟨r, q1, q2⟩ := blt_rule ok b h4
        have ex : x = bfN b := dec h3
        exact r_blt ok ex h5 i2 (by rw [ex]; exact q1) q2 i1
    | _ => cases h
  | .mth m o as, F, C, X, sc, N, ok, e, h => by
    cases e with
    | Call g es ks pos =>
      match g, ks, h with
      | .Attribute x n ap, [], h =>
        obtain ⟨h1, h2⟩ := and2 h
        obtain ⟨h3, h4, h5⟩ := and3 h1
        obtain ⟨h6, h7, h8⟩ := and3 h3
        obtain ⟨i1, i2, i3, _⟩ := sndA as ok es h2
        exact r_mth ok (dec h6) (nt h7) (dec h8) (dec h4) i2 (sndE o ok x h5) i1 i3
    | _ => cases h
  | .fld _ _, F, C, X, sc, N, ok, e, h => by cases e <;> cases h
  | .new _ _, F, C, X, sc, N, ok, e, h => by cases e <;> cases h
  | .comp elt tg k it ts own, F, C, X, sc, N, ok, e, h => by
    cases e with
    | ListComp x gs scope pos =>
      match gs, h with
      | [⟨g, i, ifs, a⟩], h =>
        obtain ⟨hB, hst, hE⟩ := and3 h
        obtain ⟨hD, hM, hTs⟩ := and3 hB
        obtain ⟨hG, hg, hset⟩ := and3 hD
        obtain ⟨ha, hsl, hblk⟩ := and3 hG
        have ea : a = 0 := dec ha
        subst ea
        have hb : BlkOk X.N X.env.scope scope (ownOf N own) := by rw [ok.N, ok.sc]; exact blkOk_by hblk
        refine r_comp ok hb (nt hset) (fun j hj => by have q := List.all_eq_true.mp hsl j hj; simpa using q) ?_ (fun s H Ca cl fp => ?_) (fun s H Ca cl fp => ?_) (fun s H Ca cl fp => ?_)
        · cases ei : iterArgs sc k g i with
          | none => rw [ei] at hM; cases hM
          | some es =>
            rw [ei] at hM
            obtain ⟨i1, i2, i3, i4⟩ := sndA it ok es hM
            exact iter_snd ok ei i1 i4 (chkA_len hM)
        · exact sndG (X := X.blk s H scope (compEnvC scope cl Ca X.env) fp) ok.N ok.nd ok.calm (tg_blk scope s H Ca cl fp) tg g hg
        · exact sndTs ts (ok.blk scope s H Ca cl fp) ifs hTs
        · exact sndE elt (ok.blk scope s H Ca cl fp) x hE
      | [], h => simp [chkE] at h
      | _ :: _ :: _, h => simp [chkE] at h
    | _ => cases h
  | .tv _, F, C, X, sc, N, ok, e, h => by cases e <;> cases h
  | .tand _, F, C, X, sc, N, ok, e, h => by cases e <;> cases h
  | .tor _, F, C, X, sc, N, ok, e, h => by cases e <;> cases h
  | .tnot _, F, C, X, sc, N, ok, e, h => by cases e <;> cases h
theorem sndA : ∀ (ms : List ME) {F : List (Addr × HO)} {C : Ctx} {X : Cx} {sc : Scope} {N : List Str} (ok : XOk T F C X sc N) (es : List Expr), chkA T sc N ms es = true →
    PA X es (lA T X.K F C ms) ∧ (∀ e ∈ es, isStar e = false) ∧ (es = [] → ms = []) ∧ ∀ m e, ms = [m] → es = [e] → PE X e (lE T X.K F C m)
  | [], F, C, X, sc, N, ok, es, h => by
    cases es with
    | nil => exact ⟨r_nil, (fun _ z => nomatch z), (fun _ => rfl), (fun _ _ e => nomatch e)⟩
    | cons _ _ => cases h
  | a :: as, F, C, X, sc, N, ok, es, h => by
    cases es with
    | nil => cases h
    | cons e es =>
      obtain ⟨h1, h2, h3⟩ := and3 h
      obtain ⟨i1, i2, _, _⟩ := sndA as ok es h3
      have q := sndE a ok e h2
      refine ⟨r_cons (nt h1) q i1, fun x hx => ?_, (fun z => nomatch z), fun m e' e1 e2 => ?_⟩
      · rcases List.mem_cons.mp hx with z | z
        · rw [z]; exact nt h1
        · exact i2 x z
      · cases e1; cases e2; exact q
theorem sndP : ∀ (ms : List ME) {F : List (Addr × HO)} {C : Ctx} {X : Cx} {sc : Scope} {N : List Str} (ok : XOk T F C X sc N) (keys : List (Option Expr)) (values : List Expr), chkP T sc N ms keys values = true → ∀ pos,
    PPs X pos keys values (trsOf T X.K F C ms) ∧ evenL ms = true ∧ ms.length = 2 * keys.length ∧ keys.all (·.isSome) = true ∧ keys.length = values.length
  | [], F, C, X, sc, N, ok, keys, values, h, pos => by
    match keys, values, h with
    | [], [], _ => exact ⟨pps_nil, rfl, rfl, rfl, rfl⟩
    | [], _ :: _, h => simp [chkP] at h
    | _ :: _, _, h => simp [chkP] at h
  | [_], F, C, X, sc, N, ok, keys, values, h, pos => by
    simp [chkP] at h
  | a :: b :: r, F, C, X, sc, N, ok, keys, values, h, pos => by
    match keys, values, h with
    | some k :: ks, v :: vs, h =>
      obtain ⟨h1, h2, h3⟩ := and3 h
      obtain ⟨i1, i2, i3, i4, i5⟩ := sndP r ok ks vs h3 pos
      exact ⟨pps_cons (sndE a ok k h1) (sndE b ok v h2) i1, i2, by rw [List.length_cons, List.length_cons, List.length_cons, i3]; omega, by rw [List.all_cons, i4]; rfl, congrArg (· + 1) i5⟩
    | none :: _, _, h => simp [chkP] at h
    | [], _, h => simp [chkP] at h
    | some _ :: _, [], h => simp [chkP] at h
theorem sndL : ∀ (ms : List ME) {F : List (Addr × HO)} {C : Ctx} {X : Cx} {sc : Scope} {N : List Str} (ok : XOk T F C X sc N) (es : List Expr), chkL T sc N ms es = true → ∀ pos, PE X (.BoolOp .And es pos) (lE T X.K F C (.and ms)) ∧ PE X (.BoolOp .Or es pos) (lE T X.K F C (.or ms))
  | [], F, C, X, sc, N, ok, es, h => by cases h
  | a :: as, F, C, X, sc, N, ok, es, h => by
    cases es with
    | nil => cases h
    | cons e es =>
      obtain ⟨h1, h2⟩ := and2 h
      have q := sndE a ok e h1
      match as, es, h2 with
      | [], [], _ => exact fun pos => ⟨r_and1 q, r_or1 q⟩
      | b :: bs, e2 :: es2, h2 => exact fun pos => ⟨r_and q (sndL (b :: bs) ok (e2 :: es2) h2 pos).1, r_or q (sndL (b :: bs) ok (e2 :: es2) h2 pos).2⟩
theorem sndO : ∀ (ms : List ME) {F : List (Addr × HO)} {C : Ctx} {X : Cx} {sc : Scope} {N : List Str} (ok : XOk T F C X sc N) (o : Option Expr), chkO T sc N ms o = true → PO X o (lO T X.K F C ms)
  | [], F, C, X, sc, N, ok, o, h => by
    cases o with
    | none => exact r_po_none
    | some _ => cases h
  | [a], F, C, X, sc, N, ok, o, h => by
    cases o with
    | none => cases h
    | some e => exact r_po_some (sndE a ok e h)
  | _ :: _ :: _, F, C, X, sc, N, ok, o, h => by cases o <;> cases h
theorem sndT : ∀ (m : ME) {F : List (Addr × HO)} {C : Ctx} {X : Cx} {sc : Scope} {N : List Str} (ok : XOk T F C X sc N) (e : Expr), chkT T sc N m e = true → PT X e (lT T X.K F C m)
  | .tv a, F, C, X, sc, N, ok, e, h => by
    have ih : ∀ e, chkE T sc N a e = true → PE X e (lE T X.K F C a) := fun e h => sndE a ok e h
    obtain ⟨h1, h2⟩ := and2 (show (tvOk a e && chkE T sc N a e) = true from h)
    by_cases hc : tstE e = false
    · exact t_val hc (ih e h2)
    · cases e with
      | Compare l ops rs pos =>
        match a, h1, h2 with
        | .cmp op b c, _, h2 =>
          match ops, rs, h2 with
          | [o], [r], h =>
            obtain ⟨k1, k2⟩ := and2 h
            obtain ⟨h3, h4, h5⟩ := and3 k1
            have e : o = op := dec h3
            subst e
            exact t_cmpE ok (nt h4) (sndE b ok l h5) (sndE c ok r k2)
          | [], _, h => cases h
          | [_], [], h => cases h
          | [_], _ :: _ :: _, h => cases h
          | _ :: _ :: _, _, h => cases h
        | .cmp2 p q b c d, _, h2 =>
          match ops, rs, h2 with
          | [o, o'], [r, r'], h =>
            obtain ⟨k1, k2⟩ := and2 h
            obtain ⟨h3, h4, h5⟩ := and3 k1
            obtain ⟨h6, h7⟩ := and2 h3
            obtain ⟨h8, h9, h10⟩ := and3 h6
            have e : o = p := dec h8
            have e' : o' = q := dec h9
            subst e e'
            exact t_cmp2 ok (nt h10) (nt h7) (sndE b ok l h4) (sndE c ok r h5) (sndE d ok r' k2)
          | [], _, h => cases h
          | [_], [], h => cases h
          | [_], _ :: _, h => cases h
          | [_, _], [], h => cases h
          | [_, _], [_], h => cases h
          | [_, _], _ :: _ :: _ :: _, h => cases h
          | _ :: _ :: _ :: _, _, h => cases h
      | _ => exact absurd (tv_other h1 fun _ _ _ _ z => nomatch z) hc
  | .tand as, F, C, X, sc, N, ok, e, h => by
    cases e with
    | BoolOp o es pos =>
      cases o with
      | And => exact (sndTL as ok es h pos).1.pt
      | _ => cases h
    | _ => cases h
  | .tor as, F, C, X, sc, N, ok, e, h => by
    cases e with
    | BoolOp o es pos =>
      cases o with
      | Or => exact (sndTL as ok es h pos).2.pt
      | _ => cases h
    | _ => cases h
  | .tnot a, F, C, X, sc, N, ok, e, h => by
    cases e with
    | UnaryOp o x pos =>
      cases o with
      | Not => exact t_not (sndT a ok x h)
      | _ => cases h
    | _ => cases h
  | .var _, F, C, X, sc, N, ok, e, h => by cases e <;> cases h
  | .non, F, C, X, sc, N, ok, e, h => by cases e <;> cases h
  | .bl _, F, C, X, sc, N, ok, e, h => by cases e <;> cases h
  | .int _, F, C, X, sc, N, ok, e, h => by cases e <;> cases h
  | .sc _, F, C, X, sc, N, ok, e, h => by cases e <;> cases h
  | .gl _, F, C, X, sc, N, ok, e, h => by cases e <;> cases h
  | .bty _, F, C, X, sc, N, ok, e, h => by cases e <;> cases h
  | .bin _ _ _, F, C, X, sc, N, ok, e, h => by cases e <;> cases h
  | .neg _, F, C, X, sc, N, ok, e, h => by cases e <;> cases h
  | .cmp _ _ _, F, C, X, sc, N, ok, e, h => by cases e <;> cases h
  | .cmp2 _ _ _ _ _, F, C, X, sc, N, ok, e, h => by cases e <;> cases h
  | .and _, F, C, X, sc, N, ok, e, h => by cases e <;> cases h
  | .or _, F, C, X, sc, N, ok, e, h => by cases e <;> cases h
  | .not _, F, C, X, sc, N, ok, e, h => by cases e <;> cases h
  | .ife _ _ _, F, C, X, sc, N, ok, e, h => by cases e <;> cases h
  | .tup _, F, C, X, sc, N, ok, e, h => by cases e <;> cases h
  | .lst _, F, C, X, sc, N, ok, e, h => by cases e <;> cases h
  | .dct _, F, C, X, sc, N, ok, e, h => by cases e <;> cases h
  | .ix _ _, F, C, X, sc, N, ok, e, h => by cases e <;> cases h
  | .sl _ _ _, F, C, X, sc, N, ok, e, h => by cases e <;> cases h
  | .rev _, F, C, X, sc, N, ok, e, h => by cases e <;> cases h
  | .call _ _, F, C, X, sc, N, ok, e, h => by cases e <;> cases h
  | .blt _ _, F, C, X, sc, N, ok, e, h => by cases e <;> cases h
  | .mth _ _ _, F, C, X, sc, N, ok, e, h => by cases e <;> cases h
  | .fld _ _, F, C, X, sc, N, ok, e, h => by cases e <;> cases h
  | .new _ _, F, C, X, sc, N, ok, e, h => by cases e <;> cases h
  | .comp _ _ _ _ _ _, F, C, X, sc, N, ok, e, h => by cases e <;> cases h
theorem sndTL : ∀ (ms : List ME) {F : List (Addr × HO)} {C : Ctx} {X : Cx} {sc : Scope} {N : List Str} (ok : XOk T F C X sc N) (es : List Expr), chkTL T sc N ms es = true → ∀ pos, PW X (.BoolOp .And es pos) (lT T X.K F C (.tand ms)) ∧ PW X (.BoolOp .Or es pos) (lT T X.K F C (.tor ms))
  | [], F, C, X, sc, N, ok, es, h => by cases h
  | a :: as, F, C, X, sc, N, ok, es, h => by
    cases es with
    | nil => cases h
    | cons e es =>
      obtain ⟨h1, h2⟩ := and2 h
      have q := sndT a ok e h1
      match as, es, h2 with
      | [], [], _ => exact fun pos => ⟨t_and1 q, t_or1 q⟩
      | b :: bs, e2 :: es2, h2 => exact fun pos => ⟨t_and q (sndTL (b :: bs) ok (e2 :: es2) h2 pos).1, t_or q (sndTL (b :: bs) ok (e2 :: es2) h2 pos).2⟩
theorem sndTs : ∀ (ms : List ME) {F : List (Addr × HO)} {C : Ctx} {X : Cx} {sc : Scope} {N : List Str} (ok : XOk T F C X sc N) (es : List Expr), chkTs T sc N ms es = true → PTs X es (lTs T X.K F C ms)
  | [], F, C, X, sc, N, ok, es, h => by
    cases es with
    | nil =>
      refine PTs.up pts_nil ?_
      rintro σ H Q ⟨F', ς, Z, Qz, hF', rs, n, h, p⟩
      exact p H true Z .refl n h
    | cons _ _ => cases h
  | [a], F, C, X, sc, N, ok, es, h => by
    match es, h with
    | [e], h =>
      refine PTs.up (pts_one (sndT a ok e h)) ?_
      rintro σ H Q ⟨F', ς, Z, Qz, hF', rs, n, h, p⟩
      exact ⟨F', ς, Z, Qz, hF', rs, n, h, p⟩
    | [], h => cases h
    | _ :: _ :: _, h => cases h
  | _ :: _ :: _, F, C, X, sc, N, ok, es, h => by cases es <;> cases h
end
end
end ZL

/-! The Z layer, 11: statements: what they want, the checker, soundness; a def by its body. -/
namespace ZL
open PySem PySem.Spec PyProof.Rows L2 RZ

/-! ### what statements want -/
def wpIp (op : Operator) (a b : W) (Z : Zp) (Q : ZQ) : Prop := match op, a, b with
  | .Add, .int i, .int j => Q (.int (i + j)) Z
  | .Add, .str x, .str y => x.length + y.length ≤ sizeLine ∧ Q (.str (x ++ y)) Z
  | .Sub, .int i, .int j => Q (.int (i - j)) Z
  | _, _, _ => False
/-- o[i] = v -/
def wpSet (o i v : W) (Z : Zp) (Q : Zp → Prop) : Prop := match o, i with
  | .ref p, .int k => (match wrl (Z p) with
    | some ws => (match ixN ws.length k with
      | some j => Q (upz Z p (.lst (ws.set j v)))
      | none => False)
    | none => wpSetD p (Z p) (.int k) v Z Q)
  | .ref p, i => wpSetD p (Z p) i v Z Q
  | _, _ => False
def setPar (ς : ZSt) : List Nat → List W → Option ZSt
  | [], [] => some ς
  | i :: is, w :: ws => setPar (ς.set i (some w)) is ws
  | _, _ => none
mutual
def wpS (C : Ctx) : MS → ZSt → Zp → ZD → Prop
  | .set i e, ς, Z, D => wpE C e ς Z fun w Z1 => D.nx (ς.set i (some w)) Z1
  | .asg t e, ς, Z, D => wpE C e ς Z fun w Z1 => wpG t w ς Z1 D.nx
  | .par is es, ς, Z, D => wpA C es ς Z fun ws Z1 => (match setPar ς is ws with
    | some ς' => D.nx ς' Z1
    | none => False)
  | .setix o i e, ς, Z, D => wpE C e ς Z fun v Z1 => wpE C o ς Z1 fun x Z2 => wpE C i ς Z2 fun y Z3 => wpSet x y v Z3 (D.nx ς)
  | .setfl _ _ _, _, _, _ => False
  | .aug i op e, ς, Z, D => (match ς[i]? with
    | some (some x) => wpE C e ς Z fun y Z1 => wpIp op x y Z1 fun w Z2 => D.nx (ς.set i (some w)) Z2
    | _ => False)
  | .augfl _ _ _ _, _, _, _ => False
  | .augix _ _ _ _, _, _, _ => False
  | .ex e, ς, Z, D => wpE C e ς Z fun _ Z1 => D.nx ς Z1
  | .ret e, ς, Z, D => wpE C e ς Z D.rt
  | .retN, _, Z, D => D.rt .non Z
  | .ife t a b, ς, Z, D => wpT C t ς Z fun k Z1 => if k = true then wpSs C a ς Z1 D else wpSs C b ς Z1 D
  | .for tg k it body, ς, Z, D => wpA C it ς Z fun ws Z1 => wpI k ws Z1 fun items still => forL (fun x ς' Z' D' => wpG tg x ς' Z' fun ς2 Z2 => wpSs C body ς2 Z2 D') still D items ς Z1
  | .whl t body, ς, Z, D => ∃ Iv : Nat → ZSt → Zp → Prop, (∃ m, Iv m ς Z) ∧ ∀ m ς Z, Iv m ς Z → wpT C t ς Z fun k Z1 => if k = true then
      wpSs C body ς Z1 { nx := fun ς' Z' => ∃ m' Z'', m' < m ∧ Zle Z'' Z' ∧ Iv m' ς' Z'', rt := D.rt, bk := D.nx, ct := fun ς' Z' => ∃ m' Z'', m' < m ∧ Zle Z'' Z' ∧ Iv m' ς' Z'' } else D.nx ς Z1
  | .pass, ς, Z, D => D.nx ς Z
  | .brk, ς, Z, D => D.bk ς Z
  | .cnt, ς, Z, D => D.ct ς Z
  | .rais _ _, _, _, _ => False
def wpSs (C : Ctx) : List MS → ZSt → Zp → ZD → Prop
  | [], ς, Z, D => D.nx ς Z
  | s :: ss, ς, Z, D => wpS C s ς Z { D with nx := fun ς' Z' => wpSs C ss ς' Z' D }
end

/-! ### the checker -/
/-- is the comprehension's value stored within its frame (x = [..] on one line, x a plain local) -/
def swB (sc : Scope) (t : Str) (ln : Nat) (e : Expr) : Bool := match e with
  | .ListComp _ _ scope pos => decide (sc.names.lookup t = some .local) && ln == pos.line && !(scope.names.any fun (n, k) => n == t && (k == .local || k == .cell))
  | _ => false
def isTupE : Expr → Bool
  | .Tuple _ _ _ => true
  | _ => false
def setOk (e : Expr) : Bool := match e with
  | .ListComp _ _ _ _ => true
  | e => !isCompE e
def ipOk : Operator → Bool
  | .Add => true
  | .Sub => true
  | _ => false
mutual
def chkS (T : Nms) (sc : Scope) (N : List Str) : MS → Stmt → Bool
  | .set i m, .Assign [.Name x px] e _ => decide (N[i]? = some x) && locB sc x && chkE T sc N m e && setOk e
  | .asg t m, .Assign [.Tuple es k p] e _ => chkG sc N t (.Tuple es k p) && !isTupE e && !isCompE e && chkE T sc N m e
  | .par is ms, .Assign [.Tuple [.Name x px, .Name y py] _ _] (.Tuple [a, b] _ _) _ => decide (is = [N.findIdx (· == x), N.findIdx (· == y)]) && decide (N[N.findIdx (· == x)]? = some x) && decide (N[N.findIdx (· == y)]? = some y) && !decide (x = y) &&
    decide (sc.names.lookup x = some .local) && decide (sc.names.lookup y = some .local) && (px.line == py.line) && !([a, b].all (foldedForSure 8)) && !([a, b].all (constantsAlone 8)) && chkA T sc N ms [a, b]
  | .setix o i m, .Assign [.Subscript a b _] e _ => !isSlc b && !isCompE e && chkE T sc N m e && chkE T sc N o a && chkE T sc N i b
  | .aug i op m, .AugAssign (.Name x _) o e _ => decide (N[i]? = some x) && locB sc x && decide (o = op) && ipOk op && chkE T sc N m e
  | .ex m, .Expr e _ => !isCompE e && chkE T sc N m e
  | .ret m, .Return (some e) _ => chkE T sc N m e
  | .retN, .Return none _ => true
  | .ife t a b, .If c x y _ => chkT T sc N t c && chkSs T sc N a x && chkSs T sc N b y
  | .for tg k it body, .For g i b [] _ => chkG sc N tg g && !isSetE i && (match iterArgs sc k g i with
    | some es => chkA T sc N it es
    | none => false) && chkSs T sc N body b
  | .whl t body, .While c b [] _ => chkT T sc N t c && chkSs T sc N body b
  | .pass, .Pass _ => true
  | .brk, .Break _ => true
  | .cnt, .Continue _ => true
  | _, _ => false
def chkSs (T : Nms) (sc : Scope) (N : List Str) : List MS → List Stmt → Bool
  | [], [] => true
  | a :: as, e :: es => chkS T sc N a e && chkSs T sc N as es
  | _, _ => false
end

/-! ### soundness -/
section
variable (T : Nms) (K : PySem.W.Frag) (F : List (Addr × HO)) (C : Ctx)
/-- the ends of a statement: what Z wants is what L2 wants -/
structure EndOk (F' : List (Addr × HO)) (H : Hp) (Dz : ZD) (D : Ends) : Prop where
  nx : ∀ H' σ' ς' Z', TupLe K H H' → RepS K H' ς' σ' → Now T K F' H' Z' → Dz.nx ς' Z' → D.nx σ' H'
  rt : ∀ H' v w Z', TupLe K H H' → Rep K H' w v → ZRel T K Z' H' → Fr F' Z' H' → Dz.rt w Z' → D.rt v H'
  bk : ∀ H' σ' ς' Z', TupLe K H H' → RepS K H' ς' σ' → Now T K F' H' Z' → Dz.bk ς' Z' → D.bk σ' H'
  ct : ∀ H' σ' ς' Z', TupLe K H H' → RepS K H' ς' σ' → Now T K F' H' Z' → Dz.ct ς' Z' → D.ct σ' H'
def lS (m : MS) : TS := fun D σ H => ∃ F' ς Z Dz, F ⊆ F' ∧ RepS K H ς σ ∧ Now T K F' H Z ∧ wpS C m ς Z Dz ∧ EndOk T K F' H Dz D
def lSs (ms : List MS) : TS := fun D σ H => ∃ F' ς Z Dz, F ⊆ F' ∧ RepS K H ς σ ∧ Now T K F' H Z ∧ wpSs C ms ς Z Dz ∧ EndOk T K F' H Dz D
end
section
variable {T : Nms} {F : List (Addr × HO)} {C : Ctx} {X : Cx} {sc : Scope} {N : List Str}
theorem EndOk.step {K : PySem.W.Frag} {F' : List (Addr × HO)} {H H1 : Hp} {Dz : ZD} {D : Ends} (e : EndOk T K F' H Dz D) (t : TupLe K H H1) : EndOk T K F' H1 Dz D :=
  ⟨fun H' σ' ς' Z' t' => e.nx H' σ' ς' Z' (t.trans t'), fun H' v w Z' t' => e.rt H' v w Z' (t.trans t'), fun H' σ' ς' Z' t' => e.bk H' σ' ς' Z' (t.trans t'), fun H' σ' ς' Z' t' => e.ct H' σ' ς' Z' (t.trans t')⟩
/-- a def's body's context -/
structure SOk (T : Nms) (F : List (Addr × HO)) (C : Ctx) (X : Cx) (sc : Scope) (N : List Str) : Prop extends XOk T F C X sc N where
  fn : ∀ x, X.fn x = true
  kind : X.env.scope.kind = .function
  pass : PassesOwn (model X.prog X.w) X.A X.env X.xe
theorem SOk.tg (ok : SOk T F C X sc N) : TgOk X sc := fun x h => ⟨by rw [ok.sc]; exact loc_of h, .inl (ok.fn x)⟩
/-- a statement's list -/
theorem s_nil : PSs X [] (lSs T X.K F C []) := PSs.up pss_nil fun D σ H ⟨F', ς, Z, Dz, hF', rs, n, h, e⟩ => e.nx H σ ς Z .refl rs n h
theorem s_cons {m : MS} {ms : List MS} {s : Stmt} {ss : List Stmt} (h1 : PS X s (lS T X.K F C m)) (h2 : PSs X ss (lSs T X.K F C ms)) : PSs X (s :: ss) (lSs T X.K F C (m :: ms)) := by
  refine PSs.up (pss_cons h1 h2) ?_
  rintro D σ H ⟨F', ς, Z, Dz, hF', rs, n, h, e⟩
  exact ⟨F', ς, Z, _, hF', rs, n, h, fun H' σ' ς' Z' t' rs' n' q => ⟨F', ς', Z', Dz, hF', rs', n', q, e.step t'⟩, e.rt, e.bk, e.ct⟩
theorem s_set {i : Nat} {m : ME} {x : Str} {e : Expr} {px pos : Pos} (ok : SOk T F C X sc N) (hi : X.N[i]? = some x) (hx : Loc X.env.scope x) (h : PS X (.Assign [.Name x px] e pos) (tAsg (lE T X.K F C m) (gName i))) : PS X (.Assign [.Name x px] e pos) (lS T X.K F C (.set i m)) := by
  refine PS.up h ?_
  rintro D σ H ⟨F', ς, Z, Dz, hF', rs, n, h, e⟩
  exact ⟨F', ς, Z, _, hF', rs, n, h, fun H1 v w Z1 t1 r1 z1 f1 q1 => e.nx H1 _ _ Z1 t1 ((rs.mono t1).set r1 i) ⟨z1, f1⟩ q1⟩
theorem sw_plain {e : Expr} {t : Option Expr} {l : Nat} {env : Env} (h : isCompE e = false) : swapsWith e t l env = pure false := by
  cases e <;> first | rfl | cases h
theorem sw_list {elt : Expr} {gs : List Comprehension} {scope : Scope} {pos py : Pos} {y : Str} {l : Nat} {env : Env} (hk : env.scope.kind = .function) : swapsWith (.ListComp elt gs scope pos) (some (.Name y py)) l env = pure (swB env.scope y py.line (.ListComp elt gs scope pos)) := by
  have hb : env.blockKind = .function := by unfold Env.blockKind; rw [hk]; rfl
  have hd : (env.kindOf y == some NameKind.local) = decide (env.scope.names.lookup y = some .local) := by
    show (env.scope.names.lookup y == _) = _
    rw [Bool.beq_eq_decide_eq]
  unfold swapsWith swB
  simp only [hb, hd, Expr.pos]
  rfl
theorem swapped_plain {t : Expr} {e : Expr} {env : Env} (h : isTupE e = false) : swappedStores [t] e env = pure none := by
  unfold swappedStores
  cases e <;> first | (cases t <;> rfl) | cases h
theorem s_asg {t : MG} {m : ME} {tg e : Expr} {pos : Pos} (hst : isStar tg = false) (hc : isCompE e = false) (ht : isTupE e = false) (hg : PG X tg (lG T X.K F t)) (he : PE X e (lE T X.K F C m)) : PS X (.Assign [tg] e pos) (lS T X.K F C (.asg t m)) := by
  refine PS.up (ps_asg he hg (hs := sw_plain hc) (hw := swapped_plain ht) (h1 := by rw [asg_cons hst]; rfl)) ?_
  rintro D σ H ⟨F', ς, Z, Dz, hF', rs, n, h, e⟩
  exact ⟨F', ς, Z, _, hF', rs, n, h, fun H1 v w Z1 t1 r1 z1 f1 q1 => ⟨F', ς, Z1, w, _, hF', rs.mono t1, ⟨z1, f1⟩, r1, q1, fun H' σ' ς' Z' t' rs' n' _ _ q' => e.nx H' σ' ς' Z' (t1.trans t') rs' n' q'⟩⟩
theorem s_ex {m : ME} {e : Expr} {pos : Pos} (hc : isCompE e = false) (he : PE X e (lE T X.K F C m)) : PS X (.Expr e pos) (lS T X.K F C (.ex m)) := by
  refine PS.up (ps_expr he (sw_plain hc)) ?_
  rintro D σ H ⟨F', ς, Z, Dz, hF', rs, n, h, e⟩
  exact ⟨F', ς, Z, _, hF', rs, n, h, fun H1 v w Z1 t1 r1 z1 f1 q1 => e.nx H1 σ ς Z1 t1 (rs.mono t1) ⟨z1, f1⟩ q1⟩
theorem s_ret {m : ME} {e : Expr} {pos : Pos} (he : PE X e (lE T X.K F C m)) : PS X (.Return (some e) pos) (lS T X.K F C (.ret m)) := by
  refine PS.up (ps_ret he) ?_
  rintro D σ H ⟨F', ς, Z, Dz, hF', rs, n, h, e⟩
  exact ⟨F', ς, Z, _, hF', rs, n, h, fun H1 v w Z1 t1 r1 z1 f1 q1 => e.rt H1 v w Z1 t1 r1 z1 f1 q1⟩
theorem s_retN {pos : Pos} : PS X (.Return none pos) (lS T X.K F C .retN) := by
  refine PS.up ps_retN ?_
  rintro D σ H ⟨F', ς, Z, Dz, hF', rs, n, h, e⟩
  exact e.rt H _ _ Z .refl .non n.z n.f h
theorem s_pass {pos : Pos} : PS X (.Pass pos) (lS T X.K F C .pass) := by
  refine PS.up ps_pass ?_
  rintro D σ H ⟨F', ς, Z, Dz, hF', rs, n, h, e⟩
  exact e.nx H _ _ Z .refl rs n h
theorem s_brk {pos : Pos} : PS X (.Break pos) (lS T X.K F C .brk) := by
  refine PS.up ps_break ?_
  rintro D σ H ⟨F', ς, Z, Dz, hF', rs, n, h, e⟩
  exact e.bk H _ _ Z .refl rs n h
theorem s_cnt {pos : Pos} : PS X (.Continue pos) (lS T X.K F C .cnt) := by
  refine PS.up ps_continue ?_
  rintro D σ H ⟨F', ς, Z, Dz, hF', rs, n, h, e⟩
  exact e.ct H _ _ Z .refl rs n h
theorem s_ife {t : ME} {a b : List MS} {c : Expr} {x y : List Stmt} {pos : Pos} (ht : PT X c (lT T X.K F C t)) (ha : PSs X x (lSs T X.K F C a)) (hb : PSs X y (lSs T X.K F C b)) : PS X (.If c x y pos) (lS T X.K F C (.ife t a b)) := by
  refine PS.up (ps_if ht ha hb) ?_
  rintro D σ H ⟨F', ς, Z, Dz, hF', rs, n, h, e⟩
  refine ⟨F', ς, Z, _, hF', rs, n, h, fun H1 k Z1 t1 n1 q1 => ?_⟩
  cases k with
  | true => exact ⟨F', ς, Z1, Dz, hF', rs.mono t1, n1, q1, e.step t1⟩
  | false => exact ⟨F', ς, Z1, Dz, hF', rs.mono t1, n1, q1, e.step t1⟩
theorem ip_rule (X : Cx) (T : Nms) : ∀ op, ipOk op = true → ∃ r, PIp X op r ∧ ∀ F, R2Z T X.K F (wpIp op) r
  | .Add, _ => ⟨_, OpR.or iop_add iop_add_str, fun F => by
      intro H Z w1 w2 x y Qz Q n r1 r2 h p
      cases r1 with
      | int i =>
        cases r2 with
        | int j => exact .inl ⟨i, j, rfl, rfl, p.here n (.int _) h⟩
        | _ => exact h.elim
      | str a =>
        cases r2 with
        | str b => exact .inr ⟨a, b, rfl, rfl, h.1, p.here n (.str _) h.2⟩
        | _ => exact h.elim
      | _ => cases r2 <;> exact h.elim⟩
  | .Sub, _ => ⟨_, iop_sub, fun F => by
      intro H Z w1 w2 x y Qz Q n r1 r2 h p
      cases r1 <;> cases r2 <;> first | exact h.elim | exact ⟨_, _, rfl, rfl, p.here n (.int _) h⟩⟩
theorem s_aug {i : Nat} {op : Operator} {m : ME} {x : Str} {e : Expr} {px pos : Pos} (ok : SOk T F C X sc N) (hi : X.N[i]? = some x) (hx : Loc X.env.scope x) (ho : ipOk op = true) (he : PE X e (lE T X.K F C m)) : PS X (.AugAssign (.Name x px) op e pos) (lS T X.K F C (.aug i op m)) := by
  obtain ⟨r, q1, q2⟩ := ip_rule X T op ho
  refine PS.up (ps_aug ok.nd hi hx he q1 (.inl (ok.fn x))) ?_
  rintro D σ H ⟨F', ς, Z, Dz, hF', rs, n, h, e⟩
  have h : (match ς[i]? with
    | some (some x) => wpE C m ς Z fun y Z1 => wpIp op x y Z1 fun w Z2 => Dz.nx (ς.set i (some w)) Z2
    | _ => False) := h
  rcases ei : ς[i]? with _ | o
  · rw [ei] at h; exact h.elim
  · rw [ei] at h
    cases o with
    | none => exact h.elim
    | some w0 =>
      obtain ⟨v0, g1, g2⟩ := rs.2 i w0 ei
      refine ⟨v0, g1, F', ς, Z, _, hF', rs, n, h, fun H1 v1 w1 Z1 t1 r1 z1 f1 k1 => ?_⟩
      exact q2 F' ⟨z1, f1⟩ (g2.mono t1) r1 k1 fun H2 v2 w2 Z2 t2 r2 z2 f2 k2 => e.nx H2 _ _ Z2 (t1.trans t2) ((rs.mono (t1.trans t2)).set r2 i) ⟨z2, f2⟩ k2
/-- o[i] = e -/
def rSetZ (K : PySem.W.Frag) (w : World) : V → V → V → Hp → (Hp → Prop) → Prop := fun o i v H Q => rSetN K w o i v H Q ∨ rSetL o i v H Q
theorem set_or {t t' : V → V → V → Hp → (Hp → Prop) → Prop} (h : PSet X t) (h' : PSet X t') : PSet X (fun o i v H Q => t o i v H Q ∨ t' o i v H Q) := by
  intro pins s σ H o i v ov iv u Q I ro ri rv q
  rcases q with q | q
  · exact h pins s σ H o i v ov iv u Q I ro ri rv q
  · exact h' pins s σ H o i v ov iv u Q I ro ri rv q
/-- d[k] = v, below -/
theorem z_setD {K : PySem.W.Frag} {F' : List (Addr × HO)} {H : Hp} {Z : Zp} {a : Addr} {wi wv : W} {yi yv : V} {Qz : Zp → Prop} {Q : Hp → Prop} (n : Now T K F' H Z) (ri : Rep K H wi yi) (rv : Rep K H wv yv) (h : wpSetD a (Z a) wi wv Z Qz)
    (p : ∀ H' Z', TupLe K H H' → Now T K F' H' Z' → Qz Z' → Q H') : rSetN K T.w (.ref a) yi yv H Q := by
  unfold wpSetD at h
  split at h
  · rename_i ep kvs k hz hk
    refine dsee n hz ri hk fun es D pr => ?_
    obtain ⟨es0, he, hne, hsz, hnd, hpr⟩ := n.z _ _ hz
    refine ⟨fun j u hj ru => ?_, fun ku u hn rk ru => ?_⟩
    · have t : TupLe K H (upd H a (.ext (DX a (es.modify j fun e => { e with val := u }) ep))) := .put D.ob rfl
      have e1 : dep ep kvs k = ep := by unfold dep dfind; rw [hj]
      have e2 : dput kvs wi wv k = kvs.modify j fun p => (p.1, wv) := by unfold dput dfind; rw [hj]
      have h2 := h.2
      rw [e1, e2] at h2
      refine p _ _ t ⟨n.z.put (z := .dct ep (kvs.modify j fun p => (p.1, wv))) D.ob rfl ⟨_, upd_same, hne, by rw [List.length_modify]; exact hsz, ?_, ?_⟩, n.f.put hz⟩ h2
      · have : (kvs.modify j fun p => (p.1, wv)).map keyD = kvs.map keyD := by
          apply List.ext_getElem?
          intro m
          rw [List.getElem?_map, List.getElem?_map, List.getElem?_modify]
          cases kvs[m]? with
          | none => rfl
          | some q => by_cases hh : j = m <;> simp [hh, keyD]
        rw [this]; exact hnd
      · rw [Array.toList_modify]
        exact pairedMap (fun _ _ x => x.mono t) (Paired.modL j pr fun p e _ ⟨k', v', u', h1, h2, h3, h4, h5, h6⟩ => ⟨k', v', yv, h1, h2, h3, h4, ru, rv⟩)
    · have t : TupLe K H (upd H a (.ext (DX a (es.push ⟨k.hash T.w, ku, u⟩) (ep + 1)))) := .put D.ob rfl
      have e1 : dep ep kvs k = ep + 1 := by unfold dep dfind; rw [hn]
      have e2 : dput kvs wi wv k = kvs ++ [(wi, wv)] := by unfold dput dfind; rw [hn]
      have h2 := h.2
      rw [e1, e2] at h2
      refine p _ _ t ⟨n.z.put (z := .dct (ep + 1) (kvs ++ [(wi, wv)])) D.ob rfl ⟨_, upd_same, hne, by rw [List.length_append]; exact h.1, nodup_new hnd hk hn, ?_⟩, n.f.put hz⟩ h2
      exact pairedMap (fun _ _ x => x.mono t) (put_new pr hk ri rv rk ru)
  · exact h.elim
theorem s_setix {o i m : ME} {a b e : Expr} {p pos : Pos} (ok : SOk T F C X sc N) (hb : isSlc b = false) (hc : isCompE e = false) (ho : PE X a (lE T X.K F C o)) (hi : PE X b (lE T X.K F C i)) (he : PE X e (lE T X.K F C m)) : PS X (.Assign [.Subscript a b p] e pos) (lS T X.K F C (.setix o i m)) := by
  have st : PSet X (rSetZ X.K T.w) := set_or (by rw [ok.g.ww]; exact set_dictN (in1_8 ok.room.units)) set_list
  have hg : PG X (.Subscript a b p) (gSub (lE T X.K F C o) (lE T X.K F C i) (rSetZ X.K T.w)) := pg_sub ho hi st (by intro v; cases b <;> first | rfl | cases hb)
  refine PS.up (ps_asg he hg (hs := (show swapsWith e (some (.Subscript a b p)) pos.line X.env = pure false from sw_plain hc)) (hw := by unfold swappedStores; cases e <;> rfl)) ?_
  rintro D σ H ⟨F', ς, Z, Dz, hF', rs, n, h, e⟩
  refine ⟨F', ς, Z, _, hF', rs, n, h, fun H1 v1 w1 Z1 t1 r1 z1 f1 q1 => ?_⟩
  refine ⟨F', ς, Z1, _, hF', rs.mono t1, ⟨z1, f1⟩, q1, fun H2 v2 w2 Z2 t2 r2 z2 f2 q2 => ?_⟩
  refine ⟨F', ς, Z2, _, hF', rs.mono (t1.trans t2), ⟨z2, f2⟩, q2, fun H3 v3 w3 Z3 t3 r3 z3 f3 q3 => ?_⟩
  have n3 : Now T X.K F' H3 Z3 := ⟨z3, f3⟩
  have r2 := r2.mono t3
  have r1 := r1.mono (t2.trans t3)
  have fin : ∀ H' Z', TupLe X.K H3 H' → Now T X.K F' H' Z' → Dz.nx ς Z' → D.nx σ H' := fun H' Z' t' n' q' => e.nx H' _ _ Z' (t1.trans (t2.trans (t3.trans t'))) (rs.mono (t1.trans (t2.trans (t3.trans t')))) n' q'
  cases r2 with
  | ref q =>
    have r3' := r3
    cases r3 with
    | int k =>
      cases e1 : wrl (Z3 q) with
      | none =>
        simp only [wpSet, e1] at q3
        exact .inl (z_setD n3 r3' r1 q3 fin)
      | some ws =>
        simp only [wpSet, e1] at q3
        cases e2 : ixN ws.length k with
        | none => simp only [e2] at q3
        | some j =>
          simp only [e2] at q3
          obtain ⟨vs, g, qq⟩ := n3.lst (wrl_inv e1)
          have tt : TupLe X.K H3 (upd H3 q (.lst (vs.set j v1))) := .put g rfl
          exact .inr ⟨q, vs, k, j, rfl, rfl, g, by rw [← qq.length]; exact e2, fin _ _ tt ⟨n3.z.put (z := .lst (ws.set j w1)) g rfl ⟨_, upd_same, (qq.set r1 j).mono tt⟩, n3.f.put (wrl_inv e1)⟩ q3⟩
    | _ => exact .inl (z_setD n3 r3' r1 q3 fin)
  | _ => cases r3 <;> exact q3.elim
theorem s_for {tg : MG} {k : IK} {it : List ME} {body : List MS} {g i : Expr} {b : List Stmt} {pos : Pos} (ok : SOk T F C X sc N) (hfs : isSetE i = false) (hi : PI X g i (lI T X.K F C k it)) (hg : PG X g (lG T X.K F tg)) (hb : PSs X b (lSs T X.K F C body)) :
    PS X (.For g i b [] pos) (lS T X.K F C (.for tg k it body)) := by
  refine PS.up (ps_for ok.pass ok.calm hi hg hb (folded_plain hfs)) ?_
  rintro D σ H ⟨F', ς, Z, Dz, hF', rs, n, h, e⟩
  refine ⟨F', ς, Z, _, hF', rs, n, h, fun H1 J items still Z1 t1 l1 n1 hJ q1 => ?_⟩
  refine ⟨fun i m σ2 H2 => i + m = items.length ∧ ∃ ς2 Z2, RepS X.K H2 ς2 σ2 ∧ TupLe X.K H1 H2 ∧ Now T X.K F' H2 Z2 ∧ forL (fun x ς' Z' D' => wpG tg x ς' Z' fun ς2 Z2 => wpSs C body ς2 Z2 D') still Dz (items.drop i) ς2 Z2,
    ⟨items.length, by omega, ς, Z1, rs.mono t1, .refl, n1, q1⟩, ?_⟩
  rintro i m σ2 H2 ⟨him, ς2, Z2, rs2, t2, n2, fl⟩
  by_cases hlt : i < items.length
  · obtain ⟨x, hx⟩ := lt_get hlt
    have hdrop : items.drop i = x :: items.drop (i + 1) := by
      rw [List.drop_eq_getElem_cons hlt]
      rw [List.getElem?_eq_getElem hlt] at hx
      rw [Option.some.inj hx]
    rw [hdrop] at fl
    obtain ⟨st, fl⟩ := fl
    refine .inr ⟨(hJ F').go i H2 Z2 t2 n2 st hlt, fun σ' H' => ∃ ς2 Z2, RepS X.K H' ς2 σ' ∧ TupLe X.K H1 H' ∧ Now T X.K F' H' Z2 ∧ forL _ still Dz (items.drop (i + 1)) ς2 Z2, fun σ' H' hN => ⟨m - 1, by omega, by omega, hN⟩, fun v H3 hy => ?_⟩
    obtain ⟨w, hw, rw1, t3, n3⟩ := (hJ F').yld i H2 Z2 v H3 t2 n2 st hy hlt
    rw [hx] at hw
    cases hw
    refine ⟨F', ς2, Z2, x, _, hF', rs2.mono t3, n3, rw1, fl, fun H4 σ4 ς4 Z4 t4 rs4 n4 hl4 hj4 q4 => ?_⟩
    refine ⟨F', ς4, Z4, _, hF', rs4, n4, q4, ⟨?_, ?_, ?_, ?_⟩⟩
    · rintro H5 σ5 ς5 Z5 t5 rs5 n5 ⟨Z6, le, q5⟩
      exact ⟨ς5, Z6, rs5, t2.trans (t3.trans (t4.trans t5)), ⟨n5.z.le le, n5.f.le le⟩, q5⟩
    · intro H5 v5 w5 Z5 t5 r5 z5 f5 q5
      exact e.rt H5 v5 w5 Z5 (t1.trans (t2.trans (t3.trans (t4.trans t5)))) r5 z5 f5 q5
    · intro H5 σ5 ς5 Z5 t5 rs5 n5 q5
      exact e.nx H5 σ5 ς5 Z5 (t1.trans (t2.trans (t3.trans (t4.trans t5)))) rs5 n5 q5
    · rintro H5 σ5 ς5 Z5 t5 rs5 n5 ⟨Z6, le, q5⟩
      exact ⟨ς5, Z6, rs5, t2.trans (t3.trans (t4.trans t5)), ⟨n5.z.le le, n5.f.le le⟩, q5⟩
  · have hi : items.drop i = [] := List.drop_eq_nil_of_le (by omega)
    rw [hi] at fl
    obtain ⟨st, fl⟩ := fl
    exact .inl ⟨(hJ F').stop i H2 Z2 t2 n2 st (by omega), e.nx H2 σ2 ς2 Z2 (t1.trans t2) rs2 n2 fl⟩
theorem s_whl {t : ME} {body : List MS} {c : Expr} {b : List Stmt} {pos : Pos} (ok : SOk T F C X sc N) (ht : PT X c (lT T X.K F C t)) (hb : PSs X b (lSs T X.K F C body)) : PS X (.While c b [] pos) (lS T X.K F C (.whl t body)) := by
  refine PS.up (ps_while ok.pass ht hb) ?_
  rintro D σ H ⟨F', ς, Z, Dz, hF', rs, n, h, e⟩
  obtain ⟨Iv, ⟨m0, i0⟩, hI⟩ := h
  refine ⟨fun m σ2 H2 => ∃ ς2 Z2, RepS X.K H2 ς2 σ2 ∧ TupLe X.K H H2 ∧ Now T X.K F' H2 Z2 ∧ Iv m ς2 Z2, ⟨m0, ς, Z, rs, .refl, n, i0⟩, ?_⟩
  rintro m σ2 H2 ⟨ς2, Z2, rs2, t2, n2, iv⟩
  refine ⟨F', ς2, Z2, _, hF', rs2, n2, hI m ς2 Z2 iv, fun H3 k Z3 t3 n3 q3 => ?_⟩
  cases k with
  | false => exact e.nx H3 σ2 ς2 Z3 (t2.trans t3) (rs2.mono t3) n3 q3
  | true =>
    simp only [if_true] at q3 ⊢
    refine ⟨fun σ' H' => ∃ m', m' < m ∧ ∃ ς2 Z2, RepS X.K H' ς2 σ' ∧ TupLe X.K H H' ∧ Now T X.K F' H' Z2 ∧ Iv m' ς2 Z2, fun σ' H' hN => hN, F', ς2, Z3, _, hF', rs2.mono t3, n3, q3, ⟨?_, ?_, ?_, ?_⟩⟩
    · rintro H5 σ5 ς5 Z5 t5 rs5 n5 ⟨m', Z6, hm, le, q5⟩
      exact ⟨m', hm, ς5, Z6, rs5, t2.trans (t3.trans t5), ⟨n5.z.le le, n5.f.le le⟩, q5⟩
    · intro H5 v5 w5 Z5 t5 r5 z5 f5 q5
      exact e.rt H5 v5 w5 Z5 (t2.trans (t3.trans t5)) r5 z5 f5 q5
    · intro H5 σ5 ς5 Z5 t5 rs5 n5 q5
      exact e.nx H5 σ5 ς5 Z5 (t2.trans (t3.trans t5)) rs5 n5 q5
    · rintro H5 σ5 ς5 Z5 t5 rs5 n5 ⟨m', Z6, hm, le, q5⟩
      exact ⟨m', hm, ς5, Z6, rs5, t2.trans (t3.trans t5), ⟨n5.z.le le, n5.f.le le⟩, q5⟩
/-- a, b = e1, e2 -/
theorem s_par {is : List Nat} {ms : List ME} {x y : Str} {a b : Expr} {px py pt pt2 pos : Pos} {kt k2 : Nat} {i j : Nat} (ok : SOk T F C X sc N) (his : is = [i, j]) (hi : X.N[i]? = some x) (hj : X.N[j]? = some y) (hxy : x ≠ y) (hx : X.env.scope.names.lookup x = some .local) (hy : X.env.scope.names.lookup y = some .local)
    (hl : (px.line == py.line) = true) (f1 : ([a, b].all (foldedForSure 8)) = false) (f2 : ([a, b].all (constantsAlone 8)) = false) (sa : isStar a = false) (sb : isStar b = false) (ha : PA X [a, b] (lA T X.K F C ms)) :
    PS X (.Assign [.Tuple [.Name x px, .Name y py] kt pt] (.Tuple [a, b] k2 pt2) pos) (lS T X.K F C (.par is ms)) := by
  subst his
  have hij : i ≠ j := fun e => by subst e; rw [hi] at hj; exact hxy (Option.some.inj hj)
  have hb : X.env.blockKind = .function := by unfold Env.blockKind; rw [ok.kind]; rfl
  have q1 : (X.env.kindOf x == some NameKind.local) = true := by show (X.env.scope.names.lookup x == _) = _; rw [hx]; rfl
  have q2 : (X.env.kindOf y == some NameKind.local) = true := by show (X.env.scope.names.lookup y == _) = _; rw [hy]; rfl
  have hl2 : (py.line == px.line) = true := by rw [beq_iff_eq] at hl ⊢; exact hl.symm
  have hne : (x == y) = false := beq_false_of_ne hxy
  have hne2 : (y == x) = false := beq_false_of_ne (Ne.symm hxy)
  have hw : swappedStores [.Tuple [.Name x px, .Name y py] kt pt] (.Tuple [a, b] k2 pt2) X.env = pure (some [x, y]) := by
    unfold swappedStores
    simp only [hb]
    refine Eq.trans (if_neg (by simp)) (Eq.trans (if_neg ?_) ?_)
    · simp only [List.any_cons, List.any_nil, Bool.or_false, Bool.or_eq_true, not_or]
      refine ⟨?_, ?_⟩
      · cases a <;> first | exact Bool.false_ne_true | cases sa
      · cases b <;> first | exact Bool.false_ne_true | cases sb
    · simp only [List.head?_cons, Option.map_some, Option.getD_some, Expr.pos, List.filterMap_cons, List.filterMap_nil, q1, q2, hl2, beq_self_eq_true, Bool.and_self, if_true, f1, f2, Bool.false_eq_true, if_false]
      refine if_neg (by simp [List.eraseDups, List.eraseDupsBy, List.eraseDupsBy.loop, hne, hne2])
  refine PS.up (ps_par ok.calm ok.nd hi hj hij hx hy ha hw) ?_
  rintro D σ H ⟨F', ς, Z, Dz, hF', rs, n, h, e⟩
  refine ⟨F', ς, Z, _, hF', rs, n, h, fun H1 vs ws Z1 t1 r1 n1 q1 => ?_⟩
  match ws, r1, q1 with
  | [w, w'], r1, q1 =>
    obtain ⟨v, v', rfl, rv, rv'⟩ := reps2 r1
    exact ⟨v, v', rfl, e.nx H1 _ _ Z1 t1 (((rs.mono t1).set rv i).set rv' j) n1 q1⟩
  | [], _, q1 => exact q1.elim
  | [w], _, q1 => exact q1.elim
  | w :: w' :: w'' :: r, _, q1 => exact q1.elim
end
end ZL

/-! The Z layer, 12: every checked body is sound; a def by its body. -/
namespace ZL
open PySem PySem.Spec PyProof.Rows L2 RZ
section
variable {T : Nms} {F : List (Addr × HO)} {C : Ctx} {X : Cx} {sc : Scope} {N : List Str}
/-- x = e -/
theorem sndSet (ok : SOk T F C X sc N) {i : Nat} {m : ME} {x : Str} {px pos : Pos} {e : Expr} (h : chkS T sc N (.set i m) (.Assign [.Name x px] e pos) = true) : PS X (.Assign [.Name x px] e pos) (lS T X.K F C (.set i m)) := by
  have h : (decide (N[i]? = some x) && locB sc x && chkE T sc N m e && setOk e) = true := h
  obtain ⟨h1, h4⟩ := and2 h
  obtain ⟨h1, h2, h3⟩ := and3 h1
  have hi : X.N[i]? = some x := by rw [ok.N]; exact dec h1
  obtain ⟨t1, t2⟩ := ok.tg x h2
  by_cases hc : isCompE e = false
  · exact s_set ok hi t1 (ps_set ok.nd hi t1 (sndE m ok.toXOk e h3) (sw_plain hc) t2)
  · cases e with
    | ListComp elt gs scope p =>
      have sw := sw_list (elt := elt) (gs := gs) (scope := scope) (pos := p) (py := px) (y := x) (l := pos.line) ok.kind
      by_cases hs : swB X.env.scope x px.line (.ListComp elt gs scope p) = false
      · rw [hs] at sw
        exact s_set ok hi t1 (ps_set ok.nd hi t1 (sndE m ok.toXOk _ h3) sw t2)
      · have hs : swB X.env.scope x px.line (.ListComp elt gs scope p) = true := by
          cases q : swB X.env.scope x px.line (.ListComp elt gs scope p) with
          | true => rfl
          | false => exact absurd q hs
        rw [hs] at sw
        have hl : X.env.scope.names.lookup x = some .local := dec (and3 hs).1
        cases m with
        | comp el tg k it ts own =>
          match gs, h3, sw with
          | [⟨g, i', ifs, a⟩], h, sw =>
            obtain ⟨hB, hst, hE⟩ := and3 h
            obtain ⟨hD, hM, hTs⟩ := and3 hB
            obtain ⟨hG, hg, hset⟩ := and3 hD
            obtain ⟨ha, hsl, hblk⟩ := and3 hG
            have ea : a = 0 := dec ha
            subst ea
            have hb : BlkOk X.N X.env.scope scope (ownOf N own) := by rw [ok.N, ok.sc]; exact blkOk_by hblk
            refine s_set ok hi t1 (s_comp ok.toXOk hb (nt hset) (fun j hj => by have q := List.all_eq_true.mp hsl j hj; simpa using q) hi hl sw ?_ (fun s H Ca cl fp => ?_) (fun s H Ca cl fp => ?_) (fun s H Ca cl fp => ?_))
            · cases ei : iterArgs sc k g i' with
              | none => rw [ei] at hM; cases hM
              | some es =>
                rw [ei] at hM
                obtain ⟨i1, i2, i3, i4⟩ := sndA it ok.toXOk es hM
                exact iter_snd ok.toXOk ei i1 i4 (chkA_len hM)
            · exact sndG (X := X.blk s H scope (compEnvC scope cl Ca X.env) fp) ok.N ok.nd ok.calm (tg_blk scope s H Ca cl fp) tg g hg
            · exact sndTs ts (ok.toXOk.blk scope s H Ca cl fp) ifs hTs
            · exact sndE el (ok.toXOk.blk scope s H Ca cl fp) elt hE
          | [], h, _ => simp [chkE] at h
          | _ :: _ :: _, h, _ => simp [chkE] at h
        | _ => cases h3
    | _ => first | exact absurd rfl hc | cases h4
mutual
theorem sndS (ok : SOk T F C X sc N) : ∀ (m : MS) (s : Stmt), chkS T sc N m s = true → PS X s (lS T X.K F C m)
  | .set i m, s, h => by
    cases s with
    | Assign tgs e pos =>
      match tgs, h with
      | [.Name x px], h => exact sndSet ok h
    | _ => cases h
  | .asg t m, s, h => by
    cases s with
    | Assign tgs e pos =>
      match tgs, h with
      | [.Tuple es k p], h =>
        obtain ⟨h1, h2⟩ := and2 h
        obtain ⟨h3, h4, h5⟩ := and3 h1
        exact s_asg rfl (nt h5) (nt h4) (sndG ok.N ok.nd ok.calm ok.tg t _ h3) (sndE m ok.toXOk e h2)
    | _ => cases h
  | .par is ms, s, h => by
    cases s with
    | Assign tgs e pos =>
      match tgs, e, h with
      | [.Tuple [.Name x px, .Name y py] kt pt], .Tuple [a, b] k2 pt2, h =>
        obtain ⟨g1, hA⟩ := and2 h
        obtain ⟨g2, hf1, hf2⟩ := and3 g1
        obtain ⟨g3, hy, hl⟩ := and3 g2
        obtain ⟨g4, hne, hx⟩ := and3 g3
        obtain ⟨his, hi, hj⟩ := and3 g4
        obtain ⟨i1, i2, _, _⟩ := sndA ms ok.toXOk [a, b] hA
        exact s_par ok (dec his) (by rw [ok.N]; exact dec hi) (by rw [ok.N]; exact dec hj) (of_decide_eq_false (nt hne)) (by rw [ok.sc]; exact dec hx) (by rw [ok.sc]; exact dec hy) hl (nt hf1) (nt hf2) (i2 a List.mem_cons_self) (i2 b (List.mem_cons_of_mem _ List.mem_cons_self)) i1
    | _ => cases h
  | .setix o i m, s, h => by
    cases s with
    | Assign tgs e pos =>
      match tgs, h with
      | [.Subscript a b p], h =>
        obtain ⟨g1, h5⟩ := and2 h
        obtain ⟨g2, h3, h4⟩ := and3 g1
        obtain ⟨h1, h2⟩ := and2 g2
        exact s_setix ok (nt h1) (nt h2) (sndE o ok.toXOk a h4) (sndE i ok.toXOk b h5) (sndE m ok.toXOk e h3)
    | _ => cases h
  | .setfl _ _ _, s, h => by cases s <;> cases h
  | .aug i op m, s, h => by
    cases s with
    | AugAssign tg o e pos =>
      match tg, h with
      | .Name x px, h =>
        obtain ⟨g1, h4, h5⟩ := and3 h
        obtain ⟨h1, h2, h3⟩ := and3 g1
        have e : o = op := dec h3
        subst e
        exact s_aug ok (by rw [ok.N]; exact dec h1) (ok.tg x h2).1 h4 (sndE m ok.toXOk _ h5)
    | _ => cases h
  | .augfl _ _ _ _, s, h => by cases s <;> cases h
  | .augix _ _ _ _, s, h => by cases s <;> cases h
  | .ex m, s, h => by
    cases s with
    | Expr e pos =>
      obtain ⟨h1, h2⟩ := and2 h
      exact s_ex (nt h1) (sndE m ok.toXOk e h2)
    | _ => cases h
  | .ret m, s, h => by
    cases s with
    | Return o pos =>
      cases o with
      | none => cases h
      | some e => exact s_ret (sndE m ok.toXOk e h)
    | _ => cases h
  | .retN, s, h => by
    cases s with
    | Return o pos =>
      cases o with
      | none => exact s_retN
      | some e => cases h
    | _ => cases h
  | .ife t a b, s, h => by
    cases s with
    | If c x y pos =>
      obtain ⟨h1, h2, h3⟩ := and3 h
      exact s_ife (sndT t ok.toXOk c h1) (sndSs ok a x h2) (sndSs ok b y h3)
    | _ => cases h
  | .for tg k it body, s, h => by
    cases s with
    | For g i b els pos =>
      match els, h with
      | [], h =>
        obtain ⟨g1, h3, h4⟩ := and3 h
        obtain ⟨h1, h2⟩ := and2 g1
        refine s_for ok (nt h2) ?_ (sndG ok.N ok.nd ok.calm ok.tg tg g h1) (sndSs ok body b h4)
        cases ei : iterArgs sc k g i with
        | none => rw [ei] at h3; cases h3
        | some es =>
          rw [ei] at h3
          obtain ⟨i1, i2, i3, i4⟩ := sndA it ok.toXOk es h3
          exact iter_snd ok.toXOk ei i1 i4 (chkA_len h3)
    | _ => cases h
  | .whl t body, s, h => by
    cases s with
    | While c b els pos =>
      match els, h with
      | [], h =>
        obtain ⟨h1, h2⟩ := and2 h
        exact s_whl ok (sndT t ok.toXOk c h1) (sndSs ok body b h2)
    | _ => cases h
  | .pass, s, h => by
    cases s with
    | Pass pos => exact s_pass
    | _ => cases h
  | .brk, s, h => by
    cases s with
    | Break pos => exact s_brk
    | _ => cases h
  | .cnt, s, h => by
    cases s with
    | Continue pos => exact s_cnt
    | _ => cases h
  | .rais _ _, s, h => by cases s <;> cases h
theorem sndSs (ok : SOk T F C X sc N) : ∀ (ms : List MS) (ss : List Stmt), chkSs T sc N ms ss = true → PSs X ss (lSs T X.K F C ms)
  | [], ss, h => by
    cases ss with
    | nil => exact s_nil
    | cons _ _ => cases h
  | m :: ms, ss, h => by
    cases ss with
    | nil => cases h
    | cons s ss =>
      obtain ⟨h1, h2⟩ := and2 h
      exact s_cons (sndS ok m s h1) (sndSs ok ms ss h2)
end
end

/-! ### a def -/
theorem Takes.tup {X : Cx} {W W' : WX} (t : Takes X W) (h : ∀ cls d σ H, TupLe X.K X.H_0 H → W' cls d σ H → W cls d σ H) : Takes X W' := fun u s' ⟨a, B, sI, pins, σ, H, cls, d, e, I, nb, up, sky, na, os, ag, w⟩ =>
  t u s' ⟨a, B, sI, pins, σ, H, cls, d, e, I, nb, up, sky, na, os, ag, h cls d σ H (.of I.base.tups fun b o u => I.base.frzs b o u) w⟩
def startZ (N : List Str) (ws : List W) : ZSt := ws.map some ++ List.replicate (N.length - ws.length) none
theorem start_rep {K : PySem.W.Frag} {H : Hp} {N : List Str} {ws : List W} {vs : List V} (r : Reps K H ws vs) : RepS K H (startZ N ws) (L2.start N vs) := by
  have hl := r.length
  refine ⟨by unfold startZ L2.start; simp [hl], fun i w e => ?_⟩
  unfold startZ at e
  by_cases hi : i < ws.length
  · rw [List.getElem?_append_left (by simpa using hi), List.getElem?_map] at e
    cases q : ws[i]? with
    | none => rw [q] at e; cases e
    | some w' =>
      rw [q] at e
      cases e
      obtain ⟨v, h1, h2⟩ := r.getW q
      refine ⟨v, ?_, h2⟩
      unfold L2.start
      rw [List.getElem?_append_left (by simp; omega), List.getElem?_map, h1]
      rfl
  · rw [List.getElem?_append_right (by simpa using hi), List.getElem?_replicate] at e
    split at e <;> cases e
/-- what a body wants at its end: less may be told of the heap -/
def endD (Q : ZQ) : ZD := { nx := fun _ Z' => ∃ Z'', Zle Z'' Z' ∧ Q .non Z'', rt := fun w Z' => ∃ Z'', Zle Z'' Z' ∧ Q w Z'' }
def endE (E : ZE) : Nat → List (Nat × W) → ZSt → Zp → Prop := fun c fs _ Z' => ∃ Z'', Zle Z'' Z' ∧ E c fs Z''
def ZLen (Z : Zp) : Prop := ∀ a ws, Z a = some (.lst ws) → ws.length ≤ sizeLine
/-- THE RULE of a def: its text is the small text ms, whose wish follows from the promise -/
theorem def_ok {T : Nms} {P : Program} {w : World} {K : PySem.W.Frag} {mg : Str → Option Value} {base : Heap} {x qual : Str} {st : Stmt} {f : Addr} {fd : FuncData} {N ps : List Str} {k : Nat} {ms : List MS} {C : Ctx} {sp : ZSp}
    (Fn : Fun K x qual st f fd) (S : FnScope N ps (defScope st)) (hchk : chkSs T (defScope st) N ms (defBody st) = true) (g : ∀ E, GOk T P w K mg base { C with room := k, E := E })
    (len : ∀ ws Z Q E, sp ws Z Q E → ws.length = ps.length) (hb : ∀ ws Z Q E, ZLen Z → sp ws Z Q E → wpSs { C with room := k, E := endE E } ms (startZ N ws) Z (endD Q)) :
    FnOk P w K mg base (L2.CX P w) (k + 1) f fd ps (liftSp T K sp) := by
  refine Fn.okX S (fun vs H Q E h => ?_) (fun cdv A outer s H vs Q E hr h => ?_)
  · obtain ⟨ws, Z, F, Qz, Ez, r, n, h, _⟩ := h
    rw [← r.length]
    exact len _ _ _ _ h
  · obtain ⟨ws, Z, F, Qz, Ez, r, n, h, p, pe⟩ := h
    have tk : Takes (cxOf (L2.CX P w) P w K mg base N qual (defScope st) f cdv A outer s H E) (liftW T K F (endE Ez)) := by
      refine Takes.tup (takes_of rfl rfl rfl rfl) fun cls d σ H' t z => ?_
      obtain ⟨c, fs, ς, Z', er, rs, n', Z'', le, ez⟩ := z
      exact pe H' c fs Z'' cls d t er ⟨n'.z.le le, n'.f.le le⟩ ez
    have ok : SOk T F { C with room := k, E := endE Ez } (cxOf (L2.CX P w) P w K mg base N qual (defScope st) f cdv A outer s H E) (defScope st) N :=
      { g := g _, sc := rfl, N := rfl, nd := S.nd, calm := rfl, room := hr, tk := tk, fn := fun _ => rfl, kind := S.kind, pass := passes_of rfl }
    have q := sndSs ok ms (defBody st) hchk
    refine ⟨fun D σ H' => HLen K H' → lSs T K F { C with room := k, E := endE Ez } ms D σ H', ⟨fun pins s' σ H' D I hh => q.run pins s' σ H' D I (hh (ZL.Inv.hlen I))⟩, fun hlen => ?_⟩
    refine ⟨F, startZ N ws, Z, endD Qz, fun _ z => z, start_rep r, n, hb ws Z Qz Ez (fun a us e => ?_) h, ⟨?_, ?_, ?_, ?_⟩⟩
    · obtain ⟨vs, g1, g2⟩ := n.lst e
      rw [g2.length]
      exact hlen.1 a vs (.inl g1)
    · rintro H' σ' ς' Z' t rs' n' ⟨Z'', le, qq⟩
      exact p H' _ _ Z'' t .non (n'.z.le le) (n'.f.le le) qq
    · rintro H' v w' Z' t rv z' f' ⟨Z'', le, qq⟩
      exact p H' v w' Z'' t rv (z'.le le) (f'.le le) qq
    · intro H' σ' ς' Z' t rs' n' qq; exact qq.elim
    · intro H' σ' ς' Z' t rs' n' qq; exact qq.elim
end ZL

/-! The Z layer, 13: all defs of a module, level by level. -/
namespace ZL
open PySem PySem.Spec PyProof.Rows L2 RZ
/-- a def: its name's code, its text, parameters, slots, small text, spec by level -/
structure Row where
  c : Nat
  x : Str
  st : Stmt
  ps : List Str
  N : List Str
  ms : List MS
  sp : Nat → ZSp
structure RowFn (K : PySem.W.Frag) (mg : Str → Option Value) (r : Row) (f : Addr) (fd : FuncData) : Prop where
  mg : mg r.x = some (.ref f)
  fn : Fun K r.x r.x r.st f fd
  bd : Binds K fd r.ps []
structure RowOk (T : Nms) (r : Row) : Prop where
  nm : T.nm r.c = r.x
  sc : FnScope r.N r.ps (defScope r.st)
  ck : chkSs T (defScope r.st) r.N r.ms (defBody r.st) = true
  len : ∀ k ws Z Q E, r.sp k ws Z Q E → ws.length = r.ps.length
  zero : ∀ ws Z Q E, ¬ r.sp 0 ws Z Q E
/-- the names of built-ins are nobody's -/
structure BltNone (mg : Str → Option Value) : Prop where
  blt : ∀ b, mg (bfN b) = none
  rng : mg "range" = none
  enu : mg "enumerate" = none
  zip : mg "zip" = none
def fnTab (rows : List Row) (c : Nat) : Option (Nat → ZSp) := (rows.find? fun r => r.c == c).map (·.sp)
def ctx0 (nm : Nat → Str) (rows : List Row) (con : Nat → Option W) : Ctx := { nm := nm, fn := fnTab rows, con := con, ini := fun _ => none, mth := fun _ _ => none, room := 0, E := fun _ _ _ _ => False }
def ctxK (nm : Nat → Str) (rows : List Row) (con : Nat → Option W) (k : Nat) (E : Nat → List (Nat × W) → ZSt → Zp → Prop) : Ctx := { ctx0 nm rows con with room := k, E := E }
theorem fn_no {P : Program} {w : World} {K : PySem.W.Frag} {mg : Str → Option Value} {base : Heap} {CX : CXT} {k : Nat} {f : Addr} {fd : FuncData} {ps : List Str} {sp : Sp} (h : ∀ vs H Q E, ¬ sp vs H Q E) : FnOk P w K mg base CX k f fd ps sp :=
  ⟨fun vs H Q E q => absurd q (h vs H Q E), fun A outer s H args us vs Q E _ _ _ _ q => absurd q (h vs H Q E)⟩
theorem rows_ok {T : Nms} {P : Program} {w : World} {K : PySem.W.Frag} {mg : Str → Option Value} {base : Heap} {rows : List Row} {con : Nat → Option W}
    (fn : ∀ r ∈ rows, ∃ f fd, RowFn K mg r f fd) (ok : ∀ r ∈ rows, RowOk T r) (hc : ∀ c u, con c = some u → ∃ v z, mg (T.nm c) = some z ∧ RelV v z ∧ ∀ H, Rep K H u v) (b : BltNone mg)
    (inj : ∀ c d, T.nm c = T.nm d → c = d) (bm : ∀ i, i < 18 → T.nm i = bmN.getD i Str.empty) (ww : T.w = w)
    (wp : ∀ r ∈ rows, ∀ k ws Z Q E, ZLen Z → r.sp (k + 1) ws Z Q E → wpSs (ctxK T.nm rows con k (endE E)) r.ms (startZ r.N ws) Z (endD Q)) :
    ∀ k, ∀ r ∈ rows, ∀ f fd, RowFn K mg r f fd → FnOk P w K mg base (L2.CX P w) k f fd r.ps (liftSp T K (r.sp k))
  | 0, r, hr, f, fd, F => fn_no (fun vs H Q E ⟨ws, Z, _, Qz, Ez, _, _, h, _⟩ => (ok r hr).zero _ _ _ _ h)
  | k + 1, r, hr, f, fd, F => by
    have ih := rows_ok (P := P) (base := base) fn ok hc b inj bm ww wp k
    have o := ok r hr
    have g : ∀ E, GOk T P w K mg base { ctx0 T.nm rows con with room := k, E := E } := fun E => by
      refine ⟨rfl, fun c sp hs => ?_, hc, (fun c m sp h => by cases h), b.blt, b.rng, b.enu, b.zip, inj, bm, ww⟩
      have hs : (rows.find? fun r => r.c == c).map (·.sp) = some sp := hs
      cases e : rows.find? (fun r => r.c == c) with
      | none => rw [e] at hs; cases hs
      | some r' =>
        rw [e] at hs
        cases hs
        have hm := List.mem_of_find?_eq_some e
        have ec : r'.c = c := by simpa using List.find?_some e
        obtain ⟨f', fd', F'⟩ := fn r' hm
        refine ⟨f', fd', r'.ps, ?_, F'.fn.kp, F'.bd, ih r' hm f' fd' F'⟩
        rw [← ec, (ok r' hm).nm]
        exact F'.mg
    exact def_ok (C := ctx0 T.nm rows con) F.fn o.sc o.ck g (o.len (k + 1)) fun ws Z Q E hz h => wp r hr k ws Z Q E hz h
/-- the script: a list that is read alone -/
theorem script_rep {T : Nms} {K : PySem.W.Frag} {H : Hp} {a : Addr} {ns : List Int} (o : Only H) (h : SqL K H a (ns.map V.int)) : Rep K H (.ro (ns.map W.int)) (.ref a) := by
  refine .ro ?_ Reps.ints
  rcases h with (h | ⟨ob, h⟩) | h
  · rcases o a with q | ⟨_, _, q⟩
    · rw [q] at h; cases h
    · rw [q] at h; cases h
  · exact .inl ⟨ob, h⟩
  · exact .inr h
theorem law_sp {T : Nms} {K : PySem.W.Frag} {H : Hp} {a : Addr} {ns : List Int} {sp : ZSp} (o : Only H) (h : SqL K H a (ns.map V.int)) (q : sp [.ro (ns.map W.int)] (fun _ => none) (fun w _ => w = .bl true) (fun _ _ _ => False)) :
    liftSp T K sp [.ref a] H (fun v _ => v = .bl true) (fun _ _ _ => False) :=
  ⟨[.ro (ns.map W.int)], fun _ => none, [], _, _, .cons (script_rep (T := T) o h) .nil, ⟨(fun _ _ e => by cases e), (fun _ hp => by cases hp)⟩, q, fun H' v w Z' _ r _ _ e => by subst e; exact r.bl_inv, fun _ _ _ _ _ _ _ _ _ e => e⟩
end ZL

/-! The Z layer, 14: proofs about small texts: loops, ends. -/
namespace ZL
open PySem PySem.Spec PyProof.Rows L2 RZ
def lv (d : Nat) (sp : ZSp) : Nat → ZSp := fun k ws Z Q E => d ≤ k ∧ sp ws Z Q E
theorem lv_zero {d : Nat} {sp : ZSp} (h : 0 < d) : ∀ ws Z Q E, ¬ lv d sp 0 ws Z Q E := fun _ _ _ _ ⟨q, _⟩ => by omega
theorem endD_rt {Q : ZQ} {w : W} {Z Z' : Zp} (h : Q w Z) (le : Zle Z Z') : (endD Q).rt w Z' := ⟨Z, le, h⟩
theorem endD_nx {Q : ZQ} {ς : ZSt} {Z Z' : Zp} (h : Q .non Z) (le : Zle Z Z') : (endD Q).nx ς Z' := ⟨Z, le, h⟩
/-- a for, by what holds ahead of each round -/
theorem forL_inv {step : W → ZSt → Zp → ZD → Prop} {still : Zp → Prop} {D : ZD} (I : List W → ZSt → Zp → Prop) (hs : ∀ xs ς Z, I xs ς Z → still Z) (h0 : ∀ ς Z, I [] ς Z → D.nx ς Z)
    (h1 : ∀ x xs ς Z (D' : ZD), I (x :: xs) ς Z → (∀ ς' Z' Z'', Zle Z'' Z' → I xs ς' Z'' → D'.nx ς' Z') → (∀ ς' Z' Z'', Zle Z'' Z' → I xs ς' Z'' → D'.ct ς' Z') → D'.rt = D.rt → D'.bk = D.nx → step x ς Z D') :
    ∀ xs ς Z, I xs ς Z → forL step still D xs ς Z
  | [], ς, Z, h => ⟨hs _ _ _ h, h0 _ _ h⟩
  | x :: xs, ς, Z, h => ⟨hs _ _ _ h, h1 x xs ς Z _ h (fun ς' Z' Z'' le i => ⟨Z'', le, forL_inv I hs h0 h1 xs ς' Z'' i⟩) (fun ς' Z' Z'' le i => ⟨Z'', le, forL_inv I hs h0 h1 xs ς' Z'' i⟩) rfl rfl⟩
theorem compL_inv {step : W → Zp → (Option W → Zp → Prop) → Prop} {still : Zp → Prop} {R : List W → Zp → Prop} (I : List W → List W → Zp → Prop) (hs : ∀ xs acc Z, I xs acc Z → still Z) (h0 : ∀ acc Z, I [] acc Z → R acc Z)
    (h1 : ∀ x xs acc Z (K : Option W → Zp → Prop), I (x :: xs) acc Z → (∀ r Z' Z'', Zle Z'' Z' → I xs (match r with
      | some w => acc ++ [w]
      | none => acc) Z'' → K r Z') → step x Z K) :
    ∀ xs acc Z, I xs acc Z → compL step still xs acc Z R
  | [], acc, Z, h => ⟨hs _ _ _ h, h0 _ _ h⟩
  | x :: xs, acc, Z, h => ⟨hs _ _ _ h, h1 x xs acc Z _ h fun r Z' Z'' le i => ⟨Z'', le, compL_inv I hs h0 h1 xs _ Z'' i⟩⟩
theorem wrl_lst {Z : Zp} {p : Addr} {ws : List W} (h : Z p = some (.lst ws)) : wrl (Z p) = some ws := by rw [h]; rfl
theorem wrl_upz {Z : Zp} {p : Addr} {ws : List W} : wrl (upz Z p (.lst ws) p) = some ws := by rw [upz_same]; rfl
/-- [x] of a list that is there -/
theorem wpIx_lst {Z : Zp} {p : Addr} {ws : List W} {k : Int} {w : W} {Q : ZQ} (h : Z p = some (.lst ws)) (e : atI ws k = some w) (q : Q w Z) : wpIx (.ref p) (.int k) Z Q := by
  show (match wrl (Z p) with
    | some ws => (match atI ws k with
      | some w => Q w Z
      | none => False)
    | none => wpIxD (Z p) (.int k) Z Q)
  rw [wrl_lst h]
  show (match atI ws k with
      | some w => Q w Z
      | none => False)
  rw [e]
  exact q
theorem wpSet_lst {Z : Zp} {p : Addr} {ws : List W} {k : Int} {j : Nat} {v : W} {Q : Zp → Prop} (h : Z p = some (.lst ws)) (e : ixN ws.length k = some j) (q : Q (upz Z p (.lst (ws.set j v)))) : wpSet (.ref p) (.int k) v Z Q := by
  show (match wrl (Z p) with
    | some ws => (match ixN ws.length k with
      | some j => Q (upz Z p (.lst (ws.set j v)))
      | none => False)
    | none => wpSetD p (Z p) (.int k) v Z Q)
  rw [wrl_lst h]
  show (match ixN ws.length k with
      | some j => Q (upz Z p (.lst (ws.set j v)))
      | none => False)
  rw [e]
  exact q
theorem wpI_lst {Z : Zp} {p : Addr} {xs : List W} {R : List W → (Zp → Prop) → Prop} (h : Z p = some (.lst xs)) (q : xs.length ≤ sizeLine → R xs (SeqZ p xs)) : wpI .val [.ref p] Z R := by
  show (match wrl (Z p) with
    | some xs => xs.length ≤ sizeLine → R xs (SeqZ p xs)
    | _ => False)
  rw [wrl_lst h]
  exact q
theorem wpRev_lst {Z : Zp} {p : Addr} {xs : List W} {Q : ZQ} (h : Z p = some (.lst xs)) (q : ∀ r, Z r = none → Q (.ref r) (upz Z r (.lst xs.reverse))) : wpRev (.ref p) Z Q := by
  show (match wrl (Z p) with
    | some ws => ∀ r, Z r = none → Q (.ref r) (upz Z r (.lst ws.reverse))
    | _ => False)
  rw [wrl_lst h]
  exact q
theorem wpAdd_lst {Z : Zp} {p q : Addr} {xs ys : List W} {Q : ZQ} (h : Z p = some (.lst xs)) (h' : Z q = some (.lst ys)) (hl : xs.length + ys.length ≤ sizeLine) (k : ∀ r, Z r = none → Q (.ref r) (upz Z r (.lst (xs ++ ys)))) : wpBin .Add (.ref p) (.ref q) Z Q := by
  show (match wrl (Z p), wrl (Z q) with
    | some xs, some ys => xs.length + ys.length ≤ sizeLine ∧ ∀ r, Z r = none → Q (.ref r) (upz Z r (.lst (xs ++ ys)))
    | _, _ => False)
  rw [wrl_lst h, wrl_lst h']
  exact ⟨hl, k⟩
theorem kndW_dct {Z : Zp} {p : Addr} {ep : Nat} {kvs : List (W × W)} (h : Z p = some (.dct ep kvs)) : kndW Z (.ref p) = some .dct := by simp only [kndW, h]
theorem kndW_lst {Z : Zp} {p : Addr} {ws : List W} (h : Z p = some (.lst ws)) : kndW Z (.ref p) = some .lst := by simp only [kndW, h]
theorem wpMD_get1 {Z : Zp} {p : Addr} {ep : Nat} {kvs : List (W × W)} {i : W} {k : NestedKey} {Q : ZQ} (h : Z p = some (.dct ep kvs)) (hk : keyOf i = some k) (q : Q ((dget kvs k).getD .non) Z) : wpMD 7 (.ref p) [i] Z Q := by simp only [wpMD, h, hk]; exact q
theorem wpMD_get2 {Z : Zp} {p : Addr} {ep : Nat} {kvs : List (W × W)} {i d : W} {k : NestedKey} {Q : ZQ} (h : Z p = some (.dct ep kvs)) (hk : keyOf i = some k) (q : Q ((dget kvs k).getD d) Z) : wpMD 7 (.ref p) [i, d] Z Q := by simp only [wpMD, h, hk]; exact q
/-! ### steps -/
section
variable {i j : Int} {Z : Zp} {Q : ZQ}
theorem b_add : wpBin .Add (.int i) (.int j) Z Q = Q (.int (i + j)) Z := rfl
theorem b_sub : wpBin .Sub (.int i) (.int j) Z Q = Q (.int (i - j)) Z := rfl
theorem b_mul : wpBin .Mult (.int i) (.int j) Z Q = (IntMulOk i j ∧ Q (.int (i * j)) Z) := rfl
theorem b_fdiv : wpBin .FloorDiv (.int i) (.int j) Z Q = (CDivW i j ∧ Q (.int (i / j)) Z) := rfl
theorem b_mod : wpBin .Mod (.int i) (.int j) Z Q = (0 < j ∧ Q (.int (i % j)) Z) := rfl
theorem b_pow : wpBin .Pow (.int i) (.int j) Z Q = (CPow i j ∧ Q (.int (i ^ j.toNat)) Z) := rfl
theorem c_eq : wpCmp .Eq (.int i) (.int j) Z Q = Q (.bl (decide (i = j))) Z := by
  show Q (.bl (false != decide (i = j))) Z = _
  rw [bxor_ft]
theorem c_ne : wpCmp .NotEq (.int i) (.int j) Z Q = Q (.bl (!decide (i = j))) Z := by
  show Q (.bl (true != decide (i = j))) Z = _
  rw [bxor_tt]
theorem c_lt : wpCmp .Lt (.int i) (.int j) Z Q = Q (.bl (decide (i < j))) Z := rfl
theorem c_le : wpCmp .LtE (.int i) (.int j) Z Q = Q (.bl (decide (i ≤ j))) Z := rfl
theorem c_gt : wpCmp .Gt (.int i) (.int j) Z Q = Q (.bl (decide (j < i))) Z := rfl
theorem c_ge : wpCmp .GtE (.int i) (.int j) Z Q = Q (.bl (decide (j ≤ i))) Z := rfl
theorem t_bl {b : Bool} : truW Z (.bl b) = some b := rfl
end
theorem ss_cons {C : ZL.Ctx} {s : MS} {ss : List MS} {ς : ZSt} {Z : Zp} {D : ZD} : wpSs C (s :: ss) ς Z D = ZL.wpS C s ς Z { D with nx := fun ς' Z' => wpSs C ss ς' Z' D } := rfl
theorem ss_nil {C : ZL.Ctx} {ς : ZSt} {Z : Zp} {D : ZD} : wpSs C [] ς Z D = D.nx ς Z := rfl
theorem divw {m : Int} (h : 0 < m) (h2 : m ≤ 10 ^ 42) (i : Int) : CDivW i m := ⟨h, by
  have h3 : m.natAbs < 2 ^ 150 := by omega
  have h4 := (Nat.log2_lt (by omega : m.natAbs ≠ 0)).mpr h3
  omega⟩
theorem small_mul {i j : Int} (h : -(2 ^ 64) < i) (h2 : i < 2 ^ 64) : IntMulOk i j := CMul.ok (.inl ⟨h, h2⟩)
theorem mul_small {i j : Int} (h : -(2 ^ 64) < j) (h2 : j < 2 ^ 64) : IntMulOk i j := CMul.ok (.inr ⟨h, h2⟩)
theorem mul_wide {i j : Int} (h : i.natAbs < 2 ^ 400) (h2 : j.natAbs < 2 ^ 400) : IntMulOk i j := by
  refine CMulW.ok ?_
  have l : ∀ x : Nat, x < 2 ^ 400 → x.log2 < 400 := fun x hx => by
    by_cases h0 : x = 0
    · subst h0; decide
    · exact (Nat.log2_lt h0).mpr hx
  have := l _ h
  have := l _ h2
  show i.natAbs.log2 + j.natAbs.log2 < 1000000
  omega
/-- three truths -/
def tW : Option Bool → W
  | none => .non
  | some b => .bl b
/-! ### the drawing -/
/-- a tap: digits left, big or not, the count of draws, the seed -/
def Tap (Z : Zp) (t : Addr) (n : Int) : Prop := ∃ a b d : Int, Z t = some (.lst [.int a, .int b, .int n, .int d]) ∧ 0 ≤ d
def spDraw : ZSp := fun ws Z Q _ => ∃ t m n a b d, ws = [.ref t, .int m] ∧ 0 < m ∧ m ≤ 10 ^ 42 ∧ Z t = some (.lst [.int a, .int b, .int n, .int d]) ∧ 0 ≤ n ∧ n < 2 ^ 60 ∧ 0 ≤ d ∧ d < 10 ^ 40 ∧
  ∀ r a', 0 ≤ r → r < m → Q (.int r) (upz Z t (.lst [.int a', .int b, .int (n + 1), .int d]))
def spTap : ZSp := fun ws Z Q _ => ∃ c, ws = [.int c] ∧ ∀ r x, Z r = none → Q (.ref r) (upz Z r (.lst [.int c, .int x, .int 0, .int (c % 10 ^ 40)]))
end ZL

namespace LW
open PySem PySem.Spec PyProof.Rows L2 RZ ZL
def names : List Str := ["append", "extend", "pop", "reverse", "clear", "insert", "index", "get", "setdefault", "items", "keys", "values", "update", "count", "sort", "join", "strip", "split", "both", "either", "turned", "_law_tap", "_law_draw", "_law_same", "_law_both", "_law_either", "_law_turned", "_law_pair_right", "_law_folded_right", "law"]
abbrev top (i : Nat) : Stmt := PySem.Challenge.pw_unknownrows_k01_truths_of_three_kinds.main.body.getD i (.Pass ⟨0, 0, 0, 0⟩)
def nmOf (names : List Str) (c : Nat) : Str := names.getD c ⟨#[0x110000 + c]⟩
def TT (w : World) : Nms := { nm := nmOf names, cl := fun _ => 0, w := w }
def m_both : List MS := [.ife (.tor [(.tv (.cmp .Is (.var 0) (.bl false))), (.tv (.cmp .Is (.var 1) (.bl false)))]) [.ret (.bl false)] [],
  .ife (.tor [(.tv (.cmp .Is (.var 0) .non)), (.tv (.cmp .Is (.var 1) .non))]) [.ret .non] [],
  .ret (.bl true)]
def N_both : List Str := ["one", "other"]
theorem sc_both : FnScope N_both ["one", "other"] (defScope (top 1)) := ⟨rfl, rfl, rfl, by decide +kernel, rfl, by decide +kernel, by decide +kernel⟩
theorem ck_both (w : World) : chkSs (TT w) (defScope (top 1)) N_both m_both (defBody (top 1)) = true := by rfl
def m_either : List MS := [.ife (.tor [(.tv (.cmp .Is (.var 0) (.bl true))), (.tv (.cmp .Is (.var 1) (.bl true)))]) [.ret (.bl true)] [],
  .ife (.tor [(.tv (.cmp .Is (.var 0) .non)), (.tv (.cmp .Is (.var 1) .non))]) [.ret .non] [],
  .ret (.bl false)]
def N_either : List Str := ["one", "other"]
theorem sc_either : FnScope N_either ["one", "other"] (defScope (top 2)) := ⟨rfl, rfl, rfl, by decide +kernel, rfl, by decide +kernel, by decide +kernel⟩
theorem ck_either (w : World) : chkSs (TT w) (defScope (top 2)) N_either m_either (defBody (top 2)) = true := by rfl
def m_turned : List MS := [.ife (.tv (.cmp .Is (.var 0) .non)) [.ret .non] [],
  .ret (.not (.var 0))]
def N_turned : List Str := ["one"]
theorem sc_turned : FnScope N_turned ["one"] (defScope (top 3)) := ⟨rfl, rfl, rfl, by decide +kernel, rfl, by decide +kernel, by decide +kernel⟩
theorem ck_turned (w : World) : chkSs (TT w) (defScope (top 3)) N_turned m_turned (defBody (top 3)) = true := by rfl
def m_law_tap : List MS := [.ret (.lst [(.var 0), (.blt .int [(.cmp .GtE (.var 0) (.bin .Pow (.int 10) (.int 18)))]), (.int 0), (.bin .Mod (.var 0) (.bin .Pow (.int 10) (.int 40)))])]
def N_law_tap : List Str := ["_law_cell"]
theorem sc_law_tap : FnScope N_law_tap ["_law_cell"] (defScope (top 5)) := ⟨rfl, rfl, rfl, by decide +kernel, rfl, by decide +kernel, by decide +kernel⟩
theorem ck_law_tap (w : World) : chkSs (TT w) (defScope (top 5)) N_law_tap m_law_tap (defBody (top 5)) = true := by rfl
def m_law_draw : List MS := [.setix (.var 0) (.int 2) (.bin .Add (.ix (.var 0) (.int 2)) (.int 1)),
  .ife (.tand [(.tv (.cmp .Eq (.ix (.var 0) (.int 1)) (.int 1))), (.tv (.cmp .Gt (.ix (.var 0) (.int 0)) (.int 0)))]) [.set 2 (.bin .Mod (.ix (.var 0) (.int 0)) (.var 1)),
  .setix (.var 0) (.int 0) (.bin .FloorDiv (.ix (.var 0) (.int 0)) (.var 1)),
  .ret (.var 2)] [],
  .set 3 (.bin .Mod (.bin .Mult (.bin .Add (.bin .Add (.ix (.var 0) (.int 3)) (.bin .Mult (.bin .Mult (.int 7919) (.ix (.var 0) (.int 2))) (.ix (.var 0) (.int 2)))) (.int 11)) (.int 48271)) (.int 2147483647)),
  .set 4 (.bin .Mult (.bin .Add (.bin .Mult (.var 3) (.int 2147483629)) (.bin .Mod (.bin .Mult (.var 3) (.var 3)) (.int 2147483629))) (.int 69621)),
  .ife (.tv (.cmp .Gt (.var 1) (.bin .Pow (.int 10) (.int 9)))) [.ret (.bin .Mod (.bin .Mod (.bin .Mult (.bin .Mult (.var 4) (.var 4)) (.var 4)) (.bin .Add (.bin .Pow (.int 10) (.int 41)) (.int 7))) (.var 1))] [],
  .ret (.bin .Mod (.bin .FloorDiv (.bin .Mod (.var 4) (.int 2147483587)) (.int 5)) (.var 1))]
def N_law_draw : List Str := ["_law_tap_here", "_law_many", "_law_found", "_law_once", "_law_twice"]
theorem sc_law_draw : FnScope N_law_draw ["_law_tap_here", "_law_many"] (defScope (top 6)) := ⟨rfl, rfl, rfl, by decide +kernel, rfl, by decide +kernel, by decide +kernel⟩
theorem ck_law_draw (w : World) : chkSs (TT w) (defScope (top 6)) N_law_draw m_law_draw (defBody (top 6)) = true := by rfl
def m_law_same : List MS := [.ife (.tv (.cmp .Is (.var 1) .non)) [.ret (.cmp .Is (.var 0) .non)] [],
  .ret (.and [(.blt .isi [(.var 0), (.bty .bool)]), (.cmp .Eq (.var 0) (.var 1))])]
def N_law_same : List Str := ["_law_found", "_law_due"]
theorem sc_law_same : FnScope N_law_same ["_law_found", "_law_due"] (defScope (top 7)) := ⟨rfl, rfl, rfl, by decide +kernel, rfl, by decide +kernel, by decide +kernel⟩
theorem ck_law_same (w : World) : chkSs (TT w) (defScope (top 7)) N_law_same m_law_same (defBody (top 7)) = true := by rfl
def m_law_both : List MS := [.for (.nm 1) .val [(.var 0)] [.ife (.tv (.cmp .Is (.var 1) (.bl false))) [.ret (.bl false)] []],
  .for (.nm 1) .val [(.var 0)] [.ife (.tv (.cmp .Is (.var 1) .non)) [.ret .non] []],
  .ret (.bl true)]
def N_law_both : List Str := ["_law_truths", "_law_truth"]
theorem sc_law_both : FnScope N_law_both ["_law_truths"] (defScope (top 8)) := ⟨rfl, rfl, rfl, by decide +kernel, rfl, by decide +kernel, by decide +kernel⟩
theorem ck_law_both (w : World) : chkSs (TT w) (defScope (top 8)) N_law_both m_law_both (defBody (top 8)) = true := by rfl
def m_law_either : List MS := [.for (.nm 1) .val [(.var 0)] [.ife (.tv (.cmp .Is (.var 1) (.bl true))) [.ret (.bl true)] []],
  .for (.nm 1) .val [(.var 0)] [.ife (.tv (.cmp .Is (.var 1) .non)) [.ret .non] []],
  .ret (.bl false)]
def N_law_either : List Str := ["_law_truths", "_law_truth"]
theorem sc_law_either : FnScope N_law_either ["_law_truths"] (defScope (top 9)) := ⟨rfl, rfl, rfl, by decide +kernel, rfl, by decide +kernel, by decide +kernel⟩
theorem ck_law_either (w : World) : chkSs (TT w) (defScope (top 9)) N_law_either m_law_either (defBody (top 9)) = true := by rfl
def m_law_turned : List MS := [.ret (.mth 7 (.dct [(.bl true), (.bl false), (.bl false), (.bl true)]) [(.var 0)])]
def N_law_turned : List Str := ["_law_truth"]
theorem sc_law_turned : FnScope N_law_turned ["_law_truth"] (defScope (top 10)) := ⟨rfl, rfl, rfl, by decide +kernel, rfl, by decide +kernel, by decide +kernel⟩
theorem ck_law_turned (w : World) : chkSs (TT w) (defScope (top 10)) N_law_turned m_law_turned (defBody (top 10)) = true := by rfl
def m_law_pair_right : List MS := [.ife (.tnot (.tv (.call 23 [(.call 18 [(.var 0), (.var 1)]), (.call 24 [(.lst [(.var 0), (.var 1)])])]))) [.ret (.bl false)] [],
  .ife (.tnot (.tv (.call 23 [(.call 19 [(.var 0), (.var 1)]), (.call 25 [(.lst [(.var 0), (.var 1)])])]))) [.ret (.bl false)] [],
  .ife (.tor [(.tnot (.tv (.call 23 [(.call 20 [(.var 0)]), (.call 26 [(.var 0)])]))), (.tnot (.tv (.call 23 [(.call 20 [(.call 20 [(.var 0)])]), (.var 0)])))]) [.ret (.bl false)] [],
  .ret (.call 23 [(.call 18 [(.call 20 [(.var 0)]), (.call 20 [(.var 1)])]), (.call 26 [(.call 19 [(.var 0), (.var 1)])])])]
def N_law_pair_right : List Str := ["_law_one", "_law_other"]
theorem sc_law_pair_right : FnScope N_law_pair_right ["_law_one", "_law_other"] (defScope (top 11)) := ⟨rfl, rfl, rfl, by decide +kernel, rfl, by decide +kernel, by decide +kernel⟩
theorem ck_law_pair_right (w : World) : chkSs (TT w) (defScope (top 11)) N_law_pair_right m_law_pair_right (defBody (top 11)) = true := by rfl
def m_law_folded_right : List MS := [.set 1 (.bl true),
  .set 2 (.bl false),
  .for (.nm 3) .val [(.var 0)] [.set 1 (.call 18 [(.var 1), (.var 3)]),
  .set 2 (.call 19 [(.var 2), (.var 3)])],
  .ife (.tor [(.tnot (.tv (.call 23 [(.var 1), (.call 24 [(.var 0)])]))), (.tnot (.tv (.call 23 [(.var 2), (.call 25 [(.var 0)])])))]) [.ret (.bl false)] [],
  .for (.nm 3) .val [(.rev (.var 0))] [.set 1 (.call 18 [(.var 3), (.var 1)]),
  .set 2 (.call 19 [(.var 3), (.var 2)])],
  .ret (.and [(.call 23 [(.var 1), (.call 24 [(.var 0)])]), (.call 23 [(.var 2), (.call 25 [(.var 0)])])])]
def N_law_folded_right : List Str := ["_law_truths", "_law_all_of", "_law_some_of", "_law_truth"]
theorem sc_law_folded_right : FnScope N_law_folded_right ["_law_truths"] (defScope (top 12)) := ⟨rfl, rfl, rfl, by decide +kernel, rfl, by decide +kernel, by decide +kernel⟩
theorem ck_law_folded_right (w : World) : chkSs (TT w) (defScope (top 12)) N_law_folded_right m_law_folded_right (defBody (top 12)) = true := by rfl
def m_law : List MS := [.set 1 (.lst [(.bl true), (.bl false), .non]),
  .for (.nm 2) .val [(.var 1)] [.for (.nm 3) .val [(.var 1)] [.ife (.tnot (.tv (.call 27 [(.var 2), (.var 3)]))) [.ret (.bl false)] []]],
  .for (.nm 4) .val [(.bin .Add (.sl (.var 0) [] [(.int 40)]) (.lst [(.blt .len [(.var 0)])]))] [.set 5 (.call 21 [(.var 4)]),
  .set 6 (.comp (.ix (.var 1) (.ix (.lst [(.call 22 [(.var 5), (.int 3)]), (.int 0), (.int 2)]) (.call 22 [(.var 5), (.int 3)]))) (.nm 7) .range1 [(.call 22 [(.var 5), (.int 13)])] [] [7]),
  .ife (.tnot (.tv (.call 28 [(.var 6)]))) [.ret (.bl false)] []],
  .ret (.bl true)]
def N_law : List Str := ["_law_script", "_law_kinds", "_law_one", "_law_other", "_law_cell", "_law_tap_here", "_law_truths", "_law_k"]
theorem sc_law : FnScope N_law ["_law_script"] (defScope (top 13)) := ⟨rfl, rfl, rfl, by decide +kernel, rfl, by decide +kernel, by decide +kernel⟩
theorem ck_law (w : World) : chkSs (TT w) (defScope (top 13)) N_law m_law (defBody (top 13)) = true := by rfl


def and3 (a b : Option Bool) : Option Bool := if a = some false ∨ b = some false then some false else if a = none ∨ b = none then none else some true
def or3 (a b : Option Bool) : Option Bool := if a = some true ∨ b = some true then some true else if a = none ∨ b = none then none else some false
def not3 (a : Option Bool) : Option Bool := a.map (!·)
def andL (xs : List (Option Bool)) : Option Bool := if some false ∈ xs then some false else if none ∈ xs then none else some true
def orL (xs : List (Option Bool)) : Option Bool := if some true ∈ xs then some true else if none ∈ xs then none else some false
def spBoth : ZSp := fun ws Z Q _ => ∃ a b, ws = [tW a, tW b] ∧ Q (tW (and3 a b)) Z
def spEither : ZSp := fun ws Z Q _ => ∃ a b, ws = [tW a, tW b] ∧ Q (tW (or3 a b)) Z
def spTurned : ZSp := fun ws Z Q _ => ∃ a, ws = [tW a] ∧ Q (tW (not3 a)) Z
def spSame : ZSp := fun ws Z Q _ => ∃ a b, ws = [tW a, tW b] ∧ Q (.bl (decide (a = b))) Z
def spLBoth : ZSp := fun ws Z Q _ => ∃ t xs, ws = [.ref t] ∧ Z t = some (.lst (xs.map tW)) ∧ Q (tW (andL xs)) Z
def spLEither : ZSp := fun ws Z Q _ => ∃ t xs, ws = [.ref t] ∧ Z t = some (.lst (xs.map tW)) ∧ Q (tW (orL xs)) Z
theorem wp_both {C : ZL.Ctx} : ∀ ws Z Q E, ZLen Z → spBoth ws Z Q E → wpSs C m_both (startZ N_both ws) Z (endD Q) := by
  rintro ws Z Q E _ ⟨a, b, rfl, h⟩
  rcases a with _ | _ | _ <;> rcases b with _ | _ | _ <;> exact ⟨_, .refl, h⟩
theorem wp_either {C : ZL.Ctx} : ∀ ws Z Q E, ZLen Z → spEither ws Z Q E → wpSs C m_either (startZ N_either ws) Z (endD Q) := by
  rintro ws Z Q E _ ⟨a, b, rfl, h⟩
  rcases a with _ | _ | _ <;> rcases b with _ | _ | _ <;> exact ⟨_, .refl, h⟩
theorem wp_turned {C : ZL.Ctx} : ∀ ws Z Q E, ZLen Z → spTurned ws Z Q E → wpSs C m_turned (startZ N_turned ws) Z (endD Q) := by
  rintro ws Z Q E _ ⟨a, rfl, h⟩
  rcases a with _ | _ | _ <;> exact ⟨_, .refl, h⟩
theorem wp_same {C : ZL.Ctx} : ∀ ws Z Q E, ZLen Z → spSame ws Z Q E → wpSs C m_law_same (startZ N_law_same ws) Z (endD Q) := by
  rintro ws Z Q E _ ⟨a, b, rfl, h⟩
  rcases a with _ | _ | _ <;> rcases b with _ | _ | _ <;> exact ⟨_, .refl, h⟩

theorem wp_lturned {C : ZL.Ctx} : ∀ ws Z Q E, ZLen Z → spTurned ws Z Q E → wpSs C m_law_turned (startZ N_law_turned ws) Z (endD Q) := by
  rintro ws Z Q E _ ⟨a, rfl, h⟩
  refine ⟨by decide, by decide, by decide, fun r hr => ?_⟩
  have le : Zle Z (upz Z r (.dct 2 [(.bl true, .bl false), (.bl false, .bl true)])) := .new hr
  have hz : upz Z r (.dct 2 [(.bl true, .bl false), (.bl false, .bl true)]) r = some (.dct 2 [(.bl true, .bl false), (.bl false, .bl true)]) := upz_same
  generalize upz Z r (.dct 2 [(.bl true, .bl false), (.bl false, .bl true)]) = Z1 at le hz
  show (match kndW Z1 (.ref r) with
    | some .lst => _
    | some .dct => _
    | some (.ins c fs) => _
    | _ => False)
  rw [kndW_dct hz]
  show (if (7 = 7 ∨ 7 = 8) then wpMD 7 (.ref r) [tW a] Z1 _ else False)
  rw [if_pos (.inl rfl)]
  rcases a with _ | _ | _
  · exact wpMD_get1 hz rfl ⟨_, le, h⟩
  · exact wpMD_get1 hz rfl ⟨_, le, h⟩
  · exact wpMD_get1 hz rfl ⟨_, le, h⟩
theorem find_loop {C : ZL.Ctx} {t : Addr} {ys : List W} {c : Option Bool} {body : List MS} {D : ZD} {Z : Zp} (hz : Z t = some (.lst ys)) (hc : ∀ (x : Option Bool) (D' : ZD), (if x = c then D'.rt (tW c) Z else D'.nx [some (.ref t), some (tW x)] Z) → wpSs C body [some (.ref t), some (tW x)] Z D') :
    ∀ (xs : List (Option Bool)) (v : Option W), (if c ∈ xs then D.rt (tW c) Z else ∀ v, D.nx [some (.ref t), v] Z) → forL (fun x ς' Z' D' => wpSs C body (List.set ς' 1 (some x)) Z' D') (SeqZ t ys) D (xs.map tW) [some (.ref t), v] Z
  | [], v, h => ⟨hz, by rw [if_neg (List.not_mem_nil)] at h; exact h v⟩
  | x :: xs, v, h => by
    refine ⟨hz, ?_⟩
    refine hc x _ ?_
    by_cases e : x = c
    · rw [if_pos e]
      rw [if_pos (by rw [e]; exact List.mem_cons_self)] at h
      exact h
    · rw [if_neg e]
      refine ⟨Z, .refl, find_loop hz hc xs _ ?_⟩
      have : (c ∈ x :: xs) = (c ∈ xs) := by
        rw [List.mem_cons, eq_iff_iff]
        exact ⟨fun q => q.resolve_left fun z => e z.symm, .inr⟩
      simpa only [this] using h
theorem wp_lboth {C : ZL.Ctx} : ∀ ws Z Q E, ZLen Z → spLBoth ws Z Q E → wpSs C m_law_both (startZ N_law_both ws) Z (endD Q) := by
  rintro ws Z Q E _ ⟨t, xs, rfl, hz, h⟩
  show wpSs C m_law_both [some (.ref t), none] Z (endD Q)
  unfold m_law_both andL at *
  rw [ss_cons]
  simp only [ss_nil, ZL.wpS, wpE, wpA, wpT, wpAndT, wpOrT, wpAndV, wpOrV, wpTs, wpG, wpGs, List.getElem?_cons_zero, List.getElem?_cons_succ, List.set_cons_zero, List.set_cons_succ, b_add, b_sub, b_mul, b_fdiv, b_mod, b_pow, c_eq, c_ne, c_lt, c_le, c_gt, c_ge, t_bl, if_true, Bool.false_eq_true, if_false, decide_eq_true_eq]
  refine wpI_lst hz fun hl => find_loop (c := some false) hz (fun x D' q => ?_) xs none ?_
  · rcases x with _ | _ | _ <;> exact q
  · split
    next hc => rw [if_pos hc] at h; exact ⟨_, .refl, h⟩
    next hc =>
      rw [if_neg hc] at h
      intro v
      show wpSs C _ _ Z _
      rw [ss_cons]
      simp only [ss_nil, ZL.wpS, wpE, wpA, wpT, wpAndT, wpOrT, wpAndV, wpOrV, wpTs, wpG, wpGs, List.getElem?_cons_zero, List.getElem?_cons_succ, List.set_cons_zero, List.set_cons_succ, b_add, b_sub, b_mul, b_fdiv, b_mod, b_pow, c_eq, c_ne, c_lt, c_le, c_gt, c_ge, t_bl, if_true, Bool.false_eq_true, if_false, decide_eq_true_eq]
      refine wpI_lst hz fun hl => find_loop (c := none) hz (fun x D' q => ?_) xs v ?_
      · rcases x with _ | _ | _ <;> exact q
      · split
        next hc => rw [if_pos hc] at h; exact ⟨_, .refl, h⟩
        next hc => rw [if_neg hc] at h; intro v; exact ⟨_, .refl, h⟩
theorem wp_leither {C : ZL.Ctx} : ∀ ws Z Q E, ZLen Z → spLEither ws Z Q E → wpSs C m_law_either (startZ N_law_either ws) Z (endD Q) := by
  rintro ws Z Q E _ ⟨t, xs, rfl, hz, h⟩
  show wpSs C m_law_either [some (.ref t), none] Z (endD Q)
  unfold m_law_either orL at *
  rw [ss_cons]
  simp only [ss_nil, ZL.wpS, wpE, wpA, wpT, wpAndT, wpOrT, wpAndV, wpOrV, wpTs, wpG, wpGs, List.getElem?_cons_zero, List.getElem?_cons_succ, List.set_cons_zero, List.set_cons_succ, b_add, b_sub, b_mul, b_fdiv, b_mod, b_pow, c_eq, c_ne, c_lt, c_le, c_gt, c_ge, t_bl, if_true, Bool.false_eq_true, if_false, decide_eq_true_eq]
  refine wpI_lst hz fun hl => find_loop (c := some true) hz (fun x D' q => ?_) xs none ?_
  · rcases x with _ | _ | _ <;> exact q
  · split
    next hc => rw [if_pos hc] at h; exact ⟨_, .refl, h⟩
    next hc =>
      rw [if_neg hc] at h
      intro v
      show wpSs C _ _ Z _
      rw [ss_cons]
      simp only [ss_nil, ZL.wpS, wpE, wpA, wpT, wpAndT, wpOrT, wpAndV, wpOrV, wpTs, wpG, wpGs, List.getElem?_cons_zero, List.getElem?_cons_succ, List.set_cons_zero, List.set_cons_succ, b_add, b_sub, b_mul, b_fdiv, b_mod, b_pow, c_eq, c_ne, c_lt, c_le, c_gt, c_ge, t_bl, if_true, Bool.false_eq_true, if_false, decide_eq_true_eq]
      refine wpI_lst hz fun hl => find_loop (c := none) hz (fun x D' q => ?_) xs v ?_
      · rcases x with _ | _ | _ <;> exact q
      · split
        next hc => rw [if_pos hc] at h; exact ⟨_, .refl, h⟩
        next hc => rw [if_neg hc] at h; intro v; exact ⟨_, .refl, h⟩

def spPair : ZSp := fun ws Z Q _ => ∃ a b, ws = [tW a, tW b] ∧ Q (.bl true) Z
def spFolded : ZSp := fun ws Z Q _ => ∃ t, ∃ xs : List (Option Bool), ws = [.ref t] ∧ Z t = some (.lst (xs.map tW)) ∧ Q (.bl true) Z
structure K1C (C : ZL.Ctx) : Prop where
  both : C.fn 18 = some (lv 1 spBoth)
  either : C.fn 19 = some (lv 1 spEither)
  turned : C.fn 20 = some (lv 1 spTurned)
  tap : C.fn 21 = some (lv 1 spTap)
  draw : C.fn 22 = some (lv 1 spDraw)
  same : C.fn 23 = some (lv 1 spSame)
  lboth : C.fn 24 = some (lv 1 spLBoth)
  leither : C.fn 25 = some (lv 1 spLEither)
  lturned : C.fn 26 = some (lv 1 spTurned)
  pair : C.fn 27 = some (lv 2 spPair)
  folded : C.fn 28 = some (lv 2 spFolded)
theorem and_L (a b : Option Bool) : and3 a b = andL [a, b] := by
  rcases a with _ | _ | _ <;> rcases b with _ | _ | _ <;> decide
theorem or_L (a b : Option Bool) : or3 a b = orL [a, b] := by
  rcases a with _ | _ | _ <;> rcases b with _ | _ | _ <;> decide
theorem not_not3 (a : Option Bool) : not3 (not3 a) = a := by
  rcases a with _ | _ | _ <;> rfl
theorem morgan (a b : Option Bool) : and3 (not3 a) (not3 b) = not3 (or3 a b) := by
  rcases a with _ | _ | _ <;> rcases b with _ | _ | _ <;> decide
theorem wp_pair {C : ZL.Ctx} (f : K1C C) (hr : 1 ≤ C.room) : ∀ ws Z Q E, ZLen Z → spPair ws Z Q E → wpSs C m_law_pair_right (startZ N_law_pair_right ws) Z (endD Q) := by
  rintro ws Z Q E _ ⟨a, b, rfl, h⟩
  show wpSs C m_law_pair_right [some (tW a), some (tW b)] Z (endD Q)
  unfold m_law_pair_right
  rw [ss_cons]
  simp only [ss_nil, ZL.wpS, wpE, wpA, wpT, wpAndT, wpOrT, wpAndV, wpOrV, wpTs, wpG, wpGs, List.getElem?_cons_zero, List.getElem?_cons_succ, List.set_cons_zero, List.set_cons_succ, b_add, b_sub, b_mul, b_fdiv, b_mod, b_pow, c_eq, c_ne, c_lt, c_le, c_gt, c_ge, t_bl, if_true, Bool.false_eq_true, if_false, decide_eq_true_eq]
  simp only [f.both, f.either, f.turned, f.same, f.lboth, f.leither, f.lturned, f.tap, f.draw, f.pair, f.folded]
  refine ⟨hr, a, b, rfl, Nat.le_of_ble_eq_true rfl, fun r1 n1 => ⟨hr, r1, [a, b], rfl, upz_same, hr, and3 a b, andL [a, b], rfl, ?_⟩⟩
  rw [decide_eq_true (and_L a b)]
  have le1 : Zle Z (upz Z r1 (.lst [tW a, tW b])) := .new n1
  simp only [ss_nil, b_add, b_sub, b_mul, b_fdiv, b_mod, b_pow, c_eq, c_ne, c_lt, c_le, c_gt, c_ge, t_bl, if_true, Bool.false_eq_true, Bool.not_true, Bool.not_false, if_false, decide_eq_true_eq]
  generalize upz Z r1 (.lst [tW a, tW b]) = Z1 at le1 ⊢
  rw [ss_cons]
  simp only [ss_nil, ZL.wpS, wpE, wpA, wpT, wpAndT, wpOrT, wpAndV, wpOrV, wpTs, wpG, wpGs, List.getElem?_cons_zero, List.getElem?_cons_succ, List.set_cons_zero, List.set_cons_succ, b_add, b_sub, b_mul, b_fdiv, b_mod, b_pow, c_eq, c_ne, c_lt, c_le, c_gt, c_ge, t_bl, if_true, Bool.false_eq_true, if_false, decide_eq_true_eq]
  simp only [f.both, f.either, f.turned, f.same, f.lboth, f.leither, f.lturned, f.tap, f.draw, f.pair, f.folded]
  refine ⟨hr, a, b, rfl, Nat.le_of_ble_eq_true rfl, fun r2 n2 => ⟨hr, r2, [a, b], rfl, upz_same, hr, or3 a b, orL [a, b], rfl, ?_⟩⟩
  rw [decide_eq_true (or_L a b)]
  have le2 : Zle Z (upz Z1 r2 (.lst [tW a, tW b])) := le1.trans (.new n2)
  simp only [ss_nil, b_add, b_sub, b_mul, b_fdiv, b_mod, b_pow, c_eq, c_ne, c_lt, c_le, c_gt, c_ge, t_bl, if_true, Bool.false_eq_true, Bool.not_true, Bool.not_false, if_false, decide_eq_true_eq]
  generalize upz Z1 r2 (.lst [tW a, tW b]) = Z2 at le2 ⊢
  rw [ss_cons]
  simp only [ss_nil, ZL.wpS, wpE, wpA, wpT, wpAndT, wpOrT, wpAndV, wpOrV, wpTs, wpG, wpGs, List.getElem?_cons_zero, List.getElem?_cons_succ, List.set_cons_zero, List.set_cons_succ, b_add, b_sub, b_mul, b_fdiv, b_mod, b_pow, c_eq, c_ne, c_lt, c_le, c_gt, c_ge, t_bl, if_true, Bool.false_eq_true, if_false, decide_eq_true_eq]
  simp only [f.both, f.either, f.turned, f.same, f.lboth, f.leither, f.lturned, f.tap, f.draw, f.pair, f.folded]
  refine ⟨hr, a, rfl, hr, a, rfl, hr, not3 a, not3 a, rfl, ?_⟩
  rw [decide_eq_true rfl]
  simp only [ss_nil, b_add, b_sub, b_mul, b_fdiv, b_mod, b_pow, c_eq, c_ne, c_lt, c_le, c_gt, c_ge, t_bl, if_true, Bool.false_eq_true, Bool.not_true, Bool.not_false, if_false, decide_eq_true_eq]
  refine ⟨hr, a, rfl, hr, not3 a, rfl, hr, not3 (not3 a), a, rfl, ?_⟩
  rw [decide_eq_true (not_not3 a)]
  simp only [ss_nil, b_add, b_sub, b_mul, b_fdiv, b_mod, b_pow, c_eq, c_ne, c_lt, c_le, c_gt, c_ge, t_bl, if_true, Bool.false_eq_true, Bool.not_true, Bool.not_false, if_false, decide_eq_true_eq]
  rw [ss_cons]
  simp only [ss_nil, ZL.wpS, wpE, wpA, wpT, wpAndT, wpOrT, wpAndV, wpOrV, wpTs, wpG, wpGs, List.getElem?_cons_zero, List.getElem?_cons_succ, List.set_cons_zero, List.set_cons_succ, b_add, b_sub, b_mul, b_fdiv, b_mod, b_pow, c_eq, c_ne, c_lt, c_le, c_gt, c_ge, t_bl, if_true, Bool.false_eq_true, if_false, decide_eq_true_eq]
  simp only [f.both, f.either, f.turned, f.same, f.lboth, f.leither, f.lturned, f.tap, f.draw, f.pair, f.folded]
  refine ⟨hr, a, rfl, hr, b, rfl, hr, not3 a, not3 b, rfl, hr, a, b, rfl, hr, or3 a b, rfl, hr, and3 (not3 a) (not3 b), not3 (or3 a b), rfl, ?_⟩
  rw [decide_eq_true (morgan a b)]
  exact ⟨_, le2, h⟩
end LW

namespace LW
open PySem PySem.Spec PyProof.Rows L2 RZ ZL
theorem andL_cons (x : Option Bool) (xs : List (Option Bool)) : andL (x :: xs) = and3 x (andL xs) := by
  unfold andL and3
  by_cases h1 : some false ∈ xs <;> by_cases h2 : none ∈ xs <;> rcases x with _ | _ | _ <;> simp [h1, h2]
theorem orL_cons (x : Option Bool) (xs : List (Option Bool)) : orL (x :: xs) = or3 x (orL xs) := by
  unfold orL or3
  by_cases h1 : some true ∈ xs <;> by_cases h2 : none ∈ xs <;> rcases x with _ | _ | _ <;> simp [h1, h2]
theorem and_assoc3 (a b c : Option Bool) : and3 (and3 a b) c = and3 a (and3 b c) := by
  rcases a with _ | _ | _ <;> rcases b with _ | _ | _ <;> rcases c with _ | _ | _ <;> rfl
theorem or_assoc3 (a b c : Option Bool) : or3 (or3 a b) c = or3 a (or3 b c) := by
  rcases a with _ | _ | _ <;> rcases b with _ | _ | _ <;> rcases c with _ | _ | _ <;> rfl
theorem and_comm3 (a b : Option Bool) : and3 a b = and3 b a := by
  rcases a with _ | _ | _ <;> rcases b with _ | _ | _ <;> rfl
theorem or_comm3 (a b : Option Bool) : or3 a b = or3 b a := by
  rcases a with _ | _ | _ <;> rcases b with _ | _ | _ <;> rfl
theorem and_self3 (a : Option Bool) : and3 a a = a := by rcases a with _ | _ | _ <;> rfl
theorem or_self3 (a : Option Bool) : or3 a a = a := by rcases a with _ | _ | _ <;> rfl
theorem and_true3 (a : Option Bool) : and3 a (some true) = a := by rcases a with _ | _ | _ <;> rfl
theorem or_false3 (a : Option Bool) : or3 a (some false) = a := by rcases a with _ | _ | _ <;> rfl
theorem andL_rev (xs : List (Option Bool)) : andL xs.reverse = andL xs := by unfold andL; simp
theorem orL_rev (xs : List (Option Bool)) : orL xs.reverse = orL xs := by unfold orL; simp
theorem wp_folded {C : ZL.Ctx} (f : K1C C) (hr : 1 ≤ C.room) : ∀ ws Z Q E, ZLen Z → spFolded ws Z Q E → wpSs C m_law_folded_right (startZ N_law_folded_right ws) Z (endD Q) := by
  rintro ws Z Q E _ ⟨t, xs, rfl, hz, h⟩
  show wpSs C m_law_folded_right [some (.ref t), none, none, none] Z (endD Q)
  unfold m_law_folded_right
  rw [ss_cons]
  simp only [ss_nil, ZL.wpS, wpE, wpA, wpT, wpAndT, wpOrT, wpAndV, wpOrV, wpTs, wpG, wpGs, List.getElem?_cons_zero, List.getElem?_cons_succ, List.set_cons_zero, List.set_cons_succ, b_add, b_sub, b_mul, b_fdiv, b_mod, b_pow, c_eq, c_ne, c_lt, c_le, c_gt, c_ge, t_bl, if_true, Bool.false_eq_true, if_false, decide_eq_true_eq]
  rw [ss_cons]
  simp only [ss_nil, ZL.wpS, wpE, wpA, wpT, wpAndT, wpOrT, wpAndV, wpOrV, wpTs, wpG, wpGs, List.getElem?_cons_zero, List.getElem?_cons_succ, List.set_cons_zero, List.set_cons_succ, b_add, b_sub, b_mul, b_fdiv, b_mod, b_pow, c_eq, c_ne, c_lt, c_le, c_gt, c_ge, t_bl, if_true, Bool.false_eq_true, if_false, decide_eq_true_eq]
  rw [ss_cons]
  simp only [ss_nil, ZL.wpS, wpE, wpA, wpT, wpAndT, wpOrT, wpAndV, wpOrV, wpTs, wpG, wpGs, List.getElem?_cons_zero, List.getElem?_cons_succ, List.set_cons_zero, List.set_cons_succ, b_add, b_sub, b_mul, b_fdiv, b_mod, b_pow, c_eq, c_ne, c_lt, c_le, c_gt, c_ge, t_bl, if_true, Bool.false_eq_true, if_false, decide_eq_true_eq]
  refine wpI_lst hz fun hl => ?_
  refine forL_inv (fun rest ς Z' => Z' = Z ∧ ∃ (ys : List (Option Bool)) (p q : Option Bool) (v : Option W), rest = ys.map tW ∧ ς = [some (.ref t), some (tW p), some (tW q), v] ∧ and3 p (andL ys) = andL xs ∧ or3 q (orL ys) = orL xs)
    (fun _ _ _ ⟨e, _⟩ => by rw [e]; exact hz) ?_ ?_ _ _ _ ⟨rfl, xs, some true, some false, none, rfl, rfl, by rw [and_comm3, and_true3], by rw [or_comm3, or_false3]⟩
  · rintro ς Z' ⟨rfl, ys, p, q, v, e, rfl, h1, h2⟩
    cases ys with
    | cons _ _ => cases e
    | nil =>
      have h1 : p = andL xs := by rw [← h1]; exact (and_true3 p).symm
      have h2 : q = orL xs := by rw [← h2]; exact (or_false3 q).symm
      subst h1 h2
      show wpSs C _ _ Z' _
      rw [ss_cons]
      simp only [ss_nil, ZL.wpS, wpE, wpA, wpT, wpAndT, wpOrT, wpAndV, wpOrV, wpTs, wpG, wpGs, List.getElem?_cons_zero, List.getElem?_cons_succ, List.set_cons_zero, List.set_cons_succ, b_add, b_sub, b_mul, b_fdiv, b_mod, b_pow, c_eq, c_ne, c_lt, c_le, c_gt, c_ge, t_bl, if_true, Bool.false_eq_true, if_false, decide_eq_true_eq]
      simp only [f.both, f.either, f.turned, f.same, f.lboth, f.leither, f.lturned, f.tap, f.draw, f.pair, f.folded]
      refine ⟨hr, t, xs, rfl, hz, hr, andL xs, andL xs, rfl, ?_⟩
      rw [decide_eq_true rfl]
      simp only [ss_nil, b_add, b_sub, b_mul, b_fdiv, b_mod, b_pow, c_eq, c_ne, c_lt, c_le, c_gt, c_ge, t_bl, if_true, Bool.false_eq_true, Bool.not_true, Bool.not_false, if_false, decide_eq_true_eq]
      refine ⟨hr, t, xs, rfl, hz, hr, orL xs, orL xs, rfl, ?_⟩
      rw [decide_eq_true rfl]
      simp only [ss_nil, b_add, b_sub, b_mul, b_fdiv, b_mod, b_pow, c_eq, c_ne, c_lt, c_le, c_gt, c_ge, t_bl, if_true, Bool.false_eq_true, Bool.not_true, Bool.not_false, if_false, decide_eq_true_eq]
      rw [ss_cons]
      simp only [ss_nil, ZL.wpS, wpE, wpA, wpT, wpAndT, wpOrT, wpAndV, wpOrV, wpTs, wpG, wpGs, List.getElem?_cons_zero, List.getElem?_cons_succ, List.set_cons_zero, List.set_cons_succ, b_add, b_sub, b_mul, b_fdiv, b_mod, b_pow, c_eq, c_ne, c_lt, c_le, c_gt, c_ge, t_bl, if_true, Bool.false_eq_true, if_false, decide_eq_true_eq]
      refine wpRev_lst hz fun r n1 => ?_
      have le1 : Zle Z' (upz Z' r (.lst (xs.map tW).reverse)) := .new n1
      have z1 : upz Z' r (.lst (xs.map tW).reverse) r = some (.lst (xs.map tW).reverse) := upz_same
      generalize upz Z' r (.lst (xs.map tW).reverse) = Z1 at le1 z1 ⊢
      refine wpI_lst z1 fun hl2 => ?_
      refine forL_inv (fun rest ς Z' => Z' = Z1 ∧ ∃ (ys : List (Option Bool)) (p q : Option Bool) (v : Option W), rest = ys.map tW ∧ ς = [some (.ref t), some (tW p), some (tW q), v] ∧ and3 p (andL ys) = andL xs ∧ or3 q (orL ys) = orL xs)
        (fun _ _ _ ⟨e, _⟩ => by rw [e]; exact z1) ?_ ?_ _ _ _ ⟨rfl, xs.reverse, andL xs, orL xs, v, by rw [List.map_reverse], rfl, by rw [andL_rev, and_self3], by rw [orL_rev, or_self3]⟩
      · rintro ς Z' ⟨rfl, ys, p, q, v, e, rfl, h1, h2⟩
        cases ys with
        | cons _ _ => cases e
        | nil =>
          have h1 : p = andL xs := by rw [← h1]; exact (and_true3 p).symm
          have h2 : q = orL xs := by rw [← h2]; exact (or_false3 q).symm
          subst h1 h2
          have hz' := le1 _ _ hz
          show wpSs C _ _ Z' _
          rw [ss_cons]
          simp only [ss_nil, ZL.wpS, wpE, wpA, wpT, wpAndT, wpOrT, wpAndV, wpOrV, wpTs, wpG, wpGs, List.getElem?_cons_zero, List.getElem?_cons_succ, List.set_cons_zero, List.set_cons_succ, b_add, b_sub, b_mul, b_fdiv, b_mod, b_pow, c_eq, c_ne, c_lt, c_le, c_gt, c_ge, t_bl, if_true, Bool.false_eq_true, if_false, decide_eq_true_eq]
          simp only [f.both, f.either, f.turned, f.same, f.lboth, f.leither, f.lturned, f.tap, f.draw, f.pair, f.folded]
          refine ⟨hr, t, xs, rfl, hz', hr, andL xs, andL xs, rfl, ?_⟩
          rw [decide_eq_true rfl]
          simp only [ss_nil, b_add, b_sub, b_mul, b_fdiv, b_mod, b_pow, c_eq, c_ne, c_lt, c_le, c_gt, c_ge, t_bl, if_true, Bool.false_eq_true, Bool.not_true, Bool.not_false, if_false, decide_eq_true_eq]
          refine ⟨hr, t, xs, rfl, hz', hr, orL xs, orL xs, rfl, ?_⟩
          rw [decide_eq_true rfl]
          exact ⟨_, le1, h⟩
      · rintro x rest ς Z' D' ⟨rfl, ys, p, q, v, e, rfl, h1, h2⟩ k1 k2 k3 k4
        cases ys with
        | nil => cases e
        | cons y ys =>
          cases e
          rw [ss_cons]
          simp only [ss_nil, ZL.wpS, wpE, wpA, wpT, wpAndT, wpOrT, wpAndV, wpOrV, wpTs, wpG, wpGs, List.getElem?_cons_zero, List.getElem?_cons_succ, List.set_cons_zero, List.set_cons_succ, b_add, b_sub, b_mul, b_fdiv, b_mod, b_pow, c_eq, c_ne, c_lt, c_le, c_gt, c_ge, t_bl, if_true, Bool.false_eq_true, if_false, decide_eq_true_eq]
          simp only [f.both, f.either, f.turned, f.same, f.lboth, f.leither, f.lturned, f.tap, f.draw, f.pair, f.folded]
          refine ⟨hr, y, p, rfl, ?_⟩
          show wpSs C _ _ _ _
          rw [ss_cons]
          simp only [ss_nil, ZL.wpS, wpE, wpA, wpT, wpAndT, wpOrT, wpAndV, wpOrV, wpTs, wpG, wpGs, List.getElem?_cons_zero, List.getElem?_cons_succ, List.set_cons_zero, List.set_cons_succ, b_add, b_sub, b_mul, b_fdiv, b_mod, b_pow, c_eq, c_ne, c_lt, c_le, c_gt, c_ge, t_bl, if_true, Bool.false_eq_true, if_false, decide_eq_true_eq]
          simp only [f.both, f.either, f.turned, f.same, f.lboth, f.leither, f.lturned, f.tap, f.draw, f.pair, f.folded]
          refine ⟨hr, y, q, rfl, k1 _ _ _ .refl ⟨rfl, ys, and3 y p, or3 y q, _, rfl, rfl, ?_, ?_⟩⟩
          · rw [← h1, andL_cons, and_comm3 y p, and_assoc3]
          · rw [← h2, orL_cons, or_comm3 y q, or_assoc3]
  · rintro x rest ς Z' D' ⟨rfl, ys, p, q, v, e, rfl, h1, h2⟩ k1 k2 k3 k4
    cases ys with
    | nil => cases e
    | cons y ys =>
      cases e
      rw [ss_cons]
      simp only [ss_nil, ZL.wpS, wpE, wpA, wpT, wpAndT, wpOrT, wpAndV, wpOrV, wpTs, wpG, wpGs, List.getElem?_cons_zero, List.getElem?_cons_succ, List.set_cons_zero, List.set_cons_succ, b_add, b_sub, b_mul, b_fdiv, b_mod, b_pow, c_eq, c_ne, c_lt, c_le, c_gt, c_ge, t_bl, if_true, Bool.false_eq_true, if_false, decide_eq_true_eq]
      simp only [f.both, f.either, f.turned, f.same, f.lboth, f.leither, f.lturned, f.tap, f.draw, f.pair, f.folded]
      refine ⟨hr, p, y, rfl, ?_⟩
      show wpSs C _ _ _ _
      rw [ss_cons]
      simp only [ss_nil, ZL.wpS, wpE, wpA, wpT, wpAndT, wpOrT, wpAndV, wpOrV, wpTs, wpG, wpGs, List.getElem?_cons_zero, List.getElem?_cons_succ, List.set_cons_zero, List.set_cons_succ, b_add, b_sub, b_mul, b_fdiv, b_mod, b_pow, c_eq, c_ne, c_lt, c_le, c_gt, c_ge, t_bl, if_true, Bool.false_eq_true, if_false, decide_eq_true_eq]
      simp only [f.both, f.either, f.turned, f.same, f.lboth, f.leither, f.lturned, f.tap, f.draw, f.pair, f.folded]
      refine ⟨hr, q, y, rfl, k1 _ _ _ .refl ⟨rfl, ys, and3 p y, or3 q y, _, rfl, rfl, ?_, ?_⟩⟩
      · rw [← h1, andL_cons, and_assoc3]
      · rw [← h2, orL_cons, or_assoc3]
end LW

namespace LW
open PySem PySem.Spec PyProof.Rows L2 RZ ZL
def spLaw : ZSp := fun ws Z Q _ => ∃ ns : List Int, ws = [.ro (ns.map .int)] ∧ ns.length ≤ 63 ∧ Q (.bl true) Z
theorem K1C.calm {C : ZL.Ctx} (f : K1C C) : K1C C.calm := ⟨f.both, f.either, f.turned, f.tap, f.draw, f.same, f.lboth, f.leither, f.lturned, f.pair, f.folded⟩
theorem cut_ints (ns : List Int) (lo hi : Option Int) : ∃ cs : List Int, cutW (ns.map W.int) lo hi = cs.map W.int ∧ cs.length ≤ ns.length := by
  unfold cutW
  refine ⟨(ns.drop (HT.sIx (ns.map W.int).length 0 lo)).take (HT.sIx (ns.map W.int).length (ns.map W.int).length hi - HT.sIx (ns.map W.int).length 0 lo), by rw [List.map_take, List.map_drop], ?_⟩
  rw [List.length_take, List.length_drop]
  omega
theorem wp_law {C : ZL.Ctx} (f : K1C C) (hr : 2 ≤ C.room) : ∀ ws Z Q E, ZLen Z → spLaw ws Z Q E → wpSs C m_law (startZ N_law ws) Z (endD Q) := by
  rintro ws Z Q E _ ⟨ns, rfl, hlen, h⟩
  have hr1 : 1 ≤ C.room := by omega
  show wpSs C m_law [some (.ro (ns.map .int)), none, none, none, none, none, none, none] Z (endD Q)
  unfold m_law
  rw [ss_cons]
  simp only [ss_nil, ZL.wpS, wpE, wpA, wpT, wpAndT, wpOrT, wpAndV, wpOrV, wpTs, wpG, wpGs, List.getElem?_cons_zero, List.getElem?_cons_succ, List.set_cons_zero, List.set_cons_succ, b_add, b_sub, b_mul, b_fdiv, b_mod, b_pow, c_eq, c_ne, c_lt, c_le, c_gt, c_ge, t_bl, if_true, Bool.false_eq_true, if_false, decide_eq_true_eq]
  refine ⟨Nat.le_of_ble_eq_true rfl, fun r0 n0 => ?_⟩
  have le0 : Zle Z (upz Z r0 (.lst [.bl true, .bl false, .non])) := .new n0
  have z0 : upz Z r0 (.lst [.bl true, .bl false, .non]) r0 = some (.lst [.bl true, .bl false, .non]) := upz_same
  generalize upz Z r0 (.lst [.bl true, .bl false, .non]) = Z0 at le0 z0 ⊢
  rw [ss_cons]
  simp only [ss_nil, ZL.wpS, wpE, wpA, wpT, wpAndT, wpOrT, wpAndV, wpOrV, wpTs, wpG, wpGs, List.getElem?_cons_zero, List.getElem?_cons_succ, List.set_cons_zero, List.set_cons_succ, b_add, b_sub, b_mul, b_fdiv, b_mod, b_pow, c_eq, c_ne, c_lt, c_le, c_gt, c_ge, t_bl, if_true, Bool.false_eq_true, if_false, decide_eq_true_eq]
  refine wpI_lst z0 fun hl => ?_
  refine forL_inv (fun rest ς Z' => Z' = Z0 ∧ ∃ (ys : List (Option Bool)) (o1 o2 : Option W), rest = ys.map tW ∧ ς = [some (.ro (ns.map .int)), some (.ref r0), o1, o2, none, none, none, none])
    (fun _ _ _ ⟨e, _⟩ => by rw [e]; exact z0) ?_ ?_ _ _ _ ⟨rfl, [some true, some false, none], none, none, rfl, rfl⟩
  · rintro ς Z' ⟨rfl, ys, o1, o2, _, rfl⟩
    show wpSs C _ _ Z' _
    rw [ss_cons]
    simp only [ss_nil, ZL.wpS, wpE, wpA, wpT, wpAndT, wpOrT, wpAndV, wpOrV, wpTs, wpG, wpGs, List.getElem?_cons_zero, List.getElem?_cons_succ, List.set_cons_zero, List.set_cons_succ, b_add, b_sub, b_mul, b_fdiv, b_mod, b_pow, c_eq, c_ne, c_lt, c_le, c_gt, c_ge, t_bl, if_true, Bool.false_eq_true, if_false, decide_eq_true_eq]
    simp only [partW, wpSl, wpB, seqOf]
    intro ra na
    obtain ⟨cs, hcs, hcl⟩ := cut_ints ns none (some 40)
    rw [hcs]
    refine ⟨Nat.le_of_ble_eq_true rfl, fun rb nb => ?_⟩
    have lea : Zle Z' (upz Z' ra (.lst (cs.map .int))) := .new na
    have za : upz Z' ra (.lst (cs.map .int)) ra = some (.lst (cs.map .int)) := upz_same
    generalize upz Z' ra (.lst (cs.map .int)) = Za at lea za nb ⊢
    have leb : Zle Za (upz Za rb (.lst [.int (ns.map W.int).length])) := .new nb
    have zb : upz Za rb (.lst [.int (ns.map W.int).length]) rb = some (.lst [.int (ns.map W.int).length]) := upz_same
    generalize upz Za rb (.lst [.int (ns.map W.int).length]) = Zb at leb zb ⊢
    refine wpAdd_lst (leb _ _ za) zb (by rw [List.length_map, sizeLine_eq]; show cs.length + 1 ≤ _; omega) fun rc nc => ?_
    have lec : Zle Zb (upz Zb rc (.lst (cs.map .int ++ [.int (ns.map W.int).length]))) := .new nc
    have zc : upz Zb rc (.lst (cs.map .int ++ [.int (ns.map W.int).length])) rc = some (.lst (cs.map .int ++ [.int (ns.map W.int).length])) := upz_same
    have le3 : Zle Z (upz Zb rc (.lst (cs.map .int ++ [.int (ns.map W.int).length]))) := le0.trans (lea.trans (leb.trans lec))
    have z3 := lec _ _ (leb _ _ (lea _ _ z0))
    have hit : ∃ ds : List Int, cs.map W.int ++ [.int (ns.map W.int).length] = ds.map W.int := ⟨cs ++ [((ns.map W.int).length : Int)], by rw [List.map_append]; rfl⟩
    generalize upz Zb rc (.lst (cs.map .int ++ [.int (ns.map W.int).length])) = Zc at zc le3 z3 ⊢
    clear lec leb lea zb za nb nc na z0 le0 hl
    obtain ⟨ds, hds⟩ := hit
    rw [hds] at zc
    refine wpI_lst zc fun hl => ?_
    refine forL_inv (fun rest ς Z1 => Zle Zc Z1 ∧ ∃ (es : List Int) (o1 o2 o3 o4 o5 o6 : Option W), rest = es.map W.int ∧ ς = [some (.ro (ns.map .int)), some (.ref r0), o1, o2, o3, o4, o5, o6])
      (fun _ _ _ ⟨e, _⟩ => e _ _ zc) ?_ ?_ _ _ _ ⟨.refl, ds, o1, o2, none, none, none, none, rfl, rfl⟩
    · rintro ς Z1 ⟨le, es, p1, p2, p3, p4, p5, p6, _, rfl⟩
      show wpSs C _ _ Z1 _
      rw [ss_cons]
      simp only [ss_nil, ZL.wpS, wpE, wpA, wpT, wpAndT, wpOrT, wpAndV, wpOrV, wpTs, wpG, wpGs, List.getElem?_cons_zero, List.getElem?_cons_succ, List.set_cons_zero, List.set_cons_succ, b_add, b_sub, b_mul, b_fdiv, b_mod, b_pow, c_eq, c_ne, c_lt, c_le, c_gt, c_ge, t_bl, if_true, Bool.false_eq_true, if_false, decide_eq_true_eq]
      exact ⟨_, le3.trans le, h⟩
    · rintro x rest ς Z1 D' ⟨le, es, p1, p2, p3, p4, p5, p6, e, rfl⟩ k1 k2 k3 k4
      cases es with
      | nil => cases e
      | cons c es =>
        cases e
        have z0 := le _ _ z3
        rw [ss_cons]
        simp only [ss_nil, ZL.wpS, wpE, wpA, wpT, wpAndT, wpOrT, wpAndV, wpOrV, wpTs, wpG, wpGs, List.getElem?_cons_zero, List.getElem?_cons_succ, List.set_cons_zero, List.set_cons_succ, b_add, b_sub, b_mul, b_fdiv, b_mod, b_pow, c_eq, c_ne, c_lt, c_le, c_gt, c_ge, t_bl, if_true, Bool.false_eq_true, if_false, decide_eq_true_eq]
        simp only [f.both, f.either, f.turned, f.same, f.lboth, f.leither, f.lturned, f.tap, f.draw, f.pair, f.folded]
        refine ⟨hr1, c, rfl, fun t b nt => ?_⟩
        have let_ : Zle Z1 (upz Z1 t (.lst [.int c, .int b, .int 0, .int (c % 10 ^ 40)])) := .new nt
        have zt : upz Z1 t (.lst [.int c, .int b, .int 0, .int (c % 10 ^ 40)]) t = some (.lst [.int c, .int b, .int 0, .int (c % 10 ^ 40)]) := upz_same
        have d1 : 0 ≤ c % 10 ^ 40 := Int.emod_nonneg _ (by decide)
        have d2 : c % 10 ^ 40 < 10 ^ 40 := Int.emod_lt_of_pos _ (by decide)
        generalize c % 10 ^ 40 = d at d1 d2 zt let_ ⊢
        generalize upz Z1 t (.lst [.int c, .int b, .int 0, .int d]) = Zt at let_ zt ⊢
        show wpSs C _ _ Zt _
        rw [ss_cons]
        simp only [ss_nil, ZL.wpS, wpE, wpA, wpT, wpAndT, wpOrT, wpAndV, wpOrV, wpTs, wpG, wpGs, List.getElem?_cons_zero, List.getElem?_cons_succ, List.set_cons_zero, List.set_cons_succ, b_add, b_sub, b_mul, b_fdiv, b_mod, b_pow, c_eq, c_ne, c_lt, c_le, c_gt, c_ge, t_bl, if_true, Bool.false_eq_true, if_false, decide_eq_true_eq]
        simp only [f.both, f.either, f.turned, f.same, f.lboth, f.leither, f.lturned, f.tap, f.draw, f.pair, f.folded]
        refine ⟨hr1, t, 13, 0, c, b, d, rfl, by decide, by decide, zt, by decide, by decide, d1, d2, fun j a' j1 j2 => ?_⟩
        have ne0 : r0 ≠ t := fun q => by rw [q, nt] at z0; cases z0
        have lex : ∀ ws, Zle Z1 (upz Zt t ws) := fun ws a o ha => by
          have : a ≠ t := fun q => by rw [q, nt] at ha; cases ha
          rw [upz_ne this]
          exact let_ _ _ ha
        have lez := lex (.lst [.int a', .int b, .int (0 + 1), .int d])
        have zt2 : upz Zt t (.lst [.int a', .int b, .int (0 + 1), .int d]) t = some (.lst [.int a', .int b, .int (0 + 1), .int d]) := upz_same
        generalize upz Zt t (.lst [.int a', .int b, .int (0 + 1), .int d]) = Zu at lez zt2 ⊢
        simp only [wpI]
        refine ⟨by omega, by omega, by rw [List.length_map, List.length_range, sizeLine_eq]; omega, ?_⟩
        simp only [wipeZ, List.getElem?_cons_zero, List.getElem?_cons_succ, List.set_cons_zero, List.set_cons_succ]
        refine compL_inv (fun rest acc Z2 => Zle Z1 Z2 ∧ (∃ ys : List (Option Bool), acc = ys.map tW) ∧ ∃ (a n : Int), Z2 t = some (.lst [.int a, .int b, .int n, .int d]) ∧ 0 ≤ n ∧ n + 2 * rest.length < 1000) (fun _ _ _ _ => trivial) ?_ ?_ _ _ _
          ⟨lez, ⟨[], rfl⟩, a', 0 + 1, zt2, by decide, by rw [List.length_map, List.length_range]; omega⟩
        · rintro acc Z2 ⟨le2, ⟨ys, rfl⟩, _⟩ r nr
          have le4 : Zle Z1 (upz Z2 r (.lst (ys.map tW))) := le2.trans (.new nr)
          rw [ss_cons]
          simp only [ss_nil, ZL.wpS, wpE, wpA, wpT, wpAndT, wpOrT, wpAndV, wpOrV, wpTs, wpG, wpGs, List.getElem?_cons_zero, List.getElem?_cons_succ, List.set_cons_zero, List.set_cons_succ, b_add, b_sub, b_mul, b_fdiv, b_mod, b_pow, c_eq, c_ne, c_lt, c_le, c_gt, c_ge, t_bl, if_true, Bool.false_eq_true, if_false, decide_eq_true_eq]
          simp only [f.both, f.either, f.turned, f.same, f.lboth, f.leither, f.lturned, f.tap, f.draw, f.pair, f.folded]
          refine ⟨hr, r, ys, rfl, upz_same, ?_⟩
          simp only [ss_nil, b_add, b_sub, b_mul, b_fdiv, b_mod, b_pow, c_eq, c_ne, c_lt, c_le, c_gt, c_ge, t_bl, if_true, Bool.false_eq_true, Bool.not_true, Bool.not_false, if_false, decide_eq_true_eq]
          exact k1 _ _ Z1 le4 ⟨le, es, _, _, _, _, _, _, rfl, rfl⟩
        · rintro x rest acc Z2 KK ⟨le2, ⟨ys, rfl⟩, a, n, hz, hn, hb⟩ kk
          rw [List.length_cons] at hb
          refine ⟨hr1, t, 3, n, a, b, d, rfl, by decide, by decide, hz, hn, by omega, d1, d2, fun x1 a1 q1 q2 => ⟨Nat.le_of_ble_eq_true rfl, fun l nl => ?_⟩⟩
          have lea : Zle Z1 (upz Z2 t (.lst [.int a1, .int b, .int (n + 1), .int d])) := fun w o ha => by
            have : w ≠ t := fun q => by rw [q, nt] at ha; cases ha
            rw [upz_ne this]
            exact le2 _ _ ha
          have hza : upz Z2 t (.lst [.int a1, .int b, .int (n + 1), .int d]) t = some (.lst [.int a1, .int b, .int (n + 1), .int d]) := upz_same
          generalize upz Z2 t (.lst [.int a1, .int b, .int (n + 1), .int d]) = Za at lea hza nl ⊢
          have nlt : l ≠ t := fun q => by rw [q, hza] at nl; cases nl
          have leb : Zle Z1 (upz Za l (.lst [.int x1, .int 0, .int 2])) := lea.trans (.new nl)
          have hzb : upz Za l (.lst [.int x1, .int 0, .int 2]) t = some (.lst [.int a1, .int b, .int (n + 1), .int d]) := by rw [upz_ne (Ne.symm nlt)]; exact hza
          have hlb : upz Za l (.lst [.int x1, .int 0, .int 2]) l = some (.lst [.int x1, .int 0, .int 2]) := upz_same
          generalize upz Za l (.lst [.int x1, .int 0, .int 2]) = Zb at leb hzb hlb ⊢
          refine ⟨hr1, t, 3, n + 1, a1, b, d, rfl, by decide, by decide, hzb, by omega, by omega, d1, d2, fun x2 a2 q3 q4 => ?_⟩
          have lec : Zle Z1 (upz Zb t (.lst [.int a2, .int b, .int (n + 1 + 1), .int d])) := fun w o ha => by
            have : w ≠ t := fun q => by rw [q, nt] at ha; cases ha
            rw [upz_ne this]
            exact leb _ _ ha
          have hzc : upz Zb t (.lst [.int a2, .int b, .int (n + 1 + 1), .int d]) t = some (.lst [.int a2, .int b, .int (n + 1 + 1), .int d]) := upz_same
          have hlc : upz Zb t (.lst [.int a2, .int b, .int (n + 1 + 1), .int d]) l = some (.lst [.int x1, .int 0, .int 2]) := by rw [upz_ne nlt]; exact hlb
          generalize upz Zb t (.lst [.int a2, .int b, .int (n + 1 + 1), .int d]) = Zd at lec hzc hlc ⊢
          obtain ⟨y, hy, y1, y2⟩ : ∃ y : Int, atI [W.int x1, .int 0, .int 2] x2 = some (.int y) ∧ 0 ≤ y ∧ y < 3 := by
            obtain rfl | rfl | rfl : x2 = 0 ∨ x2 = 1 ∨ x2 = 2 := by omega
            · exact ⟨x1, rfl, q1, q2⟩
            · exact ⟨0, rfl, by decide, by decide⟩
            · exact ⟨2, rfl, by decide, by decide⟩
          refine wpIx_lst hlc hy ?_
          obtain ⟨v, hv⟩ : ∃ v : Option Bool, atI [W.bl true, .bl false, .non] y = some (tW v) := by
            obtain rfl | rfl | rfl : y = 0 ∨ y = 1 ∨ y = 2 := by omega
            · exact ⟨some true, rfl⟩
            · exact ⟨some false, rfl⟩
            · exact ⟨none, rfl⟩
          refine wpIx_lst (lec _ _ z0) hv ?_
          exact kk (some (tW v)) _ Zd .refl ⟨lec, ⟨ys ++ [v], by rw [List.map_append]; rfl⟩, a2, n + 1 + 1, hzc, by omega, by omega⟩
  · rintro x rest ς Z' D' ⟨rfl, ys, o1, o2, e, rfl⟩ k1 k2 k3 k4
    cases ys with
    | nil => cases e
    | cons y ys =>
      cases e
      rw [ss_cons]
      simp only [ss_nil, ZL.wpS, wpE, wpA, wpT, wpAndT, wpOrT, wpAndV, wpOrV, wpTs, wpG, wpGs, List.getElem?_cons_zero, List.getElem?_cons_succ, List.set_cons_zero, List.set_cons_succ, b_add, b_sub, b_mul, b_fdiv, b_mod, b_pow, c_eq, c_ne, c_lt, c_le, c_gt, c_ge, t_bl, if_true, Bool.false_eq_true, if_false, decide_eq_true_eq]
      refine wpI_lst z0 fun hl => ?_
      refine forL_inv (fun rest2 ς Z2 => Z2 = Z' ∧ ∃ (us : List (Option Bool)) (o2 : Option W), rest2 = us.map tW ∧ ς = [some (.ro (ns.map .int)), some (.ref r0), some (tW y), o2, none, none, none, none])
        (fun _ _ _ ⟨e, _⟩ => by rw [e]; exact z0) ?_ ?_ _ _ _ ⟨rfl, [some true, some false, none], o2, rfl, rfl⟩
      · rintro ς Z2 ⟨rfl, us, o2, _, rfl⟩
        exact k1 _ _ _ .refl ⟨rfl, ys, _, _, rfl, rfl⟩
      · rintro x2 rest2 ς Z2 D2 ⟨rfl, us, o2, e2, rfl⟩ q1 q2 q3 q4
        cases us with
        | nil => cases e2
        | cons u us =>
          cases e2
          rw [ss_cons]
          simp only [ss_nil, ZL.wpS, wpE, wpA, wpT, wpAndT, wpOrT, wpAndV, wpOrV, wpTs, wpG, wpGs, List.getElem?_cons_zero, List.getElem?_cons_succ, List.set_cons_zero, List.set_cons_succ, b_add, b_sub, b_mul, b_fdiv, b_mod, b_pow, c_eq, c_ne, c_lt, c_le, c_gt, c_ge, t_bl, if_true, Bool.false_eq_true, if_false, decide_eq_true_eq]
          simp only [f.both, f.either, f.turned, f.same, f.lboth, f.leither, f.lturned, f.tap, f.draw, f.pair, f.folded]
          refine ⟨hr, y, u, rfl, ?_⟩
          exact q1 _ _ _ .refl ⟨rfl, us, _, rfl, rfl⟩
end LW

namespace LW
open PySem PySem.Spec PyProof.Rows L2 RZ ZL
theorem wp_tap {C : ZL.Ctx} : ∀ ws Z Q E, ZLen Z → spTap ws Z Q E → wpSs C m_law_tap (startZ N_law_tap ws) Z (endD Q) := by
  rintro ws Z Q E _ ⟨c, rfl, h⟩
  refine ⟨⟨by decide, by decide, by decide⟩, ⟨by decide, by decide, by decide⟩, by decide, Nat.le_of_ble_eq_true rfl, fun r hr => ⟨_, .refl, ?_⟩⟩
  exact h r _ hr
theorem wp_draw {C : ZL.Ctx} : ∀ ws Z Q E, ZLen Z → spDraw ws Z Q E → wpSs C m_law_draw (startZ N_law_draw ws) Z (endD Q) := by
  rintro ws Z Q E _ ⟨t, m, n, a, b, d, rfl, hm, hm2, hz, hn, hn2, hd, hd2, h⟩
  have hdiv := divw hm hm2
  show wpSs C m_law_draw [some (.ref t), some (.int m), none, none, none] Z (endD Q)
  have z1 : upz Z t (.lst [.int a, .int b, .int (n + 1), .int d]) t = some (.lst [.int a, .int b, .int (n + 1), .int d]) := upz_same
  have fin : ∀ x : Int, (endD Q).rt (.int (x % m)) (upz Z t (.lst [.int a, .int b, .int (n + 1), .int d])) := fun x =>
    endD_rt (h _ a (Int.emod_nonneg _ (by omega)) (Int.emod_lt_of_pos _ hm)) .refl
  have fin2 : (endD Q).rt (.int (a % m)) (upz (upz Z t (.lst [.int a, .int b, .int (n + 1), .int d])) t (.lst [.int (a / m), .int b, .int (n + 1), .int d])) := by
    rw [upz_upz]
    exact endD_rt (h _ _ (Int.emod_nonneg _ (by omega)) (Int.emod_lt_of_pos _ hm)) .refl
  unfold m_law_draw
  rw [ss_cons]
  simp only [ZL.wpS, wpE, wpA, wpT, wpAndT, wpOrT, wpAndV, wpOrV, wpTs, wpG, wpGs, List.getElem?_cons_zero, List.getElem?_cons_succ, List.set_cons_zero, List.set_cons_succ, b_add, b_sub, b_mul, b_fdiv, b_mod, b_pow, c_eq, c_ne, c_lt, c_le, c_gt, c_ge, t_bl, if_true, Bool.false_eq_true, if_false, decide_eq_true_eq]
  refine wpIx_lst hz rfl ?_
  rw [b_add]
  refine wpSet_lst hz rfl ?_
  show wpSs C _ _ (upz Z t (.lst [.int a, .int b, .int (n + 1), .int d])) _
  generalize upz Z t (.lst [.int a, .int b, .int (n + 1), .int d]) = Z1 at z1 fin fin2 ⊢
  clear h hz
  rw [ss_cons]
  simp only [ZL.wpS, wpE, wpA, wpT, wpAndT, wpOrT, wpAndV, wpOrV, wpTs, wpG, wpGs, List.getElem?_cons_zero, List.getElem?_cons_succ, List.set_cons_zero, List.set_cons_succ, b_add, b_sub, b_mul, b_fdiv, b_mod, b_pow, c_eq, c_ne, c_lt, c_le, c_gt, c_ge, t_bl, if_true, Bool.false_eq_true, if_false, decide_eq_true_eq]
  refine wpIx_lst z1 rfl ?_
  simp only [ss_nil, b_add, b_sub, b_mul, b_fdiv, b_mod, b_pow, c_eq, c_ne, c_lt, c_le, c_gt, c_ge, t_bl, if_true, Bool.false_eq_true, if_false, decide_eq_true_eq]
  generalize hrest : wpSs C [_, _, _, _] _ Z1 _ = REST
  have rest : REST := by
    subst hrest
    simp only [wpSs, ZL.wpS, wpE, wpA, wpT, wpAndT, wpOrT, wpAndV, wpOrV, wpTs, wpG, wpGs, List.getElem?_cons_zero, List.getElem?_cons_succ, List.set_cons_zero, List.set_cons_succ, b_add, b_sub, b_mul, b_fdiv, b_mod, b_pow, c_eq, c_ne, c_lt, c_le, c_gt, c_ge, t_bl, if_true, Bool.false_eq_true, if_false, decide_eq_true_eq]
    refine wpIx_lst z1 rfl ?_
    refine wpIx_lst z1 rfl ?_
    rw [b_mul]
    refine ⟨small_mul (by decide) (by decide), ?_⟩
    refine wpIx_lst z1 rfl ?_
    simp only [ss_nil, b_add, b_sub, b_mul, b_fdiv, b_mod, b_pow, c_eq, c_ne, c_lt, c_le, c_gt, c_ge, t_bl, if_true, Bool.false_eq_true, if_false, decide_eq_true_eq]
    refine ⟨mul_small (by omega) (by omega), mul_small (by decide) (by decide), by decide, ?_⟩
    generalize ho : (d + 7919 * (n + 1) * (n + 1) + 11) * 48271 % 2147483647 = once
    have o1 : 0 ≤ once := by rw [← ho]; exact Int.emod_nonneg _ (by decide)
    have o2 : once < 2147483647 := by rw [← ho]; exact Int.emod_lt_of_pos _ (by decide)
    refine ⟨mul_small (by decide) (by decide), mul_small (by omega) (by omega), by decide, mul_small (by decide) (by decide), ?_⟩
    have u1 : 0 ≤ once * once % 2147483629 := Int.emod_nonneg _ (by decide)
    have u2 : once * once % 2147483629 < 2147483629 := Int.emod_lt_of_pos _ (by decide)
    generalize once * once % 2147483629 = u at u1 u2 ⊢
    have t1 : 0 ≤ (once * 2147483629 + u) * 69621 := by omega
    have t2 : (once * 2147483629 + u) * 69621 < 2 ^ 100 := by omega
    generalize (once * 2147483629 + u) * 69621 = twice at t1 t2 ⊢
    refine ⟨⟨by decide, by decide, by decide⟩, ite2 (fun hb => ?_) fun hb => ?_⟩
    · have t3 : twice.natAbs < 2 ^ 100 := by omega
      have t4 : (twice * twice).natAbs < 2 ^ 100 * 2 ^ 100 := by rw [Int.natAbs_mul]; exact Nat.mul_lt_mul'' t3 t3
      refine ⟨mul_wide (by omega) (by omega), mul_wide (Nat.lt_trans t4 (by decide)) (Nat.lt_trans t3 (by decide)), ⟨by decide, by decide, by decide⟩, by decide, hm, fin _⟩
    · exact ⟨by decide, divw (by decide) (by decide) _, hm, fin _⟩
  refine ite2 (fun hb => ?_) fun _ => rest
  refine wpIx_lst z1 rfl ?_
  simp only [ss_nil, b_add, b_sub, b_mul, b_fdiv, b_mod, b_pow, c_eq, c_ne, c_lt, c_le, c_gt, c_ge, t_bl, if_true, Bool.false_eq_true, if_false, decide_eq_true_eq]
  refine ite2 (fun ha => ?_) fun _ => (by rw [hrest]; exact rest)
  simp only [wpSs, ZL.wpS, wpE, wpA, wpT, wpAndT, wpOrT, wpAndV, wpOrV, wpTs, wpG, wpGs, List.getElem?_cons_zero, List.getElem?_cons_succ, List.set_cons_zero, List.set_cons_succ, b_add, b_sub, b_mul, b_fdiv, b_mod, b_pow, c_eq, c_ne, c_lt, c_le, c_gt, c_ge, t_bl, if_true, Bool.false_eq_true, if_false, decide_eq_true_eq]
  refine wpIx_lst z1 rfl ?_
  rw [b_mod]
  refine ⟨hm, ?_⟩
  refine wpIx_lst z1 rfl ?_
  rw [b_fdiv]
  refine ⟨hdiv a, ?_⟩
  refine wpSet_lst z1 rfl ?_
  exact fin2
theorem nm_inj {names : List Str} (nd : names.Nodup) (lo : (names.all fun x => x.cps.all (· < 0x110000)) = true) : ∀ c d, nmOf names c = nmOf names d → c = d := by
  intro c d e
  unfold nmOf at e
  rw [List.getD_eq_getElem?_getD, List.getD_eq_getElem?_getD] at e
  have low : ∀ (i j : Nat) (x : Str), names[i]? = some x → x ≠ ⟨#[0x110000 + j]⟩ := fun i j x hx q => by
    have h1 := List.all_eq_true.mp lo x (List.mem_of_getElem? hx)
    rw [q] at h1
    simp at h1; omega
  cases h1 : names[c]? with
  | some x =>
    rw [h1] at e
    cases h2 : names[d]? with
    | some y =>
      rw [h2] at e
      have e : x = y := e
      subst e
      exact (List.getElem?_inj (List.getElem?_eq_some_iff.mp h1).1 nd).mp (h1.trans h2.symm)
    | none => rw [h2] at e; exact absurd e (low c d x h1)
  | none =>
    rw [h1] at e
    cases h2 : names[d]? with
    | some y => rw [h2] at e; exact absurd e.symm (low d c y h2)
    | none =>
      rw [h2] at e
      have e : (⟨#[0x110000 + c]⟩ : Str) = ⟨#[0x110000 + d]⟩ := e
      injection e with e
      have := congrArg (fun a : Array Nat => a[0]?) e
      simp at this
      exact this
theorem spBoth_len {ws : List W} {Z : Zp} {Q : ZQ} {E : ZE} (h : spBoth ws Z Q E) : ws.length = 2 := by obtain ⟨_, _, rfl, _⟩ := h; rfl
theorem spEither_len {ws : List W} {Z : Zp} {Q : ZQ} {E : ZE} (h : spEither ws Z Q E) : ws.length = 2 := by obtain ⟨_, _, rfl, _⟩ := h; rfl
theorem spTurned_len {ws : List W} {Z : Zp} {Q : ZQ} {E : ZE} (h : spTurned ws Z Q E) : ws.length = 1 := by obtain ⟨_, rfl, _⟩ := h; rfl
theorem spTap_len {ws : List W} {Z : Zp} {Q : ZQ} {E : ZE} (h : spTap ws Z Q E) : ws.length = 1 := by obtain ⟨_, rfl, _⟩ := h; rfl
theorem spDraw_len {ws : List W} {Z : Zp} {Q : ZQ} {E : ZE} (h : spDraw ws Z Q E) : ws.length = 2 := by obtain ⟨_, _, _, _, _, _, rfl, _⟩ := h; rfl
theorem spSame_len {ws : List W} {Z : Zp} {Q : ZQ} {E : ZE} (h : spSame ws Z Q E) : ws.length = 2 := by obtain ⟨_, _, rfl, _⟩ := h; rfl
theorem spLBoth_len {ws : List W} {Z : Zp} {Q : ZQ} {E : ZE} (h : spLBoth ws Z Q E) : ws.length = 1 := by obtain ⟨_, _, rfl, _⟩ := h; rfl
theorem spLEither_len {ws : List W} {Z : Zp} {Q : ZQ} {E : ZE} (h : spLEither ws Z Q E) : ws.length = 1 := by obtain ⟨_, _, rfl, _⟩ := h; rfl
theorem spPair_len {ws : List W} {Z : Zp} {Q : ZQ} {E : ZE} (h : spPair ws Z Q E) : ws.length = 2 := by obtain ⟨_, _, rfl, _⟩ := h; rfl
theorem spFolded_len {ws : List W} {Z : Zp} {Q : ZQ} {E : ZE} (h : spFolded ws Z Q E) : ws.length = 1 := by obtain ⟨_, _, rfl, _⟩ := h; rfl
theorem spLaw_len {ws : List W} {Z : Zp} {Q : ZQ} {E : ZE} (h : spLaw ws Z Q E) : ws.length = 1 := by obtain ⟨_, rfl, _⟩ := h; rfl
theorem names_nodup : names.Nodup := by decide +kernel
theorem names_low : (names.all fun x => x.cps.all (· < 0x110000)) = true := by decide +kernel
theorem names_bm : ∀ i, i < 18 → nmOf names i = bmN.getD i Str.empty := by decide +kernel
section
def r_both : ZL.Row := { c := 18, x := "both", st := top 1, ps := ["one", "other"], N := N_both, ms := m_both, sp := lv 1 spBoth }
theorem ro_both (w : World) : RowOk (TT w) r_both := ⟨rfl, sc_both, ck_both w, fun k ws Z Q E ⟨_, h⟩ => spBoth_len h, lv_zero (by decide)⟩
def r_either : ZL.Row := { c := 19, x := "either", st := top 2, ps := ["one", "other"], N := N_either, ms := m_either, sp := lv 1 spEither }
theorem ro_either (w : World) : RowOk (TT w) r_either := ⟨rfl, sc_either, ck_either w, fun k ws Z Q E ⟨_, h⟩ => spEither_len h, lv_zero (by decide)⟩
def r_turned : ZL.Row := { c := 20, x := "turned", st := top 3, ps := ["one"], N := N_turned, ms := m_turned, sp := lv 1 spTurned }
theorem ro_turned (w : World) : RowOk (TT w) r_turned := ⟨rfl, sc_turned, ck_turned w, fun k ws Z Q E ⟨_, h⟩ => spTurned_len h, lv_zero (by decide)⟩
def r_law_tap : ZL.Row := { c := 21, x := "_law_tap", st := top 5, ps := ["_law_cell"], N := N_law_tap, ms := m_law_tap, sp := lv 1 spTap }
theorem ro_law_tap (w : World) : RowOk (TT w) r_law_tap := ⟨rfl, sc_law_tap, ck_law_tap w, fun k ws Z Q E ⟨_, h⟩ => spTap_len h, lv_zero (by decide)⟩
def r_law_draw : ZL.Row := { c := 22, x := "_law_draw", st := top 6, ps := ["_law_tap_here", "_law_many"], N := N_law_draw, ms := m_law_draw, sp := lv 1 spDraw }
theorem ro_law_draw (w : World) : RowOk (TT w) r_law_draw := ⟨rfl, sc_law_draw, ck_law_draw w, fun k ws Z Q E ⟨_, h⟩ => spDraw_len h, lv_zero (by decide)⟩
def r_law_same : ZL.Row := { c := 23, x := "_law_same", st := top 7, ps := ["_law_found", "_law_due"], N := N_law_same, ms := m_law_same, sp := lv 1 spSame }
theorem ro_law_same (w : World) : RowOk (TT w) r_law_same := ⟨rfl, sc_law_same, ck_law_same w, fun k ws Z Q E ⟨_, h⟩ => spSame_len h, lv_zero (by decide)⟩
def r_law_both : ZL.Row := { c := 24, x := "_law_both", st := top 8, ps := ["_law_truths"], N := N_law_both, ms := m_law_both, sp := lv 1 spLBoth }
theorem ro_law_both (w : World) : RowOk (TT w) r_law_both := ⟨rfl, sc_law_both, ck_law_both w, fun k ws Z Q E ⟨_, h⟩ => spLBoth_len h, lv_zero (by decide)⟩
def r_law_either : ZL.Row := { c := 25, x := "_law_either", st := top 9, ps := ["_law_truths"], N := N_law_either, ms := m_law_either, sp := lv 1 spLEither }
theorem ro_law_either (w : World) : RowOk (TT w) r_law_either := ⟨rfl, sc_law_either, ck_law_either w, fun k ws Z Q E ⟨_, h⟩ => spLEither_len h, lv_zero (by decide)⟩
def r_law_turned : ZL.Row := { c := 26, x := "_law_turned", st := top 10, ps := ["_law_truth"], N := N_law_turned, ms := m_law_turned, sp := lv 1 spTurned }
theorem ro_law_turned (w : World) : RowOk (TT w) r_law_turned := ⟨rfl, sc_law_turned, ck_law_turned w, fun k ws Z Q E ⟨_, h⟩ => spTurned_len h, lv_zero (by decide)⟩
def r_law_pair_right : ZL.Row := { c := 27, x := "_law_pair_right", st := top 11, ps := ["_law_one", "_law_other"], N := N_law_pair_right, ms := m_law_pair_right, sp := lv 2 spPair }
theorem ro_law_pair_right (w : World) : RowOk (TT w) r_law_pair_right := ⟨rfl, sc_law_pair_right, ck_law_pair_right w, fun k ws Z Q E ⟨_, h⟩ => spPair_len h, lv_zero (by decide)⟩
def r_law_folded_right : ZL.Row := { c := 28, x := "_law_folded_right", st := top 12, ps := ["_law_truths"], N := N_law_folded_right, ms := m_law_folded_right, sp := lv 2 spFolded }
theorem ro_law_folded_right (w : World) : RowOk (TT w) r_law_folded_right := ⟨rfl, sc_law_folded_right, ck_law_folded_right w, fun k ws Z Q E ⟨_, h⟩ => spFolded_len h, lv_zero (by decide)⟩
def r_law : ZL.Row := { c := 29, x := "law", st := top 13, ps := ["_law_script"], N := N_law, ms := m_law, sp := lv 3 spLaw }
theorem ro_law (w : World) : RowOk (TT w) r_law := ⟨rfl, sc_law, ck_law w, fun k ws Z Q E ⟨_, h⟩ => spLaw_len h, lv_zero (by decide)⟩
def rows : List ZL.Row := [r_both, r_either, r_turned, r_law_tap, r_law_draw, r_law_same, r_law_both, r_law_either, r_law_turned, r_law_pair_right, r_law_folded_right, r_law]
theorem rows_all {P : ZL.Row → Prop} (h0 : P r_both) (h1 : P r_either) (h2 : P r_turned) (h3 : P r_law_tap) (h4 : P r_law_draw) (h5 : P r_law_same) (h6 : P r_law_both) (h7 : P r_law_either) (h8 : P r_law_turned) (h9 : P r_law_pair_right) (h10 : P r_law_folded_right) (h11 : P r_law) : ∀ r ∈ rows, P r := by
  intro r hr
  simp only [rows, List.mem_cons, List.not_mem_nil, or_false] at hr
  rcases hr with rfl | rfl | rfl | rfl | rfl | rfl | rfl | rfl | rfl | rfl | rfl | rfl
  · exact h0
  · exact h1
  · exact h2
  · exact h3
  · exact h4
  · exact h5
  · exact h6
  · exact h7
  · exact h8
  · exact h9
  · exact h10
  · exact h11
theorem k1c {k : Nat} {E : Nat → List (Nat × W) → ZSt → Zp → Prop} : K1C (ctxK (nmOf names) rows (fun _ => none) k E) := ⟨rfl, rfl, rfl, rfl, rfl, rfl, rfl, rfl, rfl, rfl, rfl⟩
theorem wp_all (w : World) : ∀ r ∈ rows, ∀ k ws Z Q E, ZLen Z → r.sp (k + 1) ws Z Q E → wpSs (ctxK (TT w).nm rows (fun _ => none) k (endE E)) r.ms (startZ r.N ws) Z (endD Q) :=
  rows_all (fun k ws Z Q E z h => wp_both ws Z Q E z h.2) (fun k ws Z Q E z h => wp_either ws Z Q E z h.2) (fun k ws Z Q E z h => wp_turned ws Z Q E z h.2) (fun k ws Z Q E z h => wp_tap ws Z Q E z h.2) (fun k ws Z Q E z h => wp_draw ws Z Q E z h.2)
    (fun k ws Z Q E z h => wp_same ws Z Q E z h.2) (fun k ws Z Q E z h => wp_lboth ws Z Q E z h.2) (fun k ws Z Q E z h => wp_leither ws Z Q E z h.2) (fun k ws Z Q E z h => wp_lturned ws Z Q E z h.2)
    (fun k ws Z Q E z h => wp_pair k1c (Nat.le_of_succ_le_succ h.1) ws Z Q E z h.2) (fun k ws Z Q E z h => wp_folded k1c (Nat.le_of_succ_le_succ h.1) ws Z Q E z h.2) (fun k ws Z Q E z h => wp_law k1c (Nat.le_of_succ_le_succ h.1) ws Z Q E z h.2)
theorem law_start (ns : List Int) (h : ns.length ≤ 63) : r_law.sp 4 [.ro (ns.map W.int)] (fun _ => none) (fun w _ => w = .bl true) (fun _ _ _ => False) := ⟨by decide, ns, rfl, h, rfl⟩
theorem all_mk {l : PySem.W.OpenLaw} {w : World} {K : PySem.W.Frag} {h : Heap} {mg : Str → Option Value} {fa f0 f1 f2 f3 f4 f5 f6 f7 f8 f9 f10 f11 : Addr} (X : K.In h) (G : h.Ns mainGlobals mg) (hfa : mg "law" = some (.ref fa))
    {od0 an0 od1 an1 od2 an2 od3 an3 od4 an4 od5 an5 od6 an6 od7 an7 od8 an8 od9 an9 od10 an10 od11 an11 : Option Addr} {sl0 sl1 sl2 sl3 sl4 sl5 sl6 sl7 sl8 sl9 sl10 sl11 : Array (Option Value)} {oc0 kV0 dc0 pm0 cd0 ct0 oc1 kV1 dc1 pm1 cd1 ct1 oc2 kV2 dc2 pm2 cd2 ct2 oc3 kV3 dc3 pm3 cd3 ct3 oc4 kV4 dc4 pm4 cd4 ct4 oc5 kV5 dc5 pm5 cd5 ct5 oc6 kV6 dc6 pm6 cd6 ct6 oc7 kV7 dc7 pm7 cd7 ct7 oc8 kV8 dc8 pm8 cd8 ct8 oc9 kV9 dc9 pm9 cd9 ct9 oc10 kV10 dc10 pm10 cd10 ct10 oc11 kV11 dc11 pm11 cd11 ct11 : Value}
    (a0 : PySem.W.nsIn K mainGlobals "both" = some (some (.ref f0))) (l0 : K.lookup f0 = some ⟨oc0, od0, .func (PySem.W.fnOf "both" "both" (defArgs (top 1)) (defBody (top 1)) (defScope (top 1)) .none kV0 dc0 pm0 an0 cd0 ct0), sl0⟩) (c0 : PySem.W.codeIn K cd0 "both" = true) (k0 : PySem.W.keepIn K (.ref f0) = true)
    (a1 : PySem.W.nsIn K mainGlobals "either" = some (some (.ref f1))) (l1 : K.lookup f1 = some ⟨oc1, od1, .func (PySem.W.fnOf "either" "either" (defArgs (top 2)) (defBody (top 2)) (defScope (top 2)) .none kV1 dc1 pm1 an1 cd1 ct1), sl1⟩) (c1 : PySem.W.codeIn K cd1 "either" = true) (k1 : PySem.W.keepIn K (.ref f1) = true)
    (a2 : PySem.W.nsIn K mainGlobals "turned" = some (some (.ref f2))) (l2 : K.lookup f2 = some ⟨oc2, od2, .func (PySem.W.fnOf "turned" "turned" (defArgs (top 3)) (defBody (top 3)) (defScope (top 3)) .none kV2 dc2 pm2 an2 cd2 ct2), sl2⟩) (c2 : PySem.W.codeIn K cd2 "turned" = true) (k2 : PySem.W.keepIn K (.ref f2) = true)
    (a3 : PySem.W.nsIn K mainGlobals "_law_tap" = some (some (.ref f3))) (l3 : K.lookup f3 = some ⟨oc3, od3, .func (PySem.W.fnOf "_law_tap" "_law_tap" (defArgs (top 5)) (defBody (top 5)) (defScope (top 5)) .none kV3 dc3 pm3 an3 cd3 ct3), sl3⟩) (c3 : PySem.W.codeIn K cd3 "_law_tap" = true) (k3 : PySem.W.keepIn K (.ref f3) = true)
    (a4 : PySem.W.nsIn K mainGlobals "_law_draw" = some (some (.ref f4))) (l4 : K.lookup f4 = some ⟨oc4, od4, .func (PySem.W.fnOf "_law_draw" "_law_draw" (defArgs (top 6)) (defBody (top 6)) (defScope (top 6)) .none kV4 dc4 pm4 an4 cd4 ct4), sl4⟩) (c4 : PySem.W.codeIn K cd4 "_law_draw" = true) (k4 : PySem.W.keepIn K (.ref f4) = true)
    (a5 : PySem.W.nsIn K mainGlobals "_law_same" = some (some (.ref f5))) (l5 : K.lookup f5 = some ⟨oc5, od5, .func (PySem.W.fnOf "_law_same" "_law_same" (defArgs (top 7)) (defBody (top 7)) (defScope (top 7)) .none kV5 dc5 pm5 an5 cd5 ct5), sl5⟩) (c5 : PySem.W.codeIn K cd5 "_law_same" = true) (k5 : PySem.W.keepIn K (.ref f5) = true)
    (a6 : PySem.W.nsIn K mainGlobals "_law_both" = some (some (.ref f6))) (l6 : K.lookup f6 = some ⟨oc6, od6, .func (PySem.W.fnOf "_law_both" "_law_both" (defArgs (top 8)) (defBody (top 8)) (defScope (top 8)) .none kV6 dc6 pm6 an6 cd6 ct6), sl6⟩) (c6 : PySem.W.codeIn K cd6 "_law_both" = true) (k6 : PySem.W.keepIn K (.ref f6) = true)
    (a7 : PySem.W.nsIn K mainGlobals "_law_either" = some (some (.ref f7))) (l7 : K.lookup f7 = some ⟨oc7, od7, .func (PySem.W.fnOf "_law_either" "_law_either" (defArgs (top 9)) (defBody (top 9)) (defScope (top 9)) .none kV7 dc7 pm7 an7 cd7 ct7), sl7⟩) (c7 : PySem.W.codeIn K cd7 "_law_either" = true) (k7 : PySem.W.keepIn K (.ref f7) = true)
    (a8 : PySem.W.nsIn K mainGlobals "_law_turned" = some (some (.ref f8))) (l8 : K.lookup f8 = some ⟨oc8, od8, .func (PySem.W.fnOf "_law_turned" "_law_turned" (defArgs (top 10)) (defBody (top 10)) (defScope (top 10)) .none kV8 dc8 pm8 an8 cd8 ct8), sl8⟩) (c8 : PySem.W.codeIn K cd8 "_law_turned" = true) (k8 : PySem.W.keepIn K (.ref f8) = true)
    (a9 : PySem.W.nsIn K mainGlobals "_law_pair_right" = some (some (.ref f9))) (l9 : K.lookup f9 = some ⟨oc9, od9, .func (PySem.W.fnOf "_law_pair_right" "_law_pair_right" (defArgs (top 11)) (defBody (top 11)) (defScope (top 11)) .none kV9 dc9 pm9 an9 cd9 ct9), sl9⟩) (c9 : PySem.W.codeIn K cd9 "_law_pair_right" = true) (k9 : PySem.W.keepIn K (.ref f9) = true)
    (a10 : PySem.W.nsIn K mainGlobals "_law_folded_right" = some (some (.ref f10))) (l10 : K.lookup f10 = some ⟨oc10, od10, .func (PySem.W.fnOf "_law_folded_right" "_law_folded_right" (defArgs (top 12)) (defBody (top 12)) (defScope (top 12)) .none kV10 dc10 pm10 an10 cd10 ct10), sl10⟩) (c10 : PySem.W.codeIn K cd10 "_law_folded_right" = true) (k10 : PySem.W.keepIn K (.ref f10) = true)
    (a11 : PySem.W.nsIn K mainGlobals "law" = some (some (.ref f11))) (l11 : K.lookup f11 = some ⟨oc11, od11, .func (PySem.W.fnOf "law" "law" (defArgs (top 13)) (defBody (top 13)) (defScope (top 13)) .none kV11 dc11 pm11 an11 cd11 ct11), sl11⟩) (c11 : PySem.W.codeIn K cd11 "law" = true) (k11 : PySem.W.keepIn K (.ref f11) = true)
    (z0 : PySem.W.nsIn K mainGlobals "len" = some none) (z1 : PySem.W.nsIn K mainGlobals "int" = some none) (z2 : PySem.W.nsIn K mainGlobals "abs" = some none) (z3 : PySem.W.nsIn K mainGlobals "tuple" = some none) (z4 : PySem.W.nsIn K mainGlobals "list" = some none) (z5 : PySem.W.nsIn K mainGlobals "isinstance" = some none) (z6 : PySem.W.nsIn K mainGlobals "min" = some none) (z7 : PySem.W.nsIn K mainGlobals "max" = some none) (z8 : PySem.W.nsIn K mainGlobals "sum" = some none) (z9 : PySem.W.nsIn K mainGlobals "any" = some none) (z10 : PySem.W.nsIn K mainGlobals "all" = some none) (z11 : PySem.W.nsIn K mainGlobals "sorted" = some none) (z12 : PySem.W.nsIn K mainGlobals "bool" = some none) (z13 : PySem.W.nsIn K mainGlobals "set" = some none) (z14 : PySem.W.nsIn K mainGlobals "str" = some none) (z15 : PySem.W.nsIn K mainGlobals "range" = some none) (z16 : PySem.W.nsIn K mainGlobals "enumerate" = some none) (z17 : PySem.W.nsIn K mainGlobals "zip" = some none) :
    ∃ fd : FuncData, (∀ (s : Shared) (v : Value), BindsTo s fd ⟨[v], []⟩ [("_law_script", v)]) ∧ ∀ base : Heap, K.In base → base.Ns mainGlobals mg → FnOk l.prog w K mg base (L2.CX l.prog w) 4 fa fd ["_law_script"] (liftSp (TT w) K (r_law.sp 4)) := by
  have e := hfa.symm.trans (PySem.W.mg_of X G a11)
  cases e
  have F0 := fun_mk (st := top 1) l0 c0 k0
  have b0 := F0.binds (ps := ["one", "other"]) fun _ _ _ _ _ _ us hl => match us, hl with | [_, _], _ => rfl
  have F1 := fun_mk (st := top 2) l1 c1 k1
  have b1 := F1.binds (ps := ["one", "other"]) fun _ _ _ _ _ _ us hl => match us, hl with | [_, _], _ => rfl
  have F2 := fun_mk (st := top 3) l2 c2 k2
  have b2 := F2.binds (ps := ["one"]) fun _ _ _ _ _ _ us hl => match us, hl with | [_], _ => rfl
  have F3 := fun_mk (st := top 5) l3 c3 k3
  have b3 := F3.binds (ps := ["_law_cell"]) fun _ _ _ _ _ _ us hl => match us, hl with | [_], _ => rfl
  have F4 := fun_mk (st := top 6) l4 c4 k4
  have b4 := F4.binds (ps := ["_law_tap_here", "_law_many"]) fun _ _ _ _ _ _ us hl => match us, hl with | [_, _], _ => rfl
  have F5 := fun_mk (st := top 7) l5 c5 k5
  have b5 := F5.binds (ps := ["_law_found", "_law_due"]) fun _ _ _ _ _ _ us hl => match us, hl with | [_, _], _ => rfl
  have F6 := fun_mk (st := top 8) l6 c6 k6
  have b6 := F6.binds (ps := ["_law_truths"]) fun _ _ _ _ _ _ us hl => match us, hl with | [_], _ => rfl
  have F7 := fun_mk (st := top 9) l7 c7 k7
  have b7 := F7.binds (ps := ["_law_truths"]) fun _ _ _ _ _ _ us hl => match us, hl with | [_], _ => rfl
  have F8 := fun_mk (st := top 10) l8 c8 k8
  have b8 := F8.binds (ps := ["_law_truth"]) fun _ _ _ _ _ _ us hl => match us, hl with | [_], _ => rfl
  have F9 := fun_mk (st := top 11) l9 c9 k9
  have b9 := F9.binds (ps := ["_law_one", "_law_other"]) fun _ _ _ _ _ _ us hl => match us, hl with | [_, _], _ => rfl
  have F10 := fun_mk (st := top 12) l10 c10 k10
  have b10 := F10.binds (ps := ["_law_truths"]) fun _ _ _ _ _ _ us hl => match us, hl with | [_], _ => rfl
  have F11 := fun_mk (st := top 13) l11 c11 k11
  have b11 := F11.binds (ps := ["_law_script"]) fun _ _ _ _ _ _ us hl => match us, hl with | [_], _ => rfl
  have fn : ∀ r ∈ rows, ∃ f fd, RowFn K mg r f fd := rows_all ⟨_, _, PySem.W.mg_of X G a0, F0, b0⟩ ⟨_, _, PySem.W.mg_of X G a1, F1, b1⟩ ⟨_, _, PySem.W.mg_of X G a2, F2, b2⟩ ⟨_, _, PySem.W.mg_of X G a3, F3, b3⟩ ⟨_, _, PySem.W.mg_of X G a4, F4, b4⟩ ⟨_, _, PySem.W.mg_of X G a5, F5, b5⟩ ⟨_, _, PySem.W.mg_of X G a6, F6, b6⟩ ⟨_, _, PySem.W.mg_of X G a7, F7, b7⟩ ⟨_, _, PySem.W.mg_of X G a8, F8, b8⟩ ⟨_, _, PySem.W.mg_of X G a9, F9, b9⟩ ⟨_, _, PySem.W.mg_of X G a10, F10, b10⟩ ⟨_, _, PySem.W.mg_of X G a11, F11, b11⟩
  have bn : BltNone mg := ⟨fun b => by cases b <;> first | exact PySem.W.mg_none_of X G z0 | exact PySem.W.mg_none_of X G z1 | exact PySem.W.mg_none_of X G z2 | exact PySem.W.mg_none_of X G z3 | exact PySem.W.mg_none_of X G z4 | exact PySem.W.mg_none_of X G z5 | exact PySem.W.mg_none_of X G z6 | exact PySem.W.mg_none_of X G z7 | exact PySem.W.mg_none_of X G z8 | exact PySem.W.mg_none_of X G z9 | exact PySem.W.mg_none_of X G z10 | exact PySem.W.mg_none_of X G z11 | exact PySem.W.mg_none_of X G z12 | exact PySem.W.mg_none_of X G z13 | exact PySem.W.mg_none_of X G z14, PySem.W.mg_none_of X G z15, PySem.W.mg_none_of X G z16, PySem.W.mg_none_of X G z17⟩
  refine ⟨_, fun s v => .of_eq rfl, fun base _ _ => rows_ok (T := TT w) (con := fun _ => none) fn (rows_all (ro_both w) (ro_either w) (ro_turned w) (ro_law_tap w) (ro_law_draw w) (ro_law_same w) (ro_law_both w) (ro_law_either w) (ro_law_turned w) (ro_law_pair_right w) (ro_law_folded_right w) (ro_law w)) (fun _ _ h => by cases h) bn (nm_inj names_nodup names_low) names_bm rfl (wp_all w) 4 r_law (by simp [rows]) _ _ ⟨PySem.W.mg_of X G a11, F11, b11⟩⟩
theorem walk {l : PySem.W.OpenLaw} {q : Program} {loose : List Str} {XP : (Str → Option Value) → Heap → Prop} {YP : World → Heap → Prop} {d : DefRec} {K : Params → PySem.W.Frag} (hn : l.most = some 63) (hdf : d.params.defaults = [])
    (hY : ∀ (w : World) (h : Heap), YP w h → (K w.params).In h)
    (F : ∀ (w : World) (mg : Str → Option Value) (fa : Addr) (h : Heap), (K w.params).In h → h.Ns mainGlobals mg → mg d.name = some (.ref fa) →
      ∃ fd : FuncData, (∀ (s : Shared) (u : Value), BindsTo s fd ⟨[u], []⟩ [("_law_script", u)]) ∧ ∀ base : Heap, (K w.params).In base → base.Ns mainGlobals mg → FnOk l.prog w (K w.params) mg base (L2.CX l.prog w) 4 fa fd ["_law_script"] (liftSp (TT w) (K w.params) (r_law.sp 4))) :
    PySem.W.WalkO q loose XP YP l.row.toRowW d [] (fun f vs => PySem.call f vs) :=
  L2.walk_of (n := 63) (k := 4) (x := "_law_script") (CX := fun w => L2.CX l.prog w) (sp := fun w => liftSp (TT w) (K w.params) (r_law.sp 4)) hn (by decide) hdf ⟨rfl, by decide, by decide⟩ hY F
    (fun w H a ns hl hO hS => law_sp hO hS (law_start ns hl)) fun _ _ _ _ _ ⟨_, _, _, _, _, _, _, _, _, _, _, _, z⟩ => z
end
end LW

open PySem PySem.W PyProof.Rows in
set_option maxRecDepth 100000 in
set_option maxHeartbeats 0 in
theorem PySem.Challenge.cw_unknownrows_k01_truths_of_three_kinds_holds : PySem.Challenge.rw_unknownrows_k01_truths_of_three_kinds.Holds := by
  w_on; o_law; k_head; (case hw => w_witness2)
  k_fill
  refine LW.walk (l := PySem.Challenge.rw_unknownrows_k01_truths_of_three_kinds) rfl rfl (fun w h Y => PySem.W.kIn_of Y) ?F
  case F =>
    intro w mg fa h KX G hmg
    refine' LW.all_mk KX G hmg ?a0 ?l0 ?c0 ?k0 ?a1 ?l1 ?c1 ?k1 ?a2 ?l2 ?c2 ?k2 ?a3 ?l3 ?c3 ?k3 ?a4 ?l4 ?c4 ?k4 ?a5 ?l5 ?c5 ?k5 ?a6 ?l6 ?c6 ?k6 ?a7 ?l7 ?c7 ?k7 ?a8 ?l8 ?c8 ?k8 ?a9 ?l9 ?c9 ?k9 ?a10 ?l10 ?c10 ?k10 ?a11 ?l11 ?c11 ?k11 ?z0 ?z1 ?z2 ?z3 ?z4 ?z5 ?z6 ?z7 ?z8 ?z9 ?z10 ?z11 ?z12 ?z13 ?z14 ?z15 ?z16 ?z17
    (case a0 => k_is)
    (case l0 => k_is)
    (case c0 => k_is)
    (case k0 => k_is)
    (case a1 => k_is)
    (case l1 => k_is)
    (case c1 => k_is)
    (case k1 => k_is)
    (case a2 => k_is)
    (case l2 => k_is)
    (case c2 => k_is)
    (case k2 => k_is)
    (case a3 => k_is)
    (case l3 => k_is)
    (case c3 => k_is)
    (case k3 => k_is)
    (case a4 => k_is)
    (case l4 => k_is)
    (case c4 => k_is)
    (case k4 => k_is)
    (case a5 => k_is)
    (case l5 => k_is)
    (case c5 => k_is)
    (case k5 => k_is)
    (case a6 => k_is)
    (case l6 => k_is)
    (case c6 => k_is)
    (case k6 => k_is)
    (case a7 => k_is)
    (case l7 => k_is)
    (case c7 => k_is)
    (case k7 => k_is)
    (case a8 => k_is)
    (case l8 => k_is)
    (case c8 => k_is)
    (case k8 => k_is)
    (case a9 => k_is)
    (case l9 => k_is)
    (case c9 => k_is)
    (case k9 => k_is)
    (case a10 => k_is)
    (case l10 => k_is)
    (case c10 => k_is)
    (case k10 => k_is)
    (case a11 => k_is)
    (case l11 => k_is)
    (case c11 => k_is)
    (case k11 => k_is)
    (case z0 => k_is)
    (case z1 => k_is)
    (case z2 => k_is)
    (case z3 => k_is)
    (case z4 => k_is)
    (case z5 => k_is)
    (case z6 => k_is)
    (case z7 => k_is)
    (case z8 => k_is)
    (case z9 => k_is)
    (case z10 => k_is)
    (case z11 => k_is)
    (case z12 => k_is)
    (case z13 => k_is)
    (case z14 => k_is)
    (case z15 => k_is)
    (case z16 => k_is)
    (case z17 => k_is)
