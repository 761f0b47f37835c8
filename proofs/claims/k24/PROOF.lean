import PyProof.Rows.All
import Wide.All
import OpenK.AllK
import Wide.FinOn
import HandS.ForMost
import KE.KeyNested
import KE.KDictCopyH
import HandS.Property
import HandS.NoneIn
import HandS.Style
import HandS.Flow
import HandS.Star
import HandS.TupAny
import HandS.TupLe
import HandS.DictComp
import HandS.DictTup
import HandS.IsInst
import HandS.SortKw
import HandS.Defaults
import HandS.TupLen
import HandS.StrMore
import HandS.Wide
import KE.SortData
import KE.SortKeyHeap
import PyProof.ReprRoads
import KE.KLam
import HandS.Exc
import KE.DataCmp
import HandS.Deep
import HandS.Small
import HandS.Zip
import KE.KDictSum
import PyProof.Transfer
import HandS.Conv
import HandS.Keys
import KE.GoesEnum
import HandS.Iter
import KE.KDictKeyed
import HandS.More
import PyProof.TupleOfGen
import PyProof.DictMoreH
import HandS.Replace
import HandS.Codes
import KE.DataMinMax
import KE.DataFind
import HandS.RaiseMore
import PySem.Challenge.RW_allonetree_k24_clashes_by_hand
set_option Elab.async false
set_option linter.all false
set_option autoImplicit false
set_option maxRecDepth 100000
set_option maxHeartbeats 1000000
/-! E0: dicts whose keys are any data (None, ints, texts, tuples of such): find, get, set, setdefault. -/
namespace Eg
open PySem PySem.Spec
abbrev NK := NestedKey
def NIs (h : Heap) (k : NK) (v : Value) : Prop := NestedIs h k v ∧ k.depth ≤ 8
def nEnt (w : World) (x : NK × Value × Value) : DictEntry := ⟨x.1.hash w, x.2.1, x.2.2⟩
/-- the dict at d: its keys, the keys' values, the values -/
def NDict (w : World) (h : Heap) (d : Addr) (xs : List (NK × Value × Value)) : Prop :=
  ∃ o es ep, h.get? d = some o ∧ o.ExactDict ∧ o.data = .dict es ep ∧ es.toList = xs.map (nEnt w) ∧ (∀ x ∈ xs, NIs h x.1 x.2.1) ∧ (xs.map (·.1)).Nodup
section
variable {prog : Program} {w : World} {A : Around} {E : Value → Shared → Prop} {s : Shared}
theorem nEnt_at {es : Array DictEntry} {xs : List (NK × Value × Value)} (he : es.toList = xs.map (nEnt w)) {j : Nat} {e : DictEntry} (h : es[j]? = some e) : ∃ x, xs[j]? = some x ∧ e = nEnt w x := by
  rw [← Array.getElem?_toList, he, List.getElem?_map] at h
  obtain ⟨x, h1, h2⟩ := Option.map_eq_some_iff.mp h
  exact ⟨x, h1, h2.symm⟩
theorem nEnt_of {es : Array DictEntry} {xs : List (NK × Value × Value)} (he : es.toList = xs.map (nEnt w)) {j : Nat} {x : NK × Value × Value} (h : xs[j]? = some x) : es[j]? = some (nEnt w x) := by
  rw [← Array.getElem?_toList, he, List.getElem?_map, h]
  rfl
theorem nKey_uniq {xs : List (NK × Value × Value)} (hn : (xs.map (·.1)).Nodup) {i j : Nat} {x y : NK × Value × Value} (hi : xs[i]? = some x) (hj : xs[j]? = some y) (e : x.1 = y.1) : i = j := by
  have hi' : (xs.map (·.1))[i]? = some x.1 := by rw [List.getElem?_map, hi]; rfl
  have hj' : (xs.map (·.1))[j]? = some x.1 := by rw [List.getElem?_map, hj, e]; rfl
  exact (List.getElem?_inj (List.getElem?_eq_some_iff.mp hi').1 hn).mp (hi'.trans hj'.symm)
theorem NIs.inj {h : Heap} {x y : NK} {v : Value} (a : NIs h x v) (b : NIs h y v) : x = y := NestedIs.inj _ _ _ a.1 b.1
theorem NIs.quiet {k : NK} {v : Value} (x : NIs s.heap k v) {Q : Bool → Shared → Prop} (h : Q true s) : wpAny (model prog w) A (eqIsQuiet 8 v) Q E s := quiet_key k v 8 s x.1 x.2 A E Q h
theorem NIs.eq {x y : NK} {a b : Value} (hu : A.units + 8 < cLine) (hx : NIs s.heap x a) (hy : NIs s.heap y b) {Q : Bool → Shared → Prop} (h : Q (decide (x = y)) s) : wpAny (model prog w) A (eqBool a b) Q E s :=
  eqAt_key x y A s _ _ hx.1 hy.1 (by have := hx.2; have := hy.2; omega) _ _ _ _ (by rw [← NestedKey.decide_eq]; exact h)
theorem mayTell_n {key : Value} {stored : List Value} {Q : Bool → Shared → Prop} (hk : ∃ k, NIs s.heap k key) (hs : ∀ v ∈ stored, ∃ k, NIs s.heap k v) (h : Q false s) : wpAny (model prog w) A (tableMayTell key stored) Q E s := by
  unfold tableMayTell
  split
  · exact wpAny_pure h
  · obtain ⟨k, hk⟩ := hk
    refine wpAny_bind (hk.quiet ?_)
    simp only [Bool.not_true, Bool.false_eq_true, if_false]
    refine wpAny_bind ?_
    refine wpAny_forIn_list _ (fun rest r s' => s' = s ∧ r = (none, ()) ∧ ∀ v ∈ rest, ∃ k, NIs s.heap k v) _ ?_ ?_ _ _ ⟨rfl, rfl, hs⟩
    · rintro x rest r s' ⟨rfl, rfl, hr⟩
      obtain ⟨k', hk'⟩ := hr x List.mem_cons_self
      refine wpAny_bind (hk'.quiet ?_)
      simp only [Bool.not_true, Bool.false_eq_true, if_false]
      exact wpAny_pure ⟨rfl, rfl, fun v hv => hr v (List.mem_cons_of_mem _ hv)⟩
    · rintro r s' ⟨rfl, rfl, _⟩
      exact wpAny_pure h
theorem isStr_key {h : Heap} {k k' : NK} {x : Str} {t : Tok} {v : Value} (hk : NIs h k (.str x t)) (hv : NIs h k' v) : v.isStr x = decide (k' = k) := by
  obtain ⟨hk, _⟩ := hk
  obtain ⟨hv, _⟩ := hv
  cases hk
  cases hv with
  | none => rw [decide_eq_false (by intro e; cases e)]; rfl
  | bool _ => rw [decide_eq_false (by intro e; cases e)]; rfl
  | int _ _ => rw [decide_eq_false (by intro e; cases e)]; rfl
  | text y u =>
    by_cases e : y = x
    · subst e; simp [Value.isStr]
    · rw [decide_eq_false (by intro q; injection q with q; exact e q)]
      simp [Value.isStr, e]
  | tup _ _ _ _ => rw [decide_eq_false (by intro e; cases e)]; rfl
/-- the place of a key -/
theorem find_n {d : Addr} {o : Obj} {es : Array DictEntry} {ep : Nat} {xs : List (NK × Value × Value)} {k : NK} {v : Value} {Q : Option Nat → Shared → Prop} (hu : A.units + 8 < cLine) (hkey : NIs s.heap k v)
    (ho : s.heap.get? d = some o) (hd : o.data = .dict es ep) (he : es.toList = xs.map (nEnt w)) (his : ∀ x ∈ xs, NIs s.heap x.1 x.2.1) (hn : (xs.map (·.1)).Nodup)
    (hnone : (∀ (j : Nat) (x : NK × Value × Value), xs[j]? = some x → x.1 ≠ k) → Q none s) (hsome : ∀ (j : Nat) (x : NK × Value × Value), xs[j]? = some x → x.1 = k → Q (some j) s) :
    wpAny (model prog w) A (dictFind d v (k.hash w)) Q E s := by
  have mem : ∀ {j : Nat} {x : NK × Value × Value}, xs[j]? = some x → x ∈ xs := fun h => List.mem_of_getElem? h
  have at_ : ∀ {i : Nat} {e : DictEntry}, es[i]? = some e → ∃ x, xs[i]? = some x ∧ e = nEnt w x ∧ NIs s.heap x.1 e.key ∧ e.hash = x.1.hash w := fun h => by
    obtain ⟨x, hx, ex⟩ := nEnt_at he h
    exact ⟨x, hx, ex, by rw [ex]; exact his x (mem hx), by rw [ex]; rfl⟩
  have pl : ∀ (j : Nat) (e : DictEntry), es[j]? = some e → (((es[j]?.map (·.hash)) == some (k.hash w)) = true ↔ e.hash = k.hash w) := by
    intro j e hj
    rw [hj]
    simp
  have nokey : ∀ (j : Nat) (x : NK × Value × Value), xs[j]? = some x → ((es[j]?.map (·.hash)) == some (k.hash w)) = false → x.1 ≠ k := fun j x hx hp ex => by
    have hj := nEnt_of he hx
    have := (pl j _ hj).mpr (by show x.1.hash w = k.hash w; rw [ex])
    rw [hp] at this
    cases this
  have lt_ : ∀ {j : Nat} {x : NK × Value × Value}, xs[j]? = some x → j < es.size := fun h => (Array.getElem?_eq_some_iff.mp (nEnt_of he h)).1
  have hany : ¬ (es.any fun e => e.key == v && e.hash != k.hash w) = true := by
    rw [← Array.any_toList, List.any_eq_true]
    rintro ⟨e, hin, hc⟩
    obtain ⟨i, hi⟩ := List.mem_iff_getElem?.mp hin
    rw [Array.getElem?_toList] at hi
    simp only [Bool.and_eq_true, beq_iff_eq, bne_iff_ne, ne_eq] at hc
    obtain ⟨x, hx, _, kx, hh⟩ := at_ hi
    rw [hc.1] at kx
    exact hc.2 (by rw [hh, kx.inj hkey])
  have hst : ∀ u ∈ (placesWithHash es.size (fun i => es[i]?.map (·.hash)) (k.hash w)).filterMap (fun i => es[i]?.map (·.key)), ∃ k', NIs s.heap k' u := by
    intro u hu'
    obtain ⟨i, him, hi⟩ := List.mem_filterMap.mp hu'
    cases hei : es[i]? with
    | none => rw [hei] at hi; cases hi
    | some e =>
      rw [hei] at hi
      obtain rfl : e.key = u := by simpa using hi
      obtain ⟨x, _, _, kx, _⟩ := at_ hei
      exact ⟨_, kx⟩
  -- the plain walk
  have plain : wpAny (model prog w) A (dictWalkPlain d v (k.hash w) es (placesWithHash es.size (fun i => es[i]?.map (·.hash)) (k.hash w))) Q E s := by
    refine wpAny_bind ?_
    refine wpAny_forIn_list _
      (fun rest b s' => s' = s ∧ b = (none, ()) ∧ ∃ i, rest = (List.range' i (es.size - i)).filter (fun i => (es[i]?.map (·.hash)) == some (k.hash w)) ∧ i ≤ es.size ∧ ∀ j x, j < i → xs[j]? = some x → x.1 ≠ k) _ ?_ ?_ _ _
      ⟨rfl, rfl, 0, by rw [placesWithHash, List.range_eq_range', Nat.sub_zero], Nat.zero_le _, fun _ _ h => absurd h (Nat.not_lt_zero _)⟩
    · rintro x rest b s' ⟨rfl, rfl, i, hr, hi, hno⟩
      obtain ⟨hix, hxn, hpx, hskip, hrest⟩ := filter_range'_cons _ _ _ _ _ hr.symm
      have hlt : x < es.size := by omega
      obtain ⟨e, hex⟩ : ∃ e, es[x]? = some e := ⟨es[x], Array.getElem?_eq_getElem hlt⟩
      have heh : e.hash = k.hash w := (pl x e hex).mp hpx
      obtain ⟨q, hq, _, kq, _⟩ := at_ hex
      rw [hex]
      dsimp only
      rw [if_pos (by simp [heh])]
      refine wpAny_bind (wpAny_dictEpoch ho hd (wpAny_bind (NIs.eq hu kq hkey (wpAny_bind (wpAny_dictEpoch ho hd ?_)))))
      show wpAny _ _ (if (ep != ep) = true then _ else _) _ E _
      rw [if_neg (by simp)]
      by_cases hkk : q.1 = k
      · rw [decide_eq_true hkk]
        exact wpAny_bind (wpAny_rule (wpAny_pure (wpAny_pure (hsome x q hq hkk))))
      · rw [decide_eq_false hkk]
        refine wpAny_bind (wpAny_rule (wpAny_pure ⟨rfl, rfl, x + 1, by rw [hrest]; congr 2; omega, hlt, fun j y hjx hy => ?_⟩))
        rcases Nat.lt_or_ge j i with h | h
        · exact hno j y h hy
        · rcases Nat.lt_or_ge j x with h' | h'
          · exact nokey j y hy (hskip j h h')
          · have : j = x := by omega
            subst this
            rw [hq] at hy; cases hy; exact hkk
    · rintro b s' ⟨rfl, rfl, i, hr, hi, hno⟩
      have hall : ∀ j, i ≤ j → j < es.size → ((es[j]?.map (·.hash)) == some (k.hash w)) = false := by
        intro j h1 h2
        have := List.filter_eq_nil_iff.mp hr.symm j (List.mem_range'_1.mpr ⟨h1, by omega⟩)
        simpa using this
      refine wpAny_pure (hnone fun j y hy => ?_)
      rcases Nat.lt_or_ge j i with h | h
      · exact hno j y h hy
      · exact nokey j y hy (hall j h (lt_ hy))
  obtain ⟨hk1, hk2⟩ := id hkey
  unfold dictFind
  try with_reducible refine wpAny_holding ?_
  refine wpAny_bind (wpAny_dictEntries ho hd ?_)
  cases hk1
  case text x0 t =>
    dsimp only
    by_cases hs : (es.all fun e => isExactStrKey e.key) = true
    · rw [if_pos hs]
      have hfun : ∀ e ∈ es, ∀ i, es[i]? = some e → e.key.isStr x0 = decide ((xs[i]?).map (fun z : NK × Value × Value => z.1) = some (NestedKey.text x0)) := fun e hin i hi => by
        obtain ⟨y, hy, ey, ky, _⟩ := at_ hi
        rw [isStr_key hkey ky, hy]
        simp only [Option.map_some, Option.some.injEq]
      unfold foundByValue
      cases hf : es.findIdx? (fun e => e.key.isStr x0) with
      | none =>
        refine wpAny_pure (hnone fun j y hy ex => ?_)
        have hj := nEnt_of he hy
        have hin := Array.mem_of_getElem? hj
        have := Array.findIdx?_eq_none_iff.mp hf _ hin
        rw [hfun _ hin j hj, hy] at this
        simp [ex] at this
      | some i =>
        obtain ⟨hlt, hi, _⟩ := Array.findIdx?_eq_some_iff_getElem.mp hf
        have hex : es[i]? = some es[i] := Array.getElem?_eq_getElem hlt
        have hin := Array.getElem_mem hlt
        rw [hfun _ hin i hex] at hi
        obtain ⟨y, hy, _, ky, _⟩ := at_ hex
        rw [hy] at hi
        have yk : y.1 = .text x0 := by simpa using hi
        simp only [hex]
        refine wpAny_bind (wpAny_dictEpoch ho hd (wpAny_bind (NIs.eq hu ky hkey (wpAny_bind (wpAny_dictEpoch ho hd ?_)))))
        show wpAny _ _ (if (ep != ep) = true then _ else _) _ E _
        rw [if_neg (by simp), decide_eq_true yk]
        exact wpAny_bind (wpAny_rule (wpAny_pure (hsome i y hy yk)))
    · rw [if_neg hs]
      try dsimp only
      by_cases hall : ((Value.str x0 t :: (placesWithHash es.size (fun i => es[i]?.map (·.hash)) ((NestedKey.text x0).hash w)).filterMap (fun i => es[i]?.map (·.key))).all carriedByValue) = true
      · rw [if_pos hall]; exact plain
      · rw [if_neg hall]
        by_cases hone : (((placesWithHash es.size (fun i => es[i]?.map (·.hash)) ((NestedKey.text x0).hash w)).filterMap (fun i => es[i]?.map (·.key))) == [Value.str x0 t]) = true <;>
        (first | rw [if_pos hone] | rw [if_neg hone]) <;> (first | refine wpAny_bind (wpAny_pure ?_) | refine wpAny_bind (mayTell_n ⟨_, hkey⟩ hst ?_)) <;> (
          rw [if_neg (by simp)]
          refine wpAny_bind ?_
          refine wpAny_forIn_list _
            (fun rest b s' => s' = s ∧ ∃ i fd, b = (none, fd) ∧ rest = (List.range' i (es.size - i)).filter (fun i => (es[i]?.map (·.hash)) == some ((NestedKey.text x0).hash w)) ∧ i ≤ es.size ∧
              ((fd = none ∧ ∀ j x, j < i → xs[j]? = some x → x.1 ≠ (NestedKey.text x0)) ∨ ∃ j x, fd = some j ∧ j < i ∧ xs[j]? = some x ∧ x.1 = (NestedKey.text x0))) _ ?_ ?_ _ _
            ⟨rfl, 0, none, rfl, by rw [placesWithHash, List.range_eq_range', Nat.sub_zero], Nat.zero_le _, .inl ⟨rfl, fun _ _ h => absurd h (Nat.not_lt_zero _)⟩⟩
          · rintro x rest b s' ⟨rfl, i, fd, rfl, hr, hi, hH⟩
            obtain ⟨hix, hxn, hpx, hskip, hrest⟩ := filter_range'_cons _ _ _ _ _ hr.symm
            have hlt : x < es.size := by omega
            have hrest' : rest = (List.range' (x + 1) (es.size - (x + 1))).filter (fun i => (es[i]?.map (·.hash)) == some ((NestedKey.text x0).hash w)) := by rw [hrest]; congr 2; omega
            obtain ⟨e, hex⟩ : ∃ e, es[x]? = some e := ⟨es[x], Array.getElem?_eq_getElem hlt⟩
            have heh : e.hash = (NestedKey.text x0).hash w := (pl x e hex).mp hpx
            obtain ⟨q, hq, _, kq, _⟩ := at_ hex
            have hHx : (fd = none ∧ ∀ j y, j < x → xs[j]? = some y → y.1 ≠ (NestedKey.text x0)) ∨ ∃ j y, fd = some j ∧ j < x ∧ xs[j]? = some y ∧ y.1 = (NestedKey.text x0) := by
              rcases hH with ⟨h0, hno⟩ | ⟨j, e', q1, hji, q2⟩
              · refine .inl ⟨h0, fun j y hjx hj => ?_⟩
                rcases Nat.lt_or_ge j i with h | h
                · exact hno j y h hj
                · exact nokey j y hj (hskip j h hjx)
              · exact .inr ⟨j, e', q1, by omega, q2⟩
            have hstay : q.1 ≠ (NestedKey.text x0) → ((fd = none ∧ ∀ j y, j < x + 1 → xs[j]? = some y → y.1 ≠ (NestedKey.text x0)) ∨ ∃ j y, fd = some j ∧ j < x + 1 ∧ xs[j]? = some y ∧ y.1 = (NestedKey.text x0)) := by
              intro hne
              rcases hHx with ⟨h0, hno⟩ | ⟨j, e', q1, hjx, q2⟩
              · refine .inl ⟨h0, fun j y hjx hj => ?_⟩
                rcases Nat.lt_or_ge j x with h | h
                · exact hno j y h hj
                · have hjx' : j = x := by omega
                  subst hjx'
                  rw [hq] at hj
                  cases hj
                  exact hne
              · exact .inr ⟨j, e', q1, by omega, q2⟩
            rw [hex]
            dsimp only
            rw [if_pos (by simp [heh])]
            refine wpAny_bind (wpAny_dictEpoch ho hd (wpAny_bind (NIs.eq hu kq hkey (wpAny_bind (wpAny_dictEpoch ho hd ?_)))))
            show wpAny _ _ (if (ep != ep) = true then _ else _) _ E _
            rw [if_neg (by simp)]
            by_cases hkk : q.1 = (NestedKey.text x0)
            · rw [decide_eq_true hkk]
              rcases hHx with ⟨rfl, _⟩ | ⟨j, e', _, hjx, hj, hh⟩
              · first | rw [if_pos rfl] | skip
                simp only [Option.isSome_none, Bool.false_eq_true, if_false]
                first | refine wpAny_bind (wpAny_pure ?_) | skip
                refine wpAny_bind (wpAny_rule ?_)
                split
                · exact wpAny_pure (wpAny_pure (hsome x q hq hkk))
                · exact wpAny_pure ⟨rfl, x + 1, some x, rfl, hrest', hlt, .inr ⟨x, q, rfl, Nat.lt_succ_self x, hq, hkk⟩⟩
              · exact absurd (nKey_uniq hn hj hq (hh.trans hkk.symm)) (by omega)
            · rw [decide_eq_false hkk]
              simp only [Bool.false_eq_true, if_false]
              refine wpAny_bind (wpAny_rule ?_)
              first | rw [if_neg (by simp)] | skip
              first
                | exact wpAny_pure ⟨rfl, x + 1, fd, rfl, hrest', hlt, hstay hkk⟩
                | exact wpAny_bind (wpAny_pure (wpAny_pure ⟨rfl, x + 1, fd, rfl, hrest', hlt, hstay hkk⟩))
          · rintro b s' ⟨rfl, i, fd, rfl, hr, hi, hH⟩
            have hall : ∀ j, i ≤ j → j < es.size → ((es[j]?.map (·.hash)) == some ((NestedKey.text x0).hash w)) = false := by
              intro j h1 h2
              have := List.filter_eq_nil_iff.mp hr.symm j (List.mem_range'_1.mpr ⟨h1, by omega⟩)
              simpa using this
            rcases hH with ⟨rfl, hno⟩ | ⟨j, e', rfl, _, hj, hh⟩
            · refine wpAny_pure (hnone fun j y hj => ?_)
              rcases Nat.lt_or_ge j i with h | h
              · exact hno j y h hj
              · exact nokey j y hj (hall j h (lt_ hj))
            · exact wpAny_pure (hsome j e' hj hh))
  case none =>
    try dsimp only
    by_cases hall : ((Value.none :: (placesWithHash es.size (fun i => es[i]?.map (·.hash)) (NestedKey.none.hash w)).filterMap (fun i => es[i]?.map (·.key))).all carriedByValue) = true
    · rw [if_pos hall]; exact plain
    · rw [if_neg hall]
      by_cases hone : (((placesWithHash es.size (fun i => es[i]?.map (·.hash)) (NestedKey.none.hash w)).filterMap (fun i => es[i]?.map (·.key))) == [Value.none]) = true <;>
      (first | rw [if_pos hone] | rw [if_neg hone]) <;> (first | refine wpAny_bind (wpAny_pure ?_) | refine wpAny_bind (mayTell_n ⟨_, hkey⟩ hst ?_)) <;> (
        rw [if_neg (by simp)]
        refine wpAny_bind ?_
        refine wpAny_forIn_list _
          (fun rest b s' => s' = s ∧ ∃ i fd, b = (none, fd) ∧ rest = (List.range' i (es.size - i)).filter (fun i => (es[i]?.map (·.hash)) == some (NestedKey.none.hash w)) ∧ i ≤ es.size ∧
            ((fd = none ∧ ∀ j x, j < i → xs[j]? = some x → x.1 ≠ NestedKey.none) ∨ ∃ j x, fd = some j ∧ j < i ∧ xs[j]? = some x ∧ x.1 = NestedKey.none)) _ ?_ ?_ _ _
          ⟨rfl, 0, none, rfl, by rw [placesWithHash, List.range_eq_range', Nat.sub_zero], Nat.zero_le _, .inl ⟨rfl, fun _ _ h => absurd h (Nat.not_lt_zero _)⟩⟩
        · rintro x rest b s' ⟨rfl, i, fd, rfl, hr, hi, hH⟩
          obtain ⟨hix, hxn, hpx, hskip, hrest⟩ := filter_range'_cons _ _ _ _ _ hr.symm
          have hlt : x < es.size := by omega
          have hrest' : rest = (List.range' (x + 1) (es.size - (x + 1))).filter (fun i => (es[i]?.map (·.hash)) == some (NestedKey.none.hash w)) := by rw [hrest]; congr 2; omega
          obtain ⟨e, hex⟩ : ∃ e, es[x]? = some e := ⟨es[x], Array.getElem?_eq_getElem hlt⟩
          have heh : e.hash = NestedKey.none.hash w := (pl x e hex).mp hpx
          obtain ⟨q, hq, _, kq, _⟩ := at_ hex
          have hHx : (fd = none ∧ ∀ j y, j < x → xs[j]? = some y → y.1 ≠ NestedKey.none) ∨ ∃ j y, fd = some j ∧ j < x ∧ xs[j]? = some y ∧ y.1 = NestedKey.none := by
            rcases hH with ⟨h0, hno⟩ | ⟨j, e', q1, hji, q2⟩
            · refine .inl ⟨h0, fun j y hjx hj => ?_⟩
              rcases Nat.lt_or_ge j i with h | h
              · exact hno j y h hj
              · exact nokey j y hj (hskip j h hjx)
            · exact .inr ⟨j, e', q1, by omega, q2⟩
          have hstay : q.1 ≠ NestedKey.none → ((fd = none ∧ ∀ j y, j < x + 1 → xs[j]? = some y → y.1 ≠ NestedKey.none) ∨ ∃ j y, fd = some j ∧ j < x + 1 ∧ xs[j]? = some y ∧ y.1 = NestedKey.none) := by
            intro hne
            rcases hHx with ⟨h0, hno⟩ | ⟨j, e', q1, hjx, q2⟩
            · refine .inl ⟨h0, fun j y hjx hj => ?_⟩
              rcases Nat.lt_or_ge j x with h | h
              · exact hno j y h hj
              · have hjx' : j = x := by omega
                subst hjx'
                rw [hq] at hj
                cases hj
                exact hne
            · exact .inr ⟨j, e', q1, by omega, q2⟩
          rw [hex]
          dsimp only
          rw [if_pos (by simp [heh])]
          refine wpAny_bind (wpAny_dictEpoch ho hd (wpAny_bind (NIs.eq hu kq hkey (wpAny_bind (wpAny_dictEpoch ho hd ?_)))))
          show wpAny _ _ (if (ep != ep) = true then _ else _) _ E _
          rw [if_neg (by simp)]
          by_cases hkk : q.1 = NestedKey.none
          · rw [decide_eq_true hkk]
            rcases hHx with ⟨rfl, _⟩ | ⟨j, e', _, hjx, hj, hh⟩
            · first | rw [if_pos rfl] | skip
              simp only [Option.isSome_none, Bool.false_eq_true, if_false]
              first | refine wpAny_bind (wpAny_pure ?_) | skip
              refine wpAny_bind (wpAny_rule ?_)
              split
              · exact wpAny_pure (wpAny_pure (hsome x q hq hkk))
              · exact wpAny_pure ⟨rfl, x + 1, some x, rfl, hrest', hlt, .inr ⟨x, q, rfl, Nat.lt_succ_self x, hq, hkk⟩⟩
            · exact absurd (nKey_uniq hn hj hq (hh.trans hkk.symm)) (by omega)
          · rw [decide_eq_false hkk]
            simp only [Bool.false_eq_true, if_false]
            refine wpAny_bind (wpAny_rule ?_)
            first | rw [if_neg (by simp)] | skip
            first
              | exact wpAny_pure ⟨rfl, x + 1, fd, rfl, hrest', hlt, hstay hkk⟩
              | exact wpAny_bind (wpAny_pure (wpAny_pure ⟨rfl, x + 1, fd, rfl, hrest', hlt, hstay hkk⟩))
        · rintro b s' ⟨rfl, i, fd, rfl, hr, hi, hH⟩
          have hall : ∀ j, i ≤ j → j < es.size → ((es[j]?.map (·.hash)) == some (NestedKey.none.hash w)) = false := by
            intro j h1 h2
            have := List.filter_eq_nil_iff.mp hr.symm j (List.mem_range'_1.mpr ⟨h1, by omega⟩)
            simpa using this
          rcases hH with ⟨rfl, hno⟩ | ⟨j, e', rfl, _, hj, hh⟩
          · refine wpAny_pure (hnone fun j y hj => ?_)
            rcases Nat.lt_or_ge j i with h | h
            · exact hno j y h hj
            · exact nokey j y hj (hall j h (lt_ hj))
          · exact wpAny_pure (hsome j e' hj hh))
  case bool b i0 e0 =>
    try dsimp only
    by_cases hall : ((Value.bool b :: (placesWithHash es.size (fun i => es[i]?.map (·.hash)) ((NestedKey.num i0).hash w)).filterMap (fun i => es[i]?.map (·.key))).all carriedByValue) = true
    · rw [if_pos hall]; exact plain
    · rw [if_neg hall]
      by_cases hone : (((placesWithHash es.size (fun i => es[i]?.map (·.hash)) ((NestedKey.num i0).hash w)).filterMap (fun i => es[i]?.map (·.key))) == [Value.bool b]) = true <;>
      (first | rw [if_pos hone] | rw [if_neg hone]) <;> (first | refine wpAny_bind (wpAny_pure ?_) | refine wpAny_bind (mayTell_n ⟨_, hkey⟩ hst ?_)) <;> (
        rw [if_neg (by simp)]
        refine wpAny_bind ?_
        refine wpAny_forIn_list _
          (fun rest b s' => s' = s ∧ ∃ i fd, b = (none, fd) ∧ rest = (List.range' i (es.size - i)).filter (fun i => (es[i]?.map (·.hash)) == some ((NestedKey.num i0).hash w)) ∧ i ≤ es.size ∧
            ((fd = none ∧ ∀ j x, j < i → xs[j]? = some x → x.1 ≠ (NestedKey.num i0)) ∨ ∃ j x, fd = some j ∧ j < i ∧ xs[j]? = some x ∧ x.1 = (NestedKey.num i0))) _ ?_ ?_ _ _
          ⟨rfl, 0, none, rfl, by rw [placesWithHash, List.range_eq_range', Nat.sub_zero], Nat.zero_le _, .inl ⟨rfl, fun _ _ h => absurd h (Nat.not_lt_zero _)⟩⟩
        · rintro x rest b s' ⟨rfl, i, fd, rfl, hr, hi, hH⟩
          obtain ⟨hix, hxn, hpx, hskip, hrest⟩ := filter_range'_cons _ _ _ _ _ hr.symm
          have hlt : x < es.size := by omega
          have hrest' : rest = (List.range' (x + 1) (es.size - (x + 1))).filter (fun i => (es[i]?.map (·.hash)) == some ((NestedKey.num i0).hash w)) := by rw [hrest]; congr 2; omega
          obtain ⟨e, hex⟩ : ∃ e, es[x]? = some e := ⟨es[x], Array.getElem?_eq_getElem hlt⟩
          have heh : e.hash = (NestedKey.num i0).hash w := (pl x e hex).mp hpx
          obtain ⟨q, hq, _, kq, _⟩ := at_ hex
          have hHx : (fd = none ∧ ∀ j y, j < x → xs[j]? = some y → y.1 ≠ (NestedKey.num i0)) ∨ ∃ j y, fd = some j ∧ j < x ∧ xs[j]? = some y ∧ y.1 = (NestedKey.num i0) := by
            rcases hH with ⟨h0, hno⟩ | ⟨j, e', q1, hji, q2⟩
            · refine .inl ⟨h0, fun j y hjx hj => ?_⟩
              rcases Nat.lt_or_ge j i with h | h
              · exact hno j y h hj
              · exact nokey j y hj (hskip j h hjx)
            · exact .inr ⟨j, e', q1, by omega, q2⟩
          have hstay : q.1 ≠ (NestedKey.num i0) → ((fd = none ∧ ∀ j y, j < x + 1 → xs[j]? = some y → y.1 ≠ (NestedKey.num i0)) ∨ ∃ j y, fd = some j ∧ j < x + 1 ∧ xs[j]? = some y ∧ y.1 = (NestedKey.num i0)) := by
            intro hne
            rcases hHx with ⟨h0, hno⟩ | ⟨j, e', q1, hjx, q2⟩
            · refine .inl ⟨h0, fun j y hjx hj => ?_⟩
              rcases Nat.lt_or_ge j x with h | h
              · exact hno j y h hj
              · have hjx' : j = x := by omega
                subst hjx'
                rw [hq] at hj
                cases hj
                exact hne
            · exact .inr ⟨j, e', q1, by omega, q2⟩
          rw [hex]
          dsimp only
          rw [if_pos (by simp [heh])]
          refine wpAny_bind (wpAny_dictEpoch ho hd (wpAny_bind (NIs.eq hu kq hkey (wpAny_bind (wpAny_dictEpoch ho hd ?_)))))
          show wpAny _ _ (if (ep != ep) = true then _ else _) _ E _
          rw [if_neg (by simp)]
          by_cases hkk : q.1 = (NestedKey.num i0)
          · rw [decide_eq_true hkk]
            rcases hHx with ⟨rfl, _⟩ | ⟨j, e', _, hjx, hj, hh⟩
            · first | rw [if_pos rfl] | skip
              simp only [Option.isSome_none, Bool.false_eq_true, if_false]
              first | refine wpAny_bind (wpAny_pure ?_) | skip
              refine wpAny_bind (wpAny_rule ?_)
              split
              · exact wpAny_pure (wpAny_pure (hsome x q hq hkk))
              · exact wpAny_pure ⟨rfl, x + 1, some x, rfl, hrest', hlt, .inr ⟨x, q, rfl, Nat.lt_succ_self x, hq, hkk⟩⟩
            · exact absurd (nKey_uniq hn hj hq (hh.trans hkk.symm)) (by omega)
          · rw [decide_eq_false hkk]
            simp only [Bool.false_eq_true, if_false]
            refine wpAny_bind (wpAny_rule ?_)
            first | rw [if_neg (by simp)] | skip
            first
              | exact wpAny_pure ⟨rfl, x + 1, fd, rfl, hrest', hlt, hstay hkk⟩
              | exact wpAny_bind (wpAny_pure (wpAny_pure ⟨rfl, x + 1, fd, rfl, hrest', hlt, hstay hkk⟩))
        · rintro b s' ⟨rfl, i, fd, rfl, hr, hi, hH⟩
          have hall : ∀ j, i ≤ j → j < es.size → ((es[j]?.map (·.hash)) == some ((NestedKey.num i0).hash w)) = false := by
            intro j h1 h2
            have := List.filter_eq_nil_iff.mp hr.symm j (List.mem_range'_1.mpr ⟨h1, by omega⟩)
            simpa using this
          rcases hH with ⟨rfl, hno⟩ | ⟨j, e', rfl, _, hj, hh⟩
          · refine wpAny_pure (hnone fun j y hj => ?_)
            rcases Nat.lt_or_ge j i with h | h
            · exact hno j y h hj
            · exact nokey j y hj (hall j h (lt_ hj))
          · exact wpAny_pure (hsome j e' hj hh))
  case int i0 t =>
    try dsimp only
    by_cases hall : ((Value.int i0 t :: (placesWithHash es.size (fun i => es[i]?.map (·.hash)) ((NestedKey.num i0).hash w)).filterMap (fun i => es[i]?.map (·.key))).all carriedByValue) = true
    · rw [if_pos hall]; exact plain
    · rw [if_neg hall]
      by_cases hone : (((placesWithHash es.size (fun i => es[i]?.map (·.hash)) ((NestedKey.num i0).hash w)).filterMap (fun i => es[i]?.map (·.key))) == [Value.int i0 t]) = true <;>
      (first | rw [if_pos hone] | rw [if_neg hone]) <;> (first | refine wpAny_bind (wpAny_pure ?_) | refine wpAny_bind (mayTell_n ⟨_, hkey⟩ hst ?_)) <;> (
        rw [if_neg (by simp)]
        refine wpAny_bind ?_
        refine wpAny_forIn_list _
          (fun rest b s' => s' = s ∧ ∃ i fd, b = (none, fd) ∧ rest = (List.range' i (es.size - i)).filter (fun i => (es[i]?.map (·.hash)) == some ((NestedKey.num i0).hash w)) ∧ i ≤ es.size ∧
            ((fd = none ∧ ∀ j x, j < i → xs[j]? = some x → x.1 ≠ (NestedKey.num i0)) ∨ ∃ j x, fd = some j ∧ j < i ∧ xs[j]? = some x ∧ x.1 = (NestedKey.num i0))) _ ?_ ?_ _ _
          ⟨rfl, 0, none, rfl, by rw [placesWithHash, List.range_eq_range', Nat.sub_zero], Nat.zero_le _, .inl ⟨rfl, fun _ _ h => absurd h (Nat.not_lt_zero _)⟩⟩
        · rintro x rest b s' ⟨rfl, i, fd, rfl, hr, hi, hH⟩
          obtain ⟨hix, hxn, hpx, hskip, hrest⟩ := filter_range'_cons _ _ _ _ _ hr.symm
          have hlt : x < es.size := by omega
          have hrest' : rest = (List.range' (x + 1) (es.size - (x + 1))).filter (fun i => (es[i]?.map (·.hash)) == some ((NestedKey.num i0).hash w)) := by rw [hrest]; congr 2; omega
          obtain ⟨e, hex⟩ : ∃ e, es[x]? = some e := ⟨es[x], Array.getElem?_eq_getElem hlt⟩
          have heh : e.hash = (NestedKey.num i0).hash w := (pl x e hex).mp hpx
          obtain ⟨q, hq, _, kq, _⟩ := at_ hex
          have hHx : (fd = none ∧ ∀ j y, j < x → xs[j]? = some y → y.1 ≠ (NestedKey.num i0)) ∨ ∃ j y, fd = some j ∧ j < x ∧ xs[j]? = some y ∧ y.1 = (NestedKey.num i0) := by
            rcases hH with ⟨h0, hno⟩ | ⟨j, e', q1, hji, q2⟩
            · refine .inl ⟨h0, fun j y hjx hj => ?_⟩
              rcases Nat.lt_or_ge j i with h | h
              · exact hno j y h hj
              · exact nokey j y hj (hskip j h hjx)
            · exact .inr ⟨j, e', q1, by omega, q2⟩
          have hstay : q.1 ≠ (NestedKey.num i0) → ((fd = none ∧ ∀ j y, j < x + 1 → xs[j]? = some y → y.1 ≠ (NestedKey.num i0)) ∨ ∃ j y, fd = some j ∧ j < x + 1 ∧ xs[j]? = some y ∧ y.1 = (NestedKey.num i0)) := by
            intro hne
            rcases hHx with ⟨h0, hno⟩ | ⟨j, e', q1, hjx, q2⟩
            · refine .inl ⟨h0, fun j y hjx hj => ?_⟩
              rcases Nat.lt_or_ge j x with h | h
              · exact hno j y h hj
              · have hjx' : j = x := by omega
                subst hjx'
                rw [hq] at hj
                cases hj
                exact hne
            · exact .inr ⟨j, e', q1, by omega, q2⟩
          rw [hex]
          dsimp only
          rw [if_pos (by simp [heh])]
          refine wpAny_bind (wpAny_dictEpoch ho hd (wpAny_bind (NIs.eq hu kq hkey (wpAny_bind (wpAny_dictEpoch ho hd ?_)))))
          show wpAny _ _ (if (ep != ep) = true then _ else _) _ E _
          rw [if_neg (by simp)]
          by_cases hkk : q.1 = (NestedKey.num i0)
          · rw [decide_eq_true hkk]
            rcases hHx with ⟨rfl, _⟩ | ⟨j, e', _, hjx, hj, hh⟩
            · first | rw [if_pos rfl] | skip
              simp only [Option.isSome_none, Bool.false_eq_true, if_false]
              first | refine wpAny_bind (wpAny_pure ?_) | skip
              refine wpAny_bind (wpAny_rule ?_)
              split
              · exact wpAny_pure (wpAny_pure (hsome x q hq hkk))
              · exact wpAny_pure ⟨rfl, x + 1, some x, rfl, hrest', hlt, .inr ⟨x, q, rfl, Nat.lt_succ_self x, hq, hkk⟩⟩
            · exact absurd (nKey_uniq hn hj hq (hh.trans hkk.symm)) (by omega)
          · rw [decide_eq_false hkk]
            simp only [Bool.false_eq_true, if_false]
            refine wpAny_bind (wpAny_rule ?_)
            first | rw [if_neg (by simp)] | skip
            first
              | exact wpAny_pure ⟨rfl, x + 1, fd, rfl, hrest', hlt, hstay hkk⟩
              | exact wpAny_bind (wpAny_pure (wpAny_pure ⟨rfl, x + 1, fd, rfl, hrest', hlt, hstay hkk⟩))
        · rintro b s' ⟨rfl, i, fd, rfl, hr, hi, hH⟩
          have hall : ∀ j, i ≤ j → j < es.size → ((es[j]?.map (·.hash)) == some ((NestedKey.num i0).hash w)) = false := by
            intro j h1 h2
            have := List.filter_eq_nil_iff.mp hr.symm j (List.mem_range'_1.mpr ⟨h1, by omega⟩)
            simpa using this
          rcases hH with ⟨rfl, hno⟩ | ⟨j, e', rfl, _, hj, hh⟩
          · refine wpAny_pure (hnone fun j y hj => ?_)
            rcases Nat.lt_or_ge j i with h | h
            · exact hno j y h hj
            · exact nokey j y hj (hall j h (lt_ hj))
          · exact wpAny_pure (hsome j e' hj hh))
  case tup a0 o0 vs0 n0 ks0 p1 p2 p3 p4 =>
    try dsimp only
    by_cases hall : ((Value.ref a0 :: (placesWithHash es.size (fun i => es[i]?.map (·.hash)) ((NestedKey.tup ks0).hash w)).filterMap (fun i => es[i]?.map (·.key))).all carriedByValue) = true
    · rw [if_pos hall]; exact plain
    · rw [if_neg hall]
      rw [if_neg hany]
      by_cases hone : (((placesWithHash es.size (fun i => es[i]?.map (·.hash)) ((NestedKey.tup ks0).hash w)).filterMap (fun i => es[i]?.map (·.key))) == [Value.ref a0]) = true <;>
      (first | rw [if_pos hone] | rw [if_neg hone]) <;> (first | refine wpAny_bind (wpAny_pure ?_) | refine wpAny_bind (mayTell_n ⟨_, hkey⟩ hst ?_)) <;> (
        rw [if_neg (by simp)]
        refine wpAny_bind ?_
        refine wpAny_forIn_list _
          (fun rest b s' => s' = s ∧ ∃ i fd, b = (none, fd) ∧ rest = (List.range' i (es.size - i)).filter (fun i => (es[i]?.map (·.hash)) == some ((NestedKey.tup ks0).hash w)) ∧ i ≤ es.size ∧
            ((fd = none ∧ ∀ j x, j < i → xs[j]? = some x → x.1 ≠ (NestedKey.tup ks0)) ∨ ∃ j x, fd = some j ∧ j < i ∧ xs[j]? = some x ∧ x.1 = (NestedKey.tup ks0))) _ ?_ ?_ _ _
          ⟨rfl, 0, none, rfl, by rw [placesWithHash, List.range_eq_range', Nat.sub_zero], Nat.zero_le _, .inl ⟨rfl, fun _ _ h => absurd h (Nat.not_lt_zero _)⟩⟩
        · rintro x rest b s' ⟨rfl, i, fd, rfl, hr, hi, hH⟩
          obtain ⟨hix, hxn, hpx, hskip, hrest⟩ := filter_range'_cons _ _ _ _ _ hr.symm
          have hlt : x < es.size := by omega
          have hrest' : rest = (List.range' (x + 1) (es.size - (x + 1))).filter (fun i => (es[i]?.map (·.hash)) == some ((NestedKey.tup ks0).hash w)) := by rw [hrest]; congr 2; omega
          obtain ⟨e, hex⟩ : ∃ e, es[x]? = some e := ⟨es[x], Array.getElem?_eq_getElem hlt⟩
          have heh : e.hash = (NestedKey.tup ks0).hash w := (pl x e hex).mp hpx
          obtain ⟨q, hq, _, kq, _⟩ := at_ hex
          have hHx : (fd = none ∧ ∀ j y, j < x → xs[j]? = some y → y.1 ≠ (NestedKey.tup ks0)) ∨ ∃ j y, fd = some j ∧ j < x ∧ xs[j]? = some y ∧ y.1 = (NestedKey.tup ks0) := by
            rcases hH with ⟨h0, hno⟩ | ⟨j, e', q1, hji, q2⟩
            · refine .inl ⟨h0, fun j y hjx hj => ?_⟩
              rcases Nat.lt_or_ge j i with h | h
              · exact hno j y h hj
              · exact nokey j y hj (hskip j h hjx)
            · exact .inr ⟨j, e', q1, by omega, q2⟩
          have hstay : q.1 ≠ (NestedKey.tup ks0) → ((fd = none ∧ ∀ j y, j < x + 1 → xs[j]? = some y → y.1 ≠ (NestedKey.tup ks0)) ∨ ∃ j y, fd = some j ∧ j < x + 1 ∧ xs[j]? = some y ∧ y.1 = (NestedKey.tup ks0)) := by
            intro hne
            rcases hHx with ⟨h0, hno⟩ | ⟨j, e', q1, hjx, q2⟩
            · refine .inl ⟨h0, fun j y hjx hj => ?_⟩
              rcases Nat.lt_or_ge j x with h | h
              · exact hno j y h hj
              · have hjx' : j = x := by omega
                subst hjx'
                rw [hq] at hj
                cases hj
                exact hne
            · exact .inr ⟨j, e', q1, by omega, q2⟩
          rw [hex]
          dsimp only
          rw [if_pos (by simp [heh])]
          refine wpAny_bind (wpAny_dictEpoch ho hd (wpAny_bind (NIs.eq hu kq hkey (wpAny_bind (wpAny_dictEpoch ho hd ?_)))))
          show wpAny _ _ (if (ep != ep) = true then _ else _) _ E _
          rw [if_neg (by simp)]
          by_cases hkk : q.1 = (NestedKey.tup ks0)
          · rw [decide_eq_true hkk]
            rcases hHx with ⟨rfl, _⟩ | ⟨j, e', _, hjx, hj, hh⟩
            · first | rw [if_pos rfl] | skip
              simp only [Option.isSome_none, Bool.false_eq_true, if_false]
              first | refine wpAny_bind (wpAny_pure ?_) | skip
              refine wpAny_bind (wpAny_rule ?_)
              split
              · exact wpAny_pure (wpAny_pure (hsome x q hq hkk))
              · exact wpAny_pure ⟨rfl, x + 1, some x, rfl, hrest', hlt, .inr ⟨x, q, rfl, Nat.lt_succ_self x, hq, hkk⟩⟩
            · exact absurd (nKey_uniq hn hj hq (hh.trans hkk.symm)) (by omega)
          · rw [decide_eq_false hkk]
            simp only [Bool.false_eq_true, if_false]
            refine wpAny_bind (wpAny_rule ?_)
            first | rw [if_neg (by simp)] | skip
            first
              | exact wpAny_pure ⟨rfl, x + 1, fd, rfl, hrest', hlt, hstay hkk⟩
              | exact wpAny_bind (wpAny_pure (wpAny_pure ⟨rfl, x + 1, fd, rfl, hrest', hlt, hstay hkk⟩))
        · rintro b s' ⟨rfl, i, fd, rfl, hr, hi, hH⟩
          have hall : ∀ j, i ≤ j → j < es.size → ((es[j]?.map (·.hash)) == some ((NestedKey.tup ks0).hash w)) = false := by
            intro j h1 h2
            have := List.filter_eq_nil_iff.mp hr.symm j (List.mem_range'_1.mpr ⟨h1, by omega⟩)
            simpa using this
          rcases hH with ⟨rfl, hno⟩ | ⟨j, e', rfl, _, hj, hh⟩
          · refine wpAny_pure (hnone fun j y hj => ?_)
            rcases Nat.lt_or_ge j i with h | h
            · exact hno j y h hj
            · exact nokey j y hj (hall j h (lt_ hj))
          · exact wpAny_pure (hsome j e' hj hh))
end
end Eg

set_option autoImplicit false
set_option maxRecDepth 100000
set_option maxHeartbeats 1000000
/-! E0a: such dicts read and written. -/
namespace Eg
open PySem PySem.Spec
section
variable {prog : Program} {w : World} {A : Around} {E : Value → Shared → Prop} {s : Shared}
def nGet (xs : List (NK × Value × Value)) (k : NK) : Option Value := (xs.find? fun x => decide (x.1 = k)).map (·.2.2)
def nPutAt (k : NK) (v : Value) (x : NK × Value × Value) : NK × Value × Value := if x.1 = k then (x.1, x.2.1, v) else x
def nPut (xs : List (NK × Value × Value)) (k : NK) (kv v : Value) : List (NK × Value × Value) := if (nGet xs k).isSome then xs.map (nPutAt k v) else xs ++ [(k, kv, v)]
def nDraws (k : NK) : Nat := k.draws
theorem nGet_none {xs : List (NK × Value × Value)} {k : NK} (h : ∀ (j : Nat) (x : NK × Value × Value), xs[j]? = some x → x.1 ≠ k) : nGet xs k = none := by
  have : (xs.find? fun x => decide (x.1 = k)) = none := by
    rw [List.find?_eq_none]
    intro x hx hk
    obtain ⟨j, hj⟩ := List.mem_iff_getElem?.mp hx
    exact h j x hj (of_decide_eq_true hk)
  simp [nGet, this]
theorem nGet_some : ∀ {xs : List (NK × Value × Value)} {k : NK} {j : Nat} {x : NK × Value × Value}, (xs.map (·.1)).Nodup → xs[j]? = some x → x.1 = k → nGet xs k = some x.2.2
  | y :: xs, k, j, x, hn, hj, e => by
    rw [List.map_cons, List.nodup_cons] at hn
    cases j with
    | zero =>
      simp only [List.getElem?_cons_zero, Option.some.injEq] at hj
      subst hj
      simp [nGet, e]
    | succ j =>
      simp only [List.getElem?_cons_succ] at hj
      have hm : k ∈ xs.map (·.1) := List.mem_map.mpr ⟨x, List.mem_of_getElem? hj, e⟩
      have ne : ¬ y.1 = k := fun q => hn.1 (q ▸ hm)
      have := nGet_some hn.2 hj e
      simpa [nGet, List.find?_cons, ne] using this
theorem nHash_of {k : NK} {v : Value} {Q : Int → Shared → Prop} (hu : A.units + 8 < cLine) (hkey : NIs s.heap k v) (h : Q (k.hash w) { s with toks := s.toks + nDraws k }) : wpAny (model prog w) A (pyHash v) Q E s :=
  pyHash_key _ _ _ _ _ hkey.1 (by have := hkey.2; omega) h
theorem nIs_keeps {h h' : Heap} {k : NK} {v : Value} {d : Addr} {o : Obj} {es : Array DictEntry} {ep : Nat} (x : NIs h k v) (ho : h.get? d = some o) (hd : o.data = .dict es ep) (hs : Heap.SameBut d h h') : NIs h' k v :=
  ⟨NestedIs.at (fun b ob vs n hb hc => by
    refine (hs.2 b fun e => ?_).trans hb
    subst e
    rw [ho] at hb
    cases hb
    rw [hd] at hc
    cases hc) k _ x.1, x.2⟩
theorem get_n {d : Addr} {xs : List (NK × Value × Value)} {k : NK} {v : Value} {Q : Option Value → Shared → Prop} (hu : A.units + 8 < cLine) (hkey : NIs s.heap k v) (hm : NDict w s.heap d xs)
    (h : Q (nGet xs k) { s with toks := s.toks + nDraws k }) : wpAny (model prog w) A (dictGet d v) Q E s := by
  obtain ⟨o, es, ep, ho, _, hd, he, his, hn⟩ := hm
  unfold dictGet
  try with_reducible refine wpAny_holding ?_
  refine wpAny_bind (nHash_of hu hkey (wpAny_bind (find_n (s := { s with toks := s.toks + nDraws k }) hu hkey ho hd he his hn ?_ ?_)))
  · intro hno
    rw [nGet_none hno] at h
    exact wpAny_pure h
  · intro j x hj ex
    rw [nGet_some hn hj ex] at h
    refine wpAny_bind (wpAny_dictEntries (s := { s with toks := s.toks + nDraws k }) ho hd ?_)
    rw [nEnt_of he hj]
    exact wpAny_pure h
theorem keys_nPut (xs : List (NK × Value × Value)) (k : NK) (v : Value) : (xs.map (nPutAt k v)).map (·.1) = xs.map (·.1) := by
  induction xs with
  | nil => rfl
  | cons x xs ih =>
    simp only [List.map_cons, ih]
    by_cases hk : x.1 = k <;> simp [nPutAt, hk]
theorem nPutAt_id (xs : List (NK × Value × Value)) (k : NK) (v : Value) (hn : k ∉ xs.map (·.1)) : xs.map (nPutAt k v) = xs := by
  induction xs with
  | nil => rfl
  | cons x xs ih =>
    simp only [List.map_cons, List.mem_cons, not_or] at hn ⊢
    rw [nPutAt, if_neg (fun e => hn.1 e.symm), ih hn.2]
theorem modify_nPut (k : NK) (v : Value) : ∀ {xs : List (NK × Value × Value)} {j : Nat} {x : NK × Value × Value}, (xs.map (·.1)).Nodup → xs[j]? = some x → x.1 = k → (xs.map (nEnt w)).modify j (fun e => { e with val := v }) = (xs.map (nPutAt k v)).map (nEnt w)
  | y :: xs, j, x, hn, hj, e => by
    rw [List.map_cons, List.nodup_cons] at hn
    cases j with
    | zero =>
      simp only [List.getElem?_cons_zero, Option.some.injEq] at hj
      subst hj
      rw [List.map_cons, List.map_cons, nPutAt_id xs k v (e ▸ hn.1), nPutAt, if_pos e, List.map_cons]
      rfl
    | succ j =>
      simp only [List.getElem?_cons_succ] at hj
      have hm : k ∈ xs.map (·.1) := List.mem_map.mpr ⟨x, List.mem_of_getElem? hj, e⟩
      have ne : ¬ y.1 = k := fun q => hn.1 (q ▸ hm)
      rw [List.map_cons, List.map_cons, nPutAt, if_neg ne, List.map_cons]
      show nEnt w y :: (xs.map (nEnt w)).modify j _ = _
      rw [modify_nPut k v hn.2 hj e]
/-- behind the hash: what is stored -/
theorem setH_n {d : Addr} {xs : List (NK × Value × Value)} {k : NK} {kv v : Value} {Q : Unit → Shared → Prop} (hu : A.units + 8 < cLine) (hkey : NIs s.heap k kv) (hm : NDict w s.heap d xs)
    (hQ : ∀ h', NDict w h' d (nPut xs k kv v) → Heap.SameBut d s.heap h' → Q () { s with heap := h' }) (hsz : xs.length ≤ sizeLine) :
    wpAny (model prog w) A (dictSetHashed d kv ((k.hash w)) v) Q E s := by
  obtain ⟨o, es, ep, ho, hc, hd, he, his, hn⟩ := hm
  have hlen : es.size = xs.length := by rw [← Array.length_toList, he, List.length_map]
  unfold dictSetHashed
  try with_reducible refine wpAny_holding ?_
  refine wpAny_bind (find_n hu hkey ho hd he his hn ?_ ?_)
  · intro hno
    have g0 := nGet_none hno
    have ep0 : nPut xs k kv v = xs ++ [(k, kv, v)] := by simp [nPut, g0]
    have hnot : k ∉ xs.map (·.1) := fun hm => by
      obtain ⟨x, hx, ex⟩ := List.mem_map.mp hm
      obtain ⟨j, hj⟩ := List.mem_iff_getElem?.mp hx
      exact hno j x hj ex
    refine wpAny_bind (wpAny_rule (wpAny_updateDictKeys (hz := by omega) ho hd (hQ _ ⟨_, _, ep + 1, Heap.get?_update_self _ ho (Obj.isFreed_of_dict (Obj.data_mapDictKeys hd _)),
      hc.mapDictKeys _, Obj.data_mapDictKeys hd _, ?_, ?_, ?_⟩ (Heap.SameBut.update ..))))
    · rw [ep0]
      simp [he, nEnt]
    · rw [ep0]
      intro x hx
      rcases List.mem_append.mp hx with hx | hx
      · exact nIs_keeps (his x hx) ho hd (Heap.SameBut.update ..)
      · simp only [List.mem_singleton] at hx
        subst hx
        exact nIs_keeps hkey ho hd (Heap.SameBut.update ..)
    · rw [ep0, List.map_append, List.nodup_append]
      refine ⟨hn, by simp, ?_⟩
      intro x hx y hy
      simp only [List.map_cons, List.map_nil, List.mem_singleton] at hy
      subst hy
      exact fun e => hnot (e ▸ hx)
  · intro j x hj ex
    have g1 := nGet_some hn hj ex
    have ep1 : nPut xs k kv v = xs.map (nPutAt k v) := by simp [nPut, g1]
    refine wpAny_bind (wpAny_rule (wpAny_bind (wpAny_updateDict ho hd (wpAny_point (hQ _ ⟨_, _, ep, Heap.get?_update_self _ ho (Obj.isFreed_of_dict (Obj.data_mapDict hd _)),
      hc.mapDict _, Obj.data_mapDict hd _, ?_, ?_, ?_⟩ (Heap.SameBut.update ..))))))
    · rw [ep1]
      have := modify_nPut (w := w) k v hn hj ex
      rw [← he] at this
      obtain ⟨l⟩ := es
      simpa using this
    · rw [ep1]
      intro y hy
      obtain ⟨z, hz, rfl⟩ := List.mem_map.mp hy
      unfold nPutAt
      split <;> exact nIs_keeps (his z hz) ho hd (Heap.SameBut.update ..)
    · rw [ep1, keys_nPut]; exact hn
theorem set_n {d : Addr} {xs : List (NK × Value × Value)} {k : NK} {kv v : Value} {Q : Unit → Shared → Prop} (hu : A.units + 8 < cLine) (hkey : NIs s.heap k kv) (hm : NDict w s.heap d xs)
    (hQ : ∀ h', NDict w h' d (nPut xs k kv v) → Heap.SameBut d s.heap h' → Q () { s with heap := h', toks := s.toks + nDraws k }) (hsz : xs.length ≤ sizeLine) :
    wpAny (model prog w) A (dictSet d kv v) Q E s := by
  unfold dictSet
  try with_reducible refine wpAny_holding ?_
  exact wpAny_bind (nHash_of hu hkey (setH_n (s := { s with toks := s.toks + nDraws k }) hu hkey hm hQ hsz))
/-- d.setdefault(k, v) -/
theorem setdefault_n {d : Addr} {xs : List (NK × Value × Value)} {k : NK} {kv v : Value} {Q : Value → Shared → Prop} (hu : A.units + 8 < cLine) (hkey : NIs s.heap k kv) (hm : NDict w s.heap d xs)
    (hold : ∀ u, nGet xs k = some u → Q u { s with toks := s.toks + nDraws k })
    (hnew : nGet xs k = none → ∀ h', NDict w h' d (xs ++ [(k, kv, v)]) → Heap.SameBut d s.heap h' → Q v { s with heap := h', toks := s.toks + nDraws k }) (hsz : xs.length ≤ sizeLine) :
    wpAny (model prog w) A (dictSetDefault d kv v) Q E s := by
  obtain ⟨o, es, ep, ho, hc, hd, he, his, hn⟩ := hm
  have hlen : es.size = xs.length := by rw [← Array.length_toList, he, List.length_map]
  unfold dictSetDefault
  try with_reducible refine wpAny_holding ?_
  refine wpAny_bind (nHash_of hu hkey (wpAny_bind (find_n (s := { s with toks := s.toks + nDraws k }) hu hkey ho hd he his hn ?_ ?_)))
  · intro hno
    have g0 := nGet_none hno
    have hnot : k ∉ xs.map (·.1) := fun hm => by
      obtain ⟨x, hx, ex⟩ := List.mem_map.mp hm
      obtain ⟨j, hj⟩ := List.mem_iff_getElem?.mp hx
      exact hno j x hj ex
    refine wpAny_bind (wpAny_rule (wpAny_bind ?_))
    refine wpAny_updateDictKeys (s := { s with toks := s.toks + nDraws k }) (hz := by omega) ho hd ?_
    refine wpAny_pure (hnew g0 _ ⟨_, _, ep + 1, Heap.get?_update_self _ ho (Obj.isFreed_of_dict (Obj.data_mapDictKeys hd _)),
      hc.mapDictKeys _, Obj.data_mapDictKeys hd _, ?_, ?_, ?_⟩ (Heap.SameBut.update ..))
    · simp [he, nEnt]
    · intro x hx
      rcases List.mem_append.mp hx with hx | hx
      · exact nIs_keeps (his x hx) ho hd (Heap.SameBut.update ..)
      · simp only [List.mem_singleton] at hx
        subst hx
        exact nIs_keeps hkey ho hd (Heap.SameBut.update ..)
    · rw [List.map_append, List.nodup_append]
      refine ⟨hn, by simp, ?_⟩
      intro x hx y hy
      simp only [List.map_cons, List.map_nil, List.mem_singleton] at hy
      subst hy
      exact fun e => hnot (e ▸ hx)
  · intro j x hj ex
    refine wpAny_bind (wpAny_dictEntries (s := { s with toks := s.toks + nDraws k }) ho hd ?_)
    rw [nEnt_of he hj]
    exact wpAny_bind (wpAny_rule (wpAny_pure (hold _ (nGet_some hn hj ex))))
end
end Eg

set_option autoImplicit false
set_option maxRecDepth 100000
set_option maxHeartbeats 1000000
/-! E0b: such a dict in the layer's heap; its operations by values. -/
namespace Eg
open PySem PySem.Spec L2
mutual
/-- the value y is the key, as it lies -/
def KN (K : PySem.W.Frag) (H : Hp) : NK → V → Prop
  | .none, y => y = .non
  | .num i, y => y = .int i
  | .text x, y => y = .str x
  | .tup ks, y => ∃ a ys, y = .ref a ∧ SqT K H a ys ∧ KNs K H ks ys
def KNs (K : PySem.W.Frag) (H : Hp) : List NK → List V → Prop
  | [], ys => ys = []
  | k :: ks, ys => ∃ z zs, ys = z :: zs ∧ KN K H k z ∧ KNs K H ks zs
end
section
variable {X : Cx} {pins : List (Addr × Obj)} {σ : St} {H : Hp} {s : Shared}
mutual
theorem KN.nest (I : Inv X pins σ H s) : ∀ (k : NK) (y : V) (u : Value), KN X.K H k y → RelV y u → NestedIs s.heap k u
  | .none, y, u, r, e => by unfold KN at r; subst r; rw [show u = Value.none from e]; exact .none
  | .num i, y, u, r, e => by unfold KN at r; subst r; obtain ⟨t, rfl⟩ := e; exact .int i t
  | .text x, y, u, r, e => by unfold KN at r; subst r; obtain ⟨t, rfl⟩ := e; exact .text x t
  | .tup ks, y, u, r, e => by
    unfold KN at r
    obtain ⟨a, ys, rfl, q, rr⟩ := r
    cases (show u = Value.ref a from e)
    obtain ⟨its, rv, ⟨o, h1, h2, n, h3⟩, _⟩ := I.tuple q
    exact .tup h1 h2 h3 (by simpa using KNs.nest I ks ys its rr rv)
theorem KNs.nest (I : Inv X pins σ H s) : ∀ (ks : List NK) (ys : List V) (us : List Value), KNs X.K H ks ys → Vals ys us → NestedAll s.heap ks us
  | [], ys, us, r, e => by unfold KNs at r; subst r; cases e; exact .nil
  | k :: ks, ys, us, r, e => by
    unfold KNs at r
    obtain ⟨z, zs, rfl, r1, r2⟩ := r
    cases e with
    | cons e1 e2 => exact .cons (KN.nest I k z _ r1 e1) (KNs.nest I ks zs _ r2 e2)
end
theorem KN.is (I : Inv X pins σ H s) {k : NK} {y : V} {u : Value} (r : KN X.K H k y) (e : RelV y u) (d : k.depth ≤ 8) : NIs s.heap k u := ⟨r.nest I k y u e, d⟩
end
abbrev NV := NK × V × V
/-- one entry -/
abbrev NPr (w : World) (p : NV) (e : DictEntry) : Prop := e.hash = p.1.hash w ∧ RelV p.2.1 e.key ∧ RelV p.2.2 e.val
def nφ (w : World) (d : Addr) (kvs : List NV) (h : Heap) : Prop :=
  ∃ o es ep, h.get? d = some o ∧ o.ExactDict ∧ o.data = .dict es ep ∧ Paired (NPr w) kvs es.toList ∧ (kvs.map (·.1)).Nodup ∧ kvs.length ≤ sizeLine ∧ (d == sysModules) = false
/-- the dict at d -/
def nO (w : World) (d : Addr) (kvs : List NV) : HO := .ext (nφ w d kvs)
/-- the keys as they lie -/
def KNk (K : PySem.W.Frag) (H : Hp) (kvs : List NV) : Prop := ∀ p ∈ kvs, KN K H p.1 p.2.1 ∧ p.1.depth ≤ 8
abbrev NRel (kvs : List NV) (xs : List (NK × Value × Value)) : Prop := Paired (fun p x => p.1 = x.1 ∧ RelV p.2.1 x.2.1 ∧ RelV p.2.2 x.2.2) kvs xs
def vGet (kvs : List NV) (k : NK) : Option V := (kvs.find? fun p => decide (p.1 = k)).map (·.2.2)
def vPut (kvs : List NV) (k : NK) (ky v : V) : List NV := if (vGet kvs k).isSome then kvs.map (fun p => if p.1 = k then (p.1, p.2.1, v) else p) else kvs ++ [(k, ky, v)]
section
variable {P : Program} {w : World} {H : Hp} {h : Heap} {d : Addr} {kvs : List NV}
theorem nO_ok (m : nφ w d kvs h) : ObjOk P w H h d (nO w d kvs) := by
  refine ⟨m, ?_, fun h1 h2 z k => ?_⟩
  · obtain ⟨o, _, _, ho, _⟩ := m
    exact ⟨o, ho⟩
  · obtain ⟨o, es, ep, ho, r⟩ := z
    exact ⟨o, es, ep, k _ ho, r⟩
theorem nO_at (ok : ObjOk P w H h d (nO w d kvs)) : nφ w d kvs h := by
  have x : ObjOk P w H h d (.ext (nφ w d kvs)) := ok
  exact x.1
theorem n_xs : ∀ {kvs : List NV} {es : List DictEntry}, Paired (NPr w) kvs es → ∃ xs : List (NK × Value × Value), es = xs.map (nEnt w) ∧ NRel kvs xs
  | _, _, .nil => ⟨[], rfl, .nil⟩
  | _, _, @Paired.cons _ _ _ p e _ _ hq t => by
    obtain ⟨xs, h1, h2⟩ := n_xs t
    obtain ⟨q1, q2, q3⟩ := hq
    refine ⟨(p.1, e.key, e.val) :: xs, ?_, .cons ⟨rfl, q2, q3⟩ h2⟩
    rw [List.map_cons, h1]
    congr 1
    obtain ⟨eh, ek, ev⟩ := e
    simp only at q1
    subst q1
    rfl
theorem n_fst : ∀ {kvs : List NV} {xs : List (NK × Value × Value)}, NRel kvs xs → xs.map (·.1) = kvs.map (·.1)
  | _, _, .nil => rfl
  | _, _, .cons hq t => by rw [List.map_cons, List.map_cons, n_fst t, hq.1]
theorem n_back {xs : List (NK × Value × Value)} (m : NDict w h d xs) (pr : NRel kvs xs) (hl : kvs.length ≤ sizeLine) (lo : (d == sysModules) = false) : nφ w d kvs h := by
  obtain ⟨o, es, ep, ho, hc, hd, he, his, hn⟩ := m
  have hf := n_fst pr
  refine ⟨o, es, ep, ho, hc, hd, ?_, by rw [← hf]; exact hn, hl, lo⟩
  rw [he]
  clear he his hn hf hl
  induction pr with
  | nil => exact .nil
  | cons hq t ih => exact .cons ⟨by rw [hq.1]; rfl, hq.2.1, hq.2.2⟩ ih
theorem vGet_some {xs : List (NK × Value × Value)} {k : NK} (pr : NRel kvs xs) : (∀ u, nGet xs k = some u → ∃ y, vGet kvs k = some y ∧ RelV y u) ∧ (nGet xs k = none → vGet kvs k = none) := by
  induction pr with
  | nil => exact ⟨fun u h => (by simp [nGet] at h), fun _ => rfl⟩
  | @cons p q ps qs hq t ih =>
    obtain ⟨q1, q2, q3⟩ := hq
    by_cases hk : q.1 = k
    · have hp : p.1 = k := q1.trans hk
      refine ⟨fun u h => ?_, fun h => ?_⟩
      · simp [nGet, hk] at h
        subst h
        exact ⟨p.2.2, by simp [vGet, hp], q3⟩
      · simp [nGet, hk] at h
    · have hp : ¬ p.1 = k := fun e => hk (q1.symm.trans e)
      refine ⟨fun u h => ?_, fun h => ?_⟩
      · have h' : nGet qs k = some u := by simpa [nGet, List.find?_cons, hk] using h
        obtain ⟨y, h1, h2⟩ := ih.1 u h'
        exact ⟨y, by simpa [vGet, List.find?_cons, hp] using h1, h2⟩
      · have h' : nGet qs k = none := by simpa [nGet, List.find?_cons, hk] using h
        have := ih.2 h'
        simpa [vGet, List.find?_cons, hp] using this
theorem paired_app {α β : Type} {F : α → β → Prop} {as cs : List α} {bs ds : List β} (x : Paired F as bs) (y : Paired F cs ds) : Paired F (as ++ cs) (bs ++ ds) := by
  induction x with
  | nil => exact y
  | cons h t ih => exact .cons h ih
theorem nRel_map {xs : List (NK × Value × Value)} {k : NK} {v : V} {u : Value} (pr : NRel kvs xs) (r : RelV v u) : NRel (kvs.map fun p => if p.1 = k then (p.1, p.2.1, v) else p) (xs.map (nPutAt k u)) := by
  induction pr with
  | nil => exact .nil
  | @cons p q ps qs hq t ih =>
    refine .cons ?_ ih
    unfold nPutAt
    dsimp only
    obtain ⟨q1, q2, q3⟩ := hq
    by_cases hk : q.1 = k
    · rw [if_pos hk, if_pos (q1.trans hk)]
      exact ⟨q1, q2, r⟩
    · rw [if_neg hk, if_neg (fun e => hk (q1.symm.trans e))]
      exact ⟨q1, q2, q3⟩
theorem nRel_put {xs : List (NK × Value × Value)} {k : NK} {ky v : V} {z u : Value} (pr : NRel kvs xs) (rk : RelV ky z) (r : RelV v u) : NRel (vPut kvs k ky v) (nPut xs k z u) := by
  obtain ⟨g1, g2⟩ := vGet_some (k := k) pr
  unfold vPut nPut
  cases hg : nGet xs k with
  | none =>
    rw [g2 hg]
    exact paired_app pr (.cons ⟨rfl, rk, r⟩ .nil)
  | some z =>
    obtain ⟨y, h1, _⟩ := g1 z hg
    rw [h1]
    exact nRel_map pr r
theorem vPut_len (kvs : List NV) (k : NK) (ky v : V) : (vPut kvs k ky v).length ≤ kvs.length + 1 := by
  unfold vPut
  split
  · simp
  · simp
theorem nφ_empty (h : Heap) (hb : sysModules < h.objs.size) : nφ w h.objs.size [] (h.push { cls := .type "dict", data := .dict #[] }) :=
  ⟨_, #[], 0, Heap.get?_push_size _ rfl, ⟨rfl, rfl, rfl⟩, rfl, .nil, List.nodup_nil, Nat.zero_le _, beq_eq_false_iff_ne.mpr (Ne.symm (Nat.ne_of_lt hb))⟩
end
theorem NDict.typeIs {w : World} {s : Shared} {d : Addr} {xs : List (NK × Value × Value)} (hm : NDict w s.heap d xs) : s.TypeIs (.ref d) "dict" :=
  let ⟨o, _, _, ho, hc, _⟩ := hm; ⟨o, ho, hc.1⟩
section
variable {X : Cx} {pins : List (Addr × Obj)} {σ : St} {H : Hp} {s : Shared} {a : Addr} {kvs : List NV} {k : NK} {ky y : V} {u r : Value} {A : Around} {E : Value → Shared → Prop}
/-- the rules' dict -/
theorem n_dict (I : Inv X pins σ H s) (e : Rd H a (nO X.w a kvs)) (mk : KNk X.K H kvs) : ∃ xs, NDict X.w s.heap a xs ∧ NRel kvs xs ∧ kvs.length ≤ sizeLine ∧ (a == sysModules) = false := by
  obtain ⟨o, es, ep, ho, hc, hd, pr, nd, hl, lo⟩ := nO_at (e.ok I.hok)
  obtain ⟨xs, h1, h2⟩ := n_xs pr
  have hf := n_fst h2
  refine ⟨xs, ⟨o, es, ep, ho, hc, hd, h1, ?_, by rw [hf]; exact nd⟩, h2, hl, lo⟩
  clear hf h1 pr nd e hl
  induction h2 with
  | nil => exact fun x hx => nomatch hx
  | @cons p q ps qs hq t ih =>
    intro x hx
    rcases List.mem_cons.mp hx with rfl | hx
    · obtain ⟨q1, q2, q3⟩ := hq
      obtain ⟨m1, m2⟩ := mk p List.mem_cons_self
      rw [← q1]
      exact m1.is I q2 m2
    · exact ih (fun p hp => mk p (List.mem_cons_of_mem _ hp)) x hx
/-- .. and stored -/
def NPut (K : PySem.W.Frag) (w : World) (H : Hp) (a : Addr) (ky v : V) (H' : Hp) : Prop := ∃ kvs k, H a = some (nO w a kvs) ∧ KNk K H kvs ∧ KN K H k ky ∧ k.depth ≤ 8 ∧ kvs.length + 1 ≤ sizeLine ∧ H' = upd H a (nO w a (vPut kvs k ky v))
/-- the dict at a as pairs of keys and values, of whichever kind -/
def kN : Key → NK
  | .inl i => .num i
  | .inr x => .text x
def NAt (K : PySem.W.Frag) (w : World) (H : Hp) (a : Addr) (ps : List (NK × V)) : Prop :=
  (∃ kvs, Rd H a (nO w a kvs) ∧ KNk K H kvs ∧ ps = kvs.map fun p => (p.1, p.2.2)) ∨ (∃ kvs : List (List Key × V), Rd H a (.dT kvs) ∧ ps = kvs.map fun p => (NestedKey.tup (p.1.map kN), p.2)) ∨
    ∃ kvs : List (Key × V), Rd H a (.dK kvs) ∧ ps = kvs.map fun p => (kN p.1, p.2)
abbrev PRel (ps : List (NK × V)) (xs : List (NK × Value × Value)) : Prop := Paired (fun p x => p.1 = x.1 ∧ RelV p.2 x.2.2) ps xs
theorem kN_hash (w : World) (k : Key) : (kN k).hash w = keyH w k := by cases k <;> rfl
theorem kNs_hash (w : World) : ∀ l : List Key, NestedKey.hashes w (l.map kN) = l.map (keyH w)
  | [] => rfl
  | k :: l => by rw [List.map_cons, NestedKey.hashes, kN_hash, kNs_hash w l, List.map_cons]
theorem kN_inj {a b : Key} (h : kN a = kN b) : a = b := by
  cases a <;> cases b <;> simp only [kN, NestedKey.num.injEq, NestedKey.text.injEq, reduceCtorEq] at h
  · rw [h]
  · rw [h]
theorem kNs_inj : ∀ {a b : List Key}, a.map kN = b.map kN → a = b
  | [], [], _ => rfl
  | [], _ :: _, h => by simp at h
  | _ :: _, [], h => by simp at h
  | x :: a, y :: b, h => by
    simp only [List.map_cons, List.cons.injEq] at h
    rw [kN_inj h.1, kNs_inj h.2]
theorem nodup_map {α β : Type} {f : α → β} (hf : ∀ a b, f a = f b → a = b) {l : List α} (h : l.Nodup) : (l.map f).Nodup := by
  induction l with
  | nil => exact List.nodup_nil
  | cons a l ih =>
    rw [List.nodup_cons] at h
    rw [List.map_cons, List.nodup_cons]
    refine ⟨fun hm => ?_, ih h.2⟩
    obtain ⟨b, hb, e⟩ := List.mem_map.mp hm
    rw [← hf _ _ e] at h
    exact h.1 hb
theorem kN_is {h : Heap} {k : Key} {v : Value} (e : keyIs k v = true) : NestedIs h (kN k) v := by
  rcases keyIs_shape e with ⟨i, t, rfl, rfl⟩ | ⟨x, t, rfl, rfl⟩
  · exact .int i t
  · exact .text x t
theorem depth_kNs : ∀ l : List Key, NestedKey.depthAll (l.map kN) = 0
  | [] => rfl
  | k :: l => by
    have : (kN k).depth = 0 := by cases k <;> rfl
    rw [List.map_cons, NestedKey.depthAll, this, depth_kNs l]; rfl
theorem n_at {ps : List (NK × V)} (I : Inv X pins σ H s) (g : NAt X.K X.w H a ps) : ∃ xs, NDict X.w s.heap a xs ∧ PRel ps xs ∧ ps.length ≤ sizeLine ∧ (a == sysModules) = false := by
  rcases g with ⟨kvs, e, mk, rfl⟩ | ⟨kvs, e, rfl⟩ | ⟨kvs, e, rfl⟩
  · obtain ⟨xs, md, pr, hl, lo⟩ := n_dict I e mk
    refine ⟨xs, md, ?_, by rw [List.length_map]; exact hl, lo⟩
    clear e mk md hl
    induction pr with
    | nil => exact .nil
    | cons hq t ih => exact .cons ⟨hq.1, hq.2.2⟩ ih
  · obtain ⟨z, lo, xs, rel, o, es, ep, ho, hx, hd, he, his, hn⟩ := dt_rd I.hok e
    refine ⟨xs.map fun x => (NestedKey.tup (x.1.map kN), Value.ref x.2.1, x.2.2), ⟨o, es, ep, ho, hx, hd, ?_, ?_, ?_⟩, ?_, by rw [List.length_map]; exact z, lo⟩
    · rw [he, List.map_map]
      refine List.map_congr_left fun x _ => ?_
      show entryOfKey (tupleKind (mixKind X.prog X.w)) x = nEnt X.w (NestedKey.tup (x.1.map kN), Value.ref x.2.1, x.2.2)
      unfold entryOfKey nEnt
      congr 1
      show tupleKeyHash (mixKind X.prog X.w) x.1 = NestedKey.hash X.w (.tup (x.1.map kN))
      rw [NestedKey.hash, kNs_hash]
      rfl
    · intro x hx
      obtain ⟨y, hy, rfl⟩ := List.mem_map.mp hx
      obtain ⟨ob, items, n, i1, i2, i3, i4⟩ := his y hy
      have all : ∀ {ks : List Key} {vs : List Value}, ItemsAre (mixKind X.prog X.w) ks vs → NestedAll s.heap (ks.map kN) vs := fun q => by
        induction q with
        | nil => exact .nil
        | cons h1 _ ih => exact .cons (kN_is h1) ih
      refine ⟨.tup i1 i2 i3 (all i4), ?_⟩
      show NestedKey.depthAll (y.1.map kN) + 1 ≤ 8
      rw [depth_kNs]; decide
    · rw [List.map_map]
      have : (xs.map ((fun x : NK × Value × Value => x.1) ∘ fun x : List Key × Addr × Value => (NestedKey.tup (x.1.map kN), Value.ref x.2.1, x.2.2))) = (xs.map (·.1)).map (fun l : List Key => NestedKey.tup (l.map kN)) := by rw [List.map_map]; rfl
      rw [this]
      exact nodup_map (fun x y e => kNs_inj (by injection e)) hn
    · clear he his hn e z
      induction rel with
      | nil => exact .nil
      | cons hq t ih => exact .cons ⟨by show NestedKey.tup _ = NestedKey.tup _; rw [hq.1], hq.2.2⟩ ih
  · obtain ⟨z, lo, vs, rel, o, es, ep, ho, hx, hd, hk, pr, hn⟩ := dk_rd I.hok e
    have all : ∀ {es : List DictEntry} {vs : List (Key × Value)} {kvs : List (Key × V)}, Pairs (mixKind X.prog X.w) es vs → (∀ e ∈ es, ∃ k, (mixKind X.prog X.w).is k e.key = true ∧ e.hash = (mixKind X.prog X.w).hash k) → KV kvs vs →
        ∃ xs : List (NK × Value × Value), es = xs.map (nEnt X.w) ∧ (∀ x ∈ xs, NIs s.heap x.1 x.2.1) ∧ xs.map (·.1) = vs.map (fun p => kN p.1) ∧ PRel (kvs.map fun p => (kN p.1, p.2)) xs := by
      intro es vs kvs q hk rel
      induction q generalizing kvs with
      | nil => cases rel; exact ⟨[], rfl, fun _ h => absurd h List.not_mem_nil, rfl, .nil⟩
      | @cons en p es ps hp1 hp2 t ih =>
        cases rel with
        | cons r1 r2 =>
          obtain ⟨xs, i1, i2, i3, i4⟩ := ih (fun e he => hk e (List.mem_cons_of_mem _ he)) r2
          obtain ⟨k', hk1, hk2⟩ := hk en List.mem_cons_self
          have ek : k' = p.1 := (mixKind X.prog X.w).inj _ _ _ hk1 hp1
          subst ek
          refine ⟨(kN p.1, en.key, en.val) :: xs, ?_, fun x hx => ?_, by rw [List.map_cons, List.map_cons, i3], .cons ⟨by show kN _ = kN _; rw [r1.1], ?_⟩ i4⟩
          · rw [List.map_cons, i1]
            congr 1
            obtain ⟨eh, ekk, ev⟩ := en
            simp only at hk2
            rw [hk2]
            show DictEntry.mk (keyH X.w p.1) ekk ev = ⟨(kN p.1).hash X.w, ekk, ev⟩
            rw [kN_hash]
          · rcases List.mem_cons.mp hx with rfl | hx
            · exact ⟨kN_is hk1, by show (kN p.1).depth ≤ 8; cases p.1 <;> exact Nat.zero_le _⟩
            · exact i2 x hx
          · show RelV _ en.val
            rw [hp2]
            exact r1.2
    obtain ⟨xs, i1, i2, i3, i4⟩ := all pr (fun e he => hk e (by simpa using he)) rel
    refine ⟨xs, ⟨o, es, ep, ho, hx, hd, i1, i2, ?_⟩, i4, by rw [List.length_map]; exact z, lo⟩
    rw [i3]
    have : (vs.map fun p => kN p.1) = (vs.map (·.1)).map kN := by rw [List.map_map]; rfl
    rw [this]
    exact nodup_map (fun x y e => kN_inj e) hn
/-- a key is looked for in the dict at a: what is found -/
def pGet (ps : List (NK × V)) (k : NK) : Option V := (ps.find? fun p => decide (p.1 = k)).map (·.2)
def NGet (K : PySem.W.Frag) (w : World) (H : Hp) (a : Addr) (ky : V) (o : Option V) : Prop := ∃ ps k, NAt K w H a ps ∧ KN K H k ky ∧ k.depth ≤ 8 ∧ pGet ps k = o
theorem pGet_some {ps : List (NK × V)} {xs : List (NK × Value × Value)} {k : NK} (pr : PRel ps xs) : RelO (pGet ps k) (nGet xs k) := by
  induction pr with
  | nil => exact True.intro
  | @cons p q ps qs hq t ih =>
    obtain ⟨q1, q2⟩ := hq
    by_cases hk : q.1 = k
    · have hp : p.1 = k := q1.trans hk
      simp only [pGet, nGet, List.find?_cons, hp, hk, decide_true, Option.map_some]
      exact q2
    · have hp : ¬ p.1 = k := fun e => hk (q1.symm.trans e)
      simpa only [pGet, nGet, List.find?_cons, hp, hk, decide_false] using ih
theorem d_getN {Q : Option Value → Shared → Prop} (hu : A.units + 8 < cLine) (I : Inv X pins σ H s) {o : Option V} (g : NGet X.K X.w H a ky o) (ry : RelV ky u) (h : ∀ ov s', Inv X pins σ H s' → RelO o ov → Q ov s') : wpAny (model X.prog X.w) A (dictGet a u) Q E s := by
  obtain ⟨ps, k, e, kn, dk, rfl⟩ := g
  obtain ⟨ys, md, pr, hl, lo⟩ := n_at I e
  exact get_n hu (kn.is I ry dk) md (h _ _ (I.tok _) (pGet_some pr))
theorem n_typeIs (I : Inv X pins σ H s) {o : Option V} (g : NGet X.K X.w H a ky o) : s.TypeIs (.ref a) "dict" := by
  obtain ⟨ps, k, e, kn, dk, rfl⟩ := g
  obtain ⟨ys, md, pr, hl, lo⟩ := n_at I e
  exact md.typeIs
theorem n_nosys (I : Inv X pins σ H s) {o : Option V} (g : NGet X.K X.w H a ky o) : (a == sysModules) = false := by
  obtain ⟨ps, k, e, kn, dk, rfl⟩ := g
  obtain ⟨ys, md, pr, hl, lo⟩ := n_at I e
  exact lo
theorem relO_some {y : V} {ov : Option Value} (r : RelO (some y) ov) : ∃ u, ov = some u ∧ RelV y u := by
  cases ov with
  | none => exact r.elim
  | some u => exact ⟨u, rfl, r⟩
theorem relO_none {ov : Option Value} (r : RelO none ov) : ov = none := by
  cases ov with
  | none => rfl
  | some u => exact r.elim
/-- d[k] -/
theorem d_itemN {Q : Value → Shared → Prop} (hu : A.units + 9 < cLine) (I : Inv X pins σ H s) (g : NGet X.K X.w H a ky (some y)) (ry : RelV ky u) (h : ∀ w' s', Inv X pins σ H s' → RelV y w' → Q w' s') : wpAny (model X.prog X.w) A (getItem (.ref a) u) Q E s := by
  have ty := n_typeIs I g
  unfold getItem
  try with_reducible refine wpAny_holding ?_
  refine wpAny_bind (wpAny_sequenceKey ty (by decide) ?_)
  refine wpAny_bind (wpAny_callSpecial?_slot (name := Str.ofString "__getitem__") ty slot_dict_getitem
    (wpAny_call_entry slot_dict_getitem ty entry_dict_getitem ?_ (args_dict_getitem _ _)))
  show wpAny _ _ (dictGet a u >>= _) _ _ s
  refine wpAny_bind (d_getN (A := A.in1) (by show A.units + 1 + 8 < cLine; omega) I g ry fun ov s' I' ro => ?_)
  obtain ⟨z, rfl, rz⟩ := relO_some ro
  exact wpAny_pure ⟨z, rfl, wpAny_pure (h z s' I' rz)⟩
/-- k in d -/
theorem d_inN {Q : Value → Shared → Prop} {o : Option V} (hu : A.units + 9 < cLine) (I : Inv X pins σ H s) (g : NGet X.K X.w H a ky o) (ry : RelV ky u) (h : ∀ s', Inv X pins σ H s' → Q (.bool o.isSome) s') : wpAny (model X.prog X.w) A (compareOp .In u (.ref a)) Q E s := by
  have ty := n_typeIs I g
  show wpAny _ _ (do return .bool (← contains (.ref a) u)) Q E s
  refine wpAny_bind ?_
  unfold contains
  try with_reducible refine wpAny_holding ?_
  refine wpAny_bind (wpAny_specialOf ty slot_dict_contains.lookup ?_)
  show wpAny _ _ (if (some (Value.builtin "dict.__contains__") == some Value.none) = true then _ else _) _ E s
  rw [if_neg (by rw [beq_builtin_none]; exact Bool.false_ne_true)]
  refine wpAny_bind (wpAny_callSpecialUnlessNone?_slot (name := Str.ofString "__contains__") ty slot_dict_contains
    (wpAny_call_entry slot_dict_contains ty entry_dict_contains ?_ (args_dict_contains _ _)))
  show wpAny _ _ (dictGet a u >>= _) _ _ s
  refine wpAny_bind (d_getN (A := A.in1) (by show A.units + 1 + 8 < cLine; omega) I g ry fun ov s' I' ro => ?_)
  cases o with
  | some y =>
    obtain ⟨z, rfl, rz⟩ := relO_some ro
    show wpAny _ _ (ret (.bool true)) _ _ _
    exact wpAny_pure ⟨_, rfl, wpAny_truthy_bool (wpAny_pure (h s' I'))⟩
  | none =>
    cases relO_none ro
    show wpAny _ _ (Builtin.Dict.pendingKey? a u >>= _) _ _ _
    exact wpAny_bind (wpAny_pendingKey_other (n_nosys I g) (wpAny_pure ⟨_, rfl, wpAny_truthy_bool (wpAny_pure (h s' I'))⟩))
theorem d_notInN {Q : Value → Shared → Prop} {o : Option V} (hu : A.units + 9 < cLine) (I : Inv X pins σ H s) (g : NGet X.K X.w H a ky o) (ry : RelV ky u) (h : ∀ s', Inv X pins σ H s' → Q (.bool (!o.isSome)) s') : wpAny (model X.prog X.w) A (compareOp .NotIn u (.ref a)) Q E s := by
  have ty := n_typeIs I g
  show wpAny _ _ (do return .bool (!(← contains (.ref a) u))) Q E s
  refine wpAny_bind ?_
  unfold contains
  try with_reducible refine wpAny_holding ?_
  refine wpAny_bind (wpAny_specialOf ty slot_dict_contains.lookup ?_)
  show wpAny _ _ (if (some (Value.builtin "dict.__contains__") == some Value.none) = true then _ else _) _ E s
  rw [if_neg (by rw [beq_builtin_none]; exact Bool.false_ne_true)]
  refine wpAny_bind (wpAny_callSpecialUnlessNone?_slot (name := Str.ofString "__contains__") ty slot_dict_contains
    (wpAny_call_entry slot_dict_contains ty entry_dict_contains ?_ (args_dict_contains _ _)))
  show wpAny _ _ (dictGet a u >>= _) _ _ s
  refine wpAny_bind (d_getN (A := A.in1) (by show A.units + 1 + 8 < cLine; omega) I g ry fun ov s' I' ro => ?_)
  cases o with
  | some y =>
    obtain ⟨z, rfl, rz⟩ := relO_some ro
    show wpAny _ _ (ret (.bool true)) _ _ _
    exact wpAny_pure ⟨_, rfl, wpAny_truthy_bool (wpAny_pure (h s' I'))⟩
  | none =>
    cases relO_none ro
    show wpAny _ _ (Builtin.Dict.pendingKey? a u >>= _) _ _ _
    exact wpAny_bind (wpAny_pendingKey_other (n_nosys I g) (wpAny_pure ⟨_, rfl, wpAny_truthy_bool (wpAny_pure (h s' I'))⟩))
/-- d[k] = v -/
theorem setItem_n {d : Addr} {xs : List (NK × Value × Value)} {kv v : Value} {w : World} {prog : Program} {Q : Unit → Shared → Prop} (hu : A.units + 9 < cLine) (hkey : NIs s.heap k kv) (hm : NDict w s.heap d xs)
    (hQ : ∀ h', NDict w h' d (nPut xs k kv v) → Heap.SameBut d s.heap h' → Q () { s with heap := h', toks := s.toks + nDraws k }) (hsz : xs.length ≤ sizeLine) :
    wpAny (model prog w) A (setItem (.ref d) kv v) Q E s := by
  unfold setItem
  try with_reducible refine wpAny_holding ?_
  refine wpAny_bind (wpAny_sequenceKey hm.typeIs (by decide) ?_)
  refine wpAny_bind (wpAny_callSpecial?_slot (name := Str.ofString "__setitem__") hm.typeIs slot_dict_setitem
    (wpAny_call_entry slot_dict_setitem hm.typeIs entry_dict_setitem ?_ (args_dict_setitem _ _ _)))
  show wpAny _ _ (Builtin.Dict.notOrdered "__setitem__" ⟨[.ref d, kv, v], []⟩ >>= _) _ _ s
  refine wpAny_bind (wpAny_notOrdered_dict hm.typeIs ?_)
  show wpAny _ _ (dictSet d kv v >>= _) _ _ s
  exact wpAny_bind (set_n (by show A.units + 1 + 8 < cLine; omega) hkey hm (fun h' hm' hs' => wpAny_pure ⟨.none, rfl, wpAny_pure (hQ h' hm' hs')⟩) hsz)
theorem d_setN {Q : Unit → Shared → Prop} {H' : Hp} (hu : A.units + 9 < cLine) (I : Inv X pins σ H s) (g : NPut X.K X.w H a ky y H') (ry : RelV ky u) (rv : RelV y r)
    (h : ∀ s', Inv X pins σ H' s' → Q () s') : wpAny (model X.prog X.w) A (setItem (.ref a) u r) Q E s := by
  obtain ⟨kvs, k, e, mk, km, dk, hz, rfl⟩ := g
  obtain ⟨ys, md, pr, hl, lo⟩ := n_dict I (.inl e) mk
  have hly : ys.length ≤ sizeLine := by rw [← Paired.length pr]; exact hl
  refine setItem_n hu (km.is I ry dk) md (fun h' md' hs => h _ ?_) hly
  have he : ∃ o, h'.get? a = some o := let ⟨o, _, _, ho, _⟩ := md'; ⟨o, ho⟩
  exact d_write (t' := _) I (by rw [e]; exact True.intro) hs he (nO_ok (n_back md' (nRel_put pr ry rv) (Nat.le_trans (vPut_len kvs k ky y) hz) lo))
end
section
variable {X : Cx} {pos : Pos}
theorem pe_dnewN : PE X (.Dict [] [] pos) (fun _ H Q => ∀ p, H p = none → Q (.ref p) (upd H p (nO X.w p []))) := ⟨fun pins s σ H Q I h =>
  wpAny_Dict_empty ⟨.ref s.heap.objs.size, _, I.laid (a := s.heap.objs.size) (o := nO X.w s.heap.objs.size []) (t' := s.toks) (fun _ _ q => Heap.get?_push_of_some _ q) (Nat.le_refl _) (nO_ok (nφ_empty s.heap I.big)), rfl, h _ (I.hok.fresh (Nat.le_refl _))⟩⟩
/-- d.get(k), d.get(k, x) -/
def rGetN (K : PySem.W.Frag) (w : World) : V → List V → Hp → VK → Prop := fun x xs H Q => ∃ (a : Addr) (ky dv : V) (o : Option V), x = .ref a ∧ (xs = [ky, dv] ∨ (xs = [ky] ∧ dv = .non)) ∧ NGet K w H a ky o ∧ Q (o.getD dv) H
theorem mt_getN (hu : X.A.units + 9 < cLine) : MtR X "dict.get" (rGetN X.K X.w) := by
  intro pins s σ H x xs v us Q I rx rxs hh
  obtain ⟨a, ky, dv, o, rfl, hx, g, q⟩ := hh
  cases rx
  have ty := n_typeIs I g
  have lo := n_nosys I g
  rcases hx with rfl | ⟨rfl, rfl⟩
  · cases rxs with
    | @cons _ kv _ _ r1 t =>
      cases t with
      | @cons _ dvv _ _ r2 t =>
        cases t
        refine call_meetsIn (S := fun A R s => A.units + 9 < cLine ∧ Inv X pins σ H s ∧ ∀ z s', Inv X pins σ H s' → RelV (o.getD dv) z → R (.ok (.ret z)) s') F.slot_dict_get ty F.entry_dict_get (F.args_dict_get_3 _ _ _) (.of_wp fun A R s ⟨hu, I, h⟩ => ?_) ⟨hu, I, fun z s' I' rz => ⟨_, H, I', rz, q⟩⟩
        show wpAny _ _ (dictGet a kv >>= _) _ _ s
        refine wpAny_bind (d_getN (A := A.in1) (by show A.units + 1 + 8 < cLine; omega) I g r1 fun ov s' I' ro => ?_)
        cases o with
        | some y => obtain ⟨z, rfl, rz⟩ := relO_some ro; exact wpAny_pure ⟨z, rfl, h z s' I' rz⟩
        | none =>
          cases relO_none ro
          show wpAny _ _ (Builtin.Dict.missed a kv >>= _) _ _ _
          exact wpAny_bind (wpAny_missed_other lo (wpAny_pure ⟨dvv, rfl, h dvv s' I' r2⟩))
  · cases rxs with
    | @cons _ kv _ _ r1 t =>
      cases t
      refine call_meetsIn (S := fun A R s => A.units + 9 < cLine ∧ Inv X pins σ H s ∧ ∀ z s', Inv X pins σ H s' → RelV (o.getD V.non) z → R (.ok (.ret z)) s') F.slot_dict_get ty F.entry_dict_get (PySem.F.args_dict_get_2 _ _) (.of_wp fun A R s ⟨hu, I, h⟩ => ?_) ⟨hu, I, fun z s' I' rz => ⟨_, H, I', rz, q⟩⟩
      show wpAny _ _ (dictGet a kv >>= _) _ _ s
      refine wpAny_bind (d_getN (A := A.in1) (by show A.units + 1 + 8 < cLine; omega) I g r1 fun ov s' I' ro => ?_)
      cases o with
      | some y => obtain ⟨z, rfl, rz⟩ := relO_some ro; exact wpAny_pure ⟨z, rfl, h z s' I' rz⟩
      | none =>
        cases relO_none ro
        show wpAny _ _ (Builtin.Dict.missed a kv >>= _) _ _ _
        exact wpAny_bind (wpAny_missed_other lo (wpAny_pure ⟨.none, rfl, h .none s' I' rfl⟩))
end
end Eg

set_option autoImplicit false
set_option maxRecDepth 100000
set_option maxHeartbeats 1000000
/-! E0c: setdefault of such dicts; methods of dicts of every kind. -/
namespace Eg
open PySem PySem.Spec L2
section
variable {X : Cx} {pins : List (Addr × Obj)} {σ : St} {H : Hp} {s : Shared}
/-- d.setdefault(k, x) -/
def rSetdN (K : PySem.W.Frag) (w : World) : V → List V → Hp → VK → Prop := fun x xs H Q => ∃ (a : Addr) (kvs : List NV) (k : NK) (ky dv : V), x = .ref a ∧ xs = [ky, dv] ∧ H a = some (nO w a kvs) ∧ KNk K H kvs ∧ KN K H k ky ∧ k.depth ≤ 8 ∧ kvs.length + 1 ≤ sizeLine ∧
  match vGet kvs k with
  | some y => Q y H
  | none => Q dv (upd H a (nO w a (kvs ++ [(k, ky, dv)])))
theorem mt_setdN (hu : X.A.units + 9 < cLine) : MtR X "dict.setdefault" (rSetdN X.K X.w) := by
  intro pins s σ H x xs v us Q I rx rxs hh
  obtain ⟨a, kvs, k, ky, dv, rfl, rfl, e, mk, km, dk, hz, q⟩ := hh
  cases rx
  cases rxs with
  | @cons _ kv _ _ r1 t =>
    cases t with
    | @cons _ dvv _ _ r2 t =>
      cases t
      obtain ⟨ys, md, pr, hl, lo⟩ := n_dict I (.inl e) mk
      obtain ⟨g1, g2⟩ := vGet_some (k := k) pr
      have hly : ys.length ≤ sizeLine := by rw [← Paired.length pr]; exact hl
      refine call_meetsIn (S := fun A R s' => s' = s ∧ A.units + 9 < cLine ∧ ∀ z s'', EP X pins σ Q z s'' → R (.ok (.ret z)) s'') PySem.F.slot_dict_setdefault md.typeIs PySem.F.entry_dict_setdefault (PySem.F.args_dict_setdefault_3 _ _ _) (.of_wp fun A R s' ⟨es, hu, h⟩ => ?_) ⟨rfl, hu, fun z s'' q => q⟩
      subst es
      unfold Builtin.«dict.setdefault»
      refine wpAny_bind ?_
      unfold Builtin.Dict.keyAndDefault
      refine wpAny_bind (wpAny_notOrdered_dict md.typeIs ?_)
      show wpAny _ _ (pure (a, kv, some dvv)) _ _ s'
      refine wpAny_pure ?_
      show wpAny _ _ (if (a == sysModules) = true then _ else (dictSetDefault a kv dvv >>= _)) _ _ s'
      rw [if_neg (by rw [lo]; exact Bool.false_ne_true)]
      refine wpAny_bind (setdefault_n (by show A.units + 1 + 8 < cLine; omega) (km.is I r1 dk) md (fun u hg => ?_) (fun hg h' md' hs => ?_) hly)
      · obtain ⟨y, h1, h2⟩ := g1 u hg
        rw [h1] at q
        exact wpAny_pure ⟨u, rfl, h _ _ ⟨y, H, I.tok _, h2, q⟩⟩
      · rw [g2 hg] at q
        have he : ∃ o, h'.get? a = some o := let ⟨o, _, _, ho, _⟩ := md'; ⟨o, ho⟩
        have pr2 : NRel (kvs ++ [(k, ky, dv)]) (ys ++ [(k, kv, dvv)]) := paired_app pr (.cons ⟨rfl, r1, r2⟩ .nil)
        exact wpAny_pure ⟨dvv, rfl, h _ _ ⟨dv, _, d_write (t' := _) I (by rw [e]; exact True.intro) hs he (nO_ok (n_back md' pr2 (by simpa using hz) lo)), r2, q⟩⟩
/-- the value is of that builtin type, or a dict of any kind -/
def tyVA (K : PySem.W.Frag) (w : World) (T : String) (x : V) (H : Hp) : Prop := tyV K T x H ∨ (T = "dict" ∧ ∃ a ps, x = .ref a ∧ NAt K w H a ps)
theorem tyVA_is {T : String} {x : V} {v : Value} (I : Inv X pins σ H s) (r : RelV x v) (ty : tyVA X.K X.w T x H) :
    s.TypeIs v T ∧ ∀ a, v = .ref a → ∃ ob, s.heap.get? a = some ob ∧ ob.dict = none := by
  rcases ty with ty | ⟨rfl, a, ps, rfl, e⟩
  · exact tyV_is I r ty
  · obtain ⟨ys, md, pr, hl, lo⟩ := n_at I e
    cases (show v = Value.ref a from r)
    refine ⟨md.typeIs, fun b eb => ?_⟩
    cases eb
    obtain ⟨o, _, _, ho, hc, _⟩ := md
    exact ⟨o, ho, hc.2.1⟩
def tBMA (K : PySem.W.Frag) (w : World) (T : String) (r : V → List V → Hp → VK → Prop) (to : TE) (t : TA) : TE := fun σ H Q => to σ H fun x H1 => tyVA K w T x H1 ∧ t σ H1 fun vs H2 => r x vs H2 Q
def tBMA0 (K : PySem.W.Frag) (w : World) (T : String) (r : V → List V → Hp → VK → Prop) (to : TE) : TE := fun σ H Q => to σ H fun x H1 => tyVA K w T x H1 ∧ r x [] H1 Q
variable {o e : Expr} {es : List Expr} {to : TE} {t : TA} {name : Str} {id T : String} {apos cpos : Pos} {r : V → List V → Hp → VK → Prop}
theorem pe_bmA (pa : PlainAttrs T) (slot : Slot T name id) (hty : typeOf (.builtin id) = pure (.type "method_descriptor")) (hm : MtR X id r) (ho : PE X o to) (ha : PA X (e :: es) t)
    (hbase : attributeBase o name X.env (eval o X.env) = eval o X.env := by rfl)
    (hfew : ((backTo cpos (starEach (e :: es) X.env)).all (fun x => !x.1) && (backToKw cpos (keywordEach [] X.env)).all (fun x => x.1.isSome)
      && decide ((e :: es).length + ([] : List Keyword).length + (if ([] : List Keyword).isEmpty then 0 else 1) < 30)) = true := by rfl)
    (hline : (apos.endLine == cpos.line) = true := by rfl) (hs : starEach (e :: es) X.env = (false, eval e X.env) :: starEach es X.env := by rfl) (hplain : (backTo cpos (starEach es X.env)).any (·.1) = false := by rfl) :
    PE X (.Call (.Attribute o name apos) (e :: es) [] cpos) (tBMA X.K X.w T r to t) := by
  refine ⟨fun pins s σ H Q I h => ?_⟩
  refine wpAny_Call_method_late hbase hfew hline rfl (thn (ho.run pins s σ H _ I h) fun v s1 ⟨x, H1, I1, r1, ty, q1⟩ => ?_)
  obtain ⟨h1, h2⟩ := tyVA_is I1 r1 ty
  refine ⟨T, id, pa, slot, hty, h1, h2, ?_⟩
  have hA := ha.run cpos pins s1 σ H1 _ I1 q1
  rw [hs] at hA ⊢
  refine Calls.callWith_builtin (by show (false || (backTo cpos (starEach es X.env)).any (·.1)) = false; rw [hplain] <;> rfl) (Calls.evalArgs_plain ?_)
  exact thn hA fun us s2 ⟨vs, H2, I2, r2, q2⟩ => hm pins s2 σ H2 x vs v us Q I2 r1 r2 q2
end
end Eg

set_option autoImplicit false
set_option maxRecDepth 100000
set_option maxHeartbeats 1000000
/-! E1: values, objects, codes of the engine; how they lie in the layer's heap. -/
namespace Eg
open PySem L2

/-- the signs of a text of the law's; of a name -/
def okSign (c : Nat) : Bool := Nat.ble 32 c && Nat.ble c 126
def okNamed (c : Nat) : Bool := (Nat.ble 97 c && Nat.ble c 122) || (Nat.ble 65 c && Nat.ble c 90) || (Nat.ble 48 c && Nat.ble c 57) || Nat.beq c 46 || Nat.beq c 45 || Nat.beq c 95
def okTx (nm : Bool) (l : List Nat) : Bool := Nat.ble l.length 300 && l.all okSign && (!nm || (l.all okNamed && !(l == []) && !(l == [46]) && !(l == [46, 46])))
/-- a text that is kept as a letter; nm: it is a name -/
structure TX where
  nm : Bool
  l : List Nat
  ok : okTx nm l = true
instance : Inhabited TX := ⟨⟨false, [], by decide⟩⟩
inductive EV where
  | non | bl (b : Bool) | int (i : Int) | str (x : List Nat) | tup (xs : List EV) | lst (xs : List EV) | dct (t : Bool) (ks vs : List EV) | rp (v : EV) | kt (xs : List EV) | ref (n : Nat) | scr | tx (x : TX)
  | clo (i : Nat) (caps : List EV) | exc (c : Nat) (v : EV)
  deriving Inhabited

inductive EO where
  | lst (xs : List EV) | dic (t : Bool) (ks vs : List EV) | ins (c : Nat) (fs : List (Nat × EV)) | pot (z : Nat) | fdic (t : Bool) (ks vs : List EV)
  | mix (lk : Bool) (ks vs : List EV) | tab (i : Nat) | junk
  deriving Inhabited

abbrev EH := List EO
abbrev ES := List (Option EV)
/-- the code of an expression: slots, heap, what follows -/
abbrev KE := ES → EH → (EV → EH → Bool) → Bool
abbrev KA := ES → EH → (List EV → EH → Bool) → Bool
abbrev KT := ES → EH → (Bool → EH → Bool) → Bool
/-- a def: its arguments -/
abbrev KF := List EV → EH → (EV → EH → Bool) → Bool
/-- a statement: what follows it, a return, break, continue -/
abbrev KS := ES → EH → (ES → EH → Bool) → (EV → EH → Bool) → (ES → EH → Bool) → (ES → EH → Bool) → Bool

/-! ### values as the library's data -/
mutual
def toPD : EV → Option PyData
  | .non => some .none
  | .bl b => some (.bool b)
  | .int i => some (.int i)
  | .str x => some (.str ⟨x.toArray⟩)
  | .tup xs => (toPDs xs).map .tuple
  | .lst xs => (toPDs xs).map .list
  | .dct _ _ _ => none
  | .rp _ => none
  | .kt xs => (toPDs xs).map .tuple
  | .ref _ => none
  | .scr => none
  | .tx t => some (.str ⟨t.l.toArray⟩)
  | .clo _ _ => none
  | .exc _ _ => none
def toPDs : List EV → Option (List PyData)
  | [] => some []
  | x :: xs => match toPD x, toPDs xs with
    | some d, some ds => some (d :: ds)
    | _, _ => none
end

/-- where the engine's values and objects lie: the written part, the classes' addresses, the fields' names -/
structure LamI where
  qual : Str
  params : Arguments
  body : Expr
  scope : Scope
  fv : List Str
structure Cn where
  K : PySem.W.Frag
  cls : Nat → Addr
  fld : Nat → Str
  nc : Nat
  nf : Nat
  w : World
  lam : Nat → LamI
  /-- the cells of the frame that runs -/
  cl : Str → Option Addr

mutual
def nkey : EV → Option NK
  | .non => some .none
  | .int i => some (.num i)
  | .str x => some (.text ⟨x.toArray⟩)
  | .tup xs => (nkeys xs).map .tup
  | .kt xs => (nkeys xs).map .tup
  | .bl _ => none
  | .lst _ => none
  | .dct _ _ _ => none
  | .rp _ => none
  | .ref _ => none
  | .scr => none
  | .tx _ => none
  | .clo _ _ => none
  | .exc _ _ => none
def nkeys : List EV → Option (List NK)
  | [] => some []
  | x :: xs => match nkey x, nkeys xs with
    | some d, some ds => some (d :: ds)
    | _, _ => none
end
/-- a name as a number -/
def encL : List Nat → Nat
  | [] => 0
  | a :: l => 2 ^ a * (2 * encL l + 1)
theorem encL_inj : ∀ {l m : List Nat}, encL l = encL m → l = m
  | [], [], _ => rfl
  | [], b :: m, h => by
    have h : 0 = 2 ^ b * (2 * encL m + 1) := h
    have : 0 < 2 ^ b * (2 * encL m + 1) := Nat.mul_pos (Nat.two_pow_pos b) (by omega)
    omega
  | a :: l, [], h => by
    have h : 2 ^ a * (2 * encL l + 1) = 0 := h
    have : 0 < 2 ^ a * (2 * encL l + 1) := Nat.mul_pos (Nat.two_pow_pos a) (by omega)
    omega
  | a :: l, b :: m, h => by
    have h : 2 ^ a * (2 * encL l + 1) = 2 ^ b * (2 * encL m + 1) := h
    have key : ∀ (a b x y : Nat), a < b → 2 ^ a * (2 * x + 1) ≠ 2 ^ b * (2 * y + 1) := fun a b x y lt e => by
      obtain ⟨d, rfl⟩ : ∃ d, b = a + (d + 1) := ⟨b - a - 1, by omega⟩
      rw [Nat.pow_add, Nat.mul_assoc] at e
      have e := Nat.eq_of_mul_eq_mul_left (Nat.two_pow_pos a) e
      rw [Nat.pow_succ, Nat.mul_comm (2 ^ d) 2, Nat.mul_assoc] at e
      omega
    have ab : a = b := by
      rcases Nat.lt_trichotomy a b with q | q | q
      · exact (key a b _ _ q h).elim
      · exact q
      · exact (key b a _ _ q h.symm).elim
    subst ab
    have e := Nat.eq_of_mul_eq_mul_left (Nat.two_pow_pos a) h
    rw [encL_inj (l := l) (m := m) (by omega)]
def nameTag (x : Str) : Nat := encL x.cps.toList
theorem nameTag_inj {x y : Str} (h : nameTag x = nameTag y) : x = y := by
  obtain ⟨a⟩ := x
  obtain ⟨b⟩ := y
  have : a.toList = b.toList := encL_inj h
  obtain ⟨a⟩ := a
  obtain ⟨b⟩ := b
  simp at this
  rw [this]
/-- the code object at c, of the name q -/
def CodeAt (H : Hp) (c : Addr) (q : Str) : Prop := ∃ oc vs t, H c = some (.frz oc (.own c)) ∧ oc.data = .fields vs ∧ vs[1]? = some (.str q t)
/-- the lambda's function object at f, its cells -/
def FunAt (G : Cn) (H : Hp) (f : Addr) (i : Nat) (cl : List (Str × Addr)) : Prop := ∃ fo pm c' ctv, H f = some (.frz fo (.own f)) ∧
  fo = PySem.W.kla_obj "<lambda>" (G.lam i).qual (G.lam i).params (G.lam i).body (G.lam i).scope cl pm c' ctv ∧ CodeAt H c' (G.lam i).qual
/-- the cell of the name holds the value, or it is the frame's own -/
def CellOk (G : Cn) (H : Hp) (nm : Str) (c : Addr) (y : V) : Prop := G.cl nm = some c ∨ ∃ oc u, H c = some (.frz oc (.own (nameTag nm))) ∧ oc.data = .cell (some u) ∧ RelV y u
def CapsOk (G : Cn) (H : Hp) (cl : List (Str × Addr)) : List Str → List V → Prop
  | [], ys => ys = []
  | nm :: ns, ys => ∃ z zs c, ys = z :: zs ∧ cl.lookup nm = some c ∧ CellOk G H nm c z ∧ CapsOk G H cl ns zs
theorem CodeAt.stay {H H' : Hp} {c : Addr} {q : Str} (f : ∀ b o u, H b = some (.frz o u) → H' b = some (.frz o u)) (x : CodeAt H c q) : CodeAt H' c q :=
  let ⟨oc, vs, t, e, r⟩ := x; ⟨oc, vs, t, f _ _ _ e, r⟩
theorem FunAt.stay {G : Cn} {H H' : Hp} {a : Addr} {i : Nat} {cl : List (Str × Addr)} (f : ∀ b o u, H b = some (.frz o u) → H' b = some (.frz o u)) (x : FunAt G H a i cl) : FunAt G H' a i cl :=
  let ⟨fo, pm, c', ctv, e, r, c⟩ := x; ⟨fo, pm, c', ctv, f _ _ _ e, r, c.stay f⟩
theorem CapsOk.stay {G : Cn} {H H' : Hp} {cl : List (Str × Addr)} (f : ∀ b o u, H b = some (.frz o u) → H' b = some (.frz o u)) : ∀ {ns : List Str} {ys : List V}, CapsOk G H cl ns ys → CapsOk G H' cl ns ys
  | [], ys, x => by unfold CapsOk at x ⊢; exact x
  | nm :: ns, ys, x => by
    unfold CapsOk at x ⊢
    obtain ⟨z, zs, c, e, l, k, r⟩ := x
    exact ⟨z, zs, c, e, l, k.imp id fun ⟨oc, u, e, r⟩ => ⟨oc, u, f _ _ _ e, r⟩, CapsOk.stay f r⟩

def kOf : EV → Option Key
  | .int i => some (.inl i)
  | .str x => some (.inr ⟨x.toArray⟩)
  | _ => none
def ofs {κ : Type} (f : EV → Option κ) : List EV → Option (List κ)
  | [] => some []
  | x :: xs => match f x, ofs f xs with
    | some k, some ks => some (k :: ks)
    | _, _ => none
abbrev kOfs := ofs kOf
def tOf : EV → Option (List Key)
  | .tup xs => ofs kOf xs
  | _ => none
abbrev tOfs := ofs tOf

/-- a dict of this kind lies at a: its keys, its values as they lie -/
def DR (H : Hp) (t : Bool) (ks : List EV) (a : Addr) (ys : List V) : Prop := match t with
  | false => ∃ kk, kOfs ks = some kk ∧ kk.length = ys.length ∧ H a = some (.dK (kk.zip ys))
  | true => ∃ kk, tOfs ks = some kk ∧ kk.length = ys.length ∧ H a = some (.dT (kk.zip ys))
theorem DR.stay {H H' : Hp} {t : Bool} {ks : List EV} {a : Addr} {ys : List V} (d : DR H t ks a ys) (e : ∀ o, H a = some o → H' a = some o) : DR H' t ks a ys := by
  cases t with
  | false => obtain ⟨kk, h1, h2, q⟩ := d; exact ⟨kk, h1, h2, e _ q⟩
  | true => obtain ⟨kk, h1, h2, q⟩ := d; exact ⟨kk, h1, h2, e _ q⟩
theorem DR.obj {H : Hp} {t : Bool} {ks : List EV} {a : Addr} {ys : List V} (d : DR H t ks a ys) : ∃ o, H a = some o ∧ (∀ xs, o ≠ .tup xs) ∧ (∀ ob u, o ≠ .frz ob u) := by
  cases t with
  | false => obtain ⟨kk, h1, h2, q⟩ := d; exact ⟨_, q, fun _ z => (nomatch z), fun _ _ z => (nomatch z)⟩
  | true => obtain ⟨kk, h1, h2, q⟩ := d; exact ⟨_, q, fun _ z => (nomatch z), fun _ _ z => (nomatch z)⟩

/-- the same, where it may be locked -/
def DRr (H : Hp) (t : Bool) (ks : List EV) (a : Addr) (ys : List V) : Prop := match t with
  | false => ∃ kk, kOfs ks = some kk ∧ kk.length = ys.length ∧ Rd H a (.dK (kk.zip ys))
  | true => ∃ kk, tOfs ks = some kk ∧ kk.length = ys.length ∧ Rd H a (.dT (kk.zip ys))
theorem DR.rd {H : Hp} {t : Bool} {ks : List EV} {a : Addr} {ys : List V} (d : DR H t ks a ys) : DRr H t ks a ys := by
  cases t with
  | false => obtain ⟨kk, h1, h2, q⟩ := d; exact ⟨kk, h1, h2, .inl q⟩
  | true => obtain ⟨kk, h1, h2, q⟩ := d; exact ⟨kk, h1, h2, .inl q⟩
theorem Rd.stay {H H' : Hp} {a : Addr} {u : HO} (r : Rd H a u) (e : ∀ o, H a = some o → H' a = some o) : Rd H' a u := r.elim (fun q => .inl (e _ q)) fun ⟨o, q⟩ => .inr ⟨o, e _ q⟩
theorem DRr.stay {H H' : Hp} {t : Bool} {ks : List EV} {a : Addr} {ys : List V} (d : DRr H t ks a ys) (e : ∀ o, H a = some o → H' a = some o) : DRr H' t ks a ys := by
  cases t with
  | false => obtain ⟨kk, h1, h2, q⟩ := d; exact ⟨kk, h1, h2, Rd.stay q e⟩
  | true => obtain ⟨kk, h1, h2, q⟩ := d; exact ⟨kk, h1, h2, Rd.stay q e⟩
theorem Rd.some {H : Hp} {a : Addr} {u : HO} (r : Rd H a u) : ∃ o, H a = Option.some o := r.elim (fun q => ⟨_, q⟩) fun ⟨o, q⟩ => ⟨_, q⟩
theorem DRr.obj {H : Hp} {t : Bool} {ks : List EV} {a : Addr} {ys : List V} (d : DRr H t ks a ys) : ∃ o, H a = some o := by
  cases t with
  | false => obtain ⟨kk, h1, h2, q⟩ := d; exact Rd.some q
  | true => obtain ⟨kk, h1, h2, q⟩ := d; exact Rd.some q

/-- the same, locked -/
def DRz (H : Hp) (t : Bool) (ks : List EV) (a : Addr) (ys : List V) : Prop := match t with
  | false => ∃ kk o, kOfs ks = some kk ∧ kk.length = ys.length ∧ H a = some (.frz o (.dK (kk.zip ys)))
  | true => ∃ kk o, tOfs ks = some kk ∧ kk.length = ys.length ∧ H a = some (.frz o (.dT (kk.zip ys)))
theorem DRz.rd {H : Hp} {t : Bool} {ks : List EV} {a : Addr} {ys : List V} (d : DRz H t ks a ys) : DRr H t ks a ys := by
  cases t with
  | false => obtain ⟨kk, o, h1, h2, q⟩ := d; exact ⟨kk, h1, h2, .inr ⟨o, q⟩⟩
  | true => obtain ⟨kk, o, h1, h2, q⟩ := d; exact ⟨kk, h1, h2, .inr ⟨o, q⟩⟩
theorem DRz.stay {H H' : Hp} {t : Bool} {ks : List EV} {a : Addr} {ys : List V} (d : DRz H t ks a ys) (e : ∀ o, H a = some o → H' a = some o) : DRz H' t ks a ys := by
  cases t with
  | false => obtain ⟨kk, o, h1, h2, q⟩ := d; exact ⟨kk, o, h1, h2, e _ q⟩
  | true => obtain ⟨kk, o, h1, h2, q⟩ := d; exact ⟨kk, o, h1, h2, e _ q⟩
theorem DRz.obj {H : Hp} {t : Bool} {ks : List EV} {a : Addr} {ys : List V} (d : DRz H t ks a ys) : ∃ o, H a = some o ∧ (∀ xs, o ≠ .tup xs) := by
  cases t with
  | false => obtain ⟨kk, ob, h1, h2, q⟩ := d; exact ⟨_, q, fun _ z => (nomatch z)⟩
  | true => obtain ⟨kk, ob, h1, h2, q⟩ := d; exact ⟨_, q, fun _ z => (nomatch z)⟩
/-- a locked dict -/
def isF : EO → Bool
  | .fdic _ _ _ => true
  | .mix lk _ _ => lk
  | _ => false
/-- no locked dict is there -/
def NF (h : EH) (n : Nat) : Prop := ∀ o, h[n]? = some o → isF o = false
theorem nf_of {h : EH} {n : Nat} {o : EO} (e : h[n]? = some o) (i : isF o = false) : NF h n := fun o' e' => by rw [e] at e'; cases e'; exact i

theorem nf_lst {h : EH} {n : Nat} {l : List EV} (e : h[n]? = some (.lst l)) : NF h n := nf_of e rfl
theorem nf_dic {h : EH} {n : Nat} {t : Bool} {k l : List EV} (e : h[n]? = some (.dic t k l)) : NF h n := nf_of e rfl
theorem nf_ins {h : EH} {n : Nat} {c : Nat} {l : List (Nat × EV)} (e : h[n]? = some (.ins c l)) : NF h n := nf_of e rfl
theorem nf_mix {h : EH} {n : Nat} {k l : List EV} (e : h[n]? = some (.mix false k l)) : NF h n := nf_of e rfl
theorem nf_tab {h : EH} {n : Nat} {i : Nat} (e : h[n]? = some (.tab i)) : NF h n := nf_of e rfl
theorem nf_pot {h : EH} {n : Nat} {z : Nat} (e : h[n]? = some (.pot z)) : NF h n := nf_of e rfl
/-- where the engine's objects lie; what is nobody's (a comprehension's list as it grows) -/
structure Rho where
  f : Nat → Addr
  ban : Addr → Prop
instance : CoeFun Rho (fun _ => Nat → Addr) := ⟨Rho.f⟩
/-- not the engine's, and nobody's else -/
def Rho.un (ρ : Rho) (L : Nat) (a : Addr) : Prop := ¬ ρ.ban a ∧ ∀ n, n < L → ρ n ≠ a

/-- a list that nobody can change: the law's script -/
def SqS (K : PySem.W.Frag) (H : Hp) (a : Addr) (xs : List V) : Prop :=
  (∃ o, H a = some (.frz o (.lst xs))) ∨ ∃ (o : Obj) (its : Array Value) (n : Nat), K.lookup a = some o ∧ o.cls = .type "list" ∧ o.dict = none ∧ o.data = .seq its n ∧ its.size ≤ sizeLine ∧ Vals xs its.toList
theorem SqS.sq {K : PySem.W.Frag} {H : Hp} {a : Addr} {xs : List V} (q : SqS K H a xs) : SqL K H a xs := q.elim (fun ⟨o, e⟩ => .inl (.inr ⟨o, e⟩)) .inr
theorem SqS.stay {K : PySem.W.Frag} {H H' : Hp} {a : Addr} {xs : List V} (f : ∀ b o u, H b = some (.frz o u) → H' b = some (.frz o u)) (q : SqS K H a xs) : SqS K H' a xs := q.elim (fun ⟨o, e⟩ => .inl ⟨o, f a o _ e⟩) .inr
section
variable (G : Cn) (ρ : Rho) (L : Nat) (H : Hp)
mutual
def RV : EV → V → Prop
  | .non, x => x = .non
  | .bl b, x => x = .bl b
  | .int i, x => x = .int i
  | .str c, x => x = .str ⟨c.toArray⟩
  | .tup xs, x => ∃ a ys, x = .ref a ∧ H a = some (.tup ys) ∧ RVs xs ys
  | .lst xs, x => ∃ a ys, x = .ref a ∧ H a = some (.lst ys) ∧ ρ.un L a ∧ RVs xs ys
  | .dct t ks vs, x => ∃ a ys, x = .ref a ∧ ρ.un L a ∧ RVs vs ys ∧ DRr H t ks a ys
  | .rp v, x => ∃ d, toPD v = some d ∧ x = .str d.shown
  | .kt xs, x => ∃ a ys, x = .ref a ∧ SqT G.K H a ys ∧ RVs xs ys
  | .ref n, x => n < L ∧ x = .ref (ρ n)
  | .scr, x => ∃ (a : Addr) (ns : List Int), x = .ref a ∧ SqS G.K H a (ns.map V.int) ∧ ns.length ≤ 1000000
  | .tx t, x => x = .str ⟨t.l.toArray⟩
  | .clo i caps, x => ∃ f cl ys, x = .ref f ∧ FunAt G H f i cl ∧ CapsOk G H cl (G.lam i).fv ys ∧ RVs caps ys
  | .exc c v, x => ∃ a oe vs d od y, x = .ref a ∧ H a = some (.frz oe (.own a)) ∧ oe.cls = .ref (G.cls c) ∧ oe.dict = some d ∧ oe.data = .fields vs ∧ c < G.nc ∧ H d = some (.frz od (.xd [("value", y)])) ∧ RV v y
def RVs : List EV → List V → Prop
  | [], ys => ys = []
  | x :: xs, ys => ∃ z zs, ys = z :: zs ∧ RV x z ∧ RVs xs zs
end
def RF : List (Nat × EV) → List (Str × V) → Prop
  | [], ys => ys = []
  | (n, x) :: xs, ys => ∃ z zs, ys = (G.fld n, z) :: zs ∧ n < G.nf ∧ RV G ρ L H x z ∧ RF xs zs
def RO : EO → Addr → Prop
  | .lst xs, a => ∃ ys, H a = some (.lst ys) ∧ RVs G ρ L H xs ys
  | .dic t ks vs, a => ∃ ys, RVs G ρ L H vs ys ∧ DR H t ks a ys
  | .ins c fs, a => ∃ dx ys, H a = some (.ins (G.cls c) dx ys) ∧ c < G.nc ∧ RF G ρ L H fs ys
  | .pot z, a => ∃ x y w : Int, H a = some (.lst [.int x, .int y, .int w]) ∧ 0 ≤ x ∧ 0 ≤ y ∧ y < 2305843009213693952 ∧ 0 ≤ w ∧ w ≤ (z : Int)
  | .fdic t ks vs, a => ∃ ys, RVs G ρ L H vs ys ∧ DRz H t ks a ys
  | .mix lk ks vs, a => ∃ nks kys ys, nkeys ks = some nks ∧ (∀ k ∈ nks, k.depth ≤ 8) ∧ RVs G ρ L H ks kys ∧ RVs G ρ L H vs ys ∧ vs.length = ks.length ∧ match lk with
    | false => H a = some (nO G.w a (nks.zip (kys.zip ys)))
    | true => ∃ o, H a = some (.frz o (nO G.w a (nks.zip (kys.zip ys))))
  | .tab i, a => ∃ ps : Array Value, H a = some (.tbl ps) ∧ TriplesOk ps.toList ∧ ∀ (pos : Pos) (cv : Value), codeAmong pos ps.toList = some cv → ∃ c, cv = .ref c ∧ CodeAt H c (G.lam i).qual
  | .junk, a => ∃ o, H a = some o ∧ (∀ xs, o ≠ .tup xs) ∧ ∀ ob u, o ≠ .frz ob u
end

structure Sim (G : Cn) (ρ : Rho) (h : EH) (H : Hp) : Prop where
  obj : ∀ n o, h[n]? = some o → RO G ρ h.length H o (ρ n)
  inj : ∀ n m, n < h.length → m < h.length → ρ n = ρ m → n = m
  ban : ∀ b, ρ.ban b → (∃ o, H b = some o) ∧ ∀ n, n < h.length → ρ n ≠ b

/-- from one state to a later one -/
structure Post (G : Cn) (ρ : Rho) (h : EH) (H : Hp) (ρ' : Rho) (h' : EH) (H' : Hp) : Prop where
  sim : Sim G ρ' h' H'
  len : h.length ≤ h'.length
  ext : ∀ n, n < h.length → ρ' n = ρ n
  frame : ∀ b o, H b = some o → (∀ n, n < h.length → ρ n ≠ b) → H' b = some o
  fresh : ∀ n, h.length ≤ n → n < h'.length → H (ρ' n) = none
  tups : ∀ b xs, H b = some (.tup xs) → H' b = some (.tup xs)
  frzs : ∀ b o u, H b = some (.frz o u) → H' b = some (.frz o u)
  ban : ρ'.ban = ρ.ban

def RS (G : Cn) (ρ : Rho) (L : Nat) (H : Hp) : ES → St → Prop
  | [], σ => σ = []
  | s :: ss, σ => ∃ z zs, σ = z :: zs ∧ (∀ v, s = some v → ∃ x, z = some x ∧ RV G ρ L H v x) ∧ RS G ρ L H ss zs

/-! ### what stays -/
section
variable {G : Cn} {ρ ρ' ρ'' : Rho} {h h' h'' : EH} {H H' H'' : Hp} {L L' : Nat}

/-- an object of the engine's is no tuple and nothing frozen -/
theorem RO.notup {o : EO} {a : Addr} (r : RO G ρ L H o a) : (∀ xs, H a ≠ some (.tup xs)) ∧ (isF o = false → ∀ ob u, H a ≠ some (.frz ob u)) := by
  cases o with
  | lst xs => obtain ⟨ys, e, _⟩ := r; rw [e]; exact ⟨fun _ q => (nomatch q), fun _ _ _ q => (nomatch q)⟩
  | dic t ks vs =>
    obtain ⟨ys, _, r⟩ := r
    obtain ⟨o, e, h1, h2⟩ := r.obj
    rw [e]
    exact ⟨fun xs q => h1 xs (Option.some.inj q), fun _ ob u q => h2 ob u (Option.some.inj q)⟩
  | ins c fs => obtain ⟨dx, ys, e, _⟩ := r; rw [e]; exact ⟨fun _ q => (nomatch q), fun _ _ _ q => (nomatch q)⟩
  | pot z => obtain ⟨x, y, w, e, _⟩ := r; rw [e]; exact ⟨fun _ q => (nomatch q), fun _ _ _ q => (nomatch q)⟩
  | fdic t ks vs =>
    obtain ⟨ys, _, r⟩ := r
    obtain ⟨o, e, h1⟩ := r.obj
    rw [e]
    exact ⟨fun xs q => h1 xs (Option.some.inj q), fun z => nomatch z⟩
  | mix lk ks vs =>
    obtain ⟨nks, kys, ys, _, _, _, _, _, e⟩ := r
    cases lk with
    | false => rw [show H a = _ from e]; exact ⟨fun _ q => (nomatch q), fun _ _ _ q => (nomatch q)⟩
    | true => obtain ⟨o, e⟩ := e; rw [e]; exact ⟨fun _ q => (nomatch q), fun z => nomatch z⟩
  | tab i => obtain ⟨ps, e, _⟩ := r; rw [e]; exact ⟨fun _ q => (nomatch q), fun _ _ _ q => (nomatch q)⟩
  | junk => obtain ⟨o, e, h1, h2⟩ := r; rw [e]; exact ⟨fun xs q => h1 xs (Option.some.inj q), fun _ ob u q => h2 ob u (Option.some.inj q)⟩
theorem RO.isAt {o : EO} {a : Addr} (r : RO G ρ L H o a) : ∃ u, H a = Option.some u := by
  cases o with
  | lst xs => obtain ⟨ys, e, _⟩ := r; exact ⟨_, e⟩
  | dic t ks vs => obtain ⟨ys, _, r⟩ := r; obtain ⟨o, e, _⟩ := r.obj; exact ⟨_, e⟩
  | ins c fs => obtain ⟨dx, ys, e, _⟩ := r; exact ⟨_, e⟩
  | pot z => obtain ⟨x, y, w, e, _⟩ := r; exact ⟨_, e⟩
  | fdic t ks vs => obtain ⟨ys, _, r⟩ := r; obtain ⟨o, e, _⟩ := r.obj; exact ⟨_, e⟩
  | mix lk ks vs =>
    obtain ⟨nks, kys, ys, _, _, _, _, _, e⟩ := r
    cases lk with
    | false => exact ⟨_, e⟩
    | true => obtain ⟨o, e⟩ := e; exact ⟨_, e⟩
  | tab i => obtain ⟨ps, e, _⟩ := r; exact ⟨_, e⟩
  | junk => obtain ⟨o, e, _⟩ := r; exact ⟨_, e⟩

theorem Sim.at (S : Sim G ρ h H) {n : Nat} (hn : n < h.length) : ∃ o, h[n]? = some o ∧ RO G ρ h.length H o (ρ n) :=
  ⟨h[n], List.getElem?_eq_getElem hn, S.obj n _ (List.getElem?_eq_getElem hn)⟩
theorem Sim.ne_tup (S : Sim G ρ h H) {b : Addr} {xs : List V} (e : H b = some (.tup xs)) : ∀ n, n < h.length → ρ n ≠ b := fun n hn q => by
  obtain ⟨o, _, r⟩ := S.at hn
  exact r.notup.1 xs (by rw [q]; exact e)
theorem Sim.ne_frz (S : Sim G ρ h H) {b : Addr} {ob : Obj} {u : HO} (e : H b = some (.frz ob u)) {n : Nat} (nf : NF h n) (hn : n < h.length) : ρ n ≠ b := fun q => by
  obtain ⟨o, eo, r⟩ := S.at hn
  exact r.notup.2 (nf o eo) ob u (by rw [q]; exact e)

theorem Post.refl (S : Sim G ρ h H) : Post G ρ h H ρ h H :=
  ⟨S, Nat.le_refl _, fun _ _ => rfl, fun _ _ e _ => e, fun _ h1 h2 => absurd h2 (Nat.not_lt.mpr h1), fun _ _ e => e, fun _ _ _ e => e, rfl⟩
theorem Post.trans (a : Post G ρ h H ρ' h' H') (b : Post G ρ' h' H' ρ'' h'' H'') : Post G ρ h H ρ'' h'' H'' where
  sim := b.sim
  len := Nat.le_trans a.len b.len
  ext := fun n hn => (b.ext n (Nat.lt_of_lt_of_le hn a.len)).trans (a.ext n hn)
  frame := fun c o e hc => b.frame c o (a.frame c o e hc) fun n hn q => by
    by_cases hl : n < h.length
    · exact hc n hl ((a.ext n hl).symm.trans q)
    · have := a.fresh n (Nat.le_of_not_lt hl) hn
      rw [q, e] at this
      cases this
  fresh := fun n h1 h2 => by
    by_cases hl : n < h'.length
    · rw [b.ext n hl]; exact a.fresh n h1 hl
    · cases q : H (ρ'' n) with
      | none => rfl
      | some o =>
        have z := b.fresh n (Nat.le_of_not_lt hl) h2
        by_cases hx : ∃ m, m < h.length ∧ ρ m = ρ'' n
        · obtain ⟨m, hm, em⟩ := hx
          have hm' := Nat.lt_of_lt_of_le hm a.len
          obtain ⟨o2, _, r⟩ := a.sim.at hm'
          rw [a.ext m hm, em] at r
          have : ∃ u, H' (ρ'' n) = some u := r.isAt
          obtain ⟨u, e⟩ := this
          rw [z] at e; cases e
        · have := a.frame _ o q fun m hm em => hx ⟨m, hm, em⟩
          rw [z] at this; cases this
  tups := fun c xs e => b.tups c xs (a.tups c xs e)
  frzs := fun c o u e => b.frzs c o u (a.frzs c o u e)
  ban := b.ban.trans a.ban

theorem SqT.stay {K : PySem.W.Frag} {a : Addr} {xs : List V} (t : ∀ b ys, H b = some (.tup ys) → H' b = some (.tup ys)) (f : ∀ b o u, H b = some (.frz o u) → H' b = some (.frz o u)) (q : SqT K H a xs) : SqT K H' a xs := by
  rcases q with (q | ⟨o, q⟩) | q
  · exact .inl (.inl (t a xs q))
  · exact .inl (.inr ⟨o, f a o _ q⟩)
  · exact .inr q

mutual
theorem RV.stay (ext : ∀ n, n < L → ρ' n = ρ n) (len : L ≤ L') (frame : ∀ b o, H b = some o → (∀ n, n < L → ρ n ≠ b) → H' b = some o) (fresh : ∀ n, L ≤ n → n < L' → H (ρ' n) = none)
    (tups : ∀ b xs, H b = some (.tup xs) → H' b = some (.tup xs)) (frzs : ∀ b o u, H b = some (.frz o u) → H' b = some (.frz o u)) (bn : ρ'.ban = ρ.ban) :
    ∀ (v : EV) (x : V), RV G ρ L H v x → RV G ρ' L' H' v x
  | .non, x, r => by unfold RV at r ⊢; exact r
  | .bl b, x, r => by unfold RV at r ⊢; exact r
  | .int i, x, r => by unfold RV at r ⊢; exact r
  | .str c, x, r => by unfold RV at r ⊢; exact r
  | .tup xs, x, r => by
    unfold RV at r ⊢
    obtain ⟨a, ys, e, q, rr⟩ := r
    exact ⟨a, ys, e, tups a ys q, RVs.stay ext len frame fresh tups frzs bn xs ys rr⟩
  | .kt xs, x, r => by
    unfold RV at r ⊢
    obtain ⟨a, ys, e, q, rr⟩ := r
    exact ⟨a, ys, e, SqT.stay tups frzs q, RVs.stay ext len frame fresh tups frzs bn xs ys rr⟩
  | .lst xs, x, r => by
    unfold RV at r ⊢
    obtain ⟨a, ys, e, q, n, rr⟩ := r
    refine ⟨a, ys, e, frame a _ q n.2, ⟨bn ▸ n.1, fun m hm z => ?_⟩, RVs.stay ext len frame fresh tups frzs bn xs ys rr⟩
    by_cases hl : m < L
    · exact n.2 m hl ((ext m hl).symm.trans z)
    · have := fresh m (Nat.le_of_not_lt hl) hm
      rw [z, q] at this; cases this
  | .dct t ks vs, x, r => by
    unfold RV at r ⊢
    obtain ⟨a, ys, e, n, rr, q⟩ := r
    obtain ⟨o, eo⟩ := q.obj
    refine ⟨a, ys, e, ⟨bn ▸ n.1, fun m hm z => ?_⟩, RVs.stay ext len frame fresh tups frzs bn vs ys rr, q.stay fun o eo => frame a _ eo n.2⟩
    by_cases hl : m < L
    · exact n.2 m hl ((ext m hl).symm.trans z)
    · have := fresh m (Nat.le_of_not_lt hl) hm
      rw [z, eo] at this; cases this
  | .rp v, x, r => by unfold RV at r ⊢; exact r
  | .ref n, x, r => by
    unfold RV at r ⊢
    exact ⟨Nat.lt_of_lt_of_le r.1 len, by rw [ext n r.1]; exact r.2⟩
  | .scr, x, r => by
    unfold RV at r ⊢
    obtain ⟨a, ns, e, q, l⟩ := r
    exact ⟨a, ns, e, q.stay frzs, l⟩
  | .tx t, x, r => by unfold RV at r ⊢; exact r
  | .clo i caps, x, r => by
    unfold RV at r ⊢
    obtain ⟨f, cl, ys, e, fa, co, rr⟩ := r
    exact ⟨f, cl, ys, e, fa.stay frzs, co.stay frzs, RVs.stay ext len frame fresh tups frzs bn caps ys rr⟩
  | .exc c v, x, r => by
    unfold RV at r ⊢
    obtain ⟨a, oe, vs, d, od, y, e, ha, h1, h2, h3, h4, hd, rr⟩ := r
    exact ⟨a, oe, vs, d, od, y, e, frzs _ _ _ ha, h1, h2, h3, h4, frzs _ _ _ hd, RV.stay ext len frame fresh tups frzs bn v y rr⟩
theorem RVs.stay (ext : ∀ n, n < L → ρ' n = ρ n) (len : L ≤ L') (frame : ∀ b o, H b = some o → (∀ n, n < L → ρ n ≠ b) → H' b = some o) (fresh : ∀ n, L ≤ n → n < L' → H (ρ' n) = none)
    (tups : ∀ b xs, H b = some (.tup xs) → H' b = some (.tup xs)) (frzs : ∀ b o u, H b = some (.frz o u) → H' b = some (.frz o u)) (bn : ρ'.ban = ρ.ban) :
    ∀ (vs : List EV) (xs : List V), RVs G ρ L H vs xs → RVs G ρ' L' H' vs xs
  | [], xs, r => by unfold RVs at r ⊢; exact r
  | v :: vs, xs, r => by
    unfold RVs at r ⊢
    obtain ⟨z, zs, e, r1, r2⟩ := r
    exact ⟨z, zs, e, RV.stay ext len frame fresh tups frzs bn v z r1, RVs.stay ext len frame fresh tups frzs bn vs zs r2⟩
end

theorem Post.rv (p : Post G ρ h H ρ' h' H') {v : EV} {x : V} (r : RV G ρ h.length H v x) : RV G ρ' h'.length H' v x := RV.stay p.ext p.len p.frame p.fresh p.tups p.frzs p.ban v x r
theorem Post.rvs (p : Post G ρ h H ρ' h' H') {v : List EV} {x : List V} (r : RVs G ρ h.length H v x) : RVs G ρ' h'.length H' v x := RVs.stay p.ext p.len p.frame p.fresh p.tups p.frzs p.ban v x r
theorem Post.rs (p : Post G ρ h H ρ' h' H') : ∀ {s : ES} {σ : St}, RS G ρ h.length H s σ → RS G ρ' h'.length H' s σ
  | [], σ, r => by unfold RS at r ⊢; exact r
  | v :: vs, xs, r => by
    unfold RS at r ⊢
    obtain ⟨z, zs, e, r1, r2⟩ := r
    exact ⟨z, zs, e, fun w hw => let ⟨x, e1, q⟩ := r1 w hw; ⟨x, e1, p.rv q⟩, p.rs r2⟩
end
section
variable {G : Cn} {ρ : Rho} {H : Hp} {L : Nat}
mutual
theorem kn_of : ∀ (v : EV) (x : V) (k : NK), nkey v = some k → RV G ρ L H v x → KN G.K H k x
  | .non, x, k, e, r => by
    unfold RV at r; subst r; simp only [nkey, Option.some.injEq] at e; subst e; unfold KN; rfl
  | .int i, x, k, e, r => by
    unfold RV at r; subst r; simp only [nkey, Option.some.injEq] at e; subst e; unfold KN; rfl
  | .str c, x, k, e, r => by
    unfold RV at r; subst r; simp only [nkey, Option.some.injEq] at e; subst e; unfold KN; rfl
  | .tup xs, x, k, e, r => by
    unfold RV at r
    obtain ⟨a, ys, rfl, q, rr⟩ := r
    simp only [nkey, Option.map_eq_some_iff] at e
    obtain ⟨ks, e, rfl⟩ := e
    unfold KN
    exact ⟨a, ys, rfl, SqT.of q, kns_of xs ys ks e rr⟩
  | .kt xs, x, k, e, r => by
    unfold RV at r
    obtain ⟨a, ys, rfl, q, rr⟩ := r
    simp only [nkey, Option.map_eq_some_iff] at e
    obtain ⟨ks, e, rfl⟩ := e
    unfold KN
    exact ⟨a, ys, rfl, q, kns_of xs ys ks e rr⟩
  | .bl _, x, k, e, r => by simp [nkey] at e
  | .lst _, x, k, e, r => by simp [nkey] at e
  | .dct _ _ _, x, k, e, r => by simp [nkey] at e
  | .rp _, x, k, e, r => by simp [nkey] at e
  | .ref _, x, k, e, r => by simp [nkey] at e
  | .scr, x, k, e, r => by simp [nkey] at e
  | .tx _, x, k, e, r => by simp [nkey] at e
  | .clo _ _, x, k, e, r => by simp [nkey] at e
  | .exc _ _, x, k, e, r => by simp [nkey] at e
theorem kns_of : ∀ (vs : List EV) (xs : List V) (ks : List NK), nkeys vs = some ks → RVs G ρ L H vs xs → KNs G.K H ks xs
  | [], xs, ks, e, r => by
    unfold RVs at r; subst r; simp only [nkeys, Option.some.injEq] at e; subst e; unfold KNs; rfl
  | v :: vs, xs, ks, e, r => by
    unfold RVs at r
    obtain ⟨z, zs, rfl, r1, r2⟩ := r
    simp only [nkeys] at e
    split at e
    · rename_i d ds e1 e2
      cases e
      unfold KNs
      exact ⟨z, zs, rfl, kn_of v z d e1 r1, kns_of vs zs ds e2 r2⟩
    · cases e
end
end
end Eg

set_option autoImplicit false
set_option maxRecDepth 100000
set_option maxHeartbeats 1000000
/-! E2: readings of codes, and the rules of plain expressions. -/
namespace Eg
open PySem PySem.Spec L2

/-- what is wanted behind an expression's code -/
def After (G : Cn) (ρ : Rho) (h : EH) (H : Hp) (k : EV → EH → Bool) (Q : VK) : Prop :=
  ∀ v h' ρ' H' x, k v h' = true → Post G ρ h H ρ' h' H' → RV G ρ' h'.length H' v x → Q x H'
def AfterA (G : Cn) (ρ : Rho) (h : EH) (H : Hp) (k : List EV → EH → Bool) (Q : List V → Hp → Prop) : Prop :=
  ∀ v h' ρ' H' x, k v h' = true → Post G ρ h H ρ' h' H' → RVs G ρ' h'.length H' v x → Q x H'
def AfterT (G : Cn) (ρ : Rho) (h : EH) (H : Hp) (k : Bool → EH → Bool) (Q : Bool → Hp → Prop) : Prop :=
  ∀ v h' ρ' H', k v h' = true → Post G ρ h H ρ' h' H' → Q v H'
def AfterS (G : Cn) (ρ : Rho) (h : EH) (H : Hp) (k : ES → EH → Bool) (Q : St → Hp → Prop) : Prop :=
  ∀ s h' ρ' H' σ, k s h' = true → Post G ρ h H ρ' h' H' → RS G ρ' h'.length H' s σ → Q σ H'

def RE (G : Cn) (f : KE) : TE := fun σ H Q => ∃ ρ s h k, Sim G ρ h H ∧ RS G ρ h.length H s σ ∧ f s h k = true ∧ After G ρ h H k Q
def RA (G : Cn) (f : KA) : TA := fun σ H Q => ∃ ρ s h k, Sim G ρ h H ∧ RS G ρ h.length H s σ ∧ f s h k = true ∧ AfterA G ρ h H k Q
def RT (G : Cn) (f : KT) : TT := fun σ H Q => ∃ ρ s h k, Sim G ρ h H ∧ RS G ρ h.length H s σ ∧ f s h k = true ∧ AfterT G ρ h H k Q
def RSt (G : Cn) (f : KS) : TS := fun D σ H => ∃ ρ s h nx rt bk ct, Sim G ρ h H ∧ RS G ρ h.length H s σ ∧ f s h nx rt bk ct = true ∧
  AfterS G ρ h H nx D.nx ∧ After G ρ h H rt D.rt ∧ AfterS G ρ h H bk D.bk ∧ AfterS G ρ h H ct D.ct
def XE (G : Cn) (X : Cx) (e : Expr) (f : KE) : Prop := PE X e (RE G f)
def XA (G : Cn) (X : Cx) (es : List Expr) (f : KA) : Prop := PA X es (RA G f)
def XT (G : Cn) (X : Cx) (e : Expr) (f : KT) : Prop := PT X e (RT G f)
def XW (G : Cn) (X : Cx) (e : Expr) (f : KT) : Prop := PW X e (RT G f)
def XS (G : Cn) (X : Cx) (st : Stmt) (f : KS) : Prop := PS X st (RSt G f)
def XSs (G : Cn) (X : Cx) (sts : List Stmt) (f : KS) : Prop := PSs X sts (RSt G f)

section
variable {G : Cn} {X : Cx} {ρ ρ' : Rho} {h h' : EH} {H H' : Hp}
theorem After.next {k : EV → EH → Bool} {Q : VK} (a : After G ρ h H k Q) (p : Post G ρ h H ρ' h' H') : After G ρ' h' H' k Q := fun v h2 ρ2 H2 x e p2 r => a v h2 ρ2 H2 x e (p.trans p2) r
theorem AfterA.next {k : List EV → EH → Bool} {Q : List V → Hp → Prop} (a : AfterA G ρ h H k Q) (p : Post G ρ h H ρ' h' H') : AfterA G ρ' h' H' k Q := fun v h2 ρ2 H2 x e p2 r => a v h2 ρ2 H2 x e (p.trans p2) r
theorem AfterT.next {k : Bool → EH → Bool} {Q : Bool → Hp → Prop} (a : AfterT G ρ h H k Q) (p : Post G ρ h H ρ' h' H') : AfterT G ρ' h' H' k Q := fun v h2 ρ2 H2 e p2 => a v h2 ρ2 H2 e (p.trans p2)
theorem AfterS.next {k : ES → EH → Bool} {Q : St → Hp → Prop} (a : AfterS G ρ h H k Q) (p : Post G ρ h H ρ' h' H') : AfterS G ρ' h' H' k Q := fun v h2 ρ2 H2 x e p2 r => a v h2 ρ2 H2 x e (p.trans p2) r
theorem After.here {k : EV → EH → Bool} {Q : VK} (a : After G ρ h H k Q) (S : Sim G ρ h H) {v : EV} {x : V} (e : k v h = true) (r : RV G ρ h.length H v x) : Q x H := a v h ρ H x e (Post.refl S) r

theorem PE.imp {e : Expr} {t u : TE} (p : PE X e t) (i : ∀ σ H Q, u σ H Q → t σ H Q) : PE X e u := ⟨fun pins s σ H Q I q => p.run pins s σ H Q I (i σ H Q q)⟩
theorem PT.imp {e : Expr} {t u : TT} (p : PT X e t) (i : ∀ σ H Q, u σ H Q → t σ H Q) : PT X e u := ⟨fun pins s σ H Q I q => p.run pins s σ H Q I (i σ H Q q)⟩
theorem PW.imp {e : Expr} {t u : TT} (p : PW X e t) (i : ∀ σ H Q, u σ H Q → t σ H Q) : PW X e u := ⟨fun wh pins s σ H Q I q => p.run wh pins s σ H Q I (i σ H Q q)⟩
theorem PA.imp {e : List Expr} {t u : TA} (p : PA X e t) (i : ∀ σ H Q, u σ H Q → t σ H Q) : PA X e u := ⟨fun pos pins s σ H Q I q => p.run pos pins s σ H Q I (i σ H Q q)⟩
theorem PS.imp {e : Stmt} {t u : TS} (p : PS X e t) (i : ∀ D σ H, u D σ H → t D σ H) : PS X e u := ⟨fun pins s σ H D I q => p.run pins s σ H D I (i D σ H q)⟩
theorem PSs.imp {e : List Stmt} {t u : TS} (p : PSs X e t) (i : ∀ D σ H, u D σ H → t D σ H) : PSs X e u := ⟨fun pins s σ H D I q => p.run pins s σ H D I (i D σ H q)⟩
theorem OpR.imp {f : Value → Value → Sem Value} {r r' : R2} (p : OpR X f r) (i : ∀ x y H Q, r' x y H Q → r x y H Q) : OpR X f r' := fun pins s σ H x y v u Q I rx ry q => p pins s σ H x y v u Q I rx ry (i x y H Q q)
theorem CallR.imp {f : Value} {r r' : List V → Hp → VK → Prop} (p : CallR X f r) (i : ∀ xs H Q, r' xs H Q → r xs H Q) : CallR X f r' := fun pins s σ H xs us Q I rx q => p pins s σ H xs us Q I rx (i xs H Q q)
end

/-! ### codes -/
def getS : ES → Nat → Option EV
  | [], _ => none
  | x :: xs, n => match n with
    | 0 => x
    | n + 1 => getS xs n
def setS : ES → Nat → EV → ES
  | [], _, _ => []
  | x :: xs, n, v => match n with
    | 0 => some v :: xs
    | n + 1 => x :: setS xs n v
def getH : EH → Nat → Option EO
  | [], _ => none
  | x :: xs, n => match n with
    | 0 => some x
    | n + 1 => getH xs n
def setH : EH → Nat → EO → EH
  | [], _, _ => []
  | x :: xs, n, v => match n with
    | 0 => v :: xs
    | n + 1 => x :: setH xs n v
/-- a new object: behind all others; what follows gets its place -/
def newH (h : EH) (o : EO) (k : EV → EH → Bool) : Bool := k (.ref h.length) (h ++ [o])

def kBad : KE := fun _ _ _ => false
def kC (v : EV) : KE := fun _ h k => k v h
def kVar (i : Nat) : KE := fun s h k => match getS s i with
  | some v => k v h
  | none => false
def kBin (p : EV → EV → EH → (EV → EH → Bool) → Bool) (f g : KE) : KE := fun s h k => f s h fun a h => g s h fun b h => p a b h k
def kUn (p : EV → EH → (EV → EH → Bool) → Bool) (f : KE) : KE := fun s h k => f s h fun a h => p a h k
def kAnd (f g : KE) : KE := fun s h k => f s h fun a h => match a with
  | .bl true => g s h k
  | .bl false => k (.bl false) h
  | _ => false
def kOr (f g : KE) : KE := fun s h k => f s h fun a h => match a with
  | .bl true => k (.bl true) h
  | .bl false => g s h k
  | _ => false
def kNot (f : KE) : KE := fun s h k => f s h fun a h => match a with
  | .bl b => k (.bl (!b)) h
  | _ => false
def kIf (c : KT) (f g : KE) : KE := fun s h k => c s h fun b h => match b with
  | true => f s h k
  | false => g s h k
def kTv (f : KE) : KT := fun s h k => f s h fun a h => match a with
  | .bl b => k b h
  | _ => false
def kTand (f g : KT) : KT := fun s h k => f s h fun b h => match b with
  | true => g s h k
  | false => k false h
def kTor (f g : KT) : KT := fun s h k => f s h fun b h => match b with
  | true => k true h
  | false => g s h k
def kTnot (f : KT) : KT := fun s h k => f s h fun b h => k (!b) h
def kNil : KA := fun _ h k => k [] h
def kCons (f : KE) (r : KA) : KA := fun s h k => f s h fun a h => r s h fun as h => k (a :: as) h
def kTup (f : KA) : KE := fun s h k => f s h fun xs h => k (.tup xs) h
/-- a list that nobody changes; one that is an object -/
def kLst (f : KA) : KE := fun s h k => f s h fun xs h => k (.lst xs) h
def kLstO (f : KA) : KE := fun s h k => f s h fun xs h => newH h (.lst xs) k
def kCall (F : KF) (f : KA) : KE := fun s h k => f s h fun xs h => F xs h k

/-! ### lookups -/
section
variable {G : Cn} {X : Cx} {ρ : Rho} {h : EH} {H : Hp} {L : Nat}
theorem getH_eq : ∀ (h : EH) (n : Nat), getH h n = h[n]?
  | [], n => by simp [getH]
  | x :: xs, 0 => by simp [getH]
  | x :: xs, n + 1 => by simp [getH, getH_eq xs n]
theorem setH_eq : ∀ (h : EH) (n : Nat) (o : EO), setH h n o = h.set n o
  | [], n, o => by simp [setH]
  | x :: xs, 0, o => by simp [setH]
  | x :: xs, n + 1, o => by simp [setH, setH_eq xs n o]
theorem RS.get : ∀ {s : ES} {σ : St} {i : Nat} {v : EV}, RS G ρ L H s σ → getS s i = some v → ∃ x, σ[i]? = some (some x) ∧ RV G ρ L H v x
  | [], σ, i, v, r, e => by simp [getS] at e
  | a :: s, σ, 0, v, r, e => by
    unfold RS at r
    obtain ⟨z, zs, rfl, r1, r2⟩ := r
    obtain ⟨x, e1, q⟩ := r1 v e
    exact ⟨x, by simp [e1], q⟩
  | a :: s, σ, i + 1, v, r, e => by
    unfold RS at r
    obtain ⟨z, zs, rfl, r1, r2⟩ := r
    obtain ⟨x, e1, q⟩ := RS.get (i := i) r2 e
    exact ⟨x, by simpa using e1, q⟩
theorem RS.set : ∀ {s : ES} {σ : St} (i : Nat) {v : EV} {x : V}, RS G ρ L H s σ → RV G ρ L H v x → RS G ρ L H (setS s i v) (σ.set i (some x))
  | [], σ, i, v, x, r, q => by
    unfold RS at r
    subst r
    simp [setS, RS]
  | a :: s, σ, 0, v, x, r, q => by
    unfold RS at r
    obtain ⟨z, zs, rfl, r1, r2⟩ := r
    simp only [setS, List.set_cons_zero]
    unfold RS
    exact ⟨_, _, rfl, fun w hw => by cases hw; exact ⟨x, rfl, q⟩, r2⟩
  | a :: s, σ, i + 1, v, x, r, q => by
    unfold RS at r
    obtain ⟨z, zs, rfl, r1, r2⟩ := r
    simp only [setS, List.set_cons_succ]
    unfold RS
    exact ⟨_, _, rfl, r1, RS.set i r2 q⟩
theorem RVs.length : ∀ {vs : List EV} {xs : List V}, RVs G ρ L H vs xs → vs.length = xs.length
  | [], xs, r => by unfold RVs at r; subst r; rfl
  | v :: vs, xs, r => by
    unfold RVs at r
    obtain ⟨z, zs, rfl, _, r⟩ := r
    simp [RVs.length r]
theorem RVs.nil : RVs G ρ L H [] [] := by unfold RVs; rfl
theorem RVs.cons {v : EV} {vs : List EV} {x : V} {xs : List V} (r : RV G ρ L H v x) (rs : RVs G ρ L H vs xs) : RVs G ρ L H (v :: vs) (x :: xs) := by unfold RVs; exact ⟨x, xs, rfl, r, rs⟩
theorem RVs.get : ∀ {vs : List EV} {xs : List V} {i : Nat} {v : EV}, RVs G ρ L H vs xs → vs[i]? = some v → ∃ x, xs[i]? = some x ∧ RV G ρ L H v x
  | [], xs, i, v, r, e => by simp at e
  | a :: vs, xs, 0, v, r, e => by
    unfold RVs at r
    obtain ⟨z, zs, rfl, r1, r2⟩ := r
    have e' : a = v := by simpa using e
    subst e'
    exact ⟨z, by simp, r1⟩
  | a :: vs, xs, i + 1, v, r, e => by
    unfold RVs at r
    obtain ⟨z, zs, rfl, r1, r2⟩ := r
    obtain ⟨x, e1, q⟩ := RVs.get (i := i) r2 (by simpa using e)
    exact ⟨x, by simpa using e1, q⟩
theorem RVs.append : ∀ {vs ws : List EV} {xs ys : List V}, RVs G ρ L H vs xs → RVs G ρ L H ws ys → RVs G ρ L H (vs ++ ws) (xs ++ ys)
  | [], ws, xs, ys, r, q => by unfold RVs at r; subst r; exact q
  | v :: vs, ws, xs, ys, r, q => by
    unfold RVs at r
    obtain ⟨z, zs, rfl, r1, r2⟩ := r
    exact RVs.cons r1 (RVs.append r2 q)
theorem RVs.take (n : Nat) : ∀ {vs : List EV} {xs : List V}, RVs G ρ L H vs xs → RVs G ρ L H (vs.take n) (xs.take n) := by
  induction n with
  | zero => intro vs xs r; simpa using RVs.nil
  | succ n ih =>
    intro vs xs r
    cases vs with
    | nil => unfold RVs at r; subst r; simpa using RVs.nil
    | cons v vs =>
      unfold RVs at r
      obtain ⟨z, zs, rfl, r1, r2⟩ := r
      exact RVs.cons r1 (ih r2)
theorem RVs.drop (n : Nat) : ∀ {vs : List EV} {xs : List V}, RVs G ρ L H vs xs → RVs G ρ L H (vs.drop n) (xs.drop n) := by
  induction n with
  | zero => intro vs xs r; exact r
  | succ n ih =>
    intro vs xs r
    cases vs with
    | nil => unfold RVs at r; subst r; simpa using RVs.nil
    | cons v vs =>
      unfold RVs at r
      obtain ⟨z, zs, rfl, r1, r2⟩ := r
      exact ih r2
theorem RVs.reverse : ∀ {vs : List EV} {xs : List V}, RVs G ρ L H vs xs → RVs G ρ L H vs.reverse xs.reverse
  | [], xs, r => by unfold RVs at r; subst r; exact RVs.nil
  | v :: vs, xs, r => by
    unfold RVs at r
    obtain ⟨z, zs, rfl, r1, r2⟩ := r
    simp only [List.reverse_cons]
    exact RVs.append (RVs.reverse r2) (RVs.cons r1 RVs.nil)
end

/-! ### the rules -/
section
variable {G : Cn} {X : Cx} {a b c e : Expr} {es rest : List Expr} {f g : KE} {fa : KA} {p q : KT} {pos : Pos}

theorem x_bad : XE G X e kBad := ⟨fun _ _ _ _ _ _ ⟨_, _, _, _, _, _, z, _⟩ => nomatch z⟩
theorem x_int {i : Int} {j : Nat} : XE G X (.Constant (.int i) j pos) (kC (.int i)) :=
  PE.imp pe_int fun σ H Q ⟨ρ, s, h, k, S, R, z, a⟩ => a.here S z (by unfold RV; rfl)
theorem x_bl {i : Bool} {j : Nat} : XE G X (.Constant (.bool i) j pos) (kC (.bl i)) :=
  PE.imp pe_bl fun σ H Q ⟨ρ, s, h, k, S, R, z, a⟩ => a.here S z (by unfold RV; rfl)
theorem x_non {j : Nat} : XE G X (.Constant .none j pos) (kC .non) :=
  PE.imp pe_non fun σ H Q ⟨ρ, s, h, k, S, R, z, a⟩ => a.here S z (by unfold RV; rfl)
theorem x_str {x : Str} {l : List Nat} {j : Nat} (el : x = ⟨l.toArray⟩ := by first | rfl | decide +kernel) : XE G X (.Constant (.str x) j pos) (kC (.str l)) :=
  PE.imp pe_str fun σ H Q ⟨ρ, s, h, k, S, R, z, a⟩ => a.here S z (by unfold RV; rw [el])
theorem x_var (i : Nat) {x : Str} (hN : X.N[i]? = some x := by rfl) (hv : Vis X.env.scope x := by first | exact Or.inl rfl | exact Or.inr (Or.inl rfl) | exact Or.inr (Or.inr rfl)) (hd : (x == ("__debug__" : Str)) = false := by decide)
    (hc : (x == ("__classdict__" : Str)) = false := by decide) : XE G X (.Name x pos) (kVar i) := by
  refine PE.imp (pe_var hN hv hd hc) fun σ H Q ⟨ρ, s, h, k, S, R, z, a⟩ => ?_
  unfold kVar at z
  split at z
  · rename_i v ev
    obtain ⟨x, ex, r⟩ := R.get ev
    exact ⟨x, ex, a.here S z r⟩
  · cases z
/-- a global that stands for a value of the engine's, whatever the heap -/
theorem x_glob {x : Str} {v : EV} {u : Value} {y : V} (hg : Gl X x) (hm : X.mg x = some u) (r : RelV y u) (rv : ∀ ρ L H, RV G ρ L H v y) (hd : (x == ("__debug__" : Str)) = false := by decide) : XE G X (.Name x pos) (kC v) :=
  PE.imp (pe_glob hg hm r hd) fun σ H Q ⟨ρ, s, h, k, S, R, z, a⟩ => a.here S z (rv _ _ _)

/-- two parts in a row -/
theorem two {σ : St} {H : Hp} {R : V → V → Hp → Prop} {ρ : Rho} {s : ES} {h : EH} {k : EV → EV → EH → Bool} (S : Sim G ρ h H) (Rs : RS G ρ h.length H s σ)
    (z : f s h (fun a h => g s h fun b h => k a b h) = true)
    (o : ∀ v w h' ρ' H' x y, k v w h' = true → Post G ρ h H ρ' h' H' → RV G ρ' h'.length H' v x → RV G ρ' h'.length H' w y → R x y H') :
    RE G f σ H fun x H1 => RE G g σ H1 fun y H2 => R x y H2 :=
  ⟨ρ, s, h, _, S, Rs, z, fun v h1 ρ1 H1 x z1 p1 r1 => ⟨ρ1, s, h1, _, p1.sim, p1.rs Rs, z1, fun w h2 ρ2 H2 y z2 p2 r2 => o v w h2 ρ2 H2 x y z2 (p1.trans p2) (p2.rv r1) r2⟩⟩

/-- an operation on two values, over the layer's rule r -/
def OpS (G : Cn) (p : EV → EV → EH → (EV → EH → Bool) → Bool) (r : R2) : Prop :=
  ∀ (ρ : Rho) (h : EH) (H : Hp) (v w : EV) (x y : V) (k : EV → EH → Bool) (Q : VK), Sim G ρ h H → RV G ρ h.length H v x → RV G ρ h.length H w y → p v w h k = true → After G ρ h H k Q → r x y H Q
theorem x_bin {op : Operator} {r : R2} {p : EV → EV → EH → (EV → EH → Bool) → Bool} (ho : OpR X (binaryOp op) r) (hp : OpS G p r) (ha : XE G X a f) (hb : XE G X b g) : XE G X (.BinOp a op b pos) (kBin p f g) :=
  PE.imp (pe_op ho ha hb) fun σ H Q ⟨ρ, s, h, k, S, R, z, af⟩ => two (k := fun v w h => p v w h k) S R z fun v w h' ρ' H' x y z' p' rx ry => hp ρ' h' H' v w x y k Q p'.sim rx ry z' (af.next p')
theorem x_cmp {op : CmpOp} {r : R2} {p : EV → EV → EH → (EV → EH → Bool) → Bool} (ho : OpR X (compareOp op) r) (hp : OpS G p r) (ha : XE G X a f) (hb : XE G X b g)
    (hm : behindInMarks op b = false := by first | rfl | exact nomark _) : XE G X (.Compare a [op] [b] pos) (kBin p f g) :=
  PE.imp (pe_cmpR ho ha hb hm) fun σ H Q ⟨ρ, s, h, k, S, R, z, af⟩ => two (k := fun v w h => p v w h k) S R z fun v w h' ρ' H' x y z' p' rx ry => hp ρ' h' H' v w x y k Q p'.sim rx ry z' (af.next p')
def UnS (G : Cn) (p : EV → EH → (EV → EH → Bool) → Bool) (r : V → Hp → VK → Prop) : Prop :=
  ∀ (ρ : Rho) (h : EH) (H : Hp) (v : EV) (x : V) (k : EV → EH → Bool) (Q : VK), Sim G ρ h H → RV G ρ h.length H v x → p v h k = true → After G ρ h H k Q → r x H Q
theorem x_un {op : UnaryOp} {r : V → Hp → VK → Prop} {p : EV → EH → (EV → EH → Bool) → Bool} (ho : UnR X (unaryOp op) r) (hp : UnS G p r) (ha : XE G X a f) : XE G X (.UnaryOp op a pos) (kUn p f) :=
  PE.imp (pe_un ho ha) fun σ H Q ⟨ρ, s, h, k, S, R, z, af⟩ => ⟨ρ, s, h, _, S, R, z, fun v h1 ρ1 H1 x z1 p1 r1 => hp ρ1 h1 H1 v x k Q p1.sim r1 z1 (af.next p1)⟩

/-- the answer of a code is a bool -/
theorem x_and (ha : XE G X a f) (hb : XE G X (.BoolOp .And (b :: rest) pos) g) : XE G X (.BoolOp .And (a :: b :: rest) pos) (kAnd f g) := by
  refine PE.imp (pe_and ha hb) fun σ H Q ⟨ρ, s, h, k, S, R, z, af⟩ => ⟨ρ, s, h, _, S, R, z, fun v h1 ρ1 H1 x z1 p1 r1 => ?_⟩
  obtain ⟨c, rfl⟩ : ∃ c, v = .bl c := by cases v <;> first | exact ⟨_, rfl⟩ | exact Bool.noConfusion (show false = true from z1)
  unfold RV at r1
  subst r1
  refine ⟨c, rfl, ?_⟩
  cases c with
  | true => exact ⟨ρ1, s, h1, k, p1.sim, p1.rs R, z1, af.next p1⟩
  | false => exact (af.next p1).here p1.sim z1 (by unfold RV; rfl)
theorem x_or (ha : XE G X a f) (hb : XE G X (.BoolOp .Or (b :: rest) pos) g) : XE G X (.BoolOp .Or (a :: b :: rest) pos) (kOr f g) := by
  refine PE.imp (pe_or ha hb) fun σ H Q ⟨ρ, s, h, k, S, R, z, af⟩ => ⟨ρ, s, h, _, S, R, z, fun v h1 ρ1 H1 x z1 p1 r1 => ?_⟩
  obtain ⟨c, rfl⟩ : ∃ c, v = .bl c := by cases v <;> first | exact ⟨_, rfl⟩ | exact Bool.noConfusion (show false = true from z1)
  unfold RV at r1
  subst r1
  refine ⟨c, rfl, ?_⟩
  cases c with
  | true => exact (af.next p1).here p1.sim z1 (by unfold RV; rfl)
  | false => exact ⟨ρ1, s, h1, k, p1.sim, p1.rs R, z1, af.next p1⟩
theorem x_one {op : BoolOp} (ha : XE G X a f) : XE G X (.BoolOp op [a] pos) f := pe_one ha
theorem x_not (ha : XE G X a f) : XE G X (.UnaryOp .Not a pos) (kNot f) := by
  refine PE.imp (pe_not ha) fun σ H Q ⟨ρ, s, h, k, S, R, z, af⟩ => ⟨ρ, s, h, _, S, R, z, fun v h1 ρ1 H1 x z1 p1 r1 => ?_⟩
  obtain ⟨c, rfl⟩ : ∃ c, v = .bl c := by cases v <;> first | exact ⟨_, rfl⟩ | exact Bool.noConfusion (show false = true from z1)
  unfold RV at r1
  subst r1
  exact ⟨c, rfl, (af.next p1).here p1.sim z1 (by unfold RV; rfl)⟩
theorem x_if (hc : XT G X c p) (ha : XE G X a f) (hb : XE G X b g) : XE G X (.IfExp c a b pos) (kIf p f g) := by
  refine PE.imp (pe_ifExp hc ha hb) fun σ H Q ⟨ρ, s, h, k, S, R, z, af⟩ => ⟨ρ, s, h, _, S, R, z, fun v h1 ρ1 H1 z1 p1 => ?_⟩
  cases v with
  | true => exact ⟨ρ1, s, h1, k, p1.sim, p1.rs R, z1, af.next p1⟩
  | false => exact ⟨ρ1, s, h1, k, p1.sim, p1.rs R, z1, af.next p1⟩
/-! tests -/
theorem t_val (ha : XE G X a f) (he : ∀ whole, isTrue a X.env whole = (do let v ← whole; standAt a.pos; holding [v] (truthy v)) := by intro _; rfl) : XT G X a (kTv f) := by
  refine PT.imp (pt_val ha he) fun σ H Q ⟨ρ, s, h, k, S, R, z, af⟩ => ⟨ρ, s, h, _, S, R, z, fun v h1 ρ1 H1 x z1 p1 r1 => ?_⟩
  obtain ⟨c, rfl⟩ : ∃ c, v = .bl c := by cases v <;> first | exact ⟨_, rfl⟩ | exact Bool.noConfusion (show false = true from z1)
  unfold RV at r1
  exact ⟨c, r1, af c h1 ρ1 H1 z1 p1⟩
theorem t_cmp {op : CmpOp} {r : R2} {p : EV → EV → EH → (EV → EH → Bool) → Bool} (ho : OpR X (compareOp op) r) (hp : OpS G p r) (ha : XE G X a f) (hb : XE G X b g)
    (hm : behindInMarks op b = false := by first | rfl | exact nomark _) : XT G X (.Compare a [op] [b] pos) (kTv (kBin p f g)) := by
  refine PT.imp (pt_cmpR ho ha hb hm) fun σ H Q ⟨ρ, s, h, k, S, R, z, af⟩ => ?_
  refine two (R := fun x y H2 => r x y H2 fun z H3 => ∃ k, z = .bl k ∧ Q k H3) (k := fun v w h => p v w h fun a h => match a with
    | .bl b => k b h
    | _ => false) S R z fun v w h' ρ' H' x y z' p' rx ry => hp ρ' h' H' v w x y _ _ p'.sim rx ry z' fun v2 h2 ρ2 H2 x2 z2 p2 r2 => ?_
  obtain ⟨c, rfl⟩ : ∃ c, v2 = .bl c := by cases v2 <;> first | exact ⟨_, rfl⟩ | exact Bool.noConfusion (show false = true from z2)
  unfold RV at r2
  exact ⟨c, r2, af c h2 ρ2 H2 z2 (p'.trans p2)⟩
theorem w_and1 (ha : XT G X a p) : XW G X (.BoolOp .And [a] pos) p := pw_and1 ha
theorem w_or1 (ha : XT G X a p) : XW G X (.BoolOp .Or [a] pos) p := pw_or1 ha
theorem w_and (ha : XT G X a p) (hb : XW G X (.BoolOp .And (b :: rest) pos) q) : XW G X (.BoolOp .And (a :: b :: rest) pos) (kTand p q) := by
  refine PW.imp (pw_and ha hb) fun σ H Q ⟨ρ, s, h, k, S, R, z, af⟩ => ⟨ρ, s, h, _, S, R, z, fun v h1 ρ1 H1 z1 p1 => ?_⟩
  cases v with
  | true => exact ⟨ρ1, s, h1, k, p1.sim, p1.rs R, z1, af.next p1⟩
  | false => exact af false h1 ρ1 H1 z1 p1
theorem w_or (ha : XT G X a p) (hb : XW G X (.BoolOp .Or (b :: rest) pos) q) : XW G X (.BoolOp .Or (a :: b :: rest) pos) (kTor p q) := by
  refine PW.imp (pw_or ha hb) fun σ H Q ⟨ρ, s, h, k, S, R, z, af⟩ => ⟨ρ, s, h, _, S, R, z, fun v h1 ρ1 H1 z1 p1 => ?_⟩
  cases v with
  | true => exact af true h1 ρ1 H1 z1 p1
  | false => exact ⟨ρ1, s, h1, k, p1.sim, p1.rs R, z1, af.next p1⟩
theorem t_bool (ha : XW G X a p) : XT G X a p := PW.pt ha
theorem t_not (ha : XT G X a p) : XT G X (.UnaryOp .Not a pos) (kTnot p) :=
  PT.imp (pt_not ha) fun σ H Q ⟨ρ, s, h, k, S, R, z, af⟩ => ⟨ρ, s, h, _, S, R, z, fun v h1 ρ1 H1 z1 p1 => af (!v) h1 ρ1 H1 z1 p1⟩
/-! argument lists, displays -/
theorem a_nil : XA G X [] kNil := PA.imp pa_nil fun σ H Q ⟨ρ, s, h, k, S, R, z, af⟩ => af [] h ρ H [] z (Post.refl S) RVs.nil
theorem a_cons (ha : XE G X a f) (hr : XA G X es fa) (hs : starEach (a :: es) X.env = (false, eval a X.env) :: starEach es X.env := by rfl) : XA G X (a :: es) (kCons f fa) :=
  PA.imp (pa_cons ha hr hs) fun σ H Q ⟨ρ, s, h, k, S, R, z, af⟩ => ⟨ρ, s, h, _, S, R, z, fun v h1 ρ1 H1 x z1 p1 r1 => ⟨ρ1, s, h1, _, p1.sim, p1.rs R, z1,
    fun vs h2 ρ2 H2 xs z2 p2 r2 => af (v :: vs) h2 ρ2 H2 (x :: xs) z2 (p1.trans p2) (RVs.cons (p2.rv r1) r2)⟩⟩
end
end Eg

set_option autoImplicit false
set_option maxRecDepth 100000
set_option maxHeartbeats 1000000
/-! E3: operators on values. -/
namespace Eg
open PySem PySem.Spec L2

structure Gd (G : Cn) (X : Cx) : Prop where
  k : X.K = G.K
  c : X.calm = true
  nd : X.N.Nodup
  u : X.A.units + 200 < cLine
  gd : X.A.guards = some []
  w : X.w = G.w

section
variable {G : Cn} {ρ : Rho} {h : EH} {H : Hp} {L : Nat}
mutual
theorem dp_of : ∀ (v : EV) (d : PyData) (x : V), toPD v = some d → RV G ρ L H v x → Dp G.K H x d
  | .non, d, x, e, r => by
    unfold toPD at e; unfold RV at r
    cases e; subst r; exact .non
  | .bl b, d, x, e, r => by
    unfold toPD at e; unfold RV at r
    cases e; subst r; exact .bl b
  | .int i, d, x, e, r => by
    unfold toPD at e; unfold RV at r
    cases e; subst r; exact .int i
  | .str c, d, x, e, r => by
    unfold toPD at e; unfold RV at r
    cases e; subst r; exact .str _
  | .tup xs, d, x, e, r => by
    unfold toPD at e; unfold RV at r
    obtain ⟨a, ys, rfl, q, rr⟩ := r
    cases e2 : toPDs xs with
    | none => rw [e2] at e; cases e
    | some ds => rw [e2] at e; cases e; exact .tup (SqT.of q) (dps_of xs ds ys e2 rr)
  | .kt xs, d, x, e, r => by
    unfold toPD at e; unfold RV at r
    obtain ⟨a, ys, rfl, q, rr⟩ := r
    cases e2 : toPDs xs with
    | none => rw [e2] at e; cases e
    | some ds => rw [e2] at e; cases e; exact .tup q (dps_of xs ds ys e2 rr)
  | .lst xs, d, x, e, r => by
    unfold toPD at e; unfold RV at r
    obtain ⟨a, ys, rfl, q, _, rr⟩ := r
    cases e2 : toPDs xs with
    | none => rw [e2] at e; cases e
    | some ds => rw [e2] at e; cases e; exact .lst (SqL.of q) (dps_of xs ds ys e2 rr)
  | .dct _ _ _, d, x, e, r => by unfold toPD at e; cases e
  | .rp _, d, x, e, r => by unfold toPD at e; cases e
  | .ref _, d, x, e, r => by unfold toPD at e; cases e
  | .tx _, d, x, e, r => by
    unfold toPD at e; unfold RV at r
    cases e; subst r; exact .str _
theorem dps_of : ∀ (vs : List EV) (ds : List PyData) (xs : List V), toPDs vs = some ds → RVs G ρ L H vs xs → DpAll G.K H xs ds
  | [], ds, xs, e, r => by
    unfold toPDs at e; unfold RVs at r
    cases e; subst r; exact .nil
  | v :: vs, ds, xs, e, r => by
    unfold toPDs at e; unfold RVs at r
    obtain ⟨z, zs, rfl, r1, r2⟩ := r
    cases e1 : toPD v with
    | none => rw [e1] at e; cases e
    | some d =>
      cases e2 : toPDs vs with
      | none => rw [e1, e2] at e; cases e
      | some ds' => rw [e1, e2] at e; cases e; exact .cons (dp_of v d z e1 r1) (dps_of vs ds' zs e2 r2)
end
/-- a value's data, a list object's too -/
def datH (h : EH) : EV → Option PyData
  | .ref n => match getH h n with
    | some (.lst xs) => match toPDs xs with
      | some ds => some (.list ds)
      | none => none
    | _ => none
  | v => toPD v
theorem dat_of (S : Sim G ρ h H) {v : EV} {d : PyData} {x : V} (e : datH h v = some d) (r : RV G ρ h.length H v x) : Dp G.K H x d := by
  cases v with
  | ref n =>
    unfold RV at r
    obtain ⟨hn, rfl⟩ := r
    simp only [datH, getH_eq] at e
    split at e
    · rename_i xs e1
      obtain ⟨ys, e2, rr⟩ := S.obj n _ e1
      split at e
      · rename_i ds e3
        cases e
        exact .lst (SqL.of e2) (dps_of xs ds ys e3 rr)
      · cases e
    · cases e
  | non => exact dp_of _ _ _ e r
  | bl b => exact dp_of _ _ _ e r
  | int b => exact dp_of _ _ _ e r
  | str b => exact dp_of _ _ _ e r
  | tup b => exact dp_of _ _ _ e r
  | lst b => exact dp_of _ _ _ e r
  | dct _ _ _ => exact dp_of _ _ _ e r
  | rp _ => exact dp_of _ _ _ e r
  | tx _ => exact dp_of _ _ _ e r
  | kt _ => exact dp_of _ _ _ e r
  | scr => exact dp_of _ _ _ e r
  | clo _ _ => exact dp_of _ _ _ e r
  | exc _ _ => exact dp_of _ _ _ e r
end

/-! ### equality of the engine's values, as terms -/
def natsEq : List Nat → List Nat → Bool
  | [], [] => true
  | x :: xs, y :: ys => Nat.beq x y && natsEq xs ys
  | [], _ :: _ => false
  | _ :: _, [] => false
theorem natsEq_iff : ∀ {xs ys : List Nat}, natsEq xs ys = true ↔ xs = ys
  | [], [] => by simp [natsEq]
  | [], _ :: _ => by simp [natsEq]
  | _ :: _, [] => by simp [natsEq]
  | x :: xs, y :: ys => by
    rw [natsEq, Bool.and_eq_true, natsEq_iff (xs := xs) (ys := ys), Nat.beq_eq, List.cons.injEq]
theorem natsEq_dec (xs ys : List Nat) : natsEq xs ys = decide (xs = ys) := by
  rw [Bool.eq_iff_iff, natsEq_iff, decide_eq_true_iff]
def intEq : Int → Int → Bool
  | .ofNat a, .ofNat b => Nat.beq a b
  | .negSucc a, .negSucc b => Nat.beq a b
  | .ofNat _, .negSucc _ => false
  | .negSucc _, .ofNat _ => false
theorem intEq_iff : ∀ {a b : Int}, intEq a b = true ↔ a = b
  | .ofNat a, .ofNat b => by rw [intEq, Nat.beq_eq]; exact ⟨fun e => by rw [e], fun e => Int.ofNat.inj e⟩
  | .negSucc a, .negSucc b => by rw [intEq, Nat.beq_eq, Int.negSucc_inj]
  | .ofNat _, .negSucc _ => by simp [intEq]
  | .negSucc _, .ofNat _ => by simp [intEq]
theorem intEq_dec (a b : Int) : intEq a b = decide (a = b) := by
  rw [Bool.eq_iff_iff, intEq_iff, decide_eq_true_iff]
def intLt : Int → Int → Bool
  | .ofNat a, .ofNat b => Nat.blt a b
  | .negSucc a, .negSucc b => Nat.blt b a
  | .ofNat _, .negSucc _ => false
  | .negSucc _, .ofNat _ => true
theorem intLt_iff : ∀ {a b : Int}, intLt a b = true ↔ a < b
  | .ofNat a, .ofNat b => by rw [intLt, Nat.blt_eq]; simp
  | .negSucc a, .negSucc b => by rw [intLt, Nat.blt_eq, Int.negSucc_eq, Int.negSucc_eq]; omega
  | .ofNat a, .negSucc b => by rw [intLt, Int.negSucc_eq]; simp; omega
  | .negSucc a, .ofNat b => by rw [intLt, Int.negSucc_eq]; simp; omega
theorem intLt_dec (a b : Int) : intLt a b = decide (a < b) := by
  rw [Bool.eq_iff_iff, intLt_iff, decide_eq_true_iff]
mutual
def beqV : EV → EV → Bool
  | .non, .non => true
  | .bl a, .bl b => a == b
  | .int a, .int b => intEq a b
  | .str a, .str b => natsEq a b
  | .tup a, .tup b => beqVs a b
  | .lst a, .lst b => beqVs a b
  | .kt a, .kt b => beqVs a b
  | .ref a, .ref b => Nat.beq a b
  | _, _ => false
def beqVs : List EV → List EV → Bool
  | [], [] => true
  | x :: xs, y :: ys => beqV x y && beqVs xs ys
  | [], _ :: _ => false
  | _ :: _, [] => false
end
mutual
theorem beqV_eq : ∀ (v w : EV), beqV v w = true → v = w
  | .non, w, e => by cases w <;> first | rfl | (simp [beqV] at e)
  | .bl a, w, e => by cases w <;> first | (simp [beqV] at e; rw [e]) | (simp [beqV] at e)
  | .int a, w, e => by cases w <;> first | (simp only [beqV, intEq_iff] at e; rw [e]) | (simp [beqV] at e)
  | .str a, w, e => by cases w <;> first | (simp only [beqV, natsEq_iff] at e; rw [e]) | (simp [beqV] at e)
  | .tup a, w, e => by
    cases w with
    | tup b => simp only [beqV] at e; rw [beqVs_eq a b e]
    | _ => simp [beqV] at e
  | .lst a, w, e => by
    cases w with
    | lst b => simp only [beqV] at e; rw [beqVs_eq a b e]
    | _ => simp [beqV] at e
  | .dct _ _ _, w, e => by cases w <;> simp [beqV] at e
  | .rp _, w, e => by cases w <;> simp [beqV] at e
  | .kt a, w, e => by
    cases w with
    | kt b => simp only [beqV] at e; rw [beqVs_eq a b e]
    | _ => simp [beqV] at e
  | .ref a, w, e => by
    cases w with
    | ref b => simp only [beqV] at e; rw [Nat.eq_of_beq_eq_true e]
    | _ => simp [beqV] at e
theorem beqVs_eq : ∀ (vs ws : List EV), beqVs vs ws = true → vs = ws
  | [], ws, e => by cases ws <;> first | rfl | (simp [beqVs] at e)
  | v :: vs, ws, e => by
    cases ws with
    | nil => simp [beqVs] at e
    | cons w ws =>
      simp only [beqVs, Bool.and_eq_true] at e
      rw [beqV_eq v w e.1, beqVs_eq vs ws e.2]
end

/-! ### == and != -/
def pEq (n : Bool) : EV → EV → EH → (EV → EH → Bool) → Bool := fun v w h k => match v, w with
  | .int a, .int b => k (.bl (intEq a b != n)) h
  | .str a, .str b => k (.bl (natsEq a b != n)) h
  | .rp a, .rp b => match beqV a b with
    | true => k (.bl (true != n)) h
    | false => false
  | .non, .non => k (.bl (true != n)) h
  | .non, .int _ => k (.bl (false != n)) h
  | .non, .str _ => k (.bl (false != n)) h
  | v, w => match datH h v, datH h w with
    | some d, some e => match SeqAt.shaped d && SeqAt.shaped e with
      | true => k (.bl (PyData.eqv d e != n)) h
      | false => false
    | _, _ => false
def rEqA (G : Cn) (n : Bool) : R2 := match n with
  | false => fun x y H Q => rEq x y H Q ∨ rEqD G.K x y H Q
  | true => fun x y H Q => rNe x y H Q ∨ rNeD G.K x y H Q
section
variable {G : Cn} {X : Cx}
theorem o_eq (g : Gd G X) : OpR X (compareOp .Eq) (rEqA G false) := OpR.or op_eq (g.k ▸ op_eqD (by have := g.u; omega))
theorem o_ne (g : Gd G X) : OpR X (compareOp .NotEq) (rEqA G true) := OpR.or op_ne (g.k ▸ op_neD (by have := g.u; omega))
theorem str_dec (a b : List Nat) : decide (V.str ⟨a.toArray⟩ = V.str ⟨b.toArray⟩) = natsEq a b := by
  rw [natsEq_dec, decide_eq_decide]
  constructor
  · intro e
    have e2 : a.toArray = b.toArray := Str.mk.inj (V.str.inj e)
    exact (List.toArray_inj e2)
  · rintro rfl; rfl
theorem int_dec (a b : Int) : decide (V.int a = V.int b) = intEq a b := by
  rw [intEq_dec, decide_eq_decide]
  exact ⟨fun e => V.int.inj e, fun e => by rw [e]⟩
theorem pEq_scal {n : Bool} {x y : V} {b : Bool} {H : Hp} {Q : VK} (s : scal x y = true) (e : decide (x = y) = b) (q : Q (.bl (b != n)) H) : rEqA G n x y H Q := by
  cases n with
  | false => exact .inl ⟨s, by rw [e]; simpa using q⟩
  | true => exact .inl ⟨s, by rw [e]; simpa using q⟩
theorem s_eq (n : Bool) : OpS G (pEq n) (rEqA G n) := by
  intro ρ h H v w x y k Q S rv rw' z af
  unfold pEq at z
  split at z
  · unfold RV at rv rw'
    subst rv rw'
    exact pEq_scal rfl (int_dec _ _) (af.here S z (by unfold RV; rfl))
  · unfold RV at rv rw'
    subst rv rw'
    exact pEq_scal rfl (str_dec _ _) (af.here S z (by unfold RV; rfl))
  · split at z
    · rename_i e
      have e2 := beqV_eq _ _ e
      subst e2
      unfold RV at rv rw'
      obtain ⟨d, e1, rfl⟩ := rv
      obtain ⟨d2, e2, rfl⟩ := rw'
      rw [e1] at e2
      cases e2
      exact pEq_scal rfl (decide_eq_true rfl) (af.here S z (by unfold RV; rfl))
    · cases z
  · unfold RV at rv rw'
    subst rv rw'
    exact pEq_scal rfl (decide_eq_true rfl) (af.here S z (by unfold RV; rfl))
  · unfold RV at rv rw'
    subst rv rw'
    exact pEq_scal rfl (decide_eq_false (fun q => nomatch q)) (af.here S z (by unfold RV; rfl))
  · unfold RV at rv rw'
    subst rv rw'
    exact pEq_scal rfl (decide_eq_false (fun q => nomatch q)) (af.here S z (by unfold RV; rfl))
  · split at z
    · rename_i d e h1 h2
      split at z
      · rename_i hs
        rw [Bool.and_eq_true] at hs
        have q := af.here S z (by unfold RV; rfl)
        cases n with
        | false => exact .inr ⟨d, e, dat_of S h1 rv, dat_of S h2 rw', hs.1, hs.2, by simpa using q⟩
        | true => exact .inr ⟨d, e, dat_of S h1 rv, dat_of S h2 rw', hs.1, hs.2, by simpa using q⟩
      · cases z
    · cases z

/-! ### is, is not: None, a bool -/
def isNon : EV → Bool
  | .non => true
  | _ => false
def pIs (n : Bool) : EV → EV → EH → (EV → EH → Bool) → Bool := fun v w h k => match v, w with
  | v, .non => k (.bl (isNon v != n)) h
  | .bl a, .bl b => k (.bl ((a == b) != n)) h
  | _, _ => false
def rIsA (n : Bool) : R2 := match n with
  | false => fun x y H Q => (y = .non ∧ Q (.bl (decide (x = .non))) H) ∨ (∃ a b, x = .bl a ∧ y = .bl b ∧ Q (.bl (decide (a = b))) H)
  | true => fun x y H Q => (y = .non ∧ Q (.bl (!decide (x = .non))) H) ∨ (∃ a b, x = .bl a ∧ y = .bl b ∧ Q (.bl (!decide (a = b))) H)
theorem o_is : OpR X (compareOp .Is) (rIsA false) := OpR.or op_isN op_is_bl
theorem o_isnot : OpR X (compareOp .IsNot) (rIsA true) := OpR.or op_notN op_isnot_bl
theorem isNon_dec {ρ : Rho} {L : Nat} {H : Hp} {v : EV} {x : V} (r : RV G ρ L H v x) : isNon v = decide (x = .non) := by
  cases v <;> unfold RV at r
  · subst r; rfl
  · subst r; rfl
  · subst r; rfl
  · subst r; rfl
  · obtain ⟨a, ys, rfl, _⟩ := r; rfl
  · obtain ⟨a, ys, rfl, _⟩ := r; rfl
  · obtain ⟨a, ys, rfl, _⟩ := r; rfl
  · obtain ⟨d, _, rfl⟩ := r; rfl
  · obtain ⟨a, ys, rfl, _⟩ := r; rfl
  · obtain ⟨_, rfl⟩ := r; rfl
  · obtain ⟨a, ns, rfl, _⟩ := r; rfl
  · subst r; rfl
  · obtain ⟨f, cl, ys, rfl, _⟩ := r; rfl
  · obtain ⟨a, oe, vs, d, od, y, rfl, _⟩ := r; rfl
theorem s_is (n : Bool) : OpS G (pIs n) (rIsA n) := by
  intro ρ h H v w x y k Q S rv rw' z af
  unfold pIs at z
  split at z
  · have q := af.here S z (by unfold RV; rfl)
    rw [isNon_dec rv] at q
    unfold RV at rw'
    cases n with
    | false => exact .inl ⟨rw', by simpa using q⟩
    | true => exact .inl ⟨rw', by simpa using q⟩
  · rename_i a b
    have q := af.here S z (by unfold RV; rfl)
    unfold RV at rv rw'
    have e : (a == b) = decide (a = b) := by cases a <;> cases b <;> rfl
    rw [e] at q
    cases n with
    | false => exact .inr ⟨a, b, rv, rw', by simpa using q⟩
    | true => exact .inr ⟨a, b, rv, rw', by simpa using q⟩
  · cases z

/-! ### <, <=, >, >= -/
def natsLt : List Nat → List Nat → Bool
  | [], [] => false
  | [], _ :: _ => true
  | _ :: _, [] => false
  | x :: xs, y :: ys => match Nat.blt x y with
    | true => true
    | false => match Nat.beq x y with
      | true => natsLt xs ys
      | false => false
theorem natsLt_iff : ∀ {xs ys : List Nat}, natsLt xs ys = true ↔ xs < ys
  | [], [] => by simp [natsLt]
  | [], _ :: _ => by simp [natsLt]
  | _ :: _, [] => by simp [natsLt]
  | x :: xs, y :: ys => by
    rw [natsLt, List.cons_lt_cons_iff]
    cases e1 : Nat.blt x y with
    | true => simp [Nat.blt_eq.mp e1]
    | false =>
      have n1 : ¬ x < y := fun q => by rw [Nat.blt_eq.mpr q] at e1; cases e1
      cases e2 : Nat.beq x y with
      | true =>
        have e3 := Nat.eq_of_beq_eq_true e2
        simp [n1, e3, natsLt_iff (xs := xs) (ys := ys)]
      | false =>
        have e3 : x ≠ y := fun q => by rw [q, Nat.beq_refl] at e2; cases e2
        simp [n1, e3]
theorem natsLt_dec (a b : List Nat) : natsLt a b = decide (a < b) := by
  rw [Bool.eq_iff_iff, natsLt_iff, decide_eq_true_iff]
inductive Lt4 where | lt | le | gt | ge
def Lt4.op : Lt4 → CmpOp
  | .lt => .Lt | .le => .LtE | .gt => .Gt | .ge => .GtE
/-- by «less» and «less, the other way round» -/
def Lt4.by (o : Lt4) (l r : Bool) : Bool := match o with
  | .lt => l | .le => !r | .gt => r | .ge => !l
def pLt (o : Lt4) : EV → EV → EH → (EV → EH → Bool) → Bool := fun v w h k => match v, w with
  | .int a, .int b => k (.bl (o.by (intLt a b) (intLt b a))) h
  | .str a, .str b => k (.bl (o.by (natsLt a b) (natsLt b a))) h
  | .tup a, .tup b => match toPDs a, toPDs b with
    | some d, some e => match PySem.W.alike (.tuple d) (.tuple e) && Nat.blt (PyData.depth (.tuple d)) 100 with
      | true => k (.bl (o.by (PySem.W.dataLt (.tuple d) (.tuple e)) (PySem.W.dataLt (.tuple e) (.tuple d)))) h
      | false => false
    | _, _ => false
  | _, _ => false
def rLt4 (G : Cn) (o : Lt4) : R2 := fun x y H Q => (∃ a b : Int, x = .int a ∧ y = .int b ∧ Q (.bl (o.by (decide (a < b)) (decide (b < a)))) H) ∨
  (∃ a b : Str, x = .str a ∧ y = .str b ∧ Q (.bl (o.by (decide (a.cps.toList < b.cps.toList)) (decide (b.cps.toList < a.cps.toList)))) H) ∨
  (∃ d e, Dp G.K H x d ∧ Dp G.K H y e ∧ PySem.W.alike d e = true ∧ d ≠ .none ∧ d.depth < 100 ∧ Q (.bl (o.by (PySem.W.dataLt d e) (PySem.W.dataLt e d))) H)
theorem o_lt (g : Gd G X) (o : Lt4) : OpR X (compareOp o.op) (rLt4 G o) := by
  intro pins s σ H x y v u Q I rx ry q
  rcases q with ⟨a, b, rfl, rfl, q⟩ | ⟨a, b, rfl, rfl, q⟩ | ⟨d, e, hd, he, al, hn, dp, q⟩
  · cases o with
    | lt => exact op_lt pins s σ H _ _ v u Q I rx ry ⟨a, b, rfl, rfl, q⟩
    | le => exact op_le pins s σ H _ _ v u Q I rx ry ⟨a, b, rfl, rfl, by
        have e : decide (a ≤ b) = !decide (b < a) := by rw [Bool.eq_iff_iff]; simp
        show Q (V.bl (decide (_ ≤ _))) H; rw [e]; exact q⟩
    | gt => exact op_gt pins s σ H _ _ v u Q I rx ry ⟨a, b, rfl, rfl, q⟩
    | ge => exact op_ge pins s σ H _ _ v u Q I rx ry ⟨a, b, rfl, rfl, by
        have e : decide (b ≤ a) = !decide (a < b) := by rw [Bool.eq_iff_iff]; simp
        show Q (V.bl (decide (_ ≤ _))) H; rw [e]; exact q⟩
  · cases o with
    | lt => exact op_lt_str pins s σ H _ _ v u Q I rx ry ⟨a, b, rfl, rfl, q⟩
    | le => exact op_le_str pins s σ H _ _ v u Q I rx ry ⟨a, b, rfl, rfl, q⟩
    | gt => exact op_gt_str pins s σ H _ _ v u Q I rx ry ⟨a, b, rfl, rfl, q⟩
    | ge => exact op_ge_str pins s σ H _ _ v u Q I rx ry ⟨a, b, rfl, rfl, q⟩
  · rw [← g.k] at hd he
    obtain ⟨as, r1⟩ := Dp.reads I d x v hd rx
    obtain ⟨bs, r2⟩ := Dp.reads I e y u he ry
    have hu := g.u
    have hm : X.A.units + min d.depth e.depth < cLine := by omega
    cases o with
    | lt => exact PySem.W.lt_data r1 r2 al hn hm ⟨.bl _, H, I, rfl, q⟩
    | le => exact PySem.W.le_data r1 r2 al hn hm ⟨.bl _, H, I, rfl, q⟩
    | gt => exact PySem.W.gt_data r1 r2 al hn hm ⟨.bl _, H, I, rfl, q⟩
    | ge => exact PySem.W.ge_data r1 r2 al hn hm ⟨.bl _, H, I, rfl, q⟩
theorem s_lt (o : Lt4) : OpS G (pLt o) (rLt4 G o) := by
  intro ρ h H v w x y k Q S rv rw' z af
  unfold pLt at z
  split at z
  · rename_i a b
    have q := af.here S z (by unfold RV; rfl)
    unfold RV at rv rw'
    rw [intLt_dec, intLt_dec] at q
    exact .inl ⟨a, b, rv, rw', q⟩
  · rename_i a b
    have q := af.here S z (by unfold RV; rfl)
    unfold RV at rv rw'
    rw [natsLt_dec, natsLt_dec] at q
    exact .inr (.inl ⟨⟨a.toArray⟩, ⟨b.toArray⟩, rv, rw', q⟩)
  · rename_i a b
    split at z
    · rename_i d e h1 h2
      split at z
      · rename_i hs
        rw [Bool.and_eq_true, Nat.blt_eq] at hs
        have q := af.here S z (by unfold RV; rfl)
        exact .inr (.inr ⟨.tuple d, .tuple e, dp_of _ _ _ (by unfold toPD; rw [h1]; rfl) rv, dp_of _ _ _ (by unfold toPD; rw [h2]; rfl) rw', hs.1, (fun q => nomatch q), hs.2, q⟩)
      · cases z
    · cases z
  · cases z
end
end Eg

set_option autoImplicit false
set_option maxRecDepth 100000
set_option maxHeartbeats 1000000
/-! E4: new objects, written objects, dicts as two lists. -/
namespace Eg
open PySem PySem.Spec L2

section
variable {G : Cn} {ρ ρ' : Rho} {h h' : EH} {H H' : Hp} {L L' : Nat}

theorem RF.stay (ext : ∀ n, n < L → ρ' n = ρ n) (len : L ≤ L') (frame : ∀ b o, H b = some o → (∀ n, n < L → ρ n ≠ b) → H' b = some o) (fresh : ∀ n, L ≤ n → n < L' → H (ρ' n) = none)
    (tups : ∀ b xs, H b = some (.tup xs) → H' b = some (.tup xs)) (frzs : ∀ b o u, H b = some (.frz o u) → H' b = some (.frz o u)) (bn : ρ'.ban = ρ.ban) :
    ∀ {fs : List (Nat × EV)} {ys : List (Str × V)}, RF G ρ L H fs ys → RF G ρ' L' H' fs ys
  | [], ys, r => by unfold RF at r ⊢; exact r
  | (n, v) :: fs, ys, r => by
    unfold RF at r ⊢
    obtain ⟨z, zs, e, hn, r1, r2⟩ := r
    exact ⟨z, zs, e, hn, RV.stay ext len frame fresh tups frzs bn v z r1, RF.stay ext len frame fresh tups frzs bn r2⟩
theorem RO.stay (ext : ∀ n, n < L → ρ' n = ρ n) (len : L ≤ L') (frame : ∀ b o, H b = some o → (∀ n, n < L → ρ n ≠ b) → H' b = some o) (fresh : ∀ n, L ≤ n → n < L' → H (ρ' n) = none)
    (tups : ∀ b xs, H b = some (.tup xs) → H' b = some (.tup xs)) (frzs : ∀ b o u, H b = some (.frz o u) → H' b = some (.frz o u)) (bn : ρ'.ban = ρ.ban) {o : EO} {a : Addr} (same : H' a = H a)
    (r : RO G ρ L H o a) : RO G ρ' L' H' o a := by
  cases o with
  | lst xs =>
    obtain ⟨ys, e, rr⟩ := r
    exact ⟨ys, same.trans e, RVs.stay ext len frame fresh tups frzs bn xs ys rr⟩
  | dic t ks vs =>
    obtain ⟨ys, rr, r⟩ := r
    exact ⟨ys, RVs.stay ext len frame fresh tups frzs bn vs ys rr, r.stay fun o e => same.trans e⟩
  | ins c fs => obtain ⟨dx, ys, e, hc, rr⟩ := r; exact ⟨dx, ys, same.trans e, hc, RF.stay ext len frame fresh tups frzs bn rr⟩
  | pot z => obtain ⟨x, y, w, e, rr⟩ := r; exact ⟨x, y, w, same.trans e, rr⟩
  | fdic t ks vs =>
    obtain ⟨ys, rr, r⟩ := r
    exact ⟨ys, RVs.stay ext len frame fresh tups frzs bn vs ys rr, r.stay fun o e => same.trans e⟩
  | mix lk ks vs =>
    obtain ⟨nks, kys, ys, h1, h2, h3, h4, h5, e⟩ := r
    refine ⟨nks, kys, ys, h1, h2, RVs.stay ext len frame fresh tups frzs bn ks kys h3, RVs.stay ext len frame fresh tups frzs bn vs ys h4, h5, ?_⟩
    cases lk with
    | false => exact same.trans e
    | true => exact e.imp fun o e => same.trans e
  | tab i =>
    obtain ⟨ps, e, h1, h2⟩ := r
    exact ⟨ps, same.trans e, h1, fun pos cv hc => (h2 pos cv hc).imp fun c q => ⟨q.1, q.2.stay frzs⟩⟩
  | junk =>
    obtain ⟨o, e, h1, h2⟩ := r
    exact ⟨o, same.trans e, h1, h2⟩

/-- a new object that the engine does not hold -/
theorem Post.temp (S : Sim G ρ h H) {p : Addr} {o : HO} (hp : H p = none) : Post G ρ h H ρ h (upd H p o) := by
  have fr : ∀ b u, H b = some u → upd H p o b = some u := fun b u e => by rw [upd_ne (ne_of_none e hp)]; exact e
  refine ⟨⟨fun n x e => ?_, S.inj, fun b hb => ⟨let ⟨o', e⟩ := (S.ban b hb).1; ⟨o', fr b o' e⟩, (S.ban b hb).2⟩⟩, Nat.le_refl _, fun _ _ => rfl, fun b u e _ => fr b u e, fun _ h1 h2 => absurd h2 (Nat.not_lt.mpr h1), fun b xs e => fr b _ e, fun b ob u e => fr b _ e, rfl⟩
  refine RO.stay (fun _ _ => rfl) (Nat.le_refl _) (fun b u e _ => fr b u e) (fun _ h1 h2 => absurd h2 (Nat.not_lt.mpr h1)) (fun b xs e => fr b _ e) (fun b ob u e => fr b _ e) rfl ?_ (S.obj n x e)
  have hn : n < h.length := (List.getElem?_eq_some_iff.mp e).1
  exact upd_ne fun q => by
    obtain ⟨o2, _, r⟩ := S.at hn
    have r2 := r
    rw [q] at r2
    obtain ⟨u, e⟩ := r2.isAt
    rw [hp] at e; cases e

/-- the map with one more place -/
def more (ρ : Rho) (L : Nat) (p : Addr) : Rho := ⟨fun n => if n = L then p else ρ n, ρ.ban⟩
theorem more_at {p : Addr} : more ρ L p L = p := if_pos rfl
theorem more_lt {n : Nat} {p : Addr} (hn : n < L) : more ρ L p n = ρ n := if_neg (Nat.ne_of_lt hn)
/-- a new object that the engine holds -/
theorem Post.new (S : Sim G ρ h H) {p : Addr} {o : HO} {x : EO} (hp : H p = none) (hx : RO G (more ρ h.length p) (h.length + 1) (upd H p o) x p) : Post G ρ h H (more ρ h.length p) (h ++ [x]) (upd H p o) := by
  have fr : ∀ b u, H b = some u → upd H p o b = some u := fun b u e => by rw [upd_ne (ne_of_none e hp)]; exact e
  have there : ∀ n, n < h.length → ρ n ≠ p := fun n hn q => by
    have := (Post.temp (o := o) S hp).sim
    obtain ⟨o2, _, r⟩ := S.at hn
    rw [q] at r
    obtain ⟨u, e⟩ := r.isAt
    rw [hp] at e; cases e
  have hl : (h ++ [x]).length = h.length + 1 := by simp
  have ext : ∀ n, n < h.length → more ρ h.length p n = ρ n := fun n hn => more_lt hn
  have fresh : ∀ n, h.length ≤ n → n < h.length + 1 → H (more ρ h.length p n) = none := fun n h1 h2 => by
    have e : n = h.length := by omega
    rw [e, more_at]; exact hp
  refine ⟨⟨fun n y e => ?_, fun n m hn hm q => ?_, fun b hb => ?_⟩, by rw [hl]; omega, ext, fun b u e _ => fr b u e, by rw [hl]; exact fresh, fun b xs e => fr b _ e, fun b ob u e => fr b _ e, rfl⟩
  · rw [hl]
    by_cases hn : n < h.length
    · rw [List.getElem?_append_left hn] at e
      rw [ext n hn]
      exact RO.stay ext (Nat.le_succ _) (fun b u e _ => fr b u e) fresh (fun b xs e => fr b _ e) (fun b ob u e => fr b _ e) rfl (upd_ne (there n hn)) (S.obj n y e)
    · have hb := (List.getElem?_eq_some_iff.mp e).1
      have en : n = h.length := by rw [hl] at hb; omega
      subst en
      rw [List.getElem?_append_right (Nat.le_refl _)] at e
      have e2 : x = y := by simpa using e
      subst e2
      have e3 : more ρ h.length p h.length = p := if_pos rfl
      rw [e3]
      exact hx
  · rw [hl] at hn hm
    by_cases h1 : n < h.length
    · by_cases h2 : m < h.length
      · rw [ext n h1, ext m h2] at q; exact S.inj n m h1 h2 q
      · have e2 : m = h.length := by omega
        have e3 : more ρ h.length p m = p := by rw [e2, more_at]
        rw [ext n h1, e3] at q
        exact absurd q (there n h1)
    · have e1 : n = h.length := by omega
      have e3 : more ρ h.length p n = p := by rw [e1, more_at]
      by_cases h2 : m < h.length
      · rw [e3, ext m h2] at q
        exact absurd q.symm (there m h2)
      · omega
  · obtain ⟨⟨o', eo⟩, hb2⟩ := S.ban b hb
    refine ⟨⟨o', fr b o' eo⟩, fun n hn => ?_⟩
    rw [hl] at hn
    by_cases h1 : n < h.length
    · rw [ext n h1]; exact hb2 n h1
    · have e1 : n = h.length := by omega
      have e3 : more ρ h.length p n = p := by rw [e1, more_at]
      rw [e3]
      intro z
      rw [z, eo] at hp
      cases hp
theorem rv_new {p : Addr} : RV G (more ρ h.length p) (h ++ [EO.lst []]).length H (.ref h.length) (.ref p) := by
  unfold RV
  exact ⟨by simp, by rw [more_at]⟩
theorem rv_new' {p : Addr} {o : EO} : RV G (more ρ h.length p) (h ++ [o]).length H' (.ref h.length) (.ref p) := by
  unfold RV
  exact ⟨by simp, by rw [more_at]⟩

/-- an object of the engine's is written -/
theorem Post.write (S : Sim G ρ h H) {n : Nat} {x : EO} {o : HO} (hn : n < h.length) (hx : RO G ρ h.length (upd H (ρ n) o) x (ρ n)) (nf : NF h n := by first | exact nf_lst (by assumption) | exact nf_dic (by assumption) | exact nf_ins (by assumption) | exact nf_pot (by assumption) | exact nf_mix (by assumption) | exact nf_tab (by assumption)) : Post G ρ h H ρ (setH h n x) (upd H (ρ n) o) := by
  rw [setH_eq]
  have hl : (h.set n x).length = h.length := by simp
  have fr : ∀ b u, H b = some u → (∀ m, m < h.length → ρ m ≠ b) → upd H (ρ n) o b = some u := fun b u e q => by rw [upd_ne fun z => q n hn z.symm]; exact e
  have tp : ∀ b xs, H b = some (.tup xs) → upd H (ρ n) o b = some (.tup xs) := fun b xs e => fr b _ e (S.ne_tup e)
  have fz : ∀ b ob u, H b = some (.frz ob u) → upd H (ρ n) o b = some (.frz ob u) := fun b ob u e => by rw [upd_ne fun z => S.ne_frz e nf hn z.symm]; exact e
  refine ⟨⟨fun m y e => ?_, fun a b ha hb q => S.inj a b (by rw [hl] at ha; exact ha) (by rw [hl] at hb; exact hb) q, fun b hb => ⟨let ⟨o', e⟩ := (S.ban b hb).1; ⟨o', fr b o' e (S.ban b hb).2⟩, fun m hm => (S.ban b hb).2 m (by rw [hl] at hm; exact hm)⟩⟩, by rw [hl]; omega, fun _ _ => rfl, fr, fun _ h1 h2 => absurd (by rw [hl] at h2; exact h2) (Nat.not_lt.mpr h1), tp, fz, rfl⟩
  rw [hl]
  by_cases hm : m = n
  · subst hm
    rw [List.getElem?_set_self hn] at e
    cases e
    exact hx
  · rw [List.getElem?_set_ne (Ne.symm hm)] at e
    have hm2 := (List.getElem?_eq_some_iff.mp e).1
    exact RO.stay (fun _ _ => rfl) (Nat.le_refl _) fr (fun _ h1 h2 => absurd h2 (Nat.not_lt.mpr h1)) tp fz rfl (upd_ne fun q => hm (S.inj m n hm2 hn q)) (S.obj m y e)
/-- values stay over a write -/
theorem RVs.write (S : Sim G ρ h H) {n : Nat} {o : HO} (hn : n < h.length) {vs : List EV} {xs : List V} (r : RVs G ρ h.length H vs xs) (nf : NF h n := by first | exact nf_lst (by assumption) | exact nf_dic (by assumption) | exact nf_ins (by assumption) | exact nf_pot (by assumption) | exact nf_mix (by assumption) | exact nf_tab (by assumption)) : RVs G ρ h.length (upd H (ρ n) o) vs xs :=
  RVs.stay (fun _ _ => rfl) (Nat.le_refl _) (fun b u e q => by rw [upd_ne fun z => q n hn z.symm]; exact e) (fun _ h1 h2 => absurd h2 (Nat.not_lt.mpr h1)) (fun b xs e => by rw [upd_ne fun z => S.ne_tup e n hn z.symm]; exact e) (fun b ob u e => by rw [upd_ne fun z => S.ne_frz e nf hn z.symm]; exact e) rfl vs xs r
theorem RV.write (S : Sim G ρ h H) {n : Nat} {o : HO} (hn : n < h.length) {v : EV} {x : V} (r : RV G ρ h.length H v x) (nf : NF h n := by first | exact nf_lst (by assumption) | exact nf_dic (by assumption) | exact nf_ins (by assumption) | exact nf_pot (by assumption) | exact nf_mix (by assumption) | exact nf_tab (by assumption)) : RV G ρ h.length (upd H (ρ n) o) v x :=
  RV.stay (fun _ _ => rfl) (Nat.le_refl _) (fun b u e q => by rw [upd_ne fun z => q n hn z.symm]; exact e) (fun _ h1 h2 => absurd h2 (Nat.not_lt.mpr h1)) (fun b xs e => by rw [upd_ne fun z => S.ne_tup e n hn z.symm]; exact e) (fun b ob u e => by rw [upd_ne fun z => S.ne_frz e nf hn z.symm]; exact e) rfl v x r
theorem RF.write (S : Sim G ρ h H) {n : Nat} {o : HO} (hn : n < h.length) {v : List (Nat × EV)} {x : List (Str × V)} (r : RF G ρ h.length H v x) (nf : NF h n := by first | exact nf_lst (by assumption) | exact nf_dic (by assumption) | exact nf_ins (by assumption) | exact nf_pot (by assumption) | exact nf_mix (by assumption) | exact nf_tab (by assumption)) : RF G ρ h.length (upd H (ρ n) o) v x :=
  RF.stay (fun _ _ => rfl) (Nat.le_refl _) (fun b u e q => by rw [upd_ne fun z => q n hn z.symm]; exact e) (fun _ h1 h2 => absurd h2 (Nat.not_lt.mpr h1)) (fun b xs e => by rw [upd_ne fun z => S.ne_tup e n hn z.symm]; exact e) (fun b ob u e => by rw [upd_ne fun z => S.ne_frz e nf hn z.symm]; exact e) rfl r
/-- values stay over a new object -/
theorem RVs.temp (S : Sim G ρ h H) {p : Addr} {o : HO} (hp : H p = none) {vs : List EV} {xs : List V} (r : RVs G ρ h.length H vs xs) : RVs G ρ h.length (upd H p o) vs xs := (Post.temp (o := o) S hp).rvs r
theorem RV.temp (S : Sim G ρ h H) {p : Addr} {o : HO} (hp : H p = none) {v : EV} {x : V} (r : RV G ρ h.length H v x) : RV G ρ h.length (upd H p o) v x := (Post.temp (o := o) S hp).rv r
theorem there (S : Sim G ρ h H) {p : Addr} (hp : H p = none) {n : Nat} (hn : n < h.length) : ρ n ≠ p := fun q => by
  obtain ⟨o2, _, r⟩ := S.at hn
  rw [q] at r
  obtain ⟨u, e⟩ := r.isAt
  rw [hp] at e; cases e
theorem Sim.un (S : Sim G ρ h H) {p : Addr} (hp : H p = none) : ρ.un h.length p := ⟨fun hb => by { obtain ⟨o, e⟩ := (S.ban p hb).1; rw [hp] at e; cases e }, fun n hn => there S hp hn⟩
/-- a new list that nobody changes -/
theorem rv_lst (S : Sim G ρ h H) {p : Addr} (hp : H p = none) {vs : List EV} {xs : List V} (r : RVs G ρ h.length H vs xs) : RV G ρ h.length (upd H p (.lst xs)) (.lst vs) (.ref p) := by
  unfold RV
  exact ⟨p, xs, rfl, upd_same, S.un hp, r.temp S hp⟩
theorem rv_tup (S : Sim G ρ h H) {p : Addr} (hp : H p = none) {vs : List EV} {xs : List V} (r : RVs G ρ h.length H vs xs) : RV G ρ h.length (upd H p (.tup xs)) (.tup vs) (.ref p) := by
  unfold RV
  exact ⟨p, xs, rfl, upd_same, r.temp S hp⟩
theorem new_lst (S : Sim G ρ h H) {p : Addr} (hp : H p = none) {vs : List EV} {xs : List V} (r : RVs G ρ h.length H vs xs) : Post G ρ h H (more ρ h.length p) (h ++ [.lst vs]) (upd H p (.lst xs)) :=
  Post.new S hp ⟨xs, upd_same, RVs.stay (fun n hn => more_lt hn) (Nat.le_succ _) (fun b u e _ => by rw [upd_ne (ne_of_none e hp)]; exact e) (fun n h1 h2 => by
    have e : n = h.length := by omega
    rw [e, more_at]; exact hp) (fun b xs e => by rw [upd_ne (ne_of_none e hp)]; exact e) (fun b ob u e => by rw [upd_ne (ne_of_none e hp)]; exact e) rfl vs xs r⟩
end

/-! ### dicts as two lists -/
def lookE : List EV → List EV → EV → Option EV
  | k :: ks, v :: vs, x => match beqV k x with
    | true => some v
    | false => lookE ks vs x
  | _, _, _ => none
/-- the values behind d[x] = y, x there -/
def mapE : List EV → List EV → EV → EV → List EV
  | k :: ks, v :: vs, x, y => (match beqV k x with
    | true => y
    | false => v) :: mapE ks vs x y
  | _, _, _, _ => []
def dropE : List EV → List EV → EV → List EV × List EV
  | k :: ks, v :: vs, x => match dropE ks vs x with
    | (a, b) => match beqV k x with
      | true => (a, b)
      | false => (k :: a, v :: b)
  | _, _, _ => ([], [])
/-- the two lists behind d[x] = y -/
def putE (ks vs : List EV) (x y : EV) : List EV × List EV := match lookE ks vs x with
  | some _ => (ks, mapE ks vs x y)
  | none => (ks ++ [x], vs ++ [y])
/-- keys of one kind: alike as terms just if they are the same key -/
structure KeyF {κ : Type} (f : EV → Option κ) : Prop where
  iff : ∀ {v w : EV} {a b : κ}, f v = some a → f w = some b → (beqV v w = true ↔ a = b)
theorem kOf_f : KeyF kOf := ⟨fun {v w a b} h1 h2 => by
  cases v <;> cases w <;> simp only [kOf, Option.some.injEq, reduceCtorEq] at h1 h2 <;> subst h1 h2
  · simp only [beqV, intEq_iff]; exact ⟨fun e => by rw [e], fun e => Sum.inl.inj e⟩
  · simp [beqV]
  · simp [beqV]
  · simp only [beqV, natsEq_iff]
    exact ⟨fun e => by rw [e], fun e => List.toArray_inj (Str.mk.inj (Sum.inr.inj e))⟩⟩
theorem ofs_kOf_iff : ∀ {vs ws : List EV} {a b : List Key}, ofs kOf vs = some a → ofs kOf ws = some b → (beqVs vs ws = true ↔ a = b)
  | [], [], a, b, h1, h2 => by simp only [ofs, Option.some.injEq] at h1 h2; subst h1 h2; simp [beqVs]
  | [], w :: ws, a, b, h1, h2 => by
    simp only [ofs, Option.some.injEq] at h1 h2
    subst h1
    split at h2
    · simp only [Option.some.injEq] at h2; subst h2; simp [beqVs]
    · cases h2
  | v :: vs, [], a, b, h1, h2 => by
    simp only [ofs, Option.some.injEq] at h1 h2
    subst h2
    split at h1
    · simp only [Option.some.injEq] at h1; subst h1; simp [beqVs]
    · cases h1
  | v :: vs, w :: ws, a, b, h1, h2 => by
    simp only [ofs] at h1 h2
    split at h1
    · rename_i k1 l1 e1 e2
      split at h2
      · rename_i k2 l2 e3 e4
        simp only [Option.some.injEq] at h1 h2
        subst h1 h2
        rw [beqVs, Bool.and_eq_true, kOf_f.iff e1 e3, ofs_kOf_iff e2 e4, List.cons.injEq]
      · cases h2
    · cases h1
theorem tOf_f : KeyF tOf := ⟨fun {v w a b} h1 h2 => by
  cases v <;> cases w <;> simp only [tOf, reduceCtorEq] at h1 h2
  rw [beqV]
  exact ofs_kOf_iff h1 h2⟩

section
variable {G : Cn} {ρ : Rho} {H : Hp} {L : Nat} {κ : Type} [DecidableEq κ] {f : EV → Option κ}
theorem ofs_cons {v : EV} {vs : List EV} {a : List κ} (h : ofs f (v :: vs) = some a) : ∃ k ks, a = k :: ks ∧ f v = some k ∧ ofs f vs = some ks := by
  simp only [ofs] at h
  split at h
  · rename_i k ks e1 e2
    cases h
    exact ⟨k, ks, rfl, e1, e2⟩
  · cases h
theorem ofs_mk {v : EV} {vs : List EV} {k : κ} {ks : List κ} (h1 : f v = some k) (h2 : ofs f vs = some ks) : ofs f (v :: vs) = some (k :: ks) := by simp only [ofs, h1, h2]
theorem look_is (F : KeyF f) {x : EV} {kx : κ} (hx : f x = some kx) : ∀ {ks vs : List EV} {kk : List κ} {ys : List V}, ofs f ks = some kk → RVs G ρ L H vs ys → kk.length = ys.length →
    match lookE ks vs x with
    | some v => ∃ y, valV (kk.zip ys) kx = some y ∧ RV G ρ L H v y
    | none => valV (kk.zip ys) kx = none
  | [], vs, kk, ys, h, r, hl => by
    simp only [ofs, Option.some.injEq] at h
    subst h
    simp [lookE, valV]
  | k :: ks, vs, kk, ys, h, r, hl => by
    obtain ⟨k1, l1, rfl, e1, e2⟩ := ofs_cons h
    cases vs with
    | nil =>
      unfold RVs at r
      subst r
      simp at hl
    | cons v vs =>
      unfold RVs at r
      obtain ⟨z, zs, rfl, r1, r2⟩ := r
      have ih := look_is F hx (ks := ks) (vs := vs) e2 r2 (by simpa using hl)
      rw [lookE]
      cases e : beqV k x with
      | true =>
        have q := (F.iff e1 hx).mp e
        exact ⟨z, by rw [List.zip_cons_cons]; exact valV_pos q, r1⟩
      | false =>
        have q : ¬ k1 = kx := fun z => by rw [(F.iff e1 hx).mpr z] at e; cases e
        have e3 : valV ((k1 :: l1).zip (z :: zs)) kx = valV (l1.zip zs) kx := by simp [valV, List.find?_cons, q]
        simp only [e3]
        exact ih
theorem map_is (F : KeyF f) {x v : EV} {kx : κ} {y : V} (hx : f x = some kx) (ry : RV G ρ L H v y) : ∀ {ks vs : List EV} {kk : List κ} {ys : List V}, ofs f ks = some kk → RVs G ρ L H vs ys → kk.length = ys.length →
    ∃ ys', RVs G ρ L H (mapE ks vs x v) ys' ∧ kk.length = ys'.length ∧ kk.zip ys' = (kk.zip ys).map (fun kv => if kv.1 = kx then (kv.1, y) else kv)
  | [], vs, kk, ys, h, r, hl => by
    simp only [ofs, Option.some.injEq] at h
    subst h
    exact ⟨[], by unfold mapE; exact RVs.nil, rfl, by simp⟩
  | k :: ks, vs, kk, ys, h, r, hl => by
    obtain ⟨k1, l1, rfl, e1, e2⟩ := ofs_cons h
    cases vs with
    | nil =>
      unfold RVs at r
      subst r
      simp at hl
    | cons w vs =>
      unfold RVs at r
      obtain ⟨z, zs, rfl, r1, r2⟩ := r
      obtain ⟨ys', i1, i2, i3⟩ := map_is F hx ry (ks := ks) (vs := vs) e2 r2 (by simpa using hl)
      rw [mapE]
      cases e : beqV k x with
      | true =>
        have q := (F.iff e1 hx).mp e
        refine ⟨y :: ys', RVs.cons ry i1, by simp [i2], ?_⟩
        rw [List.zip_cons_cons, List.zip_cons_cons, List.map_cons, i3, if_pos q]
      | false =>
        have q : ¬ k1 = kx := fun z => by rw [(F.iff e1 hx).mpr z] at e; cases e
        refine ⟨z :: ys', RVs.cons r1 i1, by simp [i2], ?_⟩
        rw [List.zip_cons_cons, List.zip_cons_cons, List.map_cons, i3, if_neg q]
theorem ofs_append : ∀ {ks ls : List EV} {a b : List κ}, ofs f ks = some a → ofs f ls = some b → ofs f (ks ++ ls) = some (a ++ b)
  | [], ls, a, b, h1, h2 => by
    simp only [ofs, Option.some.injEq] at h1
    subst h1
    exact h2
  | k :: ks, ls, a, b, h1, h2 => by
    obtain ⟨k1, l1, rfl, e1, e2⟩ := ofs_cons h1
    exact ofs_mk e1 (ofs_append e2 h2)
theorem valV_any {kvs : List (κ × V)} {k : κ} : (kvs.any fun kv => decide (kv.1 = k)) = (valV kvs k).isSome := by
  induction kvs with
  | nil => rfl
  | cons p r ih =>
    by_cases e : p.1 = k
    · simp [valV, List.find?_cons, e]
    · have ih' := ih
      simp only [valV, Option.isSome_map] at ih' ⊢
      simp [List.find?_cons, e, ih']
theorem put_is (F : KeyF f) {x v : EV} {kx : κ} {y : V} (hx : f x = some kx) (ry : RV G ρ L H v y) {ks vs : List EV} {kk : List κ} {ys : List V} (h : ofs f ks = some kk) (r : RVs G ρ L H vs ys) (hl : kk.length = ys.length) :
    ∃ kk' ys', ofs f (putE ks vs x v).1 = some kk' ∧ RVs G ρ L H (putE ks vs x v).2 ys' ∧ kk'.length = ys'.length ∧ kk'.zip ys' = putK (kk.zip ys) kx y := by
  have lk := look_is F hx h r hl
  unfold putE putK
  rw [valV_any]
  cases e : lookE ks vs x with
  | some w =>
    rw [e] at lk
    obtain ⟨z, e1, _⟩ := lk
    obtain ⟨ys', i1, i2, i3⟩ := map_is F hx ry h r hl
    exact ⟨kk, ys', h, i1, i2, by rw [i3, e1]; rfl⟩
  | none =>
    rw [e] at lk
    have lk : valV (kk.zip ys) kx = none := lk
    refine ⟨kk ++ [kx], ys ++ [y], ofs_append h (ofs_mk hx rfl), RVs.append r (RVs.cons ry RVs.nil), by simp [hl], ?_⟩
    rw [lk, List.zip_append hl]
    rfl
theorem drop_is (F : KeyF f) {x : EV} {kx : κ} (hx : f x = some kx) : ∀ {ks vs : List EV} {kk : List κ} {ys : List V}, ofs f ks = some kk → RVs G ρ L H vs ys → kk.length = ys.length →
    ∃ kk' ys', ofs f (dropE ks vs x).1 = some kk' ∧ RVs G ρ L H (dropE ks vs x).2 ys' ∧ kk'.length = ys'.length ∧ kk'.zip ys' = dropK (kk.zip ys) kx
  | [], vs, kk, ys, h, r, hl => by
    simp only [ofs, Option.some.injEq] at h
    subst h
    exact ⟨[], [], by unfold dropE; rfl, by unfold dropE; exact RVs.nil, rfl, rfl⟩
  | k :: ks, vs, kk, ys, h, r, hl => by
    obtain ⟨k1, l1, rfl, e1, e2⟩ := ofs_cons h
    cases vs with
    | nil =>
      unfold RVs at r
      subst r
      simp at hl
    | cons w vs =>
      unfold RVs at r
      obtain ⟨z, zs, rfl, r1, r2⟩ := r
      obtain ⟨kk', ys', i0, i1, i2, i3⟩ := drop_is F hx (ks := ks) (vs := vs) e2 r2 (by simpa using hl)
      rw [dropE]
      cases e : beqV k x with
      | true =>
        have q := (F.iff e1 hx).mp e
        refine ⟨kk', ys', i0, i1, i2, ?_⟩
        rw [i3]
        simp [dropK, q]
      | false =>
        have q : ¬ k1 = kx := fun z => by rw [(F.iff e1 hx).mpr z] at e; cases e
        refine ⟨k1 :: kk', z :: ys', ofs_mk e1 i0, RVs.cons r1 i1, by simp [i2], ?_⟩
        rw [List.zip_cons_cons, i3]
        simp [dropK, q]
end
end Eg

set_option autoImplicit false
set_option maxRecDepth 100000
set_option maxHeartbeats 1000000
/-! E5: subscripts, slices, membership, arithmetic. -/
namespace Eg
open PySem PySem.Spec L2

/-! ### items -/
def nthE : List EV → Nat → Option EV
  | [], _ => none
  | x :: xs, n => match n with
    | 0 => some x
    | n + 1 => nthE xs n
theorem nthE_eq : ∀ (xs : List EV) (n : Nat), nthE xs n = xs[n]?
  | [], n => by simp [nthE]
  | x :: xs, 0 => by simp [nthE]
  | x :: xs, n + 1 => by simp [nthE, nthE_eq xs n]
def ixE (xs : List EV) : Int → Option EV
  | .ofNat n => nthE xs n
  | .negSucc m => nthE xs.reverse m
def nthN : List Nat → Nat → Option Nat
  | [], _ => none
  | x :: xs, n => match n with
    | 0 => some x
    | n + 1 => nthN xs n
theorem nthN_eq : ∀ (xs : List Nat) (n : Nat), nthN xs n = xs[n]?
  | [], n => by simp [nthN]
  | x :: xs, 0 => by simp [nthN]
  | x :: xs, n + 1 => by simp [nthN, nthN_eq xs n]
def ixN' (xs : List Nat) : Int → Option Nat
  | .ofNat n => nthN xs n
  | .negSucc m => nthN xs.reverse m
theorem atI_ofNat {α : Type} (xs : List α) (n : Nat) : atI xs (Int.ofNat n) = xs[n]? := by
  unfold atI ixN
  have h0 : (0 : Int) ≤ Int.ofNat n := Int.natCast_nonneg n
  rw [if_pos h0]
  by_cases h : n < xs.length
  · rw [if_pos (show Int.ofNat n < (xs.length : Int) from Int.ofNat_lt.mpr h)]
    rfl
  · rw [if_neg (show ¬ Int.ofNat n < (xs.length : Int) from fun q => h (Int.ofNat_lt.mp q))]
    exact (List.getElem?_eq_none (Nat.le_of_not_lt h)).symm
theorem atI_negSucc {α : Type} (xs : List α) (m : Nat) : atI xs (Int.negSucc m) = xs.reverse[m]? := by
  unfold atI ixN
  have h0 : ¬ (0 : Int) ≤ Int.negSucc m := by have := Int.negSucc_lt_zero m; omega
  rw [if_neg h0]
  by_cases h : m < xs.length
  · have h1 : -(xs.length : Int) ≤ Int.negSucc m := by rw [Int.negSucc_eq]; omega
    rw [if_pos h1]
    have h2 : (Int.negSucc m + (xs.length : Int)).toNat = xs.length - 1 - m := by rw [Int.negSucc_eq]; omega
    show xs[(Int.negSucc m + (xs.length : Int)).toNat]? = _
    rw [h2, List.getElem?_reverse h]
  · have h1 : ¬ -(xs.length : Int) ≤ Int.negSucc m := by rw [Int.negSucc_eq]; omega
    rw [if_neg h1]
    exact (List.getElem?_eq_none (by simpa using Nat.le_of_not_lt h)).symm
section
variable {G : Cn} {ρ : Rho} {h : EH} {H : Hp} {L : Nat}
theorem ixE_is {xs : List EV} {ys : List V} {i : Int} {v : EV} (r : RVs G ρ L H xs ys) (e : ixE xs i = some v) : ∃ y, atI ys i = some y ∧ RV G ρ L H v y := by
  cases i with
  | ofNat n =>
    have e : nthE xs n = some v := e
    rw [nthE_eq] at e
    obtain ⟨y, e1, q⟩ := r.get e
    exact ⟨y, by rw [atI_ofNat]; exact e1, q⟩
  | negSucc m =>
    have e : nthE xs.reverse m = some v := e
    rw [nthE_eq] at e
    obtain ⟨y, e1, q⟩ := r.reverse.get e
    exact ⟨y, by rw [atI_negSucc]; exact e1, q⟩
end
/-- whether a value can be a key of a dict of this kind -/
def keyOk (t : Bool) (v : EV) : Bool := match t with
  | false => (kOf v).isSome
  | true => (tOf v).isSome
def pIx : EV → EV → EH → (EV → EH → Bool) → Bool := fun v w h k => match v with
  | .tup xs => match w with
    | .int i => match ixE xs i with
      | some z => k z h
      | none => false
    | _ => false
  | .kt xs => match w with
    | .int i => match ixE xs i with
      | some z => k z h
      | none => false
    | _ => false
  | .lst xs => match w with
    | .int i => match ixE xs i with
      | some z => k z h
      | none => false
    | _ => false
  | .str xs => match w with
    | .int i => match ixN' xs i, Nat.ble xs.length 16000000 with
      | some z, true => k (.str [z]) h
      | _, _ => false
    | _ => false
  | .dct t ks vs => match lookE ks vs w, keyOk t w with
    | some z, true => k z h
    | _, _ => false
  | .ref n => match getH h n with
    | some (.lst xs) => match w with
      | .int i => match ixE xs i with
        | some z => k z h
        | none => false
      | _ => false
    | some (.dic t ks vs) => match lookE ks vs w, keyOk t w with
      | some z, true => k z h
      | _, _ => false
    | _ => false
  | _ => false
def rIxA (G : Cn) : R2 := fun x y H Q => rIxL G.K x y H Q ∨ rIxT G.K x y H Q ∨ rIxS x y H Q ∨ (∃ a v, x = .ref a ∧ DGet H a y (some v) ∧ Q v H)
section
variable {G : Cn} {X : Cx}
theorem i_ix (g : Gd G X) : IxR X (rIxA G) := by
  refine IxR.or (g.k ▸ ix_list) (IxR.or (g.k ▸ ix_tup) (IxR.or ix_str ?_))
  intro value slice pins s σ H x y v u Q I rx ry q hs
  obtain ⟨a, z, rfl, d, q⟩ := q
  obtain rfl : v = Value.ref a := rx
  exact PyProof.Rows.tail_any (dict_typeIs I d) PySem.F.slot_dict_getitem.lookup (d_getItem (by have := g.u; omega) I d ry fun w' s' I' r => ⟨z, H, I', r, q⟩) hs
variable {ρ : Rho} {h : EH} {H : Hp} {L : Nat}
/-- a key lies as the layer's dicts want it -/
theorem key_k {v : EV} {x : V} {k : Key} (e : kOf v = some k) (r : RV G ρ L H v x) : x = kV k := by
  cases v <;> simp only [kOf, reduceCtorEq, Option.some.injEq] at e <;> (unfold RV at r; subst r; subst e; rfl)
theorem keys_k : ∀ {vs : List EV} {xs : List V} {ks : List Key}, ofs kOf vs = some ks → RVs G ρ L H vs xs → xs = ks.map kV
  | [], xs, ks, e, r => by
    simp only [ofs, Option.some.injEq] at e
    unfold RVs at r
    subst e r
    rfl
  | v :: vs, xs, ks, e, r => by
    obtain ⟨k, ks', rfl, e1, e2⟩ := ofs_cons e
    unfold RVs at r
    obtain ⟨z, zs, rfl, r1, r2⟩ := r
    rw [key_k e1 r1, keys_k e2 r2]
    rfl
theorem key_t {v : EV} {x : V} {k : List Key} (e : tOf v = some k) (r : RV G ρ L H v x) : ∃ b, x = .ref b ∧ H b = some (.tup (k.map kV)) := by
  cases v <;> simp only [tOf, reduceCtorEq] at e
  unfold RV at r
  obtain ⟨a, ys, rfl, q, rr⟩ := r
  exact ⟨a, rfl, by rw [q, keys_k e rr]⟩
/-- a look-up in a dict -/
theorem dget_of {t : Bool} {ks vs : List EV} {ys : List V} {a : Addr} {w : EV} {y : V} (rv : RVs G ρ L H vs ys) (ro : DRr H t ks a ys) (rw' : RV G ρ L H w y) (kk : keyOk t w = true) :
    match lookE ks vs w with
    | some z => ∃ x, DGet H a y (some x) ∧ RV G ρ L H z x
    | none => DGet H a y none := by
  cases t with
  | false =>
    obtain ⟨kl, e1, e2, e3⟩ := ro
    obtain ⟨key, ek⟩ := Option.isSome_iff_exists.mp kk
    have lk := look_is kOf_f ek e1 rv e2
    have ey := key_k ek rw'
    subst ey
    cases ez : lookE ks vs w with
    | some z =>
      rw [ez] at lk
      obtain ⟨x, ex, rx⟩ := lk
      exact ⟨x, .inl ⟨_, key, e3, rfl, ex.symm⟩, rx⟩
    | none =>
      rw [ez] at lk
      exact .inl ⟨_, key, e3, rfl, Eq.symm lk⟩
  | true =>
    obtain ⟨kl, e1, e2, e3⟩ := ro
    obtain ⟨key, ek⟩ := Option.isSome_iff_exists.mp kk
    have lk := look_is tOf_f ek e1 rv e2
    obtain ⟨b, ey, eb⟩ := key_t ek rw'
    subst ey
    cases ez : lookE ks vs w with
    | some z =>
      rw [ez] at lk
      obtain ⟨x, ex, rx⟩ := lk
      exact ⟨x, .inr ⟨_, key, b, e3, rfl, eb, ex.symm⟩, rx⟩
    | none =>
      rw [ez] at lk
      exact .inr ⟨_, key, b, e3, rfl, eb, Eq.symm lk⟩
theorem s_ix : OpS G pIx (rIxA G) := by
  intro ρ h H v w x y k Q S rv rw' z af
  unfold pIx at z
  split at z
  · split at z
    · rename_i i
      split at z
      · rename_i u e
        unfold RV at rv rw'
        obtain ⟨a, ys, rfl, q, rr⟩ := rv
        obtain ⟨t, e1, rt⟩ := ixE_is rr e
        exact .inr (.inl ⟨a, ys, i, t, rfl, rw', SqT.of q, e1, af.here S z rt⟩)
      · cases z
    · cases z
  · split at z
    · rename_i i
      split at z
      · rename_i u e
        unfold RV at rv rw'
        obtain ⟨a, ys, rfl, q, rr⟩ := rv
        obtain ⟨t, e1, rt⟩ := ixE_is rr e
        exact .inr (.inl ⟨a, ys, i, t, rfl, rw', q, e1, af.here S z rt⟩)
      · cases z
    · cases z
  · split at z
    · rename_i i
      split at z
      · rename_i u e
        unfold RV at rv rw'
        obtain ⟨a, ys, rfl, q, _, rr⟩ := rv
        obtain ⟨t, e1, rt⟩ := ixE_is rr e
        exact .inl ⟨a, ys, i, t, rfl, rw', SqL.of q, e1, af.here S z rt⟩
      · cases z
    · cases z
  · rename_i xs
    split at z
    · rename_i i
      split at z
      · rename_i u e hl
        unfold RV at rv rw'
        subst rv
        refine .inr (.inr (.inl ⟨⟨xs.toArray⟩, i, u, rfl, rw', ?_, ?_, af.here S z (by unfold RV; rfl)⟩))
        · have := Nat.ble_eq.mp hl
          rw [sizeLine_eq]
          show xs.toArray.size ≤ _
          simp; omega
        · cases i with
          | ofNat n =>
            have e : nthN xs n = some u := e
            rw [nthN_eq] at e
            rw [atI_ofNat]; exact e
          | negSucc m =>
            have e : nthN xs.reverse m = some u := e
            rw [nthN_eq] at e
            rw [atI_negSucc]; exact e
      · cases z
    · cases z
  · rename_i t ks vs
    split at z
    · rename_i u e2 e3
      unfold RV at rv
      obtain ⟨a, ys, rfl, _, rr, dr⟩ := rv
      have d := dget_of rr dr rw' e3
      rw [e2] at d
      obtain ⟨x, d, rx⟩ := d
      exact .inr (.inr (.inr ⟨_, x, rfl, d, af.here S z rx⟩))
    · cases z
  · rename_i n
    unfold RV at rv
    obtain ⟨hn, rfl⟩ := rv
    rw [getH_eq] at z
    split at z
    · rename_i xs e1
      split at z
      · rename_i i
        split at z
        · rename_i u e
          unfold RV at rw'
          obtain ⟨ys, q, rr⟩ := S.obj n _ e1
          obtain ⟨t, e1, rt⟩ := ixE_is rr e
          exact .inl ⟨_, ys, i, t, rfl, rw', SqL.of q, e1, af.here S z rt⟩
        · cases z
      · cases z
    · rename_i t ks vs e1
      split at z
      · rename_i u e2 e3
        obtain ⟨ys, rr, dr⟩ := S.obj n _ e1
        have d := dget_of rr dr.rd rw' e3
        rw [e2] at d
        obtain ⟨x, d, rx⟩ := d
        exact .inr (.inr (.inr ⟨_, x, rfl, d, af.here S z rx⟩))
      · cases z
    · cases z
  · cases z
variable {a b : Expr} {f g' : KE} {pos : Pos}
theorem x_ix (g : Gd G X) (ha : XE G X a f) (hb : XE G X b g') (hs : PlainIx b := by intro _ _; rfl) : XE G X (.Subscript a b pos) (kBin pIx f g') :=
  PE.imp (pe_ix (i_ix g) ha hb hs) fun σ H Q ⟨ρ, s, h, k, S, R, z, af⟩ => two (k := fun v w h => pIx v w h k) S R z fun v w h' ρ' H' x y z' p' rx ry => s_ix ρ' h' H' v w x y k Q p'.sim rx ry z' (af.next p')

/-! ### slices -/
abbrev KO := ES → EH → (Option Int → EH → Bool) → Bool
def kNo : KO := fun _ h k => k none h
def kSome (f : KE) : KO := fun s h k => f s h fun a h => match a with
  | .int i => k (some i) h
  | _ => false
def sIxE (n d : Nat) : Option Int → Nat
  | none => d
  | some v => HT.sIx n d (some v)
def cutE {α : Type} (xs : List α) (lo hi : Option Int) : List α := (xs.drop (HT.sIx xs.length 0 lo)).take (HT.sIx xs.length xs.length hi - HT.sIx xs.length 0 lo)
def pSl : EV → Option Int → Option Int → EH → (EV → EH → Bool) → Bool := fun v lo hi h k => match v with
  | .tup xs => k (.tup (cutE xs lo hi)) h
  | .lst xs => k (.lst (cutE xs lo hi)) h
  | .str xs => match Nat.ble xs.length 16000000 with
    | true => k (.str (cutE xs lo hi)) h
    | false => false
  | .ref n => match getH h n with
    | some (.lst xs) => k (.lst (cutE xs lo hi)) h
    | _ => false
  | _ => false
def kSl (f : KE) (lo hi : KO) : KE := fun s h k => f s h fun v h => lo s h fun l h => hi s h fun u h => pSl v l u h k
def RP (G : Cn) (f : KO) : TO := fun σ H Q => ∃ ρ s h k, Sim G ρ h H ∧ RS G ρ h.length H s σ ∧ f s h k = true ∧ ∀ v h' ρ' H', k v h' = true → Post G ρ h H ρ' h' H' → Q v H'
def XP (G : Cn) (X : Cx) (e : Option Expr) (f : KO) : Prop := PO X e (RP G f)
theorem PO.imp {e : Option Expr} {t u : TO} (p : PO X e t) (i : ∀ σ H Q, u σ H Q → t σ H Q) : PO X e u := ⟨fun pins s σ H Q I q => p.run pins s σ H Q I (i σ H Q q)⟩
theorem p_none : XP G X none kNo := PO.imp po_none fun σ H Q ⟨ρ, s, h, k, S, R, z, af⟩ => af none h ρ H z (Post.refl S)
theorem p_some (ha : XE G X a f) : XP G X (some a) (kSome f) := by
  refine PO.imp (po_some ha) fun σ H Q ⟨ρ, s, h, k, S, R, z, af⟩ => ⟨ρ, s, h, _, S, R, z, fun v h1 ρ1 H1 x z1 p1 r1 => ?_⟩
  obtain ⟨c, rfl⟩ : ∃ c, v = .int c := by cases v <;> first | exact ⟨_, rfl⟩ | exact Bool.noConfusion (show false = true from z1)
  unfold RV at r1
  exact ⟨c, r1, af (some c) h1 ρ1 H1 z1 p1⟩
def rSlAll (K : PySem.W.Frag) : V → Option Int → Option Int → Hp → VK → Prop := fun x lo hi H Q => rSlA K x lo hi H Q ∨ rSlL K x lo hi H Q ∨ rSlS x lo hi H Q
theorem sl_all : SlR X (rSlAll X.K) := SlR.or sl_tupA (SlR.or sl_list sl_str)
theorem cut_is {xs : List EV} {ys : List V} (lo hi : Option Int) (r : RVs G ρ L H xs ys) : RVs G ρ L H (cutE xs lo hi) (cutV ys lo hi) := by
  unfold cutE cutV
  rw [r.length]
  exact RVs.take _ (RVs.drop _ r)
theorem cut_all {xs : List EV} {lo hi : Option Int} (h1 : HT.sIx xs.length 0 lo = 0) (h2 : HT.sIx xs.length xs.length hi = xs.length) : cutE xs lo hi = xs := by
  unfold cutE
  rw [h1, h2]
  simp
theorem s_sl {ρ : Rho} {h : EH} {H : Hp} {v : EV} {x : V} {lo hi : Option Int} {k : EV → EH → Bool} {Q : VK} (S : Sim G ρ h H) (rv : RV G ρ h.length H v x) (z : pSl v lo hi h k = true) (af : After G ρ h H k Q) : rSlAll G.K x lo hi H Q := by
  unfold pSl at z
  split at z
  · rename_i xs
    unfold RV at rv
    obtain ⟨a, ys, rfl, q, rr⟩ := rv
    refine .inl ⟨a, ys, rfl, SqT.of q, fun w => ?_, fun w p hp => ?_⟩
    · rw [← rr.length] at w
      rw [cut_all w.1 w.2] at z
      exact af.here S z (by unfold RV; exact ⟨a, ys, rfl, q, rr⟩)
    · exact af _ h ρ _ _ z (Post.temp S hp) (rv_tup S hp (cut_is lo hi rr))
  · rename_i xs
    unfold RV at rv
    obtain ⟨a, ys, rfl, q, _, rr⟩ := rv
    exact .inr (.inl ⟨a, ys, rfl, SqL.of q, fun p hp => af _ h ρ _ _ z (Post.temp S hp) (rv_lst S hp (cut_is lo hi rr))⟩)
  · rename_i xs
    split at z
    · rename_i hl
      unfold RV at rv
      subst rv
      refine .inr (.inr ⟨_, rfl, ?_, af.here S z ?_⟩)
      · have := Nat.ble_eq.mp hl
        rw [sizeLine_eq]
        show xs.toArray.size ≤ _
        simp; omega
      · unfold RV
        rfl
    · cases z
  · rename_i n
    unfold RV at rv
    obtain ⟨hn, rfl⟩ := rv
    rw [getH_eq] at z
    split at z
    · rename_i xs e1
      obtain ⟨ys, q, rr⟩ := S.obj n _ e1
      exact .inr (.inl ⟨_, ys, rfl, SqL.of q, fun p hp => af _ h ρ _ _ z (Post.temp S hp) (rv_lst S hp (cut_is lo hi rr))⟩)
    · cases z
  · cases z
theorem x_sl {lo hi : Option Expr} {fl fh : KO} {p2 : Pos} (g : Gd G X) (ha : XE G X a f) (hl : XP G X lo fl) (hh : XP G X hi fh) : XE G X (.Subscript a (.Slice lo hi none p2) pos) (kSl f fl fh) :=
  PE.imp (pe_slice sl_all ha hl hh) fun σ H Q ⟨ρ, s, h, k, S, R, z, af⟩ => ⟨ρ, s, h, _, S, R, z, fun v h1 ρ1 H1 x z1 p1 r1 =>
    ⟨ρ1, s, h1, _, p1.sim, p1.rs R, z1, fun l h2 ρ2 H2 z2 p2 => ⟨ρ2, s, h2, _, p2.sim, p2.rs (p1.rs R), z2, fun u h3 ρ3 H3 z3 p3 =>
      g.k ▸ s_sl p3.sim (p3.rv (p2.rv r1)) z3 (((af.next p1).next p2).next p3)⟩⟩⟩
/-- a[::-1] of a list -/
def pRev : EV → EH → (EV → EH → Bool) → Bool := fun v h k => match v with
  | .lst xs => k (.lst xs.reverse) h
  | .ref n => match getH h n with
    | some (.lst xs) => k (.lst xs.reverse) h
    | _ => false
  | _ => false
theorem x_rev {j : Nat} {p1 p2 p3 : Pos} (g : Gd G X) (ha : XE G X a f) : XE G X (.Subscript a (.Slice none none (some (.UnaryOp .USub (.Constant (.int 1) j p1) p2)) p3) pos) (kUn pRev f) := by
  refine PE.imp (pe_revL ha) fun σ H Q ⟨ρ, s, h, k, S, R, z, af⟩ => ⟨ρ, s, h, _, S, R, z, fun v h1 ρ1 H1 x z1 p1 r1 => ?_⟩
  unfold pRev at z1
  split at z1
  · unfold RV at r1
    obtain ⟨a, ys, rfl, q, _, rr⟩ := r1
    exact ⟨a, ys, rfl, SqL.of q, fun p hp => af _ h1 ρ1 _ _ z1 (p1.trans (Post.temp p1.sim hp)) (rv_lst p1.sim hp rr.reverse)⟩
  · rename_i n
    unfold RV at r1
    obtain ⟨hn, rfl⟩ := r1
    rw [getH_eq] at z1
    split at z1
    · rename_i xs e1
      obtain ⟨ys, q, rr⟩ := p1.sim.obj n _ e1
      exact ⟨_, ys, rfl, SqL.of q, fun p hp => af _ h1 ρ1 _ _ z1 (p1.trans (Post.temp p1.sim hp)) (rv_lst p1.sim hp rr.reverse)⟩
    · cases z1
  · cases z1

/-! ### in, not in -/
def flatE : EV → Bool
  | .non => true
  | .bl _ => true
  | .int _ => true
  | .str _ => true
  | _ => false
/-- == of flat values -/
def eqE : EV → EV → Bool
  | .non, .non => true
  | .bl a, .bl b => a == b
  | .int a, .int b => intEq a b
  | .bl a, .int b => intEq (if a then 1 else 0) b
  | .int a, .bl b => intEq a (if b then 1 else 0)
  | .str a, .str b => natsEq a b
  | _, _ => false
def allE (p : EV → Bool) : List EV → Bool
  | [] => true
  | x :: xs => match p x with
    | true => allE p xs
    | false => false
def anyE (p : EV → Bool) : List EV → Bool
  | [] => false
  | x :: xs => match p x with
    | true => true
    | false => anyE p xs
def memN (c : Nat) : List Nat → Bool
  | [] => false
  | x :: xs => match Nat.beq x c with
    | true => true
    | false => memN c xs
def anyD (d : PyData) : List PyData → Bool
  | [] => false
  | x :: xs => match PyData.eqv x d with
    | true => true
    | false => anyD d xs
/-- x in a list of items: flat ones, or any data -/
def inSeq (n : Bool) (isl : Bool) (v : EV) (xs : List EV) (h : EH) (k : EV → EH → Bool) : Bool := match flatE v && allE flatE xs with
  | true => k (.bl (anyE (fun y => eqE y v) xs != n)) h
  | false => match isl, toPD v, toPDs xs with
    | true, some d, some ds => match SeqAt.shaped d && SeqAt.shaped (.list ds) with
      | true => k (.bl (anyD d ds != n)) h
      | false => false
    | _, _, _ => false
def pIn (n : Bool) : EV → EV → EH → (EV → EH → Bool) → Bool := fun v w h k => match w with
  | .tup xs => inSeq n false v xs h k
  | .kt xs => inSeq n false v xs h k
  | .lst xs => inSeq n true v xs h k
  | .str cs => match v with
    | .str [c] => k (.bl (memN c cs != n)) h
    | _ => false
  | .dct t ks vs => match keyOk t v with
    | true => k (.bl ((lookE ks vs v).isSome != n)) h
    | false => false
  | .ref m => match getH h m with
    | some (.lst xs) => inSeq n true v xs h k
    | some (.dic t ks vs) => match keyOk t v with
      | true => k (.bl ((lookE ks vs v).isSome != n)) h
      | false => false
    | _ => false
  | _ => false
def rInA (G : Cn) (n : Bool) : R2 := match n with
  | false => fun x y H Q => rIn G.K false x y H Q ∨ rInD G.K x y H Q ∨ (∃ (c : Nat) (z : Str), x = .str ⟨#[c]⟩ ∧ y = .str z ∧ Q (.bl (decide (c ∈ z.cps.toList))) H) ∨ (∃ a o, y = .ref a ∧ DGet H a x o ∧ Q (.bl o.isSome) H)
  | true => fun x y H Q => rIn G.K true x y H Q ∨ rNotInD G.K x y H Q ∨ (∃ (c : Nat) (z : Str), x = .str ⟨#[c]⟩ ∧ y = .str z ∧ Q (.bl (!decide (c ∈ z.cps.toList))) H) ∨ (∃ a o, y = .ref a ∧ DGet H a x o ∧ Q (.bl (!o.isSome)) H)
theorem o_in (g : Gd G X) : OpR X (compareOp .In) (rInA G false) := by
  refine OpR.or (g.k ▸ op_in_seq) (OpR.or (g.k ▸ op_inD (by have := g.u; omega)) (OpR.or op_in_sign ?_))
  intro pins s σ H x y v u Q I rx ry q
  obtain ⟨a, o, rfl, d, q⟩ := q
  obtain rfl : u = Value.ref a := ry
  exact d_in (by have := g.u; omega) I d rx fun s' I' => ⟨.bl _, H, I', rfl, q⟩
theorem o_notin (g : Gd G X) : OpR X (compareOp .NotIn) (rInA G true) := by
  refine OpR.or (g.k ▸ op_notIn_seq) (OpR.or (g.k ▸ op_notInD (by have := g.u; omega)) (OpR.or op_notIn_sign ?_))
  intro pins s σ H x y v u Q I rx ry q
  obtain ⟨a, o, rfl, d, q⟩ := q
  obtain rfl : u = Value.ref a := ry
  exact d_notIn (by have := g.u; omega) I d rx fun s' I' => ⟨.bl _, H, I', rfl, q⟩
theorem flat_is {v : EV} {x : V} (r : RV G ρ L H v x) (f : flatE v = true) : flatV x = true := by
  cases v <;> simp only [flatE, Bool.false_eq_true] at f <;> (unfold RV at r; subst r; rfl)
theorem flats_is : ∀ {vs : List EV} {xs : List V}, RVs G ρ L H vs xs → allE flatE vs = true → xs.all flatV = true
  | [], xs, r, f => by unfold RVs at r; subst r; rfl
  | v :: vs, xs, r, f => by
    unfold RVs at r
    obtain ⟨z, zs, rfl, r1, r2⟩ := r
    unfold allE at f
    split at f
    · rename_i e
      rw [List.all_cons, flat_is r1 e, flats_is r2 f]; rfl
    · cases f
theorem eqE_is {v w : EV} {x y : V} (f : flatE v = true) (f2 : flatE w = true) (r : RV G ρ L H v x) (r2 : RV G ρ L H w y) : eqE v w = eqV x y := by
  cases v <;> simp only [flatE, Bool.false_eq_true] at f <;> cases w <;> simp only [flatE, Bool.false_eq_true] at f2 <;> (unfold RV at r r2; subst r r2) <;> simp only [eqE, eqV, intEq_dec, natsEq_dec]
  case str.str a b =>
    rw [Bool.eq_iff_iff, decide_eq_true_iff, beq_iff_eq]
    exact ⟨fun e => by rw [e], fun e => List.toArray_inj (Str.mk.inj e)⟩
  all_goals first
    | (rw [Bool.beq_eq_decide_eq])
    | (rw [Bool.eq_iff_iff]; simp; done)
theorem anyE_is {v : EV} {x : V} (f : flatE v = true) (r : RV G ρ L H v x) : ∀ {vs : List EV} {xs : List V}, RVs G ρ L H vs xs → allE flatE vs = true → anyE (fun y => eqE y v) vs = inV x xs
  | [], xs, r2, f2 => by unfold RVs at r2; subst r2; rfl
  | w :: vs, xs, r2, f2 => by
    unfold RVs at r2
    obtain ⟨z, zs, rfl, q1, q2⟩ := r2
    unfold allE at f2
    split at f2
    · rename_i e
      have ih := anyE_is f r q2 f2
      unfold inV at ih ⊢
      rw [List.any_cons, ← ih, ← eqE_is e f q1 r]
      show (match eqE w v with | true => true | false => anyE (fun y => eqE y v) vs) = _
      cases eqE w v <;> rfl
    · cases f2
theorem anyD_is (d : PyData) : ∀ ds : List PyData, anyD d ds = ds.any fun z => PyData.eqv z d
  | [] => rfl
  | x :: xs => by
    rw [anyD, List.any_cons, ← anyD_is d xs]
    cases PyData.eqv x d <;> rfl
theorem memN_is (c : Nat) : ∀ xs : List Nat, memN c xs = decide (c ∈ xs)
  | [] => by simp [memN]
  | x :: xs => by
    rw [memN, memN_is c xs]
    cases e : Nat.beq x c with
    | true => have := Nat.eq_of_beq_eq_true e; simp [this]
    | false =>
      have : ¬ c = x := fun q => by rw [q, Nat.beq_refl] at e; cases e
      simp [this]
theorem inSeq_is {n isl : Bool} {v : EV} {x : V} {xs : List EV} {ys : List V} {p : Addr} {k : EV → EH → Bool} {Q : VK} (S : Sim G ρ h H) (rv : RV G ρ h.length H v x) (rr : RVs G ρ h.length H xs ys) (hq : SqL G.K H p ys ∨ SqT G.K H p ys)
    (hl : isl = true → SqL G.K H p ys) (z : inSeq n isl v xs h k = true) (af : After G ρ h H k Q) : rInA G n x (.ref p) H Q := by
  unfold inSeq at z
  split at z
  · rename_i e
    rw [Bool.and_eq_true] at e
    have q := af.here S z (by unfold RV; rfl)
    rw [anyE_is e.1 rv rr e.2] at q
    cases n with
    | false => exact .inl ⟨p, ys, rfl, hq, flat_is rv e.1, flats_is rr e.2, by simpa using q⟩
    | true => exact .inl ⟨p, ys, rfl, hq, flat_is rv e.1, flats_is rr e.2, by simpa using q⟩
  · split at z
    · rename_i d ds e1 e2
      split at z
      · rename_i hs
        rw [Bool.and_eq_true] at hs
        have q := af.here S z (by unfold RV; rfl)
        rw [anyD_is] at q
        have dl : Dp G.K H (.ref p) (.list ds) := .lst (hl rfl) (dps_of xs ds ys e2 rr)
        cases n with
        | false => exact .inr (.inl ⟨d, ds, dp_of _ _ _ e1 rv, dl, hs.1, hs.2, by simpa using q⟩)
        | true => exact .inr (.inl ⟨d, ds, dp_of _ _ _ e1 rv, dl, hs.1, hs.2, by simpa using q⟩)
      · cases z
    · cases z
theorem in_dict {n b : Bool} {x : V} {a : Addr} {o : Option V} {k : EV → EH → Bool} {Q : VK} (S : Sim G ρ h H) (d : DGet H a x o) (e : o.isSome = b) (z : k (.bl (b != n)) h = true) (af : After G ρ h H k Q) : rInA G n x (.ref a) H Q := by
  have q := af.here S z (by unfold RV; rfl)
  cases n with
  | false => exact .inr (.inr (.inr ⟨a, o, rfl, d, by rw [e]; simpa using q⟩))
  | true => exact .inr (.inr (.inr ⟨a, o, rfl, d, by rw [e]; simpa using q⟩))
theorem s_in (n : Bool) : OpS G (pIn n) (rInA G n) := by
  intro ρ h H v w x y k Q S rv rw' z af
  unfold pIn at z
  split at z
  · unfold RV at rw'
    obtain ⟨a, ys, rfl, q, rr⟩ := rw'
    exact inSeq_is (isl := false) S rv rr (.inr (SqT.of q)) (fun e => Bool.noConfusion e) z af
  · unfold RV at rw'
    obtain ⟨a, ys, rfl, q, rr⟩ := rw'
    exact inSeq_is (isl := false) S rv rr (.inr q) (fun e => Bool.noConfusion e) z af
  · unfold RV at rw'
    obtain ⟨a, ys, rfl, q, _, rr⟩ := rw'
    exact inSeq_is S rv rr (.inl (SqL.of q)) (fun _ => SqL.of q) z af
  · rename_i cs
    split at z
    · rename_i c
      have q := af.here S z (by unfold RV; rfl)
      rw [memN_is] at q
      unfold RV at rv rw'
      cases n with
      | false => exact .inr (.inr (.inl ⟨c, ⟨cs.toArray⟩, rv, rw', by simpa using q⟩))
      | true => exact .inr (.inr (.inl ⟨c, ⟨cs.toArray⟩, rv, rw', by simpa using q⟩))
    · cases z
  · rename_i t ks vs
    split at z
    · rename_i e3
      unfold RV at rw'
      obtain ⟨a, ys, rfl, _, rr, dr⟩ := rw'
      have d := dget_of rr dr rv e3
      cases e : lookE ks vs v with
      | some u =>
        rw [e] at d z
        obtain ⟨u', d, _⟩ := d
        exact in_dict S d rfl z af
      | none =>
        rw [e] at d z
        exact in_dict S d rfl z af
    · cases z
  · rename_i m
    unfold RV at rw'
    obtain ⟨hm, rfl⟩ := rw'
    rw [getH_eq] at z
    split at z
    · rename_i xs e1
      obtain ⟨ys, q, rr⟩ := S.obj m _ e1
      exact inSeq_is S rv rr (.inl (SqL.of q)) (fun _ => SqL.of q) z af
    · rename_i t ks vs e1
      split at z
      · rename_i e3
        obtain ⟨ys, rr, dr⟩ := S.obj m _ e1
        have d := dget_of rr dr.rd rv e3
        cases e : lookE ks vs v with
        | some u =>
          rw [e] at d z
          obtain ⟨u', d, _⟩ := d
          exact in_dict S d rfl z af
        | none =>
          rw [e] at d z
          exact in_dict S d rfl z af
      · cases z
    · cases z
  · cases z
end
end Eg

set_option autoImplicit false
set_option maxRecDepth 100000
set_option maxHeartbeats 1000000
/-! E6: arithmetic, built-ins by name, methods of built-in types. -/
namespace Eg
open PySem PySem.Spec L2

section
variable {G : Cn} {X : Cx} {ρ : Rho} {h : EH} {H : Hp} {L : Nat}
/-! ### + -/
def lenE {α : Type} : List α → Nat
  | [] => 0
  | _ :: xs => Nat.succ (lenE xs)
theorem lenE_eq {α : Type} : ∀ xs : List α, lenE xs = xs.length
  | [] => rfl
  | _ :: xs => by rw [lenE, lenE_eq xs]; rfl
def items (h : EH) : EV → Option (List EV)
  | .lst xs => some xs
  | .ref n => match getH h n with
    | some (.lst xs) => some xs
    | _ => none
  | _ => none
theorem items_is {v : EV} {x : V} {xs : List EV} (S : Sim G ρ h H) (r : RV G ρ h.length H v x) (e : items h v = some xs) : ∃ a ys, x = .ref a ∧ H a = some (.lst ys) ∧ RVs G ρ h.length H xs ys := by
  unfold items at e
  split at e
  · cases e
    unfold RV at r
    obtain ⟨a, ys, rfl, q, _, rr⟩ := r
    exact ⟨a, ys, rfl, q, rr⟩
  · rename_i n
    unfold RV at r
    obtain ⟨hn, rfl⟩ := r
    rw [getH_eq] at e
    split at e
    · rename_i l e1
      cases e
      obtain ⟨ys, q, rr⟩ := S.obj n _ e1
      exact ⟨_, ys, rfl, q, rr⟩
    · cases e
  · cases e
def seqItems (h : EH) : EV → Option (List EV)
  | .tup xs => some xs
  | .kt xs => some xs
  | .lst xs => some xs
  | .ref n => match getH h n with
    | some (.lst xs) => some xs
    | _ => none
  | _ => none
theorem seqItems_is {v : EV} {x : V} {xs : List EV} (S : Sim G ρ h H) (r : RV G ρ h.length H v x) (e : seqItems h v = some xs) : ∃ a ys, x = .ref a ∧ (SqL G.K H a ys ∨ SqT G.K H a ys) ∧ RVs G ρ h.length H xs ys := by
  unfold seqItems at e
  split at e
  · cases e
    unfold RV at r
    obtain ⟨a, ys, rfl, q, rr⟩ := r
    exact ⟨a, ys, rfl, .inr (SqT.of q), rr⟩
  · cases e
    unfold RV at r
    obtain ⟨a, ys, rfl, q, rr⟩ := r
    exact ⟨a, ys, rfl, .inr q, rr⟩
  · cases e
    unfold RV at r
    obtain ⟨a, ys, rfl, q, _, rr⟩ := r
    exact ⟨a, ys, rfl, .inl (SqL.of q), rr⟩
  · rename_i n
    unfold RV at r
    obtain ⟨hn, rfl⟩ := r
    rw [getH_eq] at e
    split at e
    · rename_i l e1
      cases e
      obtain ⟨ys, q, rr⟩ := S.obj n _ e1
      exact ⟨_, ys, rfl, .inl (SqL.of q), rr⟩
    · cases e
  · cases e
def appE {α : Type} : List α → List α → List α
  | [], ys => ys
  | x :: xs, ys => x :: appE xs ys
theorem appE_eq {α : Type} : ∀ xs ys : List α, appE xs ys = xs ++ ys
  | [], _ => rfl
  | x :: xs, ys => by rw [appE, appE_eq xs ys]; rfl
/-- a + b, the second first: a literal may stand behind what is not known -/
def addI : Int → Int → Int
  | .ofNat a, .ofNat b => .ofNat (Nat.add b a)
  | .ofNat a, .negSucc b => Int.add (.ofNat a) (.negSucc b)
  | .negSucc a, .ofNat b => Int.add (.negSucc a) (.ofNat b)
  | .negSucc a, .negSucc b => Int.add (.negSucc a) (.negSucc b)
theorem addI_eq : ∀ a b : Int, addI a b = a + b
  | .ofNat a, .ofNat b => by
    show Int.ofNat (b + a) = Int.ofNat a + Int.ofNat b
    rw [Nat.add_comm]
    rfl
  | .ofNat a, .negSucc b => rfl
  | .negSucc a, .ofNat b => rfl
  | .negSucc a, .negSucc b => rfl
def pAdd : EV → EV → EH → (EV → EH → Bool) → Bool := fun v w h k => match v with
  | .int a => match w with
    | .int b => k (.int (addI a b)) h
    | _ => false
  | .str a => match w with
    | .str b => match Nat.ble (lenE a + lenE b) 16000000 with
      | true => k (.str (appE a b)) h
      | false => false
    | _ => false
  | .tup a => match w with
    | .tup b => match Nat.ble (lenE a + lenE b) 16000000 with
      | true => k (.tup (appE a b)) h
      | false => false
    | _ => false
  | v => match items h v, items h w with
    | some a, some b => match Nat.ble (lenE a + lenE b) 16000000 with
      | true => k (.lst (appE a b)) h
      | false => false
    | _, _ => false
def rAddA (G : Cn) : R2 := fun x y H Q => (∃ i j : Int, x = .int i ∧ y = .int j ∧ Q (.int (i + j)) H) ∨ (∃ i j : Str, x = .str i ∧ y = .str j ∧ i.length + j.length ≤ sizeLine ∧ Q (.str (i ++ j)) H) ∨ rCatA G.K x y H Q ∨ rCat x y H Q
theorem o_add (g : Gd G X) : OpR X (binaryOp .Add) (rAddA G) := OpR.or op_add (OpR.or op_add_str (OpR.or (g.k ▸ op_catA) op_cat))
theorem s_add : OpS G pAdd (rAddA G) := by
  intro ρ h H v w x y k Q S rv rw' z af
  unfold pAdd at z
  split at z
  · rename_i a
    split at z
    · rename_i b
      unfold RV at rv rw'
      exact .inl ⟨a, b, rv, rw', af.here S z (by unfold RV; rw [addI_eq])⟩
    · cases z
  · rename_i a
    split at z
    · rename_i b
      split at z
      · rename_i hl
        unfold RV at rv rw'
        rw [lenE_eq, lenE_eq, Nat.ble_eq] at hl
        rw [appE_eq] at z
        refine .inr (.inl ⟨⟨a.toArray⟩, ⟨b.toArray⟩, rv, rw', ?_, af.here S z ?_⟩)
        · rw [sizeLine_eq]
          show a.toArray.size + b.toArray.size ≤ _
          simp; omega
        · unfold RV
          show V.str (Str.append ⟨a.toArray⟩ ⟨b.toArray⟩) = _
          simp [Str.append]
      · cases z
    · cases z
  · rename_i a
    split at z
    · rename_i b
      split at z
      · rename_i hl
        unfold RV at rv rw'
        obtain ⟨p, xs, rfl, q1, r1⟩ := rv
        obtain ⟨p2, ys, rfl, q2, r2⟩ := rw'
        rw [lenE_eq, lenE_eq, Nat.ble_eq, r1.length, r2.length] at hl
        rw [appE_eq] at z
        refine .inr (.inr (.inl ⟨p, p2, xs, ys, rfl, rfl, SqT.of q1, SqT.of q2, by rw [sizeLine_eq]; omega, fun e => ?_, fun _ e => ?_, fun _ _ p hp => ?_⟩))
        · subst e
          have : a = [] := List.length_eq_zero_iff.mp (by rw [r1.length]; rfl)
          subst this
          exact af.here S z (by unfold RV; exact ⟨p2, ys, rfl, q2, r2⟩)
        · subst e
          have : b = [] := List.length_eq_zero_iff.mp (by rw [r2.length]; rfl)
          subst this
          rw [List.append_nil] at z
          exact af.here S z (by unfold RV; exact ⟨p, xs, rfl, q1, r1⟩)
        · exact af _ h ρ _ _ z (Post.temp S hp) (rv_tup S hp (r1.append r2))
      · cases z
    · cases z
  · split at z
    · rename_i a b e1 e2
      split at z
      · rename_i hl
        obtain ⟨p, xs, rfl, q1, r1⟩ := items_is S rv e1
        obtain ⟨p2, ys, rfl, q2, r2⟩ := items_is S rw' e2
        rw [lenE_eq, lenE_eq, Nat.ble_eq, r1.length, r2.length] at hl
        rw [appE_eq] at z
        exact .inr (.inr (.inr ⟨p, p2, xs, ys, rfl, rfl, q1, q2, by rw [sizeLine_eq]; omega, fun p hp => af _ h ρ _ _ z (Post.temp S hp) (rv_lst S hp (r1.append r2))⟩))
      · cases z
    · cases z
/-! ### -, *, //, % of ints -/
def pSub : EV → EV → EH → (EV → EH → Bool) → Bool := fun v w h k => match v, w with
  | .int a, .int b => k (.int (Int.sub a b)) h
  | _, _ => false
theorem s_sub : OpS G pSub (rI0 fun i j => .int (i - j)) := by
  intro ρ h H v w x y k Q S rv rw' z af
  unfold pSub at z
  split at z
  · rename_i a b
    unfold RV at rv rw'
    exact ⟨a, b, rv, rw', af.here S z (by unfold RV; rfl)⟩
  · cases z
def small (i : Int) : Bool := match i with
  | .ofNat n => Nat.ble n 18446744073709551615
  | .negSucc n => Nat.ble n 18446744073709551614
theorem small_is {i : Int} (h : small i = true) : -(2 ^ 64) < i ∧ i < 2 ^ 64 := by
  cases i with
  | ofNat n => have := Nat.ble_eq.mp h; have e : (Int.ofNat n) = (n : Int) := rfl; omega
  | negSucc n => have := Nat.ble_eq.mp h; rw [Int.negSucc_eq]; omega
def pMul : EV → EV → EH → (EV → EH → Bool) → Bool := fun v w h k => match v, w with
  | .int a, .int b => match small a with
    | true => k (.int (Int.mul a b)) h
    | false => match small b with
      | true => k (.int (Int.mul a b)) h
      | false => false
  | _, _ => false
theorem s_mul : OpS G pMul (rI CMul fun i j => .int (i * j)) := by
  intro ρ h H v w x y k Q S rv rw' z af
  unfold pMul at z
  split at z
  · rename_i a b
    unfold RV at rv rw'
    split at z
    · rename_i e
      exact ⟨a, b, rv, rw', .inl (small_is e), af.here S z (by unfold RV; rfl)⟩
    · split at z
      · rename_i e
        exact ⟨a, b, rv, rw', .inr (small_is e), af.here S z (by unfold RV; rfl)⟩
      · cases z
  · cases z
/-- by a positive number -/
def pos (i : Int) : Bool := match i with
  | .ofNat (n + 1) => Nat.ble n 1073741820
  | _ => false
theorem pos_is {i : Int} (h : pos i = true) : 0 < i ∧ i < 1073741824 := by
  unfold pos at h
  split at h
  · rename_i n
    have := Nat.ble_eq.mp h
    constructor
    · exact Int.natCast_pos.mpr (Nat.succ_pos n)
    · show ((n + 1 : Nat) : Int) < _
      omega
  · cases h
def pMod : EV → EV → EH → (EV → EH → Bool) → Bool := fun v w h k => match v, w with
  | .int a, .int b => match pos b with
    | true => k (.int (Int.emod a b)) h
    | false => false
  | _, _ => false
theorem s_mod : OpS G pMod (rI (fun _ j => 0 < j) fun i j => .int (i % j)) := by
  intro ρ h H v w x y k Q S rv rw' z af
  unfold pMod at z
  split at z
  · rename_i a b
    unfold RV at rv rw'
    split at z
    · rename_i e
      exact ⟨a, b, rv, rw', (pos_is e).1, af.here S z (by unfold RV; rfl)⟩
    · cases z
  · cases z
def pDiv : EV → EV → EH → (EV → EH → Bool) → Bool := fun v w h k => match v, w with
  | .int a, .int b => match pos b with
    | true => k (.int (Int.ediv a b)) h
    | false => false
  | _, _ => false
theorem s_div : OpS G pDiv (rI CDiv fun i j => .int (i / j)) := by
  intro ρ h H v w x y k Q S rv rw' z af
  unfold pDiv at z
  split at z
  · rename_i a b
    unfold RV at rv rw'
    split at z
    · rename_i e
      exact ⟨a, b, rv, rw', pos_is e, af.here S z (by unfold RV; rfl)⟩
    · cases z
  · cases z
def pNeg : EV → EH → (EV → EH → Bool) → Bool := fun v h k => match v with
  | .int a => k (.int (Int.neg a)) h
  | _ => false
theorem s_neg : UnS G pNeg (rU fun i => .int (-i)) := by
  intro ρ h H v x k Q S rv z af
  unfold pNeg at z
  split at z
  · rename_i a
    unfold RV at rv
    exact ⟨a, rv, af.here S z (by unfold RV; rfl)⟩
  · cases z

/-! ### built-ins by name -/
def CallS (G : Cn) (p : List EV → EH → (EV → EH → Bool) → Bool) (r : List V → Hp → VK → Prop) : Prop :=
  ∀ (ρ : Rho) (h : EH) (H : Hp) (vs : List EV) (xs : List V) (k : EV → EH → Bool) (Q : VK), Sim G ρ h H → RVs G ρ h.length H vs xs → p vs h k = true → After G ρ h H k Q → r xs H Q
variable {e : Expr} {es : List Expr} {f : KE} {fa : KA} {posn pp : Pos}
theorem x_callB {x : Str} {id : String} {r : List V → Hp → VK → Prop} {p : List EV → EH → (EV → EH → Bool) → Bool} (hc : CallR X (.builtin id) r) (hp : CallS G p r) (hg : Gl X x) (hm : X.mg x = none) (hv : bootBuiltins x = some (.builtin id)) (ha : XA G X (e :: es) fa)
    (hn : x ≠ "__name__" := by decide) (hdb : (x == ("__debug__" : Str)) = false := by decide) (he : starEach (e :: es) X.env = (false, eval e X.env) :: starEach es X.env := by rfl) (hpl : (backTo posn (starEach es X.env)).any (·.1) = false := by rfl) :
    XE G X (.Call (.Name x pp) (e :: es) [] posn) (kCall p fa) :=
  PE.imp (pe_callB hc hg hm hv ha hn hdb he hpl) fun σ H Q ⟨ρ, s, h, k, S, R, z, af⟩ => ⟨ρ, s, h, _, S, R, z, fun vs h1 ρ1 H1 xs z1 p1 r1 => hp ρ1 h1 H1 vs xs k Q p1.sim r1 z1 (af.next p1)⟩
theorem x_callTy {x : Str} {T : String} {r : List V → Hp → VK → Prop} {p : List EV → EH → (EV → EH → Bool) → Bool} (hc : CallR X (.type T) r) (hp : CallS G p r) (hg : Gl X x) (hm : X.mg x = none) (hv : bootBuiltins x = some (.type T)) (ha : XA G X (e :: es) fa)
    (hn : x ≠ "__name__" := by decide) (hdb : (x == ("__debug__" : Str)) = false := by decide) (he : starEach (e :: es) X.env = (false, eval e X.env) :: starEach es X.env := by rfl) (hpl : (backTo posn (starEach es X.env)).any (·.1) = false := by rfl) :
    XE G X (.Call (.Name x pp) (e :: es) [] posn) (kCall p fa) :=
  PE.imp (pe_callTy hc hg hm hv ha hn hdb he hpl) fun σ H Q ⟨ρ, s, h, k, S, R, z, af⟩ => ⟨ρ, s, h, _, S, R, z, fun vs h1 ρ1 H1 xs z1 p1 r1 => hp ρ1 h1 H1 vs xs k Q p1.sim r1 z1 (af.next p1)⟩
theorem one {v : EV} {xs : List V} (r : RVs G ρ L H [v] xs) : ∃ x, xs = [x] ∧ RV G ρ L H v x := by
  unfold RVs at r
  obtain ⟨z, zs, rfl, r1, r2⟩ := r
  unfold RVs at r2
  subst r2
  exact ⟨z, rfl, r1⟩
theorem twoV {v w : EV} {xs : List V} (r : RVs G ρ L H [v, w] xs) : ∃ x y, xs = [x, y] ∧ RV G ρ L H v x ∧ RV G ρ L H w y := by
  unfold RVs at r
  obtain ⟨z, zs, rfl, r1, r2⟩ := r
  obtain ⟨y, rfl, q⟩ := one r2
  exact ⟨z, y, rfl, r1, q⟩
/-! len -/
def bLen : List EV → EH → (EV → EH → Bool) → Bool := fun vs h k => match vs with
  | [.str x] => match Nat.ble (lenE x) 16000000 with
    | true => k (.int (Int.ofNat (lenE x))) h
    | false => false
  | [.ref n] => match getH h n with
    | some (.lst xs) => k (.int (Int.ofNat (lenE xs))) h
    | some (.dic t ks _) => k (.int (Int.ofNat (lenE ks))) h
    | _ => false
  | [v] => match seqItems h v with
    | some xs => k (.int (Int.ofNat (lenE xs))) h
    | none => false
  | _ => false
def rLenA (G : Cn) : List V → Hp → VK → Prop := fun xs H Q => (∃ x n, xs = [x] ∧ LenV G.K x H n ∧ Q (.int n) H) ∨ (∃ a kvs, xs = [V.ref a] ∧ H a = some (.dK kvs) ∧ Q (.int kvs.length) H) ∨ rLenT xs H Q
theorem c_len (g : Gd G X) : CallR X (.builtin "len") (rLenA G) := CallR.or (g.k ▸ call_len) (CallR.or call_lenD call_len_dT)
theorem ofs_length {κ : Type} [DecidableEq κ] {f : EV → Option κ} : ∀ {ks : List EV} {kk : List κ}, ofs f ks = some kk → ks.length = kk.length
  | [], kk, h => by simp only [ofs, Option.some.injEq] at h; subst h; rfl
  | k :: ks, kk, h => by
    obtain ⟨a, l, rfl, _, e2⟩ := ofs_cons h
    simp [ofs_length e2]
theorem len_seq {v : EV} {x : V} {xs : List EV} {k : EV → EH → Bool} {Q : VK} (S : Sim G ρ h H) (r : RV G ρ h.length H v x) (e : seqItems h v = some xs) (z : k (.int (Int.ofNat (lenE xs))) h = true) (af : After G ρ h H k Q) : rLenA G [x] H Q := by
  obtain ⟨a, ys, rfl, q, rr⟩ := seqItems_is S r e
  rw [lenE_eq, rr.length] at z
  refine .inl ⟨_, ys.length, rfl, ?_, af.here S z (by unfold RV; rfl)⟩
  rcases q with q | q
  · exact .inl ⟨ys, q, rfl⟩
  · exact .inr ⟨ys, q, rfl⟩
theorem b_len : CallS G bLen (rLenA G) := by
  intro ρ h H vs xs k Q S r z af
  unfold bLen at z
  split at z
  · rename_i c
    obtain ⟨x, rfl, q⟩ := one r
    split at z
    · rename_i hl
      unfold RV at q
      subst q
      rw [lenE_eq] at z hl
      rw [Nat.ble_eq] at hl
      refine .inl ⟨_, c.length, rfl, ⟨?_, ?_⟩, af.here S z (by unfold RV; rfl)⟩
      · rw [sizeLine_eq]; show c.toArray.size ≤ _; simp; omega
      · show c.length = c.toArray.size; simp
    · cases z
  · rename_i n
    obtain ⟨x, rfl, q⟩ := one r
    split at z
    · rename_i l e1
      exact len_seq S q (by simp only [seqItems, e1]) z af
    · rename_i t ks us e1
      unfold RV at q
      obtain ⟨hn, rfl⟩ := q
      rw [getH_eq] at e1
      obtain ⟨ys, rr, dr⟩ := S.obj n _ e1
      cases t with
      | false =>
        obtain ⟨kk, h1, h2, h3⟩ := dr
        refine .inr (.inl ⟨_, _, rfl, h3, af.here S z ?_⟩)
        unfold RV
        rw [lenE_eq, ofs_length h1]
        simp [h2]
      | true =>
        obtain ⟨kk, h1, h2, h3⟩ := dr
        have q := af.here S z (x := .int ((kk.zip ys).length : Nat)) (by unfold RV; rw [lenE_eq, ofs_length h1]; simp [h2])
        exact .inr (.inr ⟨_, _, rfl, h3, q⟩)
    · cases z
  · rename_i v _ _
    obtain ⟨x, rfl, q⟩ := one r
    split at z
    · rename_i l e1
      exact len_seq S q e1 z af
    · cases z
  · cases z
end
end Eg

set_option autoImplicit false
set_option maxRecDepth 100000
set_option maxHeartbeats 1000000
/-! E7: more built-ins; isinstance; methods of lists. -/
namespace Eg
open PySem PySem.Spec L2

section
variable {G : Cn} {X : Cx} {ρ : Rho} {h : EH} {H : Hp} {L : Nat}
/-! ### all, any, sum, tuple, list, int, abs, max, min -/
def boolsE : List EV → Option (List Bool)
  | [] => some []
  | .bl b :: xs => match boolsE xs with
    | some bs => some (b :: bs)
    | none => none
  | _ :: _ => none
def intsE : List EV → Option (List Int)
  | [] => some []
  | .int b :: xs => match intsE xs with
    | some bs => some (b :: bs)
    | none => none
  | _ :: _ => none
theorem bools_is : ∀ {xs : List EV} {bs : List Bool} {ys : List V}, boolsE xs = some bs → RVs G ρ L H xs ys → ys = bs.map V.bl
  | [], bs, ys, e, r => by
    simp only [boolsE, Option.some.injEq] at e
    unfold RVs at r
    subst e r
    rfl
  | x :: xs, bs, ys, e, r => by
    unfold RVs at r
    obtain ⟨z, zs, rfl, r1, r2⟩ := r
    cases x <;> simp only [boolsE, reduceCtorEq] at e
    split at e
    · rename_i b _ l e1
      cases e
      unfold RV at r1
      rw [r1, bools_is e1 r2]
      rfl
    · cases e
theorem ints_is : ∀ {xs : List EV} {bs : List Int} {ys : List V}, intsE xs = some bs → RVs G ρ L H xs ys → ys = bs.map V.int
  | [], bs, ys, e, r => by
    simp only [intsE, Option.some.injEq] at e
    unfold RVs at r
    subst e r
    rfl
  | x :: xs, bs, ys, e, r => by
    unfold RVs at r
    obtain ⟨z, zs, rfl, r1, r2⟩ := r
    cases x <;> simp only [intsE, reduceCtorEq] at e
    split at e
    · rename_i b _ l e1
      cases e
      unfold RV at r1
      rw [r1, ints_is e1 r2]
      rfl
    · cases e
def andE : List Bool → Bool
  | [] => true
  | true :: bs => andE bs
  | false :: _ => false
def orE : List Bool → Bool
  | [] => false
  | true :: _ => true
  | false :: bs => orE bs
theorem andE_is : ∀ bs : List Bool, andE bs = bs.all id
  | [] => rfl
  | true :: bs => by rw [andE, andE_is bs]; rfl
  | false :: bs => by rw [andE]; rfl
theorem orE_is : ∀ bs : List Bool, orE bs = bs.any id
  | [] => rfl
  | true :: bs => by rw [orE]; rfl
  | false :: bs => by rw [orE, orE_is bs]; rfl
def bAll (any : Bool) : List EV → EH → (EV → EH → Bool) → Bool := fun vs h k => match vs with
  | [v] => match items h v with
    | some xs => match boolsE xs with
      | some bs => k (.bl (match any with
        | true => orE bs
        | false => andE bs)) h
      | none => false
    | none => false
  | _ => false
theorem c_all (g : Gd G X) : CallR X (.builtin "all") (rAll G.K) := g.k ▸ cr_all g.c
theorem c_any (g : Gd G X) : CallR X (.builtin "any") (rAny G.K) := g.k ▸ cr_any g.c
theorem b_all : CallS G (bAll false) (rAll G.K) := by
  intro ρ h H vs xs k Q S r z af
  unfold bAll at z
  split at z
  · obtain ⟨x, rfl, q⟩ := one r
    split at z
    · rename_i l e1
      split at z
      · rename_i bs e2
        obtain ⟨a, ys, rfl, q1, rr⟩ := items_is S q e1
        have := bools_is e2 rr
        subst this
        exact ⟨a, bs, rfl, SqL.of q1, af.here S z (by unfold RV; rw [← andE_is])⟩
      · cases z
    · cases z
  · cases z
theorem b_any : CallS G (bAll true) (rAny G.K) := by
  intro ρ h H vs xs k Q S r z af
  unfold bAll at z
  split at z
  · obtain ⟨x, rfl, q⟩ := one r
    split at z
    · rename_i l e1
      split at z
      · rename_i bs e2
        obtain ⟨a, ys, rfl, q1, rr⟩ := items_is S q e1
        have := bools_is e2 rr
        subst this
        exact ⟨a, bs, rfl, SqL.of q1, af.here S z (by unfold RV; rw [← orE_is])⟩
      · cases z
    · cases z
  · cases z
/-- tuple(x) of a list or a tuple -/
def bTuple : List EV → EH → (EV → EH → Bool) → Bool := fun vs h k => match vs with
  | [.tup xs] => k (.tup xs) h
  | [.kt xs] => k (.kt xs) h
  | [v] => match items h v with
    | some xs => k (.tup xs) h
    | none => false
  | _ => false
theorem c_tuple (g : Gd G X) : CallR X (.type "tuple") (fun xs H Q => ∃ p ys, xs = [.ref p] ∧ ((SqL G.K H p ys ∧ ∀ l, H l = none → Q (.ref l) (upd H l (.tup ys))) ∨ (SqT G.K H p ys ∧ Q (.ref p) H))) := g.k ▸ call_tuple_of
theorem b_tuple : CallS G bTuple (fun xs H Q => ∃ p ys, xs = [.ref p] ∧ ((SqL G.K H p ys ∧ ∀ l, H l = none → Q (.ref l) (upd H l (.tup ys))) ∨ (SqT G.K H p ys ∧ Q (.ref p) H))) := by
  intro ρ h H vs xs k Q S r z af
  unfold bTuple at z
  split at z
  · obtain ⟨x, rfl, q⟩ := one r
    have q0 := q
    unfold RV at q
    obtain ⟨a, ys, rfl, q1, rr⟩ := q
    exact ⟨a, ys, rfl, .inr ⟨SqT.of q1, af.here S z q0⟩⟩
  · obtain ⟨x, rfl, q⟩ := one r
    have q0 := q
    unfold RV at q
    obtain ⟨a, ys, rfl, q1, rr⟩ := q
    exact ⟨a, ys, rfl, .inr ⟨q1, af.here S z q0⟩⟩
  · obtain ⟨x, rfl, q⟩ := one r
    split at z
    · rename_i l e1
      obtain ⟨a, ys, rfl, q1, rr⟩ := items_is S q e1
      exact ⟨a, ys, rfl, .inl ⟨SqL.of q1, fun p hp => af _ h ρ _ _ z (Post.temp S hp) (rv_tup S hp rr)⟩⟩
    · cases z
  · cases z
/-- list(x) of a list or a tuple: own: an object -/
def bList (own : Bool) : List EV → EH → (EV → EH → Bool) → Bool := fun vs h k => match vs with
  | [v] => match seqItems h v with
    | some xs => match own with
      | true => newH h (.lst xs) k
      | false => k (.lst xs) h
    | none => false
  | _ => false
def rListA (G : Cn) : List V → Hp → VK → Prop := fun xs H Q => ∃ p ys, xs = [.ref p] ∧ (SqL G.K H p ys ∨ SqT G.K H p ys) ∧ ∀ l, H l = none → Q (.ref l) (upd H l (.lst ys))
theorem c_list (g : Gd G X) : CallR X (.type "list") (rListA G) := by
  unfold rListA
  rw [← g.k]
  exact call_list_of
theorem b_list (own : Bool) : CallS G (bList own) (rListA G) := by
  intro ρ h H vs xs k Q S r z af
  unfold bList at z
  split at z
  · obtain ⟨x, rfl, q⟩ := one r
    split at z
    · rename_i l e1
      obtain ⟨a, ys, rfl, q1, rr⟩ := seqItems_is S q e1
      refine ⟨a, ys, rfl, q1, fun p hp => ?_⟩
      cases own with
      | true => exact af _ _ _ _ _ z (new_lst S hp rr) rv_new'
      | false => exact af _ h ρ _ _ z (Post.temp S hp) (rv_lst S hp rr)
    · cases z
  · cases z
def bInt : List EV → EH → (EV → EH → Bool) → Bool := fun vs h k => match vs with
  | [.int i] => k (.int i) h
  | [.bl b] => k (.int (match b with
    | true => 1
    | false => 0)) h
  | _ => false
theorem b_int : CallS G bInt (fun xs H Q => (∃ i, xs = [.int i] ∧ Q (.int i) H) ∨ ∃ k, xs = [.bl k] ∧ Q (.int (if k then 1 else 0)) H) := by
  intro ρ h H vs xs k Q S r z af
  unfold bInt at z
  split at z
  · rename_i i
    obtain ⟨x, rfl, q⟩ := one r
    unfold RV at q
    subst q
    exact .inl ⟨i, rfl, af.here S z (by unfold RV; rfl)⟩
  · rename_i b
    obtain ⟨x, rfl, q⟩ := one r
    unfold RV at q
    subst q
    exact .inr ⟨b, rfl, af.here S z (by unfold RV; cases b <;> rfl)⟩
  · cases z

/-! ### isinstance of a built-in class -/
inductive Ty where | non | bool | int | str | list | tuple | dict
def Ty.name : Ty → String
  | .non => "NoneType" | .bool => "bool" | .int => "int" | .str => "str" | .list => "list" | .tuple => "tuple" | .dict => "dict"
def Ty.isi : Ty → Ty → Bool
  | .non, .non => true | .bool, .bool => true | .bool, .int => true | .int, .int => true | .str, .str => true | .list, .list => true | .tuple, .tuple => true | .dict, .dict => true
  | _, _ => false
theorem Ty.kit {K : PySem.W.Frag} (a b : Ty) (hb : b ≠ .non) : PySem.W.kitOne K (.type a.name) (.type b.name) = some (a.isi b) := by
  cases b <;> first | exact absurd rfl hb | (cases a <;> exact kit_ty (by decide +kernel))
def tyE (h : EH) : EV → Option Ty
  | .non => some .non
  | .bl _ => some .bool
  | .int _ => some .int
  | .str _ => some .str
  | .tup _ => some .tuple
  | .lst _ => some .list
  | .dct _ _ _ => none
  | .rp _ => some .str
  | .kt _ => none
  | .scr => none
  | .tx _ => some .str
  | .clo _ _ => none
  | .exc _ _ => none
  | .ref n => match getH h n with
    | some (.lst _) => some .list
    | some (.dic _ _ _) => some .dict
    | _ => none
theorem DR.ty {K : PySem.W.Frag} {t : Bool} {ks : List EV} {a : Addr} {ys : List V} (d : DR H t ks a ys) : TyOf K H (.ref a) (.type "dict") := by
  cases t with
  | false => obtain ⟨kk, _, _, e⟩ := d; exact .dK e
  | true => obtain ⟨kk, _, _, e⟩ := d; exact .dT e
theorem tyE_is {v : EV} {x : V} {t : Ty} (S : Sim G ρ h H) (r : RV G ρ h.length H v x) (e : tyE h v = some t) : TyX G.K H x (.type t.name) := by
  cases v with
  | non => cases e; unfold RV at r; subst r; exact .base .non
  | bl b => cases e; unfold RV at r; subst r; exact .base (.bl b)
  | int b => cases e; unfold RV at r; subst r; exact .base (.int b)
  | str b => cases e; unfold RV at r; subst r; exact .base (.str _)
  | tup b => cases e; unfold RV at r; obtain ⟨a, ys, rfl, q, _⟩ := r; exact .base (.tup q)
  | lst b => cases e; unfold RV at r; obtain ⟨a, ys, rfl, q, _⟩ := r; exact .base (.lst q)
  | dct _ _ _ => cases e
  | rp b => cases e; unfold RV at r; obtain ⟨d, _, rfl⟩ := r; exact .base (.str _)
  | tx b => cases e; unfold RV at r; subst r; exact .base (.str _)
  | kt b => cases e
  | scr => cases e
  | clo _ _ => cases e
  | exc _ _ => cases e
  | ref n =>
    unfold RV at r
    obtain ⟨hn, rfl⟩ := r
    simp only [tyE, getH_eq] at e
    split at e
    · rename_i l e1
      cases e
      obtain ⟨ys, q, _⟩ := S.obj n _ e1
      exact .base (.lst q)
    · rename_i l e1
      cases e
      obtain ⟨ys, _, q⟩ := S.obj n _ e1
      exact .base (DR.ty q)
    · cases e
def kIsi (t : Ty) (f : KE) : KE := fun s h k => f s h fun v h => match tyE h v with
  | some u => k (.bl (u.isi t)) h
  | none => false
variable {a : Expr} {f : KE} {fa : KA} {p1 p2 pos : Pos}
theorem x_isi (t : Ty) {T x : Str} (g : Gd G X) (hg : Gl X x) (hm : X.mg x = none) (hgT : Gl X T) (hmT : X.mg T = none) (ha : XE G X a f) (hx : x = "isinstance" := by rfl) (hv : bootBuiltins T = some (.type t.name) := by decide +kernel) (ht : t ≠ .non := by decide) (hn : T ≠ "__name__" := by decide)
    (hdb : (T == ("__debug__" : Str)) = false := by decide)
    (hs : starEach [a, .Name T p2] X.env = (false, eval a X.env) :: starEach [.Name T p2] X.env := by rfl) :
    XE G X (.Call (.Name x p1) [a, .Name T p2] [] pos) (kIsi t f) := by
  subst hx
  refine PE.imp (pe_callB call_isi hg hm (by decide +kernel) (pa_cons ha (pa_cons (pe_bltn (v := .ty t.name) hgT hmT hv rfl hn hdb) pa_nil) hs) (by decide) (by decide) hs (by rfl)) fun σ H Q ⟨ρ, s, h, k, S, R, z, af⟩ => ⟨ρ, s, h, _, S, R, z, fun v h1 ρ1 H1 x z1 q1 r1 => ?_⟩
  split at z1
  · rename_i u e
    exact ⟨x, .ty t.name, .type u.name, .type t.name, u.isi t, rfl, .ty _, g.k ▸ tyE_is q1.sim r1 e, Ty.kit u t ht, (af.next q1).here q1.sim z1 (by unfold RV; rfl)⟩
  · cases z1

/-! ### methods of built-in types -/
def MtS (G : Cn) (p : EV → List EV → EH → (EV → EH → Bool) → Bool) (T : String) (r : V → List V → Hp → VK → Prop) : Prop :=
  ∀ (ρ : Rho) (h : EH) (H : Hp) (v : EV) (x : V) (vs : List EV) (xs : List V) (k : EV → EH → Bool) (Q : VK), Sim G ρ h H → RV G ρ h.length H v x → RVs G ρ h.length H vs xs → p v vs h k = true → After G ρ h H k Q → r x xs H Q
/-- whether a value is of the type whose method is called, ahead of the arguments -/
def recv (t : Ty) (v : EV) (h : EH) : Bool := match t, v with
  | .str, .str _ => true
  | .list, .lst _ => true
  | .list, .ref n => match getH h n with
    | some (.lst _) => true
    | _ => false
  | .dict, .ref n => match getH h n with
    | some (.dic _ _ _) => true
    | _ => false
  | _, _ => false
theorem DR.isD {t : Bool} {ks : List EV} {a : Addr} {ys : List V} (d : DR H t ks a ys) : (∃ kvs, H a = some (.dK kvs)) ∨ ∃ kvs, H a = some (.dT kvs) := by
  cases t with
  | false => obtain ⟨kk, _, _, e⟩ := d; exact .inl ⟨_, e⟩
  | true => obtain ⟨kk, _, _, e⟩ := d; exact .inr ⟨_, e⟩
theorem recv_is {t : Ty} {v : EV} {x : V} (S : Sim G ρ h H) (r : RV G ρ h.length H v x) (e : recv t v h = true) : tyV G.K t.name x H := by
  unfold recv at e
  split at e
  · unfold RV at r; subst r; rfl
  · unfold RV at r; obtain ⟨a, ys, rfl, q, _⟩ := r; exact .inl ⟨rfl, ys, SqL.of q⟩
  · rename_i n
    unfold RV at r
    obtain ⟨hn, rfl⟩ := r
    rw [getH_eq] at e
    split at e
    · rename_i l e1
      obtain ⟨ys, q, _⟩ := S.obj n _ e1
      exact .inl ⟨rfl, ys, SqL.of q⟩
    · cases e
  · rename_i n
    unfold RV at r
    obtain ⟨hn, rfl⟩ := r
    rw [getH_eq] at e
    split at e
    · rename_i t l _ e1
      obtain ⟨ys, _, q⟩ := S.obj n _ e1
      exact .inr (.inr (.inl ⟨rfl, DR.isD q⟩))
    · cases e
  · cases e
def kMt (t : Ty) (p : EV → List EV → EH → (EV → EH → Bool) → Bool) (f : KE) (fa : KA) : KE := fun s h k => f s h fun v h => match recv t v h with
  | true => fa s h fun vs h => p v vs h k
  | false => false
variable {o e : Expr} {es : List Expr} {name : Str} {apos cpos : Pos} {id : String} {r : V → List V → Hp → VK → Prop} {p : EV → List EV → EH → (EV → EH → Bool) → Bool}
theorem x_mt (t : Ty) (g : Gd G X) (pa : PlainAttrs t.name) (slot : Slot t.name name id) (hty : typeOf (.builtin id) = pure (.type "method_descriptor")) (hm : MtR X id r) (hp : MtS G p t.name r) (ho : XE G X o f) (ha : XA G X (e :: es) fa)
    (hbase : attributeBase o name X.env (eval o X.env) = eval o X.env := by rfl)
    (hfew : ((backTo cpos (starEach (e :: es) X.env)).all (fun x => !x.1) && (backToKw cpos (keywordEach [] X.env)).all (fun x => x.1.isSome)
      && decide ((e :: es).length + ([] : List Keyword).length + (if ([] : List Keyword).isEmpty then 0 else 1) < 30)) = true := by rfl)
    (hline : (apos.endLine == cpos.line) = true := by rfl) (hs : starEach (e :: es) X.env = (false, eval e X.env) :: starEach es X.env := by rfl) (hplain : (backTo cpos (starEach es X.env)).any (·.1) = false := by rfl) :
    XE G X (.Call (.Attribute o name apos) (e :: es) [] cpos) (kMt t p f fa) := by
  refine PE.imp (pe_bm pa slot hty hm ho ha hbase hfew hline hs hplain) fun σ H Q ⟨ρ, s, h, k, S, R, z, af⟩ => ⟨ρ, s, h, _, S, R, z, fun v h1 ρ1 H1 x z1 q1 r1 => ?_⟩
  split at z1
  · rename_i ev
    exact ⟨g.k ▸ recv_is q1.sim r1 ev, ρ1, s, h1, _, q1.sim, q1.rs R, z1, fun vs h2 ρ2 H2 xs z2 q2 r2 => hp ρ2 h2 H2 v x vs xs k Q q2.sim (q2.rv r1) r2 z2 ((af.next q1).next q2)⟩
  · cases z1
theorem x_mt0 (t : Ty) (g : Gd G X) (pa : PlainAttrs t.name) (slot : Slot t.name name id) (hty : typeOf (.builtin id) = pure (.type "method_descriptor")) (hm : MtR X id r) (hp : MtS G p t.name r) (ho : XE G X o f)
    (hbase : attributeBase o name X.env (eval o X.env) = eval o X.env := by rfl) (hline : (apos.endLine == cpos.line) = true := by rfl) :
    XE G X (.Call (.Attribute o name apos) [] [] cpos) (kMt t p f kNil) := by
  refine PE.imp (pe_bm0 pa slot hty hm ho hbase hline) fun σ H Q ⟨ρ, s, h, k, S, R, z, af⟩ => ⟨ρ, s, h, _, S, R, z, fun v h1 ρ1 H1 x z1 q1 r1 => ?_⟩
  split at z1
  · rename_i ev
    exact ⟨g.k ▸ recv_is q1.sim r1 ev, hp ρ1 h1 H1 v x [] [] k Q q1.sim r1 RVs.nil z1 (af.next q1)⟩
  · cases z1
def mAppend : EV → List EV → EH → (EV → EH → Bool) → Bool := fun v vs h k => match v with
  | .ref n => match getH h n with
    | some (.lst xs) => match vs with
      | [w] => match Nat.blt (lenE xs) 16000000 with
        | true => k .non (setH h n (.lst (appE xs [w])))
        | false => false
      | _ => false
    | _ => false
  | _ => false
theorem rv_non {ρ : Rho} {L : Nat} {H : Hp} : RV G ρ L H .non .non := by unfold RV; rfl
theorem s_append : MtS G mAppend "list" rAppend := by
  intro ρ h H v x vs xs k Q S rv rvs z af
  unfold mAppend at z
  split at z
  · rename_i n
    unfold RV at rv
    obtain ⟨hn, rfl⟩ := rv
    rw [getH_eq] at z
    split at z
    · rename_i l e1
      split at z
      · rename_i w
        obtain ⟨y, rfl, q⟩ := one rvs
        split at z
        · rename_i hl
          obtain ⟨ys, e, rr⟩ := S.obj n _ e1
          rw [lenE_eq, Nat.blt_eq, rr.length] at hl
          rw [appE_eq] at z
          have w1 : RO G ρ h.length (upd H (ρ n) (.lst (ys ++ [y]))) (.lst (l ++ [w])) (ρ n) := ⟨_, upd_same, RVs.write S hn (rr.append (RVs.cons q RVs.nil))⟩
          exact ⟨ρ n, ys, y, rfl, rfl, e, by rw [sizeLine_eq]; omega, af _ _ ρ _ _ z (Post.write S hn w1) rv_non⟩
        · cases z
      · cases z
    · cases z
  · cases z
def mExtend : EV → List EV → EH → (EV → EH → Bool) → Bool := fun v vs h k => match v with
  | .ref n => match getH h n with
    | some (.lst xs) => match vs with
      | [w] => match items h w with
        | some zs => match Nat.ble (lenE xs + lenE zs) 16000000 with
          | true => k .non (setH h n (.lst (appE xs zs)))
          | false => false
        | none => false
      | _ => false
    | _ => false
  | _ => false
theorem s_extend : MtS G mExtend "list" rExtend := by
  intro ρ h H v x vs xs k Q S rv rvs z af
  unfold mExtend at z
  split at z
  · rename_i n
    unfold RV at rv
    obtain ⟨hn, rfl⟩ := rv
    rw [getH_eq] at z
    split at z
    · rename_i l e1
      split at z
      · rename_i w
        obtain ⟨y, rfl, q⟩ := one rvs
        split at z
        · rename_i zs e2
          split at z
          · rename_i hl
            obtain ⟨ys, e, rr⟩ := S.obj n _ e1
            obtain ⟨b, us, rfl, q1, r2⟩ := items_is S q e2
            rw [lenE_eq, lenE_eq, Nat.ble_eq, rr.length, r2.length] at hl
            rw [appE_eq] at z
            have w1 : RO G ρ h.length (upd H (ρ n) (.lst (ys ++ us))) (.lst (l ++ zs)) (ρ n) := ⟨_, upd_same, RVs.write S hn (rr.append r2)⟩
            exact ⟨ρ n, b, ys, us, rfl, rfl, e, q1, by rw [sizeLine_eq]; omega, af _ _ ρ _ _ z (Post.write S hn w1) rv_non⟩
          · cases z
        · cases z
      · cases z
    · cases z
  · cases z
/-- the last item, the items ahead of it -/
def lastE : List EV → Option (List EV × EV)
  | [] => none
  | x :: xs => match xs with
    | [] => some ([], x)
    | _ :: _ => match lastE xs with
      | some (a, b) => some (x :: a, b)
      | none => none
theorem lastE_is : ∀ {xs a : List EV} {b : EV}, lastE xs = some (a, b) → xs = a ++ [b]
  | [], a, b, e => by simp [lastE] at e
  | [x], a, b, e => by simp only [lastE, Option.some.injEq, Prod.mk.injEq] at e; rw [← e.1, ← e.2]; rfl
  | x :: y :: xs, a, b, e => by
    rw [lastE] at e
    split at e
    · rename_i a' b' e1
      cases e
      rw [lastE_is e1]
      rfl
    · cases e
def mPop : EV → List EV → EH → (EV → EH → Bool) → Bool := fun v vs h k => match v with
  | .ref n => match getH h n with
    | some (.lst xs) => match vs with
      | [] => match lastE xs with
        | some (a, b) => k b (setH h n (.lst a))
        | none => false
      | _ => false
    | _ => false
  | _ => false
theorem RVs.split : ∀ {as bs : List EV} {xs : List V}, RVs G ρ L H (as ++ bs) xs → ∃ ys zs, xs = ys ++ zs ∧ RVs G ρ L H as ys ∧ RVs G ρ L H bs zs
  | [], bs, xs, r => ⟨[], xs, rfl, RVs.nil, r⟩
  | a :: as, bs, xs, r => by
    have r : RVs G ρ L H (a :: (as ++ bs)) xs := r
    unfold RVs at r
    obtain ⟨z, zs, rfl, r1, r2⟩ := r
    obtain ⟨ys, us, rfl, q1, q2⟩ := RVs.split r2
    exact ⟨z :: ys, us, rfl, RVs.cons r1 q1, q2⟩
theorem s_pop : MtS G mPop "list" rPop := by
  intro ρ h H v x vs xs k Q S rv rvs z af
  unfold mPop at z
  split at z
  · rename_i n
    unfold RV at rv
    obtain ⟨hn, rfl⟩ := rv
    rw [getH_eq] at z
    split at z
    · rename_i l e1
      split at z
      · unfold RVs at rvs
        subst rvs
        split at z
        · rename_i a b e2
          obtain ⟨ys, e, rr⟩ := S.obj n _ e1
          rw [lastE_is e2] at rr
          obtain ⟨ya, yb, rfl, r1, r2⟩ := rr.split
          obtain ⟨y, rfl, q⟩ := one r2
          have w1 : RO G ρ h.length (upd H (ρ n) (.lst ya)) (.lst a) (ρ n) := ⟨_, upd_same, RVs.write S hn r1⟩
          refine ⟨ρ n, _, y, rfl, rfl, e, by simp, ?_⟩
          rw [List.dropLast_concat]
          exact af _ _ ρ _ _ z (Post.write S hn w1) (by
            have := RV.write (o := .lst ya) S hn q
            simpa [setH_eq] using this)
        · cases z
      · cases z
    · cases z
  · cases z
/-- the item at a place, the others -/
def cutAt : List EV → Nat → Option (EV × List EV)
  | [], _ => none
  | x :: xs, n => match n with
    | 0 => some (x, xs)
    | n + 1 => match cutAt xs n with
      | some (a, b) => some (a, x :: b)
      | none => none
theorem cutAt_is : ∀ {xs b : List EV} {a : EV} {n : Nat}, cutAt xs n = some (a, b) → xs[n]? = some a ∧ b = xs.eraseIdx n
  | [], b, a, n, e => by simp [cutAt] at e
  | x :: xs, b, a, 0, e => by simp only [cutAt, Option.some.injEq, Prod.mk.injEq] at e; simp [e.1, e.2]
  | x :: xs, b, a, n + 1, e => by
    rw [cutAt] at e
    split at e
    · rename_i a' b' e1
      cases e
      obtain ⟨h1, h2⟩ := cutAt_is e1
      simp [h1, h2]
    · cases e
theorem RVs.erase : ∀ {xs : List EV} {ys : List V} (n : Nat), RVs G ρ L H xs ys → RVs G ρ L H (xs.eraseIdx n) (ys.eraseIdx n)
  | [], ys, n, r => by unfold RVs at r; subst r; simpa using RVs.nil
  | x :: xs, ys, 0, r => by
    unfold RVs at r
    obtain ⟨z, zs, rfl, r1, r2⟩ := r
    exact r2
  | x :: xs, ys, n + 1, r => by
    unfold RVs at r
    obtain ⟨z, zs, rfl, r1, r2⟩ := r
    exact RVs.cons r1 (RVs.erase n r2)
/-- xs.pop(i), i from 0 on -/
def mPopAt : EV → List EV → EH → (EV → EH → Bool) → Bool := fun v vs h k => match v with
  | .ref n => match getH h n with
    | some (.lst xs) => match vs with
      | [.int (.ofNat i)] => match cutAt xs i, Nat.ble i 16000000 with
        | some (a, b), true => k a (setH h n (.lst b))
        | _, _ => false
      | _ => false
    | _ => false
  | _ => false
theorem s_popAt : MtS G mPopAt "list" rPopAt := by
  intro ρ h H v x vs xs k Q S rv rvs z af
  unfold mPopAt at z
  split at z
  · rename_i n
    unfold RV at rv
    obtain ⟨hn, rfl⟩ := rv
    rw [getH_eq] at z
    split at z
    · rename_i l e1
      split at z
      · rename_i i
        obtain ⟨y, rfl, q⟩ := one rvs
        unfold RV at q
        subst q
        split at z
        · rename_i a b e2 hl
          obtain ⟨ys, e, rr⟩ := S.obj n _ e1
          obtain ⟨c1, c2⟩ := cutAt_is e2
          obtain ⟨t, c3, rt⟩ := rr.get c1
          have hi := Nat.ble_eq.mp hl
          have hi2 : i < ys.length := (List.getElem?_eq_some_iff.mp c3).1
          subst c2
          have w1 : RO G ρ h.length (upd H (ρ n) (.lst (ys.eraseIdx i))) (.lst (l.eraseIdx i)) (ρ n) := ⟨_, upd_same, RVs.write S hn (rr.erase i)⟩
          have es : seqIndex? (Int.ofNat i) ys.length = some i := by
            have e3 : atI ys (Int.ofNat i) = ys[i]? := atI_ofNat ys i
            have : ixN ys.length (Int.ofNat i) = some i := by
              unfold ixN
              rw [if_pos (show (0 : Int) ≤ Int.ofNat i from Int.natCast_nonneg i), if_pos (show Int.ofNat i < (ys.length : Int) from Int.ofNat_lt.mpr hi2)]
              rfl
            exact (ixN_seq this).1
          refine ⟨ρ n, ys, Int.ofNat i, i, t, rfl, rfl, e, ?_, ?_, es, c3, af _ _ ρ _ _ z (Post.write S hn w1) (by
            have := RV.write (o := .lst (ys.eraseIdx i)) S hn rt
            simpa [setH_eq] using this)⟩
          · have : (Int.ofNat i) = (i : Int) := rfl
            omega
          · have : (Int.ofNat i) = (i : Int) := rfl
            omega
        · cases z
      · cases z
    · cases z
  · cases z
end
end Eg

set_option autoImplicit false
set_option maxRecDepth 100000
set_option maxHeartbeats 1000000
/-! EG: the contract of a def at a call under which no repr is under way (A.guards = some []), so that its body may call repr. -/
namespace Eg
open PySem PySem.Spec L2 PyProof.Rows

structure FnG (P : Program) (w : World) (K : PySem.W.Frag) (mg : Str → Option Value) (base : Heap) (k : Nat) (f : Addr) (fd : FuncData) (ps : List Str) (sp : Sp) : Prop where
  len : ∀ vs H Q E, sp vs H Q E → vs.length = ps.length
  run : ∀ (A : Around) (outer : List Env) (s : Shared) (H : Hp) (args : Args) (us : List Value) (vs : List V) (Q : VK) (E : XK), Room k A → A.guards = some [] → Env0 P w K mg base A outer s H →
    BindsTo s fd args (ps.zip us) → Vals vs us → sp vs H Q E → codeAny (model P w) A (.call (.ref f) args) (CR CX0 outer P w H s Q E) s
theorem FnG.mono {P : Program} {w : World} {K : PySem.W.Frag} {mg : Str → Option Value} {base : Heap} {j k : Nat} {f : Addr} {fd : FuncData} {ps : List Str} {sp : Sp} (F : FnG P w K mg base j f fd ps sp) (hjk : j ≤ k) : FnG P w K mg base k f fd ps sp :=
  ⟨F.len, fun A outer s H args us vs Q E room => F.run A outer s H args us vs Q E (room.mono hjk)⟩

theorem deeper_guards {A : Around} (env : Env) (g : A.guards = some []) : (A.deeper env).guards = some [] := g
theorem in1_guards {A : Around} (g : A.guards = some []) : A.in1.guards = some [] := g
theorem make_guards {A : Around} {C : Addr} {us : List Value} (g : A.guards = some []) : (A.under (.builtin "type.__call__" ⟨.ref C :: us, []⟩)).guards = some [] := by
  first | exact g | (simp [Around.under, Code.isGuard, guardIds, g])

/-- a def by its body -/
theorem fn_ofG {P : Program} {w : World} {K : PySem.W.Frag} {mg : Str → Option Value} {base : Heap} {k : Nat} {f : Addr} {name qual : Str} {params : Arguments} {body : List Stmt} {scope : Scope} {dV kV doc pm cdv ct oc : Value} {an od : Option Addr}
    {osl : Array (Option Value)} {N ps : List Str} {sp : Sp} (at_ : K.lookup f = some ⟨oc, od, .func (PySem.W.fnOf name qual params body scope dV kV doc pm an cdv ct), osl⟩) (code : PySem.W.codeIn K cdv qual = true) (S : FnScope N ps scope)
    (len : ∀ vs H Q E, sp vs H Q E → vs.length = ps.length)
    (hbody : ∀ (A : Around) (outer : List Env) (s : Shared) (H : Hp) (vs : List V) (Q : VK) (E : XK), Room k (A.deeper (envOfC qual scope s.heap.objs.size f cdv)) → A.guards = some [] → sp vs H Q E →
      ∃ t, PSs (cxOf CX0 P w K mg base N qual scope f cdv A outer s H E) body t ∧ t { nx := fun _ H' => Q .non H', rt := Q } (start N vs) H) :
    FnG P w K mg base (k + 1) f (PySem.W.fnOf name qual params body scope dV kV doc pm an cdv ct) ps sp := by
  refine ⟨len, fun A outer s H args us vs Q E room gd e0 bind rel wish => ?_⟩
  have nvs := len _ _ _ _ wish
  have kin : K.In s.heap := e0.mod.kin.keeps fun b o e => (e0.bs b o e).1
  have nolim : s.heap.NoLimit := e0.mod.nolimit.keeps fun b o e => (e0.bs b o e).1
  have kinds : ∀ y ∈ ps.zip us, scope.names.lookup y.1 = some .local ∨ (scope.names.lookup y.1 = some .cell ∧ ((cellsFrom (s.heap.objs.size + 1) scope.names []).lookup y.1).isSome = true) := fun ⟨n, v⟩ hy =>
    (S.par n (List.of_mem_zip hy).1).imp id fun q => ⟨q, PySem.W.cellsFrom_some _ _ _ (.inl q)⟩
  refine codeAny_call_function room.depth (kin _ _ at_) rfl S.co S.gen rfl (PySem.W.codeRec_of kin code) (bind _ _ _ _ ?_)
  refine wpAny_newFunctionEnv_cells S.kind kinds fun env isE s1 entry => ?_
  subst isE
  refine ⟨nolim.keeps entry.toInCall.keep, codeAny_func ?_⟩
  obtain ⟨t, ht, hq⟩ := hbody A outer s H vs Q E (room.deeper _) gd wish
  have I : Inv (cxOf CX0 P w K mg base N qual scope f cdv A outer s H E) [] (start N vs) H s1 := inv_start S room.hd e0 nvs rel entry
  refine wpAny_mono (ht.run [] s1 (start N vs) H _ I hq) (fun fl s' hs => ?_) fun er s' hs => hs
  have ends : ∀ {σ' : L2.St} {H' : Hp} {v : V} {u : Value}, Inv (cxOf CX0 P w K mg base N qual scope f cdv A outer s H E) [] σ' H' s' → RelV v u → Q v H' → CE outer P w H s Q u s' :=
    fun {σ' H' v u} J rv q => ⟨v, H', J.os, J.bare, J.base, J.hok, rv, q⟩
  match fl, hs with
  | .ret u, ⟨v, σ', H', J, rv, q⟩ => exact ends J rv q
  | .next, ⟨σ', H', J, q⟩ => exact ends (v := V.non) (u := Value.none) J rfl q
  | .brk, ⟨_, _, _, q⟩ => exact q.elim
  | .cont, ⟨_, _, _, q⟩ => exact q.elim

section
variable {X : Cx} {k : Nat} {f C : Addr} {fd : FuncData} {ps : List Str} {sp : Sp} {x m : Str} {p pos apos : Pos} {e o : Expr} {es : List Expr} {ta : TE} {t : TA}
def XN : XK := fun _ _ _ => False
/-- the callee runs -/
theorem run_g {pins : List (Addr × Obj)} {σ : L2.St} {H : Hp} {s : Shared} {Q : VK} {us : List Value} {vs : List V} (F : FnG X.prog X.w X.K X.mg X.base k f fd ps sp) (gd : X.A.guards = some []) (room : Room k X.A) (hb : Binds X.K fd ps [])
    (I : Inv X pins σ H s) (rel : Vals vs us) (wish : sp vs H Q XN) : wpAny (model X.prog X.w) X.A (call (.ref f) us) (EP X pins σ Q) X.xe s := by
  have hl : (us ++ []).length = ps.length := by rw [List.append_nil, ← rel.length]; exact F.len _ _ _ _ wish
  have bt := hb s us I.kIn hl
  rw [List.append_nil] at bt
  refine wpAny_call (codeAny_mono (F.run X.A X.stack s H ⟨us, []⟩ us vs Q XN room gd I.env0 bt rel wish) fun r s' hq => ?_)
  match r, hq with
  | .ok (.ret u), hq => exact I.after hq
  | .ok .next, hq => exact False.elim hq
  | .ok .brk, hq => exact False.elim hq
  | .ok .cont, hq => exact False.elim hq
  | .error er, hq => exact False.elim hq
def tCallG (sp : Sp) (t : TA) : TE := fun σ H Q => t σ H fun vs H1 => sp vs H1 Q XN
theorem pe_callG (F : FnG X.prog X.w X.K X.mg X.base k f fd ps sp) (gd : X.A.guards = some []) (room : Room k X.A) (hg : Gl X x) (hm : X.mg x = some (.ref f)) (hk : PySem.W.keepIn X.K (.ref f) = true) (hb : Binds X.K fd ps [])
    (ha : PA X (e :: es) t) (hdb : (x == ("__debug__" : Str)) = false) (he : starEach (e :: es) X.env = (false, eval e X.env) :: starEach es X.env) (hpl : (backTo pos (starEach es X.env)).any (·.1) = false) :
    PE X (.Call (.Name x p) (e :: es) [] pos) (tCallG sp t) :=
  ⟨fun pins s σ H Q I hw => wpAny_Call_Name_kw (ld_glob I hg hm (PySem.W.callWith_K (h₀ := X.base) I.ok.mod.kin hk
    (thn (ha.run pos pins s σ H _ I hw) fun us s1 ⟨vs, H1, I1, r, q⟩ => ⟨I1.kIn, run_g F gd room hb I1 r q⟩) he hpl) hdb)⟩
theorem pe_callG0 (F : FnG X.prog X.w X.K X.mg X.base k f fd ps sp) (gd : X.A.guards = some []) (room : Room k X.A) (hg : Gl X x) (hm : X.mg x = some (.ref f)) (hk : PySem.W.keepIn X.K (.ref f) = true) (hb : Binds X.K fd ps [])
    (hdb : (x == ("__debug__" : Str)) = false) : PE X (.Call (.Name x p) [] [] pos) (tCallG sp tNil) :=
  ⟨fun pins s σ H Q I hw => wpAny_Call_Name_kw (ld_glob I hg hm (PySem.W.callWith_K0 I.kIn hk (run_g (us := []) F gd room hb I .nil hw)) hdb)⟩
def tMethG (C : Addr) (m : Str) (sp : Sp) (ta : TE) (t : TA) : TE := fun σ H Q => ta σ H fun x H1 => ∃ a dx fs, x = .ref a ∧ H1 a = some (.ins C dx fs) ∧ fs.lookup m = none ∧ t σ H1 fun vs H2 => sp (x :: vs) H2 Q XN
theorem pe_methG {pl : Sem Bool} (he : PE X o ta) (c : Cls X.K C) (hm : Meth X.K C m f) (F : FnG X.prog X.w X.K X.mg X.base k f fd ps sp) (gd : X.A.guards = some []) (room : Room k X.A) (hb : Binds X.K fd ps []) (ha : PA X (e :: es) t)
    (hst : starEach (e :: es) X.env = (false, eval e X.env) :: starEach es X.env) (hpl : (backTo pos (starEach es X.env)).any (·.1) = false)
    (ht : eval (.Call (.Attribute o m apos) (e :: es) [] pos) X.env = (do
      let ov ← eval o X.env
      standAt apos.atName
      let (f, first) ← holding [ov] (getMethod ov m pl)
      callWith pos f first (backTo pos (starEach (e :: es) X.env)) (backToKw pos (keywordEach [] X.env)))) :
    PE X (.Call (.Attribute o m apos) (e :: es) [] pos) (tMethG C m sp ta t) := by
  refine ⟨fun pins s σ H Q I hw => PySem.W.methodCall_KW (pl := pl) (thn (he.run pins s σ H _ I hw) fun u s1 ⟨x, H1, I1, rx, a, dx, fs, ex, ea, l, q⟩ => ?_) ht⟩
  subst ex
  cases (show u = Value.ref a from rx)
  exact getmeth_ok I1 ea c hm l (PySem.W.callWith_K (first := [.ref a]) (h₀ := X.base) I.ok.mod.kin hm.kp
    (thn (ha.run pos pins s1 σ H1 _ I1 q) fun us s2 ⟨vs, H2, I2, r, q2⟩ => ⟨I2.kIn, run_g (us := .ref a :: us) (vs := .ref a :: vs) F gd room hb I2 (.cons rfl r) q2⟩) hst hpl)
theorem pe_methG0 {pl : Sem Bool} (he : PE X o ta) (c : Cls X.K C) (hm : Meth X.K C m f) (F : FnG X.prog X.w X.K X.mg X.base k f fd ps sp) (gd : X.A.guards = some []) (room : Room k X.A) (hb : Binds X.K fd ps [])
    (ht : eval (.Call (.Attribute o m apos) [] [] pos) X.env = (do
      let ov ← eval o X.env
      standAt apos.atName
      let (f, first) ← holding [ov] (getMethod ov m pl)
      callWith pos f first (backTo pos (starEach [] X.env)) (backToKw pos (keywordEach [] X.env)))) :
    PE X (.Call (.Attribute o m apos) [] [] pos) (tMethG C m sp ta tNil) := by
  refine ⟨fun pins s σ H Q I hw => PySem.W.methodCall_KW (pl := pl) (thn (he.run pins s σ H _ I hw) fun u s1 ⟨x, H1, I1, rx, a, dx, fs, ex, ea, l, q⟩ => ?_) ht⟩
  subst ex
  cases (show u = Value.ref a from rx)
  exact getmeth_ok I1 ea c hm l (PySem.W.callWith_K0 (first := [.ref a]) I1.kIn hm.kp (run_g (us := [.ref a]) (vs := [.ref a]) F gd room hb I1 (.cons rfl .nil) q))
/-- a new instance -/
def tMakeG (C : Addr) (sp : Sp) (t : TA) : TE := fun σ H Q => t σ H fun vs H1 => ∀ x dx, H1 x = none → H1 dx = none → dx ≠ x → sp (.ref x :: vs) (upd (upd H1 dx (.own x)) x (.ins C dx [])) (fun v H2 => v = .non ∧ Q (.ref x) H2) XN
theorem run_makeG {pins : List (Addr × Obj)} {σ : L2.St} {H : Hp} {s : Shared} {Q : VK} {us : List Value} {vs : List V} (M : Mk X.K C f) (F : FnG X.prog X.w X.K X.mg X.base k f fd ps sp) (gd : X.A.guards = some []) (room : Room (k + 1) X.A) (hb : Binds X.K fd ps [])
    (I : Inv X pins σ H s) (rel : Vals vs us)
    (wish : ∀ x dx, H x = none → H dx = none → dx ≠ x → sp (.ref x :: vs) (upd (upd H dx (.own x)) x (.ins C dx [])) (fun v H2 => v = .non ∧ Q (.ref x) H2) XN) :
    wpAny (model X.prog X.w) X.A (call (.ref C) us) (EP X pins σ Q) X.xe s := by
  have w2 := wish (s.heap.objs.size + 1) s.heap.objs.size (I.hok.fresh (Nat.le_succ _)) (I.hok.fresh (Nat.le_refl _)) (Nat.ne_of_lt (Nat.lt_succ_self _))
  have J := Inv.made (C := C) I
  have rel2 : Vals (V.ref (s.heap.objs.size + 1) :: vs) (Value.ref (s.heap.objs.size + 1) :: us) := .cons rfl rel
  have hl : ((Value.ref (s.heap.objs.size + 1) :: us) ++ []).length = ps.length := by
    rw [List.append_nil, ← rel2.length]; exact F.len _ _ _ _ w2
  have bt := hb _ (Value.ref (s.heap.objs.size + 1) :: us) J.kIn hl
  rw [List.append_nil] at bt
  refine wpAny_call (make_map (f := f) I.kIn M.makes M.init (beq_iff_eq.mp M.fn) (codeAny_mono (F.run _ X.stack _ _ ⟨Value.ref (s.heap.objs.size + 1) :: us, []⟩ _ _ _ XN (room.make C us []) (make_guards gd) (J.env0.make C us []) bt rel2 w2) fun r s' hq => ?_))
  match r, hq with
  | .ok (.ret u), hq =>
    obtain ⟨v, H', I3, rv, ev, q3⟩ := J.after hq
    subst ev
    exact ⟨rv, ⟨V.ref (s.heap.objs.size + 1), H', I3, rfl, q3⟩⟩
  | .ok .next, hq => exact False.elim hq
  | .ok .brk, hq => exact False.elim hq
  | .ok .cont, hq => exact False.elim hq
  | .error er, hq => exact False.elim hq
theorem pe_makeG (M : Mk X.K C f) (F : FnG X.prog X.w X.K X.mg X.base k f fd ps sp) (gd : X.A.guards = some []) (room : Room (k + 1) X.A) (hg : Gl X x) (hm : X.mg x = some (.ref C)) (hb : Binds X.K fd ps [])
    (ha : PA X (e :: es) t) (hdb : (x == ("__debug__" : Str)) = false) (he : starEach (e :: es) X.env = (false, eval e X.env) :: starEach es X.env) (hpl : (backTo pos (starEach es X.env)).any (·.1) = false) :
    PE X (.Call (.Name x p) (e :: es) [] pos) (tMakeG C sp t) :=
  ⟨fun pins s σ H Q I hw => wpAny_Call_Name_kw (ld_glob I hg hm (PySem.W.callWith_K (h₀ := X.base) I.ok.mod.kin M.kp
    (thn (ha.run pos pins s σ H _ I hw) fun us s1 ⟨vs, H1, I1, r, q⟩ => ⟨I1.kIn, run_makeG M F gd room hb I1 r q⟩) he hpl) hdb)⟩
theorem pe_makeG0 (M : Mk X.K C f) (F : FnG X.prog X.w X.K X.mg X.base k f fd ps sp) (gd : X.A.guards = some []) (room : Room (k + 1) X.A) (hg : Gl X x) (hm : X.mg x = some (.ref C)) (hb : Binds X.K fd ps [])
    (hdb : (x == ("__debug__" : Str)) = false) : PE X (.Call (.Name x p) [] [] pos) (tMakeG C sp tNil) :=
  ⟨fun pins s σ H Q I hw => wpAny_Call_Name_kw (ld_glob I hg hm (PySem.W.callWith_K0 I.kIn M.kp (run_makeG (us := []) M F gd room hb I .nil hw)) hdb)⟩
/-- a property -/
def tPropG (C : Addr) (sp : Sp) (ta : TE) : TE := fun σ H Q => ta σ H fun x H1 => ∃ a dx fs, x = .ref a ∧ H1 a = some (.ins C dx fs) ∧ sp [.ref a] H1 Q XN
theorem pe_propG {pa g : Addr} (he : PE X e ta) (c : Cls X.K C) (hp : PropOf X.K C m pa g) (F : FnG X.prog X.w X.K X.mg X.base k g fd ps sp) (gd : X.A.guards = some []) (room : Room (k + 1) X.A) (hb : Binds X.K fd ps [])
    (hab : attributeBase e m X.env (eval e X.env) = eval e X.env) : PE X (.Attribute e m pos) (tPropG C sp ta) := by
  refine ⟨fun pins s σ H Q I hw => attr_of hab (thn (he.run pins s σ H _ I hw) fun u s1 ⟨x, H1, I1, rx, a, dx, fs, ex, ea, q⟩ => ?_)⟩
  subst ex
  cases (show u = Value.ref a from rx)
  obtain ⟨mA, O, _, _, _, _⟩ := ins_get I1.hok ea
  obtain ⟨od, J, _⟩ := O.look
  obtain ⟨rest, isRec⟩ := hp.rec_
  have I2 := I1.tok (s1.toks + 1)
  have hl : ([Value.ref a] ++ []).length = ps.length := by
    rw [← F.len _ _ _ _ q]; rfl
  have some_ : (PySem.W.clsIn X.K C).isSome = true := by
    obtain ⟨cd, isC, _⟩ := PySem.W.any_some c.hd
    rw [isC]; rfl
  refine PySem.W.get_bind I1.kIn J (PySem.W.plainGet_of (c.get m)).1 (PySem.W.findObj_data some_ hp.at_ hp.get hp.tak) (PySem.W.plainGet_of (c.get m)).2
    (wpAny_call (PySem.W.prop_get (s := { s1 with toks := s1.toks + 1 }) I1.kIn isRec ?_))
  refine codeAny_mono (F.run X.A.in1 X.stack { s1 with toks := s1.toks + 1 } H1 ⟨[.ref a], []⟩ [.ref a] [.ref a] Q XN room.in1 (in1_guards gd) I2.env0.in1 (hb _ [.ref a] I2.kIn hl) (.cons rfl .nil) q) fun r s' hq => ?_
  match r, hq with
  | .ok (.ret u), hq =>
    obtain ⟨v, H', I3, rv, q3⟩ := I2.after hq
    show wpAny _ _ (handedOut u) _ _ _
    rw [PySem.W.handedOut_of (handed_of rv)]
    exact wpAny_pure ⟨v, H', I3, rv, q3⟩
  | .ok .next, hq => exact False.elim hq
  | .ok .brk, hq => exact False.elim hq
  | .ok .cont, hq => exact False.elim hq
  | .error er, hq => exact False.elim hq
/-- keywords -/
def tCallKG (sp : Sp) (gV : List V → List V → List V) (t tk : TA) : TE := fun σ H Q => t σ H fun vs H1 => tk σ H1 fun zs H2 => sp (gV vs zs) H2 Q XN
variable {ks : List Str} {kws : List Keyword} {tk : TA} {g : List Value → List Value → List Value} {gV : List V → List V → List V}
theorem run_gk {pins : List (Addr × Obj)} {σ : L2.St} {H : Hp} {s : Shared} {Q : VK} {us ws : List Value} {vs zs : List V} (F : FnG X.prog X.w X.K X.mg X.base k f fd ps sp) (gd : X.A.guards = some []) (room : Room k X.A) (hb : KBinds X.K fd ps ks g gV)
    (I : Inv X pins σ H s) (r : Vals vs us) (rz : Vals zs ws) (wish : sp (gV vs zs) H Q XN) : wpAny (model X.prog X.w) X.A (call (.ref f) us (ks.zip ws)) (EP X pins σ Q) X.xe s := by
  have rel2 := hb.rel r rz
  have hl : (g us ws).length = ps.length := by rw [← rel2.length]; exact F.len _ _ _ _ wish
  refine wpAny_call (codeAny_mono (F.run X.A X.stack s H ⟨us, ks.zip ws⟩ (g us ws) (gV vs zs) Q XN room gd I.env0 (hb.to s us ws I.kIn hl) rel2 wish) fun r s' hq => ?_)
  match r, hq with
  | .ok (.ret u), hq => exact I.after hq
  | .ok .next, hq => exact False.elim hq
  | .ok .brk, hq => exact False.elim hq
  | .ok .cont, hq => exact False.elim hq
  | .error er, hq => exact False.elim hq
end

/-! ### the law's own call -/
theorem law_callG {P : Program} {w : World} {K : PySem.W.Frag} {mg mb : Str → Option Value} {k : Nat} {fa a : Addr} {fd : FuncData} {x : Str} {sp : Sp} {s₁ : Shared} {vs : List Value} {ns : List Int}
    (kin : K.In s₁.heap) (nsM : s₁.heap.Ns mainGlobals mg) (nsB : s₁.heap.Ns builtinsNs mb) (boot : ∀ x : Str, x ≠ "__name__" → mb x = bootBuiltins x) (lim : s₁.heap.NoLimit) (noGens : s₁.gens = #[])
    (ha : s₁.heap.get? a = some { cls := .type "list", data := .seq vs.toArray }) (isInts : IntsAre vs ns) (hl : ns.length ≤ sizeLine) (room : Room k callerA)
    (F : ∀ base : Heap, K.In base → base.Ns mainGlobals mg → FnG P w K mg base k fa fd [x] sp) (hbind : ∀ (s : Shared) (u : Value), BindsTo s fd ⟨[u], []⟩ [(x, u)])
    (hsp : ∀ H : Hp, Only H → SqL K H a (ns.map V.int) → sp [.ref a] H (fun v _ => v = .bl true) fun _ _ _ => False) :
    codeAny (model P w) callerA (.call (.ref fa) ⟨[.ref a], []⟩) (fun r s' => r = .ok (.ret (.bool true)) ∧ OldK s₁.heap s'.heap ∧ s'.os = s₁.os ∧ AllBare s'.gens) s₁ := by
  have rel := vals_ints isInts
  have lenV := isInts.length
  -- the script's list alone may be tracked
  have core : ∀ H : Hp, Only H → SqL K H a (ns.map V.int) → HOk P w H s₁.heap → (∀ b, H b ≠ none → b = a) → (H a ≠ none → K.lookup a = none) →
      codeAny (model P w) callerA (.call (.ref fa) ⟨[.ref a], []⟩) (fun r s' => r = .ok (.ret (.bool true)) ∧ OldK s₁.heap s'.heap ∧ s'.os = s₁.os ∧ AllBare s'.gens) s₁ := by
    intro H only hS hok hA hK
    have isA : ∀ {b : Addr} {u : HO}, H b = some u → b = a := fun {b u} q => hA b (by rw [q]; exact fun z => nomatch z)
    have noD : ∀ {b : Addr} {o : Obj} {es : Array DictEntry} {ep : Nat}, s₁.heap.get? b = some o → o.data = .dict es ep → H b = none := fun {b o es ep} eb d => by
      cases q : H b with
      | none => rfl
      | some u =>
        cases isA q
        rw [ha] at eb
        cases eb
        exact nomatch (show Data.seq vs.toArray _ = Data.dict es ep from d)
    have nsAt : ∀ {b : Addr} {m : Str → Option Value}, s₁.heap.Ns b m → (hidT s₁.heap H).Ns b m := fun {b m} ⟨o, es, ep, eb, d, r⟩ => ⟨o, es, ep, hidT_get eb (noD eb d), d, r⟩
    have kinH : K.In (hidT s₁.heap H) := fun b o eb => hidT_get (kin b o eb) (by
      cases q : H b with
      | none => rfl
      | some u =>
        cases isA q
        rw [hK (by rw [q]; exact fun z => nomatch z)] at eb
        cases eb)
    have M : Mod K mg (hidT s₁.heap H) := ⟨kinH, nsAt nsM, ⟨mb, nsAt nsB, boot⟩, let ⟨mc, l1, l2⟩ := lim; ⟨mc, nsAt l1, l2⟩⟩
    have e0 : Env0 P w K mg (hidT s₁.heap H) callerA [] s₁ H := ⟨rfl, M, fun b o eb => of_hidT eb, Nat.le_of_eq (hidT_size _ _), trivial, fun b hb => (List.not_mem_nil (show b ∈ ([] : List Addr) from hb)).elim, hok, .of_eq noGens⟩
    refine codeAny_mono ((F _ kinH (nsAt nsM)).run callerA [] s₁ H ⟨[.ref a], []⟩ [.ref a] [.ref a] _ _ room rfl e0 (hbind s₁ (.ref a)) (.cons rfl .nil) (hsp H only hS)) fun r s' hq => ?_
    match r, hq with
    | .error er, hq => exact False.elim hq
    | .ok .next, hq => exact False.elim hq
    | .ok .brk, hq => exact False.elim hq
    | .ok .cont, hq => exact False.elim hq
    | .ok (.ret u), hq =>
      obtain ⟨v, H', os, bare, un, hok', rv, q⟩ := hq
      cases (show v = .bl true from q)
      cases (show u = Value.bool true from rv)
      refine ⟨rfl, OldK.of_keep fun b o eb => ?_, os, bare⟩
      cases qb : H b with
      | none => exact un.keep b o eb qb (fun z => (List.not_mem_nil (show b ∈ ([] : List Addr) from z)).elim) (by simp)
      | some u =>
        rcases only b with z | ⟨ob, xs, z⟩
        · rw [qb] at z; cases z
        · have g1 := (hok b _ z).1
          have g2 := (hok' b _ (un.frzs b ob _ z)).1
          rw [eb] at g1
          cases g1
          exact g2
  cases hk : K.lookup a with
  | some o =>
    have eo := kin a o hk
    rw [ha] at eo
    cases eo
    refine core (fun _ => none) (fun _ => .inl rfl) (.inr ⟨_, vs.toArray, _, hk, rfl, rfl, rfl, by rw [List.size_toArray, lenV]; exact hl, by simpa using rel⟩) (fun b u z => nomatch (show (none : Option HO) = some u from z)) (fun b z => absurd rfl z) fun z => absurd rfl z
  | none =>
    have at1 : (fun b => if b = a then some (HO.frz { cls := .type "list", data := .seq vs.toArray } (.lst (ns.map V.int))) else none) a = some (HO.frz { cls := .type "list", data := .seq vs.toArray } (.lst (ns.map V.int))) := if_pos rfl
    have at2 : ∀ b, b ≠ a → (fun b => if b = a then some (HO.frz { cls := .type "list", data := .seq vs.toArray } (.lst (ns.map V.int))) else none) b = none := fun b q => if_neg q
    refine core (fun b => if b = a then some (.frz { cls := .type "list", data := .seq vs.toArray } (.lst (ns.map V.int))) else none) (fun b => ?_) (.inl (.inr ⟨_, at1⟩)) (fun b u z => ?_) (fun b z => Classical.byContradiction fun q => z (at2 b q)) fun _ => hk
    · by_cases hb : b = a
      · exact .inr ⟨_, _, if_pos hb⟩
      · exact .inl (if_neg hb)
    · by_cases hb : b = a
      · subst hb
        cases at1.symm.trans z
        exact ⟨ha, by rw [List.length_map]; exact hl, vs, _, rel, ha⟩
      · cases (at2 b hb).symm.trans z
theorem walkG {l : PySem.W.OpenLaw} {n k : Nat} {q : Program} {loose : List Str} {XP : (Str → Option Value) → Heap → Prop} {YP : World → Heap → Prop} {d : DefRec} {K : Params → PySem.W.Frag} {sp : PySem.W.Frag → Sp} {x : Str}
    (hn : l.most = some n) (hn2 : n ≤ sizeLine) (hdf : d.params.defaults = []) (room : Room k callerA) (hY : ∀ (w : World) (h : Heap), YP w h → (K w.params).In h)
    (F : ∀ (w : World) (mg : Str → Option Value) (fa : Addr) (h : Heap), (K w.params).In h → h.Ns mainGlobals mg → mg d.name = some (.ref fa) →
      ∃ fd : FuncData, (∀ (s : Shared) (u : Value), BindsTo s fd ⟨[u], []⟩ [(x, u)]) ∧ ∀ base : Heap, (K w.params).In base → base.Ns mainGlobals mg → FnG l.prog w (K w.params) mg base k fa fd [x] (sp (K w.params)))
    (hsp : ∀ (K : PySem.W.Frag) (H : Hp) (a : Addr) (ns : List Int), ns.length ≤ n → Only H → SqL K H a (ns.map V.int) → sp K [.ref a] H (fun v _ => v = .bl true) fun _ _ _ => False) :
    PySem.W.WalkO q loose XP YP l.row.toRowW d [] (fun f vs => PySem.call f vs) := by
  refine Att.attach_call hn hdf fun w s₀ s₁ mg mb fa o pm cd doc a vs ns G Y ho hd hcd hmg hobj hints hlen hgens => ?_
  obtain ⟨fd, isB, isF⟩ := F w mg fa _ (hY w _ Y) G.T.g hmg
  exact law_callG (hY w _ Y) G.T.g G.T.b G.T.builtins G.T.nolimit hgens hobj hints (Nat.le_trans hlen hn2) room isF isB fun H hO hS => hsp _ H a ns hlen hO hS
end Eg

set_option autoImplicit false
set_option maxRecDepth 100000
set_option maxHeartbeats 1000000
/-! E8: displays, dicts' methods, attributes, calls of defs, methods, classes. -/
namespace Eg
open PySem PySem.Spec L2

section
variable {G : Cn} {X : Cx} {ρ : Rho} {h : EH} {H : Hp} {L : Nat}
variable {a o e value : Expr} {es : List Expr} {f g' : KE} {fa : KA} {pos apos cpos : Pos}
/-! ### displays -/
/-- a display's length is below the line -/
def okLen {α : Type} (xs : List α) : Bool := Nat.ble (lenE xs) 16000000
theorem okLen_is {α : Type} {xs : List α} (h : okLen xs = true) : xs.length ≤ 16000000 := by rw [okLen, lenE_eq, Nat.ble_eq] at h; exact h
def kTupD (f : KA) : KE := fun s h k => f s h fun xs h => match okLen xs with
  | true => k (.tup xs) h
  | false => false
def kLstD (own : Bool) (f : KA) : KE := fun s h k => f s h fun xs h => match okLen xs with
  | true => match own with
    | true => newH h (.lst xs) k
    | false => k (.lst xs) h
  | false => false
theorem x_tup {x1 : Nat} (ha : XA G X es fa) : XE G X (.Tuple es x1 pos) (kTupD fa) := by
  refine PE.imp (pe_tup ha) fun σ H Q ⟨ρ, s, h, k, S, R, z, af⟩ => ⟨ρ, s, h, _, S, R, z, fun vs h1 ρ1 H1 xs z1 p1 r1 => ?_⟩
  split at z1
  · rename_i ol
    have := okLen_is ol
    rw [r1.length] at this
    exact ⟨by rw [sizeLine_eq]; omega, fun p hp => af _ h1 ρ1 _ _ z1 (p1.trans (Post.temp p1.sim hp)) (rv_tup p1.sim hp r1)⟩
  · cases z1
theorem x_lst (own : Bool) (ha : XA G X es fa) : XE G X (.List es pos) (kLstD own fa) := by
  refine PE.imp (pe_lst ha) fun σ H Q ⟨ρ, s, h, k, S, R, z, af⟩ => ⟨ρ, s, h, _, S, R, z, fun vs h1 ρ1 H1 xs z1 p1 r1 => ?_⟩
  split at z1
  · rename_i ol
    have := okLen_is ol
    rw [r1.length] at this
    refine ⟨by rw [sizeLine_eq]; omega, fun p hp => ?_⟩
    cases own with
    | true => exact af _ _ _ _ _ z1 (p1.trans (new_lst p1.sim hp r1)) rv_new'
    | false => exact af _ h1 ρ1 _ _ z1 (p1.trans (Post.temp p1.sim hp)) (rv_lst p1.sim hp r1)
  · cases z1
def kStar (f : KE) (r : KA) : KA := fun s h k => f s h fun v h => match seqItems h v with
  | some xs => r s h fun ys h => k (appE xs ys) h
  | none => false
theorem a_star {p : Pos} (g : Gd G X) (ha : XE G X a f) (hr : XA G X es fa) (hs : starEach (.Starred a p :: es) X.env = (true, eval a X.env) :: starEach es X.env := by rfl) : XA G X (.Starred a p :: es) (kStar f fa) := by
  refine PA.imp (StX.pa_star ha hr hs) fun σ H Q ⟨ρ, s, h, k, S, R, z, af⟩ => ⟨ρ, s, h, _, S, R, z, fun v h1 ρ1 H1 x z1 p1 r1 => ?_⟩
  split at z1
  · rename_i l e1
    obtain ⟨b, ys, rfl, q, rr⟩ := seqItems_is p1.sim r1 e1
    exact ⟨b, ys, rfl, g.k ▸ q.symm, ρ1, s, h1, _, p1.sim, p1.rs R, z1, fun us h2 ρ2 H2 xs z2 p2 r2 => by
      rw [appE_eq] at z2
      exact af _ h2 ρ2 H2 _ z2 (p1.trans p2) ((p2.rvs rr).append r2)⟩
  · cases z1
/-! ### {} -/
def kDct (own t : Bool) : KE := fun _ h k => match own with
  | true => newH h (.dic t [] []) k
  | false => k (.dct t [] []) h
theorem dr_empty {t : Bool} {p : Addr} : DR (upd H p (match t with | false => .dK [] | true => .dT [])) t [] p [] := by
  cases t with
  | false => exact ⟨[], rfl, rfl, upd_same⟩
  | true => exact ⟨[], rfl, rfl, upd_same⟩
theorem new_dic (S : Sim G ρ h H) {p : Addr} {o : HO} (hp : H p = none) {t : Bool} {ks vs : List EV} {ys : List V} (r : RVs G ρ h.length H vs ys) (d : DR (upd H p o) t ks p ys) : Post G ρ h H (more ρ h.length p) (h ++ [.dic t ks vs]) (upd H p o) :=
  Post.new S hp ⟨ys, RVs.stay (fun n hn => more_lt hn) (Nat.le_succ _) (fun b u e _ => by rw [upd_ne (ne_of_none e hp)]; exact e) (fun n h1 h2 => by
    have e : n = h.length := by omega
    rw [e, more_at]; exact hp) (fun b xs e => by rw [upd_ne (ne_of_none e hp)]; exact e) (fun b ob u e => by rw [upd_ne (ne_of_none e hp)]; exact e) rfl vs ys r, d⟩
theorem rv_dct (S : Sim G ρ h H) {p : Addr} {o : HO} (hp : H p = none) {t : Bool} {ks vs : List EV} {ys : List V} (r : RVs G ρ h.length H vs ys) (d : DR (upd H p o) t ks p ys) : RV G ρ h.length (upd H p o) (.dct t ks vs) (.ref p) := by
  unfold RV
  exact ⟨p, ys, rfl, S.un hp, r.temp S hp, d.rd⟩
theorem x_dct (own t : Bool) : XE G X (.Dict [] [] pos) (kDct own t) := by
  cases t with
  | false =>
    refine PE.imp pe_dnewK fun σ H Q ⟨ρ, s, h, k, S, R, z, af⟩ => fun p hp => ?_
    cases own with
    | true => exact af _ _ _ _ _ z (new_dic S hp RVs.nil (dr_empty (t := false))) rv_new'
    | false => exact af _ h ρ _ _ z (Post.temp S hp) (rv_dct S hp RVs.nil (dr_empty (t := false)))
  | true =>
    refine PE.imp pe_dnewT fun σ H Q ⟨ρ, s, h, k, S, R, z, af⟩ => fun p hp => ?_
    cases own with
    | true => exact af _ _ _ _ _ z (new_dic S hp RVs.nil (dr_empty (t := true))) rv_new'
    | false => exact af _ h ρ _ _ z (Post.temp S hp) (rv_dct S hp RVs.nil (dr_empty (t := true)))
/-! ### d.get(k), d.get(k, x) -/
/-- a dict's parts -/
def dictOf (h : EH) : EV → Option (Bool × List EV × List EV)
  | .dct t ks vs => some (t, ks, vs)
  | .ref n => match getH h n with
    | some (.dic t ks vs) => some (t, ks, vs)
    | some (.fdic t ks vs) => some (t, ks, vs)
    | _ => none
  | _ => none
theorem dictOf_is {v : EV} {x : V} {t : Bool} {ks vs : List EV} (S : Sim G ρ h H) (r : RV G ρ h.length H v x) (e : dictOf h v = some (t, ks, vs)) : ∃ a ys, x = .ref a ∧ RVs G ρ h.length H vs ys ∧ DRr H t ks a ys := by
  unfold dictOf at e
  split at e
  · cases e
    unfold RV at r
    obtain ⟨a, ys, rfl, _, rr, d⟩ := r
    exact ⟨a, ys, rfl, rr, d⟩
  · rename_i n
    unfold RV at r
    obtain ⟨hn, rfl⟩ := r
    rw [getH_eq] at e
    split at e
    · rename_i t' l l' e1
      cases e
      obtain ⟨ys, rr, d⟩ := S.obj n _ e1
      exact ⟨_, ys, rfl, rr, d.rd⟩
    · rename_i t' l l' e1
      cases e
      obtain ⟨ys, rr, d⟩ := S.obj n _ e1
      exact ⟨_, ys, rfl, rr, d.rd⟩
    · cases e
  · cases e
theorem DRr.isRd {t : Bool} {ks : List EV} {a : Addr} {ys : List V} (d : DRr H t ks a ys) : IsD H a := by
  cases t with
  | false => obtain ⟨kk, _, _, e⟩ := d; exact .inl ⟨_, e⟩
  | true => obtain ⟨kk, _, _, e⟩ := d; exact .inr ⟨_, e⟩
def isDic (h : EH) (v : EV) : Bool := match dictOf h v with
  | some _ => true
  | none => false
def kGet (f : KE) (fk : KE) (fx : KE) : KE := fun s h k => f s h fun d h => match isDic h d with
  | true => fk s h fun w h => fx s h fun x h => match dictOf h d with
    | some (t, ks, vs) => match keyOk t w with
      | true => match lookE ks vs w with
        | some v => k v h
        | none => k x h
      | false => false
    | none => false
  | false => false
theorem isDic_is {v : EV} {x : V} (S : Sim G ρ h H) (r : RV G ρ h.length H v x) (e : isDic h v = true) : ∃ a, x = .ref a ∧ IsD H a := by
  unfold isDic at e
  split at e
  · rename_i p e1
    obtain ⟨t, ks, vs⟩ := p
    obtain ⟨a, ys, rfl, _, d⟩ := dictOf_is S r e1
    exact ⟨a, rfl, d.isRd⟩
  · cases e
theorem x_get1 {i : Expr} {fk : KE} (g : Gd G X) (ho : XE G X o f) (hi : XE G X i fk) (m : M1 X o "get" apos i cpos) : XE G X (.Call (.Attribute o "get" apos) [i] [] cpos) (kGet f fk (kC .non)) := by
  refine PE.imp (pe_dget1 (by have := g.u; omega) ho hi m) fun σ H Q ⟨ρ, s, h, k, S, R, z, af⟩ => ⟨ρ, s, h, _, S, R, z, fun d h1 ρ1 H1 x z1 p1 r1 => ?_⟩
  split at z1
  · rename_i er
    obtain ⟨b, rfl, hd⟩ := isDic_is p1.sim r1 er
    refine ⟨b, rfl, hd, ρ1, s, h1, _, p1.sim, p1.rs R, z1, fun w h2 ρ2 H2 y z2 p2 r2 => ?_⟩
    have z2 : (match dictOf h2 d with
      | some (t, ks, vs) => match keyOk t w with
        | true => match lookE ks vs w with
          | some v => k v h2
          | none => k .non h2
        | false => false
      | none => false) = true := z2
    split at z2
    · rename_i t ks vs e1
      split at z2
      · rename_i e2
        obtain ⟨a2, ys, ea, rr, dr⟩ := dictOf_is p2.sim (p2.rv r1) e1
        cases ea
        have dg := dget_of rr dr r2 e2
        split at z2
        · rename_i v ev
          rw [ev] at dg
          obtain ⟨x, dg, rx⟩ := dg
          exact ⟨some x, dg, ((af.next p1).next p2).here p2.sim z2 rx⟩
        · rename_i ev
          rw [ev] at dg
          exact ⟨none, dg, ((af.next p1).next p2).here p2.sim z2 rv_non⟩
      · cases z2
    · cases z2
  · cases z1
theorem x_get2 {i j : Expr} {fk fx : KE} (g : Gd G X) (ho : XE G X o f) (hi : XE G X i fk) (hj : XE G X j fx) (m : M2 X o "get" apos i j cpos) : XE G X (.Call (.Attribute o "get" apos) [i, j] [] cpos) (kGet f fk fx) := by
  refine PE.imp (pe_dget2 (by have := g.u; omega) ho hi hj m) fun σ H Q ⟨ρ, s, h, k, S, R, z, af⟩ => ⟨ρ, s, h, _, S, R, z, fun d h1 ρ1 H1 x z1 p1 r1 => ?_⟩
  split at z1
  · rename_i er
    obtain ⟨b, rfl, hd⟩ := isDic_is p1.sim r1 er
    refine ⟨b, rfl, hd, ρ1, s, h1, _, p1.sim, p1.rs R, z1, fun w h2 ρ2 H2 y z2 p2 r2 => ⟨ρ2, s, h2, _, p2.sim, p2.rs (p1.rs R), z2, fun u h3 ρ3 H3 t z3 p3 r3 => ?_⟩⟩
    split at z3
    · rename_i t ks vs e1
      split at z3
      · rename_i e2
        obtain ⟨a2, ys, ea, rr, dr⟩ := dictOf_is p3.sim (p3.rv (p2.rv r1)) e1
        cases ea
        have dg := dget_of rr dr (p3.rv r2) e2
        split at z3
        · rename_i v ev
          rw [ev] at dg
          obtain ⟨x, dg, rx⟩ := dg
          exact ⟨some x, dg, (((af.next p1).next p2).next p3).here p3.sim z3 rx⟩
        · rename_i ev
          rw [ev] at dg
          exact ⟨none, dg, (((af.next p1).next p2).next p3).here p3.sim z3 r3⟩
      · cases z3
    · cases z3
  · cases z1
/-! ### attributes -/
structure Gk (G : Cn) (X : Cx) : Prop extends Gd G X where
  cl : ∀ c, c < G.nc → Cls G.K (G.cls c)
  na : ∀ c i, c < G.nc → i < G.nf → NoAttr G.K (G.cls c) (G.fld i)
  inj : ∀ i j, i < G.nf → j < G.nf → G.fld i = G.fld j → i = j
def getF : List (Nat × EV) → Nat → Option EV
  | [], _ => none
  | (n, v) :: fs, i => match Nat.beq n i with
    | true => some v
    | false => getF fs i
def putFE : List (Nat × EV) → Nat → EV → List (Nat × EV)
  | [], i, v => [(i, v)]
  | (n, w) :: fs, i, v => match Nat.beq n i with
    | true => (n, v) :: fs
    | false => (n, w) :: putFE fs i v
theorem beq_ff {a b : Str} (h : ¬ a = b) : (a == b) = false := by
  cases e : a == b with
  | false => rfl
  | true => exact absurd (beq_iff_eq.mp e) h
theorem getF_is (inj : ∀ i j, i < G.nf → j < G.nf → G.fld i = G.fld j → i = j) {i : Nat} (hi : i < G.nf) : ∀ {fs : List (Nat × EV)} {ys : List (Str × V)} {v : EV}, RF G ρ L H fs ys → getF fs i = some v → ∃ x, ys.lookup (G.fld i) = some x ∧ RV G ρ L H v x
  | [], ys, v, r, e => by simp [getF] at e
  | (n, w) :: fs, ys, v, r, e => by
    unfold RF at r
    obtain ⟨z, zs, rfl, hn, r1, r2⟩ := r
    rw [getF] at e
    split at e
    · rename_i eb
      have := Nat.eq_of_beq_eq_true eb
      subst this
      cases e
      exact ⟨z, by simp [List.lookup], r1⟩
    · rename_i eb
      obtain ⟨x, ex, rx⟩ := getF_is inj hi r2 e
      have ne : ¬ G.fld i = G.fld n := fun q => by
        have := inj i n hi hn q
        subst this
        rw [Nat.beq_refl] at eb; cases eb
      exact ⟨x, by simp [List.lookup, beq_ff ne, ex], rx⟩
theorem noF {m : Str} (hm : ∀ i, i < G.nf → G.fld i ≠ m) : ∀ {fs : List (Nat × EV)} {ys : List (Str × V)}, RF G ρ L H fs ys → ys.lookup m = none
  | [], ys, r => by unfold RF at r; subst r; rfl
  | (n, w) :: fs, ys, r => by
    unfold RF at r
    obtain ⟨z, zs, rfl, hn, r1, r2⟩ := r
    have ne : ¬ m = G.fld n := fun q => hm n hn q.symm
    simp [List.lookup, beq_ff ne, noF hm r2]
theorem putF_is (inj : ∀ i j, i < G.nf → j < G.nf → G.fld i = G.fld j → i = j) {i : Nat} (hi : i < G.nf) {v : EV} {x : V} (rx : RV G ρ L H v x) : ∀ {fs : List (Nat × EV)} {ys : List (Str × V)}, RF G ρ L H fs ys → RF G ρ L H (putFE fs i v) (putF (G.fld i) x ys)
  | [], ys, r => by
    unfold RF at r
    subst r
    unfold putFE putF RF
    exact ⟨x, [], rfl, hi, rx, by unfold RF; rfl⟩
  | (n, w) :: fs, ys, r => by
    unfold RF at r
    obtain ⟨z, zs, rfl, hn, r1, r2⟩ := r
    rw [putFE, putF]
    split
    · rename_i eb
      have := Nat.eq_of_beq_eq_true eb
      subst this
      rw [if_pos rfl]
      unfold RF
      exact ⟨x, zs, rfl, hn, rx, r2⟩
    · rename_i eb
      have ne : ¬ G.fld n = G.fld i := fun q => by
        have := inj n i hn hi q
        subst this
        rw [Nat.beq_refl] at eb; cases eb
      rw [if_neg ne]
      unfold RF
      exact ⟨z, _, rfl, hn, r1, putF_is inj hi rx r2⟩
theorem rf_length : ∀ {fs : List (Nat × EV)} {ys : List (Str × V)}, RF G ρ L H fs ys → fs.length = ys.length
  | [], ys, r => by unfold RF at r; subst r; rfl
  | (n, w) :: fs, ys, r => by
    unfold RF at r
    obtain ⟨z, zs, rfl, _, _, r2⟩ := r
    simp [rf_length r2]
def kFld (i : Nat) (f : KE) : KE := fun s h k => f s h fun v h => match v with
  | .ref n => match getH h n with
    | some (.ins _ fs) => match getF fs i with
      | some w => k w h
      | none => false
    | _ => false
  | _ => false
theorem x_fld (i : Nat) {m : Str} (g : Gk G X) (he : XE G X e f) (hm : G.fld i = m := by rfl) (hi : i < G.nf := by exact Nat.le_of_ble_eq_true rfl) (hb : attributeBase e m X.env (eval e X.env) = eval e X.env := by rfl) : XE G X (.Attribute e m pos) (kFld i f) := by
  subst hm
  refine PE.imp (pe_fld he hb) fun σ H Q ⟨ρ, s, h, k, S, R, z, af⟩ => ⟨ρ, s, h, _, S, R, z, fun v h1 ρ1 H1 x z1 p1 r1 => ?_⟩
  split at z1
  · rename_i n
    unfold RV at r1
    obtain ⟨hn, rfl⟩ := r1
    rw [getH_eq] at z1
    split at z1
    · rename_i c fs e1
      split at z1
      · rename_i w e2
        obtain ⟨dx, ys, e3, hc, rf⟩ := p1.sim.obj n _ e1
        obtain ⟨x, ex, rx⟩ := getF_is g.inj hi rf e2
        rw [g.k]
        exact ⟨_, _, dx, ys, x, rfl, e3, g.cl c hc, g.na c i hc hi, ex, (af.next p1).here p1.sim z1 rx⟩
      · cases z1
    · cases z1
  · cases z1
/-! ### defs -/
def SpF (G : Cn) (n : Nat) (F : KF) : Sp := fun vs H Q _ => vs.length = n ∧ ∃ ρ h as k, Sim G ρ h H ∧ RVs G ρ h.length H as vs ∧ F as h k = true ∧ After G ρ h H k Q
/-- a def's code, asked at its number of arguments -/
def chkN (n : Nat) (F : KF) : KF := fun vs h k => match Nat.beq (lenE vs) n with
  | true => F vs h k
  | false => false
theorem chkN_is {n : Nat} {F : KF} {vs : List EV} {h : EH} {k : EV → EH → Bool} (z : chkN n F vs h k = true) : vs.length = n ∧ F vs h k = true := by
  unfold chkN at z
  split at z
  · rename_i e
    have := Nat.eq_of_beq_eq_true e
    rw [lenE_eq] at this
    exact ⟨this, z⟩
  · cases z
variable {j k : Nat} {ps : List Str} {F : KF} {x m : Str} {p : Pos}
/-- a def of the module: its code F, at level j -/
def DfOk (P : Program) (w : World) (mg : Str → Option Value) (base : Heap) (G : Cn) (j : Nat) (x : Str) (ps : List Str) (F : KF) : Prop :=
  ∃ fn fd, mg x = some (.ref fn) ∧ PySem.W.keepIn G.K (.ref fn) = true ∧ L2.Binds G.K fd ps [] ∧ FnG P w G.K mg base j fn fd ps (SpF G ps.length F)
/-- a method -/
def MtOk (P : Program) (w : World) (mg : Str → Option Value) (base : Heap) (G : Cn) (j : Nat) (c : Nat) (m : Str) (ps : List Str) (F : KF) : Prop :=
  c < G.nc ∧ (∀ i, i < G.nf → G.fld i ≠ m) ∧ ∃ fn fd, Meth G.K (G.cls c) m fn ∧ L2.Binds G.K fd ps [] ∧ FnG P w G.K mg base j fn fd ps (SpF G ps.length F)
/-- a property -/
def PrOk (P : Program) (w : World) (mg : Str → Option Value) (base : Heap) (G : Cn) (j : Nat) (c : Nat) (m : Str) (F : KF) : Prop :=
  c < G.nc ∧ ∃ pa fn fd ps, ps.length = 1 ∧ PropOf G.K (G.cls c) m pa fn ∧ L2.Binds G.K fd ps [] ∧ FnG P w G.K mg base j fn fd ps (SpF G 1 F)
/-- a class, by its __init__ -/
def ClOk (P : Program) (w : World) (mg : Str → Option Value) (base : Heap) (G : Cn) (j : Nat) (c : Nat) (x : Str) (ps : List Str) (F : KF) : Prop :=
  c < G.nc ∧ mg x = some (.ref (G.cls c)) ∧ ∃ fn fd, Mk G.K (G.cls c) fn ∧ L2.Binds G.K fd ps [] ∧ FnG P w G.K mg base j fn fd ps (SpF G ps.length F)
theorem x_call (g : Gd G X) (hF : DfOk X.prog X.w X.mg X.base G j x ps F) (hr : Room k X.A) (hg : Gl X x) (ha : XA G X (e :: es) fa) (hjk : j ≤ k := by exact Nat.le_of_ble_eq_true rfl)
    (hdb : (x == ("__debug__" : Str)) = false := by decide) (he : starEach (e :: es) X.env = (false, eval e X.env) :: starEach es X.env := by rfl) (hpl : (backTo pos (starEach es X.env)).any (·.1) = false := by rfl) :
    XE G X (.Call (.Name x p) (e :: es) [] pos) (kCall (chkN ps.length F) fa) := by
  obtain ⟨fn, fd, hm, hk, hb, hF⟩ := hF
  rw [← g.k] at hk hb hF
  refine PE.imp (pe_callG hF g.gd (hr.mono hjk) hg hm hk hb ha hdb he hpl) fun σ H Q ⟨ρ, s, h, k, S, R, z, af⟩ => ⟨ρ, s, h, _, S, R, z, fun vs h1 ρ1 H1 xs z1 p1 r1 => ?_⟩
  obtain ⟨el, z1⟩ := chkN_is z1
  rw [r1.length] at el
  exact ⟨el, ρ1, h1, vs, k, p1.sim, r1, z1, af.next p1⟩
theorem x_call0 (g : Gd G X) (hF : DfOk X.prog X.w X.mg X.base G j x [] F) (hr : Room k X.A) (hg : Gl X x) (hjk : j ≤ k := by exact Nat.le_of_ble_eq_true rfl)
    (hdb : (x == ("__debug__" : Str)) = false := by decide) : XE G X (.Call (.Name x p) [] [] pos) (kCall F kNil) := by
  obtain ⟨fn, fd, hm, hk, hb, hF⟩ := hF
  rw [← g.k] at hk hb hF
  exact PE.imp (pe_callG0 hF g.gd (hr.mono hjk) hg hm hk hb hdb) fun σ H Q ⟨ρ, s, h, k, S, R, z, af⟩ => ⟨rfl, ρ, h, [], k, S, RVs.nil, z, af⟩
/-- o.m(..): o of the class c -/
def kMeth (c : Nat) (F : KF) (f : KE) (fa : KA) : KE := fun s h k => f s h fun v h => match v with
  | .ref n => match getH h n with
    | some (.ins c' _) => match Nat.beq c c' with
      | true => fa s h fun vs h => F (v :: vs) h k
      | false => false
    | _ => false
  | _ => false
theorem x_meth (c : Nat) {pl : Sem Bool} (g : Gk G X) (ho : XE G X o f) (hF : MtOk X.prog X.w X.mg X.base G j c m ps F) (hr : Room k X.A) (ha : XA G X (e :: es) fa) (hjk : j ≤ k := by exact Nat.le_of_ble_eq_true rfl)
    (hst : starEach (e :: es) X.env = (false, eval e X.env) :: starEach es X.env := by rfl) (hpl : (backTo pos (starEach es X.env)).any (·.1) = false := by rfl)
    (ht : eval (.Call (.Attribute o m apos) (e :: es) [] pos) X.env = (do
      let ov ← eval o X.env
      standAt apos.atName
      let (f, first) ← holding [ov] (getMethod ov m pl)
      callWith pos f first (backTo pos (starEach (e :: es) X.env)) (backToKw pos (keywordEach [] X.env))) := by rfl) :
    XE G X (.Call (.Attribute o m apos) (e :: es) [] pos) (kMeth c (chkN ps.length F) f fa) := by
  obtain ⟨hc, hnf, fn, fd, hm, hb, hF⟩ := hF
  have hcl := g.cl c hc
  rw [← g.k] at hcl hm hb hF
  refine PE.imp (pe_methG ho hcl hm hF g.gd (hr.mono hjk) hb ha hst hpl ht) fun σ H Q ⟨ρ, s, h, k, S, R, z, af⟩ => ⟨ρ, s, h, _, S, R, z, fun v h1 ρ1 H1 x z1 p1 r1 => ?_⟩
  split at z1
  · rename_i n
    have r0 := r1
    unfold RV at r1
    obtain ⟨hn, rfl⟩ := r1
    rw [getH_eq] at z1
    split at z1
    · rename_i c' fs e1
      split at z1
      · rename_i ec
        have := Nat.eq_of_beq_eq_true ec
        subst this
        obtain ⟨dx, ys, e3, _, rf⟩ := p1.sim.obj n _ e1
        refine ⟨_, dx, ys, rfl, e3, noF hnf rf, ρ1, s, h1, _, p1.sim, p1.rs R, z1, fun vs h2 ρ2 H2 xs z2 p2 r2 => ?_⟩
        obtain ⟨el, z2⟩ := chkN_is z2
        have rr := RVs.cons (p2.rv r0) r2
        rw [rr.length] at el
        exact ⟨el, ρ2, h2, _, k, p2.sim, rr, z2, (af.next p1).next p2⟩
      · cases z1
    · cases z1
  · cases z1
theorem x_meth0 (c : Nat) {pl : Sem Bool} (g : Gk G X) (ho : XE G X o f) (hF : MtOk X.prog X.w X.mg X.base G j c m ps F) (hr : Room k X.A) (hjk : j ≤ k := by exact Nat.le_of_ble_eq_true rfl)
    (ht : eval (.Call (.Attribute o m apos) [] [] pos) X.env = (do
      let ov ← eval o X.env
      standAt apos.atName
      let (f, first) ← holding [ov] (getMethod ov m pl)
      callWith pos f first (backTo pos (starEach [] X.env)) (backToKw pos (keywordEach [] X.env))) := by rfl) :
    XE G X (.Call (.Attribute o m apos) [] [] pos) (kMeth c (chkN ps.length F) f kNil) := by
  obtain ⟨hc, hnf, fn, fd, hm, hb, hF⟩ := hF
  have hcl := g.cl c hc
  rw [← g.k] at hcl hm hb hF
  refine PE.imp (pe_methG0 ho hcl hm hF g.gd (hr.mono hjk) hb ht) fun σ H Q ⟨ρ, s, h, k, S, R, z, af⟩ => ⟨ρ, s, h, _, S, R, z, fun v h1 ρ1 H1 x z1 p1 r1 => ?_⟩
  split at z1
  · rename_i n
    have r0 := r1
    unfold RV at r1
    obtain ⟨hn, rfl⟩ := r1
    rw [getH_eq] at z1
    split at z1
    · rename_i c' fs e1
      split at z1
      · rename_i ec
        have := Nat.eq_of_beq_eq_true ec
        subst this
        obtain ⟨dx, ys, e3, _, rf⟩ := p1.sim.obj n _ e1
        obtain ⟨el, z2⟩ := chkN_is (show chkN ps.length F [.ref n] h1 k = true from z1)
        have rr := RVs.cons r0 (RVs.nil (G := G) (ρ := ρ1) (L := h1.length) (H := H1))
        rw [rr.length] at el
        exact ⟨_, dx, ys, rfl, e3, noF hnf rf, el, ρ1, h1, _, k, p1.sim, rr, z2, af.next p1⟩
      · cases z1
    · cases z1
  · cases z1
/-- a property -/
theorem x_prop (c : Nat) (g : Gk G X) (ho : XE G X e f) (hF : PrOk X.prog X.w X.mg X.base G j c m F) (hr : Room k X.A) (hjk : j + 1 ≤ k := by exact Nat.le_of_ble_eq_true rfl)
    (hab : attributeBase e m X.env (eval e X.env) = eval e X.env := by rfl) : XE G X (.Attribute e m pos) (kMeth c (chkN 1 F) f kNil) := by
  obtain ⟨hc, pa, fn, fd, ps, h1p, hp, hb, hF⟩ := hF
  have hcl := g.cl c hc
  rw [← g.k] at hcl hp hb hF
  refine PE.imp (pe_propG ho hcl hp hF g.gd (hr.mono hjk) hb hab) fun σ H Q ⟨ρ, s, h, k, S, R, z, af⟩ => ⟨ρ, s, h, _, S, R, z, fun v h1 ρ1 H1 x z1 p1 r1 => ?_⟩
  split at z1
  · rename_i n
    have r0 := r1
    unfold RV at r1
    obtain ⟨hn, rfl⟩ := r1
    rw [getH_eq] at z1
    split at z1
    · rename_i c' fs e1
      split at z1
      · rename_i ec
        have := Nat.eq_of_beq_eq_true ec
        subst this
        obtain ⟨dx, ys, e3, _, rf⟩ := p1.sim.obj n _ e1
        obtain ⟨el, z2⟩ := chkN_is (show chkN 1 F [.ref n] h1 k = true from z1)
        have rr := RVs.cons r0 (RVs.nil (G := G) (ρ := ρ1) (L := h1.length) (H := H1))
        exact ⟨_, dx, ys, rfl, e3, rfl, ρ1, h1, _, k, p1.sim, rr, z2, af.next p1⟩
      · cases z1
    · cases z1
  · cases z1
/-- C(..) -/
def kMake (c : Nat) (F : KF) (fa : KA) : KE := fun s h k => fa s h fun vs h => F (.ref (lenE h) :: vs) (appE h [.ins c []]) fun v h' => match v with
  | .non => k (.ref (lenE h)) h'
  | _ => false
theorem make_is {c : Nat} {as : List EV} {xs : List V} {k : EV → EH → Bool} {Q : VK} (S : Sim G ρ h H) (hc : c < G.nc) (r : RVs G ρ h.length H as xs) (z : F (.ref h.length :: as) (h ++ [.ins c []]) (fun v h' => match v with
    | .non => k (.ref h.length) h'
    | _ => false) = true) (af : After G ρ h H k Q) {x dx : Addr} (hx : H x = none) (hd : H dx = none) (ne : dx ≠ x) :
    ∃ ρ' h' as' k', Sim G ρ' h' (upd (upd H dx (.own x)) x (.ins (G.cls c) dx [])) ∧ RVs G ρ' h'.length (upd (upd H dx (.own x)) x (.ins (G.cls c) dx [])) as' (.ref x :: xs) ∧ F as' h' k' = true ∧ After G ρ' h' (upd (upd H dx (.own x)) x (.ins (G.cls c) dx [])) k' (fun v H2 => v = .non ∧ Q (.ref x) H2) := by
  have p1 := Post.temp (o := .own x) S hd
  have hx1 : upd H dx (.own x) x = none := by rw [upd_ne (Ne.symm ne)]; exact hx
  have p2 := Post.new p1.sim hx1 (o := .ins (G.cls c) dx []) (x := .ins c []) ⟨dx, [], upd_same, hc, by unfold RF; rfl⟩
  have p3 := p1.trans p2
  refine ⟨_, _, _, _, p3.sim, RVs.cons rv_new' (p3.rvs r), z, fun v h3 ρ3 H3 y z3 p4 r3 => ?_⟩
  obtain rfl : v = .non := by cases v <;> first | rfl | exact Bool.noConfusion (show false = true from z3)
  unfold RV at r3
  exact ⟨r3, af _ h3 ρ3 H3 _ z3 (p3.trans p4) (p4.rv rv_new')⟩
theorem x_make (c : Nat) (g : Gd G X) (hF : ClOk X.prog X.w X.mg X.base G j c x ps F) (hr : Room k X.A) (hg : Gl X x) (ha : XA G X (e :: es) fa) (hjk : j + 1 ≤ k := by exact Nat.le_of_ble_eq_true rfl)
    (hdb : (x == ("__debug__" : Str)) = false := by decide) (he : starEach (e :: es) X.env = (false, eval e X.env) :: starEach es X.env := by rfl) (hpl : (backTo pos (starEach es X.env)).any (·.1) = false := by rfl) :
    XE G X (.Call (.Name x p) (e :: es) [] pos) (kMake c (chkN ps.length F) fa) := by
  obtain ⟨hc, hm, fn, fd, M, hb, hF⟩ := hF
  rw [← g.k] at M hb hF
  refine PE.imp (pe_makeG M hF g.gd (hr.mono hjk) hg hm hb ha hdb he hpl) fun σ H Q ⟨ρ, s, h, k, S, R, z, af⟩ => ⟨ρ, s, h, _, S, R, z, fun vs h1 ρ1 H1 xs z1 p1 r1 => fun y dy hy hd ne => ?_⟩
  rw [lenE_eq, appE_eq] at z1
  obtain ⟨el, z2⟩ := chkN_is z1
  exact ⟨by rw [← el]; simp [r1.length], make_is p1.sim hc r1 z2 (af.next p1) hy hd ne⟩
theorem x_make0 (c : Nat) (g : Gd G X) (hF : ClOk X.prog X.w X.mg X.base G j c x ps F) (hr : Room k X.A) (hg : Gl X x) (hjk : j + 1 ≤ k := by exact Nat.le_of_ble_eq_true rfl)
    (hdb : (x == ("__debug__" : Str)) = false := by decide) :
    XE G X (.Call (.Name x p) [] [] pos) (kMake c (chkN ps.length F) kNil) := by
  obtain ⟨hc, hm, fn, fd, M, hb, hF⟩ := hF
  rw [← g.k] at M hb hF
  refine PE.imp (pe_makeG0 M hF g.gd (hr.mono hjk) hg hm hb hdb) fun σ H Q ⟨ρ, s, h, k, S, R, z, af⟩ => fun y dy hy hd ne => ?_
  have z : chkN ps.length F [.ref (lenE h)] (appE h [.ins c []]) (fun v h' => match v with
    | .non => k (.ref (lenE h)) h'
    | _ => false) = true := z
  rw [lenE_eq, appE_eq] at z
  obtain ⟨el, z2⟩ := chkN_is z
  exact ⟨el, make_is S hc RVs.nil z2 af hy hd ne⟩
end
end Eg

set_option autoImplicit false
set_option maxRecDepth 100000
set_option maxHeartbeats 1000000
/-! E9: statements, targets, loops. -/
namespace Eg
open PySem PySem.Spec L2

/-! ### codes -/
def kPass : KS := fun s h nx _ _ _ => nx s h
def kNever : KS := fun _ _ _ _ _ _ => false
def kSeq (f g : KS) : KS := fun s h nx rt bk ct => f s h (fun s h => g s h nx rt bk ct) rt bk ct
def kDrop (f : KE) : KS := fun s h nx _ _ _ => f s h fun _ h => nx s h
def kRet (f : KE) : KS := fun s h _ rt _ _ => f s h rt
def kRetN : KS := fun _ h _ rt _ _ => rt .non h
def kBrk : KS := fun s h _ _ bk _ => bk s h
def kCnt : KS := fun s h _ _ _ ct => ct s h
def kIfS (c : KT) (f g : KS) : KS := fun s h nx rt bk ct => c s h fun b h => match b with
  | true => f s h nx rt bk ct
  | false => g s h nx rt bk ct
/-- a target: the value, what follows -/
abbrev KG := EV → ES → EH → (ES → EH → Bool) → Bool
abbrev KGs := List EV → ES → EH → (ES → EH → Bool) → Bool
def gVar (i : Nat) : KG := fun v s h nx => nx (setS s i v) h
def gsNil : KGs := fun vs s h nx => match vs with
  | [] => nx s h
  | _ => false
def gsCons (g : KG) (r : KGs) : KGs := fun vs s h nx => match vs with
  | v :: vs => g v s h fun s h => r vs s h nx
  | [] => false
def gTup (n : Nat) (gs : KGs) : KG := fun v s h nx => match seqItems h v with
  | some xs => match Nat.beq (lenE xs) n with
    | true => gs xs s h nx
    | false => false
  | none => false
def kAsg (f : KE) (g : KG) : KS := fun s h nx _ _ _ => f s h fun v h => g v s h nx
def kWhl (c : KT) (b : KS) : Nat → KS
  | 0 => kNever
  | n + 1 => fun s h nx rt bk ct => c s h fun t h => match t with
    | true => b s h (fun s h => kWhl c b n s h nx rt bk ct) rt nx (fun s h => kWhl c b n s h nx rt bk ct)
    | false => nx s h

/-! ### rules -/
section
variable {G : Cn} {X : Cx} {ρ ρ' : Rho} {h h' : EH} {H H' : Hp} {L : Nat}
variable {a o e value tg : Expr} {es : List Expr} {st : Stmt} {rest aa bb : List Stmt} {f g' : KE} {fa : KA} {pos posn : Pos} {sf sg : KS} {c : Expr} {kt : KT}
theorem s_never : XS G X st kNever := ⟨fun _ _ _ _ _ _ ⟨_, _, _, _, _, _, _, _, _, z, _⟩ => nomatch z⟩
theorem ss_never {sts : List Stmt} : XSs G X sts kNever := ⟨fun _ _ _ _ _ _ ⟨_, _, _, _, _, _, _, _, _, z, _⟩ => nomatch z⟩
theorem s_pass : XS G X (.Pass pos) kPass := PS.imp ps_pass fun D σ H ⟨ρ, s, h, nx, rt, bk, ct, S, R, z, a1, a2, a3, a4⟩ => a1 s h ρ H σ z (Post.refl S) R
theorem s_brk : XS G X (.Break pos) kBrk := PS.imp ps_break fun D σ H ⟨ρ, s, h, nx, rt, bk, ct, S, R, z, a1, a2, a3, a4⟩ => a3 s h ρ H σ z (Post.refl S) R
theorem s_cnt : XS G X (.Continue pos) kCnt := PS.imp ps_continue fun D σ H ⟨ρ, s, h, nx, rt, bk, ct, S, R, z, a1, a2, a3, a4⟩ => a4 s h ρ H σ z (Post.refl S) R
theorem ss_nil : XSs G X [] kPass := PSs.imp pss_nil fun D σ H ⟨ρ, s, h, nx, rt, bk, ct, S, R, z, a1, a2, a3, a4⟩ => a1 s h ρ H σ z (Post.refl S) R
theorem ss_cons (h1 : XS G X st sf) (h2 : XSs G X rest sg) : XSs G X (st :: rest) (kSeq sf sg) :=
  PSs.imp (pss_cons h1 h2) fun D σ H ⟨ρ, s, h, nx, rt, bk, ct, S, R, z, a1, a2, a3, a4⟩ => ⟨ρ, s, h, _, rt, bk, ct, S, R, z,
    fun s1 h1 ρ1 H1 σ1 z1 p1 r1 => ⟨ρ1, s1, h1, nx, rt, bk, ct, p1.sim, r1, z1, a1.next p1, a2.next p1, a3.next p1, a4.next p1⟩, a2, a3, a4⟩
theorem ss_one (h1 : XS G X st sf) : XSs G X [st] sf := PSs.imp (pss_one h1) fun D σ H q => q
theorem s_doc {x : Str} {j : Nat} : XS G X (.Expr (.Constant (.str x) j pos) posn) kPass := PS.imp ps_doc fun D σ H ⟨ρ, s, h, nx, rt, bk, ct, S, R, z, a1, a2, a3, a4⟩ => a1 s h ρ H σ z (Post.refl S) R
theorem s_drop (he : XE G X e f) (hs : swapsWith e none pos.line X.env = pure false := by rfl) : XS G X (.Expr e pos) (kDrop f) :=
  PS.imp (ps_expr he hs) fun D σ H ⟨ρ, s, h, nx, rt, bk, ct, S, R, z, a1, a2, a3, a4⟩ => ⟨ρ, s, h, _, S, R, z, fun v h1 ρ1 H1 x z1 p1 r1 => a1 s h1 ρ1 H1 σ z1 p1 (p1.rs R)⟩
theorem s_ret (he : XE G X e f) : XS G X (.Return (some e) pos) (kRet f) :=
  PS.imp (ps_ret he) fun D σ H ⟨ρ, s, h, nx, rt, bk, ct, S, R, z, a1, a2, a3, a4⟩ => ⟨ρ, s, h, rt, S, R, z, a2⟩
theorem s_retN : XS G X (.Return none pos) kRetN :=
  PS.imp ps_retN fun D σ H ⟨ρ, s, h, nx, rt, bk, ct, S, R, z, a1, a2, a3, a4⟩ => a2.here S z rv_non
theorem s_if (hc : XT G X c kt) (ha : XSs G X aa sf) (hb : XSs G X bb sg) : XS G X (.If c aa bb pos) (kIfS kt sf sg) := by
  refine PS.imp (ps_if hc ha hb) fun D σ H ⟨ρ, s, h, nx, rt, bk, ct, S, R, z, a1, a2, a3, a4⟩ => ⟨ρ, s, h, _, S, R, z, fun v h1 ρ1 H1 z1 p1 => ?_⟩
  cases v with
  | true => exact ⟨ρ1, s, h1, nx, rt, bk, ct, p1.sim, p1.rs R, z1, a1.next p1, a2.next p1, a3.next p1, a4.next p1⟩
  | false => exact ⟨ρ1, s, h1, nx, rt, bk, ct, p1.sim, p1.rs R, z1, a1.next p1, a2.next p1, a3.next p1, a4.next p1⟩

/-! ### targets: is: the slots that they may set -/
def AfterG (G : Cn) (ρ : Rho) (h : EH) (H : Hp) (σ : St) (is : List Nat) (k : ES → EH → Bool) (Q : St → Hp → Prop) : Prop :=
  ∀ s h' ρ' H' σ', k s h' = true → Post G ρ h H ρ' h' H' → RS G ρ' h'.length H' s σ' → σ'.length = σ.length → (∀ i, i ∉ is → σ'[i]? = σ[i]?) → Q σ' H'
def RG (G : Cn) (g : KG) (is : List Nat) : TG := fun x σ H Q => ∃ ρ s h v k, Sim G ρ h H ∧ RS G ρ h.length H s σ ∧ RV G ρ h.length H v x ∧ g v s h k = true ∧ AfterG G ρ h H σ is k Q
def RGs (G : Cn) (g : KGs) (is : List Nat) : TGs := fun xs σ H Q => ∃ ρ s h vs k, Sim G ρ h H ∧ RS G ρ h.length H s σ ∧ RVs G ρ h.length H vs xs ∧ g vs s h k = true ∧ AfterG G ρ h H σ is k Q
def XG (G : Cn) (X : Cx) (tg : Expr) (g : KG) (is : List Nat) : Prop := PG X tg (RG G g is)
def XGs (G : Cn) (X : Cx) (tg : List Expr) (g : KGs) (is : List Nat) : Prop := PGs X tg (RGs G g is)
theorem PG.imp {t u : TG} (p : PG X tg t) (i : ∀ x σ H Q, u x σ H Q → t x σ H Q) : PG X tg u := ⟨fun pins s σ H v w Q I r q => p.run pins s σ H v w Q I r (i v σ H Q q)⟩
theorem PGs.imp {t u : TGs} (p : PGs X es t) (i : ∀ x σ H Q, u x σ H Q → t x σ H Q) : PGs X es u := ⟨fun pins s σ H v w Q I r q => p.run pins s σ H v w Q I r (i v σ H Q q)⟩
theorem PG.or {t u : TG} (p : PG X tg t) (q : PG X tg u) : PG X tg (fun x σ H Q => t x σ H Q ∨ u x σ H Q) := ⟨fun pins s σ H v w Q I r z => z.elim (p.run pins s σ H v w Q I r) (q.run pins s σ H v w Q I r)⟩
theorem g_var (i : Nat) {x : Str} (g : Gd G X) (hi : X.N[i]? = some x := by rfl) (hx : Loc X.env.scope x := by first | exact Or.inl rfl | exact Or.inr rfl) (hf : X.fn x = true ∨ X.env.scope.names.lookup x = some .local := by first | exact .inl rfl | exact .inr rfl) :
    XG G X (.Name x pos) (gVar i) [i] :=
  PG.imp (pg_name g.nd hi hx hf) fun y σ H Q ⟨ρ, s, h, v, k, S, R, r, z, af⟩ => af _ h ρ H _ z (Post.refl S) (RS.set i R r) (by simp) fun j hj => by
    have ne : i ≠ j := fun q => hj (by simp [q])
    exact List.getElem?_set_ne ne
theorem gs_nil : XGs G X [] gsNil [] :=
  PGs.imp pgs_nil fun xs σ H Q ⟨ρ, s, h, vs, k, S, R, r, z, af⟩ => by
    unfold gsNil at z
    split at z
    · unfold RVs at r
      exact ⟨r, af s h ρ H σ z (Post.refl S) R rfl fun _ _ => rfl⟩
    · cases z
theorem gs_cons {gg : KG} {gs : KGs} {is js : List Nat} (h1 : XG G X e gg is) (h2 : XGs G X es gs js) (hs : (assignEach (e :: es) X.env).map (·.2) = assign e X.env :: (assignEach es X.env).map (·.2) := by rfl) : XGs G X (e :: es) (gsCons gg gs) (is ++ js) :=
  PGs.imp (pgs_cons h1 h2 hs) fun xs σ H Q ⟨ρ, s, h, vs, k, S, R, r, z, af⟩ => by
    unfold gsCons at z
    split at z
    · rename_i v vs
      unfold RVs at r
      obtain ⟨x, xs', rfl, r1, r2⟩ := r
      refine ⟨x, xs', rfl, ρ, s, h, v, _, S, R, r1, z, fun s1 h1 ρ1 H1 σ1 z1 p1 rs1 l1 d1 => ?_⟩
      exact ⟨ρ1, s1, h1, vs, k, p1.sim, rs1, p1.rvs r2, z1, fun s2 h2 ρ2 H2 σ2 z2 p2 rs2 l2 d2 => af s2 h2 ρ2 H2 σ2 z2 (p1.trans p2) rs2 (l2.trans l1) fun i hi => (d2 i fun q => hi (List.mem_append_right _ q)).trans (d1 i fun q => hi (List.mem_append_left _ q))⟩
    · cases z
theorem g_tup {gs : KGs} {is : List Nat} {k : Nat} (n : Nat) (g : Gd G X) (hh : XGs G X es gs is) (hn : (assignEach es X.env).length = n := by rfl) (hst : (assignEach es X.env).findIdx? (·.1) = none := by rfl) :
    XG G X (.Tuple es k pos) (gTup n gs) is := by
  refine PG.imp (PG.or (pg_tup g.c hh hn hst) (pg_unl g.c hh hn hst)) fun y σ H Q ⟨ρ, s, h, v, k, S, R, r, z, af⟩ => ?_
  unfold gTup at z
  split at z
  · rename_i xs e1
    split at z
    · rename_i e2
      have e2 := Nat.eq_of_beq_eq_true e2
      rw [lenE_eq] at e2
      obtain ⟨a, ys, rfl, q, rr⟩ := seqItems_is S r e1
      rw [rr.length] at e2
      rw [g.k]
      rcases q with q | q
      · exact .inr ⟨a, ys, rfl, q, e2, ρ, s, h, xs, k, S, R, rr, z, af⟩
      · exact .inl ⟨a, ys, rfl, q, e2, ρ, s, h, xs, k, S, R, rr, z, af⟩
    · cases z
  · cases z
/-! ### o[i] = v -/
def gSubD (o v i : EV) (h : EH) (nx : EH → Bool) : Bool := match o with
  | .ref n => match getH h n with
    | some (.lst xs) => match i with
      | .int (.ofNat j) => match Nat.ble (Nat.succ j) (lenE xs) with
        | true => nx (setH h n (.lst (xs.set j v)))
        | false => false
      | _ => false
    | some (.dic t ks vs) => match keyOk t i with
      | true => match okLen ks with
        | true => match putE ks vs i v with
          | (ks, vs) => nx (setH h n (.dic t ks vs))
        | false => false
      | false => false
    | _ => false
  | _ => false
/-- a target: the container, the index, the put -/
def gSub (f g : KE) : KG := fun v s h nx => f s h fun o h => g s h fun i h => gSubD o v i h fun h => nx s h
def tSetA : TSet := fun o i v H Q => rSetL o i v H Q ∨ rSetD o i v H Q
theorem p_setA (g : Gd G X) : PSet X tSetA := fun pins s σ H o i v ov iv u Q I r1 r2 r3 q => q.elim (set_list pins s σ H o i v ov iv u Q I r1 r2 r3) (set_dict (by have := g.u; omega) pins s σ H o i v ov iv u Q I r1 r2 r3)
theorem RVs.setAt {v : EV} {x : V} (r : RV G ρ L H v x) : ∀ {vs : List EV} {xs : List V} (n : Nat), RVs G ρ L H vs xs → RVs G ρ L H (vs.set n v) (xs.set n x)
  | [], xs, n, q => by unfold RVs at q; subst q; simpa using RVs.nil
  | w :: vs, xs, 0, q => by
    unfold RVs at q
    obtain ⟨z, zs, rfl, r1, r2⟩ := q
    exact RVs.cons r r2
  | w :: vs, xs, n + 1, q => by
    unfold RVs at q
    obtain ⟨z, zs, rfl, r1, r2⟩ := q
    exact RVs.cons r1 (RVs.setAt r n r2)
theorem dput_of (S : Sim G ρ h H) {n : Nat} (hn : n < h.length) {t : Bool} {ks vs : List EV} {ys : List V} {w v : EV} {y x : V} (rv : RVs G ρ h.length H vs ys) (ro : DR H t ks (ρ n) ys) (rw' : RV G ρ h.length H w y) (rx : RV G ρ h.length H v x) (kk : keyOk t w = true) (ol : okLen ks = true) (nf : NF h n := by first | exact nf_lst (by assumption) | exact nf_dic (by assumption) | exact nf_ins (by assumption) | exact nf_pot (by assumption)) :
    ∃ o, DPut H (ρ n) y x (upd H (ρ n) o) ∧ RO G ρ h.length (upd H (ρ n) o) (.dic t (putE ks vs w v).1 (putE ks vs w v).2) (ρ n) := by
  have ol := okLen_is ol
  cases t with
  | false =>
    obtain ⟨kl, e1, e2, e3⟩ := ro
    obtain ⟨key, ek⟩ := Option.isSome_iff_exists.mp kk
    have ey := key_k ek rw'
    subst ey
    obtain ⟨kk', ys', i0, i1, i2, i3⟩ := put_is kOf_f ek rx e1 rv e2
    rw [ofs_length e1] at ol
    refine ⟨.dK (putK (kl.zip ys) key x), .inl ⟨_, key, e3, rfl, by rw [sizeLine_eq, List.length_zip]; omega, rfl⟩, ys', RVs.write S hn i1 nf, kk', i0, i2, ?_⟩
    rw [upd_same, i3]
  | true =>
    obtain ⟨kl, e1, e2, e3⟩ := ro
    obtain ⟨key, ek⟩ := Option.isSome_iff_exists.mp kk
    obtain ⟨b, ey, eb⟩ := key_t ek rw'
    subst ey
    obtain ⟨kk', ys', i0, i1, i2, i3⟩ := put_is tOf_f ek rx e1 rv e2
    rw [ofs_length e1] at ol
    refine ⟨.dT (putK (kl.zip ys) key x), .inr ⟨_, key, b, e3, rfl, eb, by rw [sizeLine_eq, List.length_zip]; omega, rfl⟩, ys', RVs.write S hn i1 nf, kk', i0, i2, ?_⟩
    rw [upd_same, i3]
theorem set_is {o v i : EV} {x y z : V} {k : EH → Bool} {Q : Hp → Prop} (S : Sim G ρ h H) (ro : RV G ρ h.length H o x) (rv : RV G ρ h.length H v y) (ri : RV G ρ h.length H i z) (zz : gSubD o v i h k = true)
    (af : ∀ h' ρ' H', k h' = true → Post G ρ h H ρ' h' H' → Q H') : tSetA x z y H Q := by
  unfold gSubD at zz
  split at zz
  · rename_i n
    unfold RV at ro
    obtain ⟨hn, rfl⟩ := ro
    rw [getH_eq] at zz
    split at zz
    · rename_i xs e1
      split at zz
      · rename_i j
        split at zz
        · rename_i e2
          rw [Nat.ble_eq, lenE_eq] at e2
          unfold RV at ri
          subst ri
          obtain ⟨ys, e3, rr⟩ := S.obj n _ e1
          refine .inl ⟨_, ys, j, j, rfl, rfl, e3, ?_, af _ ρ _ zz (Post.write S hn ⟨_, upd_same, RVs.write S hn (RVs.setAt rv j rr)⟩)⟩
          rw [rr.length] at e2
          unfold ixN
          split
          · simp; omega
          · omega
        · cases zz
      · cases zz
    · rename_i t ks vs e1
      split at zz
      · rename_i e2
        split at zz
        · rename_i e3
          obtain ⟨ys, rr, d⟩ := S.obj n _ e1
          obtain ⟨ob, dp, r2⟩ := dput_of S hn rr d ri rv e2 e3
          exact .inr ⟨_, _, rfl, dp, af _ ρ _ zz (Post.write S hn r2)⟩
        · cases zz
      · cases zz
    · cases zz
  · cases zz
theorem g_sub {i : Expr} {fi : KE} (g : Gd G X) (ho : XE G X o f) (hi : XE G X i fi)
    (ha : ∀ v, assign (.Subscript o i pos) X.env v = (do
      let ov ← holding [v] (eval o X.env)
      let iv ← holding [v, ov] (eval i X.env)
      standAt pos
      holding [v, ov, iv] (setItem ov iv v)
      release [v, ov, iv] []) := by intro _; rfl) : XG G X (.Subscript o i pos) (gSub f fi) [] := by
  refine PG.imp (pg_sub ho hi (p_setA g) ha) fun y σ H Q ⟨ρ, s, h, v, k, S, R, r, z, af⟩ => ?_
  refine two S R z fun ov iv h1 ρ1 H1 xo xi z1 p1 ro ri => set_is p1.sim ro (p1.rv r) ri z1 fun h2 ρ2 H2 z2 p2 => ?_
  exact af s h2 ρ2 H2 σ z2 (p1.trans p2) ((p1.trans p2).rs R) rfl fun _ _ => rfl
/-! ### assignments -/
theorem s_asg {gg : KG} {is : List Nat} (he : XE G X e f) (hg : XG G X tg gg is) (hs : swapsWithSole [tg] e pos.line X.env = pure false := by rfl) (hw : swappedStores [tg] e X.env = pure none := by rfl)
    (h1 : (assignEach [tg] X.env).map (·.2) = [assign tg X.env] := by rfl) : XS G X (.Assign [tg] e pos) (kAsg f gg) :=
  PS.imp (ps_asg he hg hs hw h1) fun D σ H ⟨ρ, s, h, nx, rt, bk, ct, S, R, z, a1, a2, a3, a4⟩ => ⟨ρ, s, h, _, S, R, z, fun v h1 ρ1 H1 x z1 p1 r1 =>
    ⟨ρ1, s, h1, v, nx, p1.sim, p1.rs R, r1, z1, fun s2 h2 ρ2 H2 σ2 z2 p2 r2 _ _ => a1 s2 h2 ρ2 H2 σ2 z2 (p1.trans p2) r2⟩⟩
theorem s_set (i : Nat) {x : Str} {pos' : Pos} (g : Gd G X) (he : XE G X e f) (hi : X.N[i]? = some x := by rfl) (hx : Loc X.env.scope x := by first | exact Or.inl rfl | exact Or.inr rfl) (hs : swapsWith e (some (.Name x pos')) pos.line X.env = pure false := by rfl)
    (hf : X.fn x = true ∨ X.env.scope.names.lookup x = some .local := by first | exact .inl rfl | exact .inr rfl) : XS G X (.Assign [.Name x pos'] e pos) (kAsg f (gVar i)) :=
  PS.imp (ps_set g.nd hi hx he hs hf) fun D σ H ⟨ρ, s, h, nx, rt, bk, ct, S, R, z, a1, a2, a3, a4⟩ => ⟨ρ, s, h, _, S, R, z, fun v h1 ρ1 H1 x z1 p1 r1 =>
    a1 _ h1 ρ1 H1 _ z1 p1 (RS.set i (p1.rs R) r1)⟩
def kPar2 (i j : Nat) (fa : KA) : KS := fun s h nx _ _ _ => fa s h fun vs h => match vs with
  | [v, w] => nx (setS (setS s i v) j w) h
  | _ => false
def kPar3 (i j l : Nat) (fa : KA) : KS := fun s h nx _ _ _ => fa s h fun vs h => match vs with
  | [u, v, w] => nx (setS (setS (setS s i u) j v) l w) h
  | _ => false
theorem three {u v w : EV} {xs : List V} (r : RVs G ρ L H [u, v, w] xs) : ∃ t x y, xs = [t, x, y] ∧ RV G ρ L H u t ∧ RV G ρ L H v x ∧ RV G ρ L H w y := by
  unfold RVs at r
  obtain ⟨t, ts, rfl, r1, r2⟩ := r
  obtain ⟨x, y, rfl, r3, r4⟩ := twoV r2
  exact ⟨t, x, y, rfl, r1, r3, r4⟩
theorem s_par {x y : Str} {a b : Expr} {px py pt : Pos} {kt k2 pt2} (i j : Nat) (g : Gd G X) (ha : XA G X [a, b] fa)
    (hi : X.N[i]? = some x := by rfl) (hj : X.N[j]? = some y := by rfl) (hij : i ≠ j := by decide)
    (hx : X.env.scope.names.lookup x = some .local := by rfl) (hy : X.env.scope.names.lookup y = some .local := by rfl)
    (hw : swappedStores [.Tuple [.Name x px, .Name y py] kt pt] (.Tuple [a, b] k2 pt2) X.env = pure (some [x, y]) := by rfl)
    (hs : swapsWithSole [.Tuple [.Name x px, .Name y py] kt pt] (.Tuple [a, b] k2 pt2) pos.line X.env = pure false := by rfl) :
    XS G X (.Assign [.Tuple [.Name x px, .Name y py] kt pt] (.Tuple [a, b] k2 pt2) pos) (kPar2 i j fa) := by
  refine PS.imp (ps_par g.c g.nd hi hj hij hx hy ha hw hs) fun D σ H ⟨ρ, s, h, nx, rt, bk, ct, S, R, z, a1, a2, a3, a4⟩ => ⟨ρ, s, h, _, S, R, z, fun vs h1 ρ1 H1 xs z1 p1 r1 => ?_⟩
  split at z1
  · obtain ⟨x, y, rfl, r2, r3⟩ := twoV r1
    exact ⟨x, y, rfl, a1 _ h1 ρ1 H1 _ z1 p1 (RS.set j (RS.set i (p1.rs R) r2) r3)⟩
  · cases z1
theorem s_par3 {x y w : Str} {a b c : Expr} {px py pz pt : Pos} {kt k2 pt2} (i j l : Nat) (g : Gd G X) (ha : XA G X [a, b, c] fa)
    (hi : X.N[i]? = some x := by rfl) (hj : X.N[j]? = some y := by rfl) (hl : X.N[l]? = some w := by rfl) (hij : i ≠ j := by decide) (hil : i ≠ l := by decide) (hjl : j ≠ l := by decide)
    (hx : X.env.scope.names.lookup x = some .local := by rfl) (hy : X.env.scope.names.lookup y = some .local := by rfl) (hz : X.env.scope.names.lookup w = some .local := by rfl)
    (hw : swappedStores [.Tuple [.Name x px, .Name y py, .Name w pz] kt pt] (.Tuple [a, b, c] k2 pt2) X.env = pure (some [x, y, w]) := by rfl)
    (hs : swapsWithSole [.Tuple [.Name x px, .Name y py, .Name w pz] kt pt] (.Tuple [a, b, c] k2 pt2) pos.line X.env = pure false := by rfl) :
    XS G X (.Assign [.Tuple [.Name x px, .Name y py, .Name w pz] kt pt] (.Tuple [a, b, c] k2 pt2) pos) (kPar3 i j l fa) := by
  refine PS.imp (ps_par3 g.c g.nd hi hj hl hij hil hjl hx hy hz ha hw hs) fun D σ H ⟨ρ, s, h, nx, rt, bk, ct, S, R, z, a1, a2, a3, a4⟩ => ⟨ρ, s, h, _, S, R, z, fun vs h1 ρ1 H1 xs z1 p1 r1 => ?_⟩
  split at z1
  · obtain ⟨t, x, y, rfl, r2, r3, r4⟩ := three r1
    exact ⟨t, x, y, rfl, a1 _ h1 ρ1 H1 _ z1 p1 (RS.set l (RS.set j (RS.set i (p1.rs R) r2) r3) r4)⟩
  · cases z1
/-! ### fields -/
def kFldS (i : Nat) (fo f : KE) : KS := fun s h nx _ _ _ => f s h fun v h => fo s h fun o h => match o with
  | .ref n => match getH h n with
    | some (.ins c fs) => match Nat.ble (lenE fs) 99 with
      | true => nx s (setH h n (.ins c (putFE fs i v)))
      | false => false
    | _ => false
  | _ => false
theorem s_fld (i : Nat) {m : Str} {pos' : Pos} (g : Gk G X) (ho : XE G X o g') (he : XE G X value f) (hm : G.fld i = m := by rfl) (hi : i < G.nf := by exact Nat.le_of_ble_eq_true rfl) (hs : swapsWith value (some (.Attribute o m pos')) pos.line X.env = pure false := by rfl) :
    XS G X (.Assign [.Attribute o m pos'] value pos) (kFldS i g' f) := by
  subst hm
  refine PS.imp (ps_fld ho he hs) fun D σ H ⟨ρ, s, h, nx, rt, bk, ct, S, R, z, a1, a2, a3, a4⟩ => ?_
  refine two (k := fun v o h => match o with
  | .ref n => match getH h n with
    | some (.ins c fs) => match Nat.ble (lenE fs) 99 with
      | true => nx s (setH h n (.ins c (putFE fs i v)))
      | false => false
    | _ => false
  | _ => false) S R z fun v ov h1 ρ1 H1 y x z1 p1 rv ro => ?_
  split at z1
  · rename_i n
    unfold RV at ro
    obtain ⟨hn, rfl⟩ := ro
    rw [getH_eq] at z1
    split at z1
    · rename_i c fs e1
      split at z1
      · rename_i e2
        rw [Nat.ble_eq, lenE_eq] at e2
        obtain ⟨dx, ys, e3, hc, rf⟩ := p1.sim.obj n _ e1
        rw [g.k]
        rw [rf_length rf] at e2
        have p2 : Post G ρ1 h1 H1 ρ1 (setH h1 n (.ins c (putFE fs i v))) (upd H1 (ρ1 n) (.ins (G.cls c) dx (putF (G.fld i) y ys))) :=
          Post.write p1.sim hn ⟨dx, _, upd_same, hc, putF_is g.inj hi (RV.write p1.sim hn rv) (RF.write p1.sim hn rf)⟩
        exact ⟨_, _, dx, ys, rfl, e3, g.cl c hc, g.na c i hc hi, by omega, a1 s _ ρ1 _ σ z1 (p1.trans p2) ((p1.trans p2).rs R)⟩
      · cases z1
    · cases z1
  · cases z1
/-! ### name += e -/
def kAug (i : Nat) (p : EV → EV → EH → (EV → EH → Bool) → Bool) (f : KE) : KS := fun s h nx _ _ _ => match getS s i with
  | some v => f s h fun w h => p v w h fun u h => nx (setS s i u) h
  | none => false
theorem s_aug (i : Nat) {x : Str} {pos' : Pos} {op : Operator} {p : EV → EV → EH → (EV → EH → Bool) → Bool} {t : TIp} (g : Gd G X) (hop : PIp X op t) (hp : OpS G p t) (he : XE G X e f) (hi : X.N[i]? = some x := by rfl)
    (hx : Loc X.env.scope x := by first | exact Or.inl rfl | exact Or.inr rfl) (hf : X.fn x = true ∨ X.env.scope.names.lookup x = some .local := by first | exact .inl rfl | exact .inr rfl) :
    XS G X (.AugAssign (.Name x pos') op e pos) (kAug i p f) := by
  refine PS.imp (ps_aug g.nd hi hx he hop hf) fun D σ H ⟨ρ, s, h, nx, rt, bk, ct, S, R, z, a1, a2, a3, a4⟩ => ?_
  unfold kAug at z
  split at z
  · rename_i v ev
    obtain ⟨x, ex, rx⟩ := R.get ev
    refine ⟨x, ex, ρ, s, h, _, S, R, z, fun w h1 ρ1 H1 y z1 p1 r1 => ?_⟩
    refine hp ρ1 h1 H1 v w x y _ _ p1.sim (p1.rv rx) r1 z1 fun u h2 ρ2 H2 t z2 p2 r2 => ?_
    exact a1 _ h2 ρ2 H2 _ z2 (p1.trans p2) (RS.set i ((p1.trans p2).rs R) r2)
  · cases z
def pIAdd : EV → EV → EH → (EV → EH → Bool) → Bool := fun v w h k => match v, w with
  | .int i, .int j => k (.int (i + j)) h
  | _, _ => false
theorem s_iadd : OpS G pIAdd (ipI fun i j => i + j) := by
  intro ρ h H v w x y k Q S r1 r2 z af
  unfold pIAdd at z
  split at z
  · unfold RV at r1 r2
    exact ⟨_, _, r1, r2, af.here S z (by unfold RV; rfl)⟩
  · cases z
/-! ### while -/
theorem s_whl (m : Nat) (hp : PassesOwn (model X.prog X.w) X.A X.env X.xe) (hc : XT G X c kt) (hb : XSs G X aa sf) : XS G X (.While c aa [] pos) (kWhl kt sf m) := by
  refine PS.imp (ps_while hp hc hb) fun D σ H ⟨ρ, s, h, nx, rt, bk, ct, S, R, z, a1, a2, a3, a4⟩ => ?_
  refine ⟨fun m' σ' H' => ∃ ρ' s' h', Sim G ρ' h' H' ∧ RS G ρ' h'.length H' s' σ' ∧ kWhl kt sf m' s' h' nx rt bk ct = true ∧ Post G ρ h H ρ' h' H', ⟨m, ρ, s, h, S, R, z, Post.refl S⟩, ?_⟩
  rintro n σ1 H1 ⟨ρ1, s1, h1, S1, R1, z1, p1⟩
  cases n with
  | zero => exact nomatch z1
  | succ n =>
    refine ⟨ρ1, s1, h1, _, S1, R1, z1, fun v h2 ρ2 H2 z2 p2 => ?_⟩
    cases v with
    | true =>
      rw [if_pos rfl]
      refine ⟨fun σ3 H3 => ∃ ρ3 s3 h3, Sim G ρ3 h3 H3 ∧ RS G ρ3 h3.length H3 s3 σ3 ∧ kWhl kt sf n s3 h3 nx rt bk ct = true ∧ Post G ρ h H ρ3 h3 H3, fun σ3 H3 w => ⟨n, Nat.lt_succ_self n, w⟩, ?_⟩
      refine ⟨ρ2, s1, h2, _, rt, nx, _, p2.sim, p2.rs R1, z2, ?_, (a2.next (p1.trans p2)), (a1.next (p1.trans p2)), ?_⟩
      · exact fun s3 h3 ρ3 H3 σ3 z3 p3 r3 => ⟨ρ3, s3, h3, p3.sim, r3, z3, (p1.trans p2).trans p3⟩
      · exact fun s3 h3 ρ3 H3 σ3 z3 p3 r3 => ⟨ρ3, s3, h3, p3.sim, r3, z3, (p1.trans p2).trans p3⟩
    | false =>
      rw [if_neg Bool.false_ne_true]
      exact a1 s1 h2 ρ2 H2 σ1 z2 (p1.trans p2) (p2.rs R1)
end
end Eg

set_option autoImplicit false
set_option maxRecDepth 100000
set_option maxHeartbeats 1000000
/-! E10: what grows while its parts are evaluated; loops; comprehensions. -/
namespace Eg
open PySem PySem.Spec L2

section
variable {G : Cn} {ρ ρ' ρ'' : Rho} {h h' h'' : EH} {H H' H'' : Hp} {L L' : Nat} {D : Addr}
/-! ### values elsewhere -/
mutual
theorem RV.move (ext : ∀ n, n < L → ρ' n = ρ n) (len : L ≤ L') (mv : ∀ b o, H b = some o → ρ.un L b → H' b = some o ∧ ρ'.un L' b)
    (tups : ∀ b xs, H b = some (.tup xs) → H' b = some (.tup xs)) (frzs : ∀ b o u, H b = some (.frz o u) → H' b = some (.frz o u)) :
    ∀ (v : EV) (x : V), RV G ρ L H v x → RV G ρ' L' H' v x
  | .non, x, r => by unfold RV at r ⊢; exact r
  | .bl b, x, r => by unfold RV at r ⊢; exact r
  | .int i, x, r => by unfold RV at r ⊢; exact r
  | .str c, x, r => by unfold RV at r ⊢; exact r
  | .tup xs, x, r => by
    unfold RV at r ⊢
    obtain ⟨a, ys, e, q, rr⟩ := r
    exact ⟨a, ys, e, tups a ys q, RVs.move ext len mv tups frzs xs ys rr⟩
  | .kt xs, x, r => by
    unfold RV at r ⊢
    obtain ⟨a, ys, e, q, rr⟩ := r
    exact ⟨a, ys, e, SqT.stay tups frzs q, RVs.move ext len mv tups frzs xs ys rr⟩
  | .lst xs, x, r => by
    unfold RV at r ⊢
    obtain ⟨a, ys, e, q, n, rr⟩ := r
    exact ⟨a, ys, e, (mv a _ q n).1, (mv a _ q n).2, RVs.move ext len mv tups frzs xs ys rr⟩
  | .dct t ks vs, x, r => by
    unfold RV at r ⊢
    obtain ⟨a, ys, e, n, rr, q⟩ := r
    obtain ⟨o, eo⟩ := q.obj
    exact ⟨a, ys, e, (mv a _ eo n).2, RVs.move ext len mv tups frzs vs ys rr, q.stay fun o eo => (mv a _ eo n).1⟩
  | .rp v, x, r => by unfold RV at r ⊢; exact r
  | .ref n, x, r => by
    unfold RV at r ⊢
    exact ⟨Nat.lt_of_lt_of_le r.1 len, by rw [ext n r.1]; exact r.2⟩
  | .scr, x, r => by
    unfold RV at r ⊢
    obtain ⟨a, ns, e, q, l⟩ := r
    exact ⟨a, ns, e, q.stay frzs, l⟩
  | .tx t, x, r => by unfold RV at r ⊢; exact r
  | .clo i caps, x, r => by
    unfold RV at r ⊢
    obtain ⟨f, cl, ys, e, fa, co, rr⟩ := r
    exact ⟨f, cl, ys, e, fa.stay frzs, co.stay frzs, RVs.move ext len mv tups frzs caps ys rr⟩
  | .exc c v, x, r => by
    unfold RV at r ⊢
    obtain ⟨a, oe, vs, d, od, y, e, ha, h1, h2, h3, h4, hd, rr⟩ := r
    exact ⟨a, oe, vs, d, od, y, e, frzs _ _ _ ha, h1, h2, h3, h4, frzs _ _ _ hd, RV.move ext len mv tups frzs v y rr⟩
theorem RVs.move (ext : ∀ n, n < L → ρ' n = ρ n) (len : L ≤ L') (mv : ∀ b o, H b = some o → ρ.un L b → H' b = some o ∧ ρ'.un L' b)
    (tups : ∀ b xs, H b = some (.tup xs) → H' b = some (.tup xs)) (frzs : ∀ b o u, H b = some (.frz o u) → H' b = some (.frz o u)) :
    ∀ (vs : List EV) (xs : List V), RVs G ρ L H vs xs → RVs G ρ' L' H' vs xs
  | [], xs, r => by unfold RVs at r ⊢; exact r
  | v :: vs, xs, r => by
    unfold RVs at r ⊢
    obtain ⟨z, zs, e, r1, r2⟩ := r
    exact ⟨z, zs, e, RV.move ext len mv tups frzs v z r1, RVs.move ext len mv tups frzs vs zs r2⟩
end
theorem RF.move (ext : ∀ n, n < L → ρ' n = ρ n) (len : L ≤ L') (mv : ∀ b o, H b = some o → ρ.un L b → H' b = some o ∧ ρ'.un L' b)
    (tups : ∀ b xs, H b = some (.tup xs) → H' b = some (.tup xs)) (frzs : ∀ b o u, H b = some (.frz o u) → H' b = some (.frz o u)) :
    ∀ {fs : List (Nat × EV)} {ys : List (Str × V)}, RF G ρ L H fs ys → RF G ρ' L' H' fs ys
  | [], ys, r => by unfold RF at r ⊢; exact r
  | (n, v) :: fs, ys, r => by
    unfold RF at r ⊢
    obtain ⟨z, zs, e, hn, r1, r2⟩ := r
    exact ⟨z, zs, e, hn, RV.move ext len mv tups frzs v z r1, RF.move ext len mv tups frzs r2⟩
theorem RS.move (ext : ∀ n, n < L → ρ' n = ρ n) (len : L ≤ L') (mv : ∀ b o, H b = some o → ρ.un L b → H' b = some o ∧ ρ'.un L' b)
    (tups : ∀ b xs, H b = some (.tup xs) → H' b = some (.tup xs)) (frzs : ∀ b o u, H b = some (.frz o u) → H' b = some (.frz o u)) :
    ∀ {s : ES} {σ : St}, RS G ρ L H s σ → RS G ρ' L' H' s σ
  | [], σ, r => by unfold RS at r ⊢; exact r
  | v :: vs, xs, r => by
    unfold RS at r ⊢
    obtain ⟨z, zs, e, r1, r2⟩ := r
    exact ⟨z, zs, e, fun w hw => let ⟨x, e1, q⟩ := r1 w hw; ⟨x, e1, RV.move ext len mv tups frzs w x q⟩, RS.move ext len mv tups frzs r2⟩
theorem RO.move (ext : ∀ n, n < L → ρ' n = ρ n) (len : L ≤ L') (mv : ∀ b o, H b = some o → ρ.un L b → H' b = some o ∧ ρ'.un L' b)
    (tups : ∀ b xs, H b = some (.tup xs) → H' b = some (.tup xs)) (frzs : ∀ b o u, H b = some (.frz o u) → H' b = some (.frz o u)) {o : EO} {a : Addr} (same : H' a = H a)
    (r : RO G ρ L H o a) : RO G ρ' L' H' o a := by
  cases o with
  | lst xs =>
    obtain ⟨ys, e, rr⟩ := r
    exact ⟨ys, same.trans e, RVs.move ext len mv tups frzs xs ys rr⟩
  | dic t ks vs =>
    obtain ⟨ys, rr, r⟩ := r
    exact ⟨ys, RVs.move ext len mv tups frzs vs ys rr, r.stay fun o e => same.trans e⟩
  | ins c fs => obtain ⟨dx, ys, e, hc, rr⟩ := r; exact ⟨dx, ys, same.trans e, hc, RF.move ext len mv tups frzs rr⟩
  | pot z => obtain ⟨x, y, w, e, rr⟩ := r; exact ⟨x, y, w, same.trans e, rr⟩
  | fdic t ks vs =>
    obtain ⟨ys, rr, r⟩ := r
    exact ⟨ys, RVs.move ext len mv tups frzs vs ys rr, r.stay fun o e => same.trans e⟩
  | mix lk ks vs =>
    obtain ⟨nks, kys, ys, h1, h2, h3, h4, h5, e⟩ := r
    refine ⟨nks, kys, ys, h1, h2, RVs.move ext len mv tups frzs ks kys h3, RVs.move ext len mv tups frzs vs ys h4, h5, ?_⟩
    cases lk with
    | false => exact same.trans e
    | true => exact e.imp fun o e => same.trans e
  | tab i =>
    obtain ⟨ps, e, h1, h2⟩ := r
    exact ⟨ps, same.trans e, h1, fun pos cv hc => (h2 pos cv hc).imp fun c q => ⟨q.1, q.2.stay frzs⟩⟩
  | junk =>
    obtain ⟨o, e, h1, h2⟩ := r
    exact ⟨o, same.trans e, h1, h2⟩
/-- the engine's objects stand, not at b -/
theorem Sim.some_at (S : Sim G ρ h H) {n : Nat} (hn : n < h.length) : ∃ o, H (ρ n) = some o := by
  obtain ⟨o2, _, r⟩ := S.at hn
  exact r.isAt

/-! ### a thing D that grows: nobody's -/
def Rho.bar (ρ : Rho) (D : Addr) : Rho := ⟨ρ.f, fun b => b = D ∨ ρ.ban b⟩
def Rho.back (ρ' ρ : Rho) : Rho := ⟨ρ'.f, ρ.ban⟩
structure During (G : Cn) (D : Addr) (ρ : Rho) (h : EH) (H : Hp) (ρ' : Rho) (h' : EH) (H' : Hp) : Prop where
  sim : Sim G ρ' h' H'
  ban : ∀ b, ρ'.ban b ↔ b = D ∨ ρ.ban b
  post : Post G ρ h H (ρ'.back ρ) h' H'
theorem During.rv (d : During G D ρ h H ρ' h' H') {L : Nat} {v : EV} {x : V} (r : RV G ρ' L H' v x) : RV G (ρ'.back ρ) L H' v x :=
  RV.move (ρ := ρ') (ρ' := ρ'.back ρ) (fun _ _ => rfl) (Nat.le_refl _) (fun b o e u => ⟨e, fun q => u.1 ((d.ban b).mpr (.inr q)), u.2⟩) (fun _ _ e => e) (fun _ _ _ e => e) v x r
theorem During.rvs (d : During G D ρ h H ρ' h' H') {L : Nat} {v : List EV} {x : List V} (r : RVs G ρ' L H' v x) : RVs G (ρ'.back ρ) L H' v x :=
  RVs.move (ρ := ρ') (ρ' := ρ'.back ρ) (fun _ _ => rfl) (Nat.le_refl _) (fun b o e u => ⟨e, fun q => u.1 ((d.ban b).mpr (.inr q)), u.2⟩) (fun _ _ e => e) (fun _ _ _ e => e) v x r
theorem sim_bar (S : Sim G ρ h H) (hD : H D = none) (o : HO) : Sim G (ρ.bar D) h (upd H D o) := by
  have P := Post.temp (o := o) S hD
  have fr : ∀ b u, H b = some u → upd H D o b = some u := fun b u e => by rw [upd_ne (ne_of_none e hD)]; exact e
  refine ⟨fun n x e => ?_, S.inj, fun b hb => ?_⟩
  · have hn : n < h.length := (List.getElem?_eq_some_iff.mp e).1
    refine RO.move (ρ := ρ) (ρ' := ρ.bar D) (fun _ _ => rfl) (Nat.le_refl _) (fun b u e1 un => ⟨fr b u e1, fun q => ?_, un.2⟩) (fun b xs e => fr b _ e) (fun b ob u e => fr b _ e) (upd_ne (there S hD hn)) (S.obj n x e)
    rcases q with q | q
    · rw [q, hD] at e1; cases e1
    · exact un.1 q
  · rcases hb with rfl | hb
    · exact ⟨⟨o, upd_same⟩, fun n hn => there S hD hn⟩
    · exact P.sim.ban b hb
theorem rvs_bar (hD : H D = none) (o : HO) {vs : List EV} {xs : List V} (r : RVs G ρ L H vs xs) : RVs G (ρ.bar D) L (upd H D o) vs xs := by
  have fr : ∀ b u, H b = some u → upd H D o b = some u := fun b u e => by rw [upd_ne (ne_of_none e hD)]; exact e
  refine RVs.move (ρ := ρ) (ρ' := ρ.bar D) (fun _ _ => rfl) (Nat.le_refl _) (fun b u e1 un => ⟨fr b u e1, fun q => ?_, un.2⟩) (fun b xs e => fr b _ e) (fun b ob u e => fr b _ e) vs xs r
  rcases q with q | q
  · rw [q, hD] at e1; cases e1
  · exact un.1 q
theorem rs_bar (hD : H D = none) (o : HO) {vs : ES} {xs : St} (r : RS G ρ L H vs xs) : RS G (ρ.bar D) L (upd H D o) vs xs := by
  have fr : ∀ b u, H b = some u → upd H D o b = some u := fun b u e => by rw [upd_ne (ne_of_none e hD)]; exact e
  refine RS.move (ρ := ρ) (ρ' := ρ.bar D) (fun _ _ => rfl) (Nat.le_refl _) (fun b u e1 un => ⟨fr b u e1, fun q => ?_, un.2⟩) (fun b xs e => fr b _ e) (fun b ob u e => fr b _ e) r
  rcases q with q | q
  · rw [q, hD] at e1; cases e1
  · exact un.1 q
theorem During.start (S : Sim G ρ h H) (hD : H D = none) (o : HO) : During G D ρ h H (ρ.bar D) h (upd H D o) :=
  ⟨sim_bar S hD o, fun b => Iff.rfl, Post.temp (o := o) S hD⟩
theorem Sim.weak {B : Addr → Prop} (S : Sim G ρ h H) (hB : ∀ b, B b → ρ.ban b) : Sim G ⟨ρ.f, B⟩ h H :=
  ⟨fun n x e => RO.move (ρ := ρ) (ρ' := ⟨ρ.f, B⟩) (fun _ _ => rfl) (Nat.le_refl _) (fun b u e1 un => ⟨e1, fun q => un.1 (hB b q), un.2⟩) (fun _ _ e => e) (fun _ _ _ e => e) rfl (S.obj n x e), S.inj, fun b hb => S.ban b (hB b hb)⟩
theorem Post.weak {B : Addr → Prop} (p : Post G ρ h H ρ' h' H') (hB : ∀ b, B b → ρ.ban b) : Post G ⟨ρ.f, B⟩ h H ⟨ρ'.f, B⟩ h' H' :=
  ⟨p.sim.weak fun b hb => by rw [p.ban]; exact hB b hb, p.len, p.ext, p.frame, p.fresh, p.tups, p.frzs, rfl⟩
theorem During.step (d : During G D ρ h H ρ' h' H') (p : Post G ρ' h' H' ρ'' h'' H'') : During G D ρ h H ρ'' h'' H'' :=
  ⟨p.sim, fun b => by rw [p.ban]; exact d.ban b, d.post.trans (p.weak (B := ρ.ban) fun b hb => (d.ban b).mpr (.inr hb))⟩
/-- D is written -/
theorem During.write (d : During G D ρ h H ρ' h' H') (hD : H D = none) {o1 o2 : HO} (e1 : H' D = some o1) (nt : ∀ xs, o1 ≠ .tup xs) (nf : ∀ ob u, o1 ≠ .frz ob u) : During G D ρ h H ρ' h' (upd H' D o2) := by
  have neD : ∀ b, ¬ ρ'.ban b → b ≠ D := fun b q z => q ((d.ban b).mpr (.inl z))
  have tp : ∀ b xs, H' b = some (.tup xs) → upd H' D o2 b = some (.tup xs) := fun b xs e => by rw [upd_ne fun z => by rw [z, e1] at e; exact nt xs (Option.some.inj e)]; exact e
  have fz : ∀ b ob u, H' b = some (.frz ob u) → upd H' D o2 b = some (.frz ob u) := fun b ob u e => by rw [upd_ne fun z => by rw [z, e1] at e; exact nf ob u (Option.some.inj e)]; exact e
  have bD := d.sim.ban D ((d.ban D).mpr (.inl rfl))
  have S : Sim G ρ' h' (upd H' D o2) := by
    refine ⟨fun n x e => ?_, d.sim.inj, fun b hb => ⟨?_, (d.sim.ban b hb).2⟩⟩
    · have hn : n < h'.length := (List.getElem?_eq_some_iff.mp e).1
      exact RO.move (ρ := ρ') (fun _ _ => rfl) (Nat.le_refl _) (fun b u e un => ⟨by rw [upd_ne (neD b un.1)]; exact e, un⟩) tp fz (upd_ne (bD.2 n hn)) (d.sim.obj n x e)
    · by_cases hb2 : b = D
      · subst hb2; exact ⟨_, upd_same⟩
      · rw [upd_ne hb2]; exact (d.sim.ban b hb).1
  refine ⟨S, d.ban, S.weak fun b hb => (d.ban b).mpr (.inr hb), d.post.len, d.post.ext, fun b u e un => ?_, d.post.fresh, fun b xs e => ?_, fun b ob u e => ?_, rfl⟩
  · rw [upd_ne fun z => by rw [z, hD] at e; cases e]; exact d.post.frame b u e un
  · exact tp b xs (d.post.tups b xs e)
  · exact fz b ob u (d.post.frzs b ob u e)
theorem During.rvw (d : During G D ρ h H ρ' h' H') {o1 o2 : HO} (e1 : H' D = some o1) (nt : ∀ xs, o1 ≠ .tup xs) (nf : ∀ ob u, o1 ≠ .frz ob u) {vs : List EV} {xs : List V} (r : RVs G ρ' L H' vs xs) : RVs G ρ' L (upd H' D o2) vs xs := by
  have neD : ∀ b, ¬ ρ'.ban b → b ≠ D := fun b q z => q ((d.ban b).mpr (.inl z))
  exact RVs.move (ρ := ρ') (fun _ _ => rfl) (Nat.le_refl _) (fun b u e un => ⟨by rw [upd_ne (neD b un.1)]; exact e, un⟩) (fun b xs e => by rw [upd_ne fun z => by rw [z, e1] at e; exact nt xs (Option.some.inj e)]; exact e)
    (fun b ob u e => by rw [upd_ne fun z => by rw [z, e1] at e; exact nf ob u (Option.some.inj e)]; exact e) vs xs r
theorem During.rsw (d : During G D ρ h H ρ' h' H') {o1 o2 : HO} (e1 : H' D = some o1) (nt : ∀ xs, o1 ≠ .tup xs) (nf : ∀ ob u, o1 ≠ .frz ob u) {vs : ES} {xs : St} (r : RS G ρ' L H' vs xs) : RS G ρ' L (upd H' D o2) vs xs := by
  have neD : ∀ b, ¬ ρ'.ban b → b ≠ D := fun b q z => q ((d.ban b).mpr (.inl z))
  exact RS.move (ρ := ρ') (fun _ _ => rfl) (Nat.le_refl _) (fun b u e un => ⟨by rw [upd_ne (neD b un.1)]; exact e, un⟩) (fun b xs e => by rw [upd_ne fun z => by rw [z, e1] at e; exact nt xs (Option.some.inj e)]; exact e)
    (fun b ob u e => by rw [upd_ne fun z => by rw [z, e1] at e; exact nf ob u (Option.some.inj e)]; exact e) r
/-- D, no more in growth, is nobody's list -/
theorem During.un (d : During G D ρ h H ρ' h' H') (S : Sim G ρ h H) (hD : H D = none) : (ρ'.back ρ).un h'.length D :=
  ⟨fun q => by { obtain ⟨o, e⟩ := (S.ban D q).1; rw [hD] at e; cases e }, (d.sim.ban D ((d.ban D).mpr (.inl rfl))).2⟩
/-- .. is an object of the engine's -/
theorem During.own (d : During G D ρ h H ρ' h' H') (S : Sim G ρ h H) (hD : H D = none) {x : EO} (hx : ∀ ρ2 : Rho, (∀ n, n < h'.length → ρ2 n = ρ' n) → ρ2.ban = ρ.ban → ρ2 h'.length = D → RO G ρ2 (h'.length + 1) H' x D) :
    Post G ρ h H (more (ρ'.back ρ) h'.length D) (h' ++ [x]) H' := by
  have bD := d.sim.ban D ((d.ban D).mpr (.inl rfl))
  have hl : (h' ++ [x]).length = h'.length + 1 := by simp
  have lt : ∀ n, n < h'.length → more (ρ'.back ρ) h'.length D n = ρ' n := fun n hn => more_lt hn
  have nw : more (ρ'.back ρ) h'.length D h'.length = D := more_at
  have mv : ∀ b o, H' b = some o → ρ'.un h'.length b → H' b = some o ∧ (more (ρ'.back ρ) h'.length D).un (h'.length + 1) b := fun b o e un => by
    refine ⟨e, fun q => un.1 ((d.ban b).mpr (.inr q)), fun n hn z => ?_⟩
    by_cases h1 : n < h'.length
    · rw [lt n h1] at z; exact un.2 n h1 z
    · have e1 : n = h'.length := by omega
      rw [e1, nw] at z
      exact un.1 ((d.ban b).mpr (.inl z.symm))
  refine ⟨⟨fun n y e => ?_, fun n m hn hm q => ?_, fun b hb => ⟨(d.post.sim.ban b hb).1, fun n hn => ?_⟩⟩, by rw [hl]; have := d.post.len; omega, fun n hn => ?_, d.post.frame, fun n h1 h2 => ?_, d.post.tups, d.post.frzs, rfl⟩
  · rw [hl]
    by_cases hn : n < h'.length
    · rw [List.getElem?_append_left hn] at e
      rw [lt n hn]
      exact RO.move (ρ := ρ') lt (Nat.le_succ _) mv (fun _ _ e => e) (fun _ _ _ e => e) rfl (d.sim.obj n y e)
    · have hb := (List.getElem?_eq_some_iff.mp e).1
      have en : n = h'.length := by rw [hl] at hb; omega
      subst en
      rw [List.getElem?_append_right (Nat.le_refl _)] at e
      have e2 : x = y := by simpa using e
      subst e2
      rw [nw]
      exact hx _ lt rfl nw
  · rw [hl] at hn hm
    by_cases h1 : n < h'.length
    · by_cases h2 : m < h'.length
      · rw [lt n h1, lt m h2] at q; exact d.sim.inj n m h1 h2 q
      · have e2 : m = h'.length := by omega
        rw [lt n h1, e2, nw] at q
        exact absurd q (bD.2 n h1)
    · have e1 : n = h'.length := by omega
      by_cases h2 : m < h'.length
      · rw [e1, nw, lt m h2] at q
        exact absurd q.symm (bD.2 m h2)
      · omega
  · rw [hl] at hn
    by_cases h1 : n < h'.length
    · rw [lt n h1]; exact (d.post.sim.ban b hb).2 n h1
    · have e1 : n = h'.length := by omega
      rw [e1, nw]
      intro z
      obtain ⟨o, e⟩ := (S.ban b hb).1
      rw [← z, hD] at e; cases e
  · have := d.post.len
    rw [lt n (by omega)]; exact d.post.ext n hn
  · rw [hl] at h2
    by_cases h3 : n < h'.length
    · rw [lt n h3]; exact d.post.fresh n h1 h3
    · have e1 : n = h'.length := by omega
      rw [e1, nw]; exact hD

/-! ### what a loop walks -/
inductive Src where
  | fix (xs : List EV)
  | own (n : Nat)
def nxt (h : EH) (i : Nat) : Src → Option (Option EV)
  | .fix xs => some (nthE xs i)
  | .own n => match getH h n with
    | some (.lst ys) => some (nthE ys i)
    | _ => none
/-- the walk J gives what src holds, in any later state -/
def WalkS (G : Cn) (J : It) (src : Src) (ρ : Rho) (h : EH) (H : Hp) : Prop :=
  ∀ ρ' h' H', Sim G ρ' h' H' → (∀ vs xs, RVs G ρ h.length H vs xs → RVs G ρ' h'.length H' vs xs) → (∀ b o u, H b = some (.frz o u) → H' b = some (.frz o u)) → ∀ i r, nxt h' i src = some r → match r with
    | some v => J.go i H' ∧ ∀ x H'', J.yld i H' x H'' → Post G ρ' h' H' ρ' h' H'' ∧ RV G ρ' h'.length H'' v x
    | none => J.stop i H'
abbrev KI := ES → EH → (Src → EH → Bool) → Bool
def RI (G : Cn) (f : KI) : TI := fun σ H R => ∃ ρ s h k, Sim G ρ h H ∧ RS G ρ h.length H s σ ∧ f s h k = true ∧ ∀ src h' ρ' H' J, k src h' = true → Post G ρ h H ρ' h' H' → WalkS G J src ρ' h' H' → R J H'
def XI (G : Cn) (X : Cx) (tg e : Expr) (f : KI) : Prop := PI X tg e (RI G f)
theorem PI.imp {X : Cx} {tg e : Expr} {t u : TI} (p : PI X tg e t) (i : ∀ σ H R, u σ H R → t σ H R) : PI X tg e u := ⟨fun pins s σ H R I q => p.run pins s σ H R I (i σ H R q)⟩
theorem PI.or {X : Cx} {tg e : Expr} {t u : TI} (p : PI X tg e t) (q : PI X tg e u) : PI X tg e (fun σ H R => t σ H R ∨ u σ H R) := ⟨fun pins s σ H R I z => z.elim (p.run pins s σ H R I) (q.run pins s σ H R I)⟩
end
end Eg

set_option autoImplicit false
set_option maxRecDepth 100000
set_option maxHeartbeats 1000000
/-! E11: iterables, for, comprehensions. -/
namespace Eg
open PySem PySem.Spec L2

/-! ### codes -/
def srcOf (h : EH) (v : EV) : Option Src := match v with
  | .ref n => match getH h n with
    | some (.lst _) => some (.own n)
    | _ => none
  | v => match seqItems h v with
    | some xs => some (.fix xs)
    | none => none
def kIt (f : KE) : KI := fun s h k => f s h fun v h => match srcOf h v with
  | some src => k src h
  | none => false
def rngE : Nat → Int → List EV
  | 0, _ => []
  | n + 1, lo => .int lo :: rngE n (lo + 1)
def okI (i : Int) : Bool := match i with
  | .ofNat n => Nat.ble n 1000000
  | .negSucc n => Nat.ble n 1000000
def toN (i : Int) : Nat := match i with
  | .ofNat n => n
  | .negSucc _ => 0
def kRng1 (fa : KA) : KI := fun s h k => fa s h fun vs h => match vs with
  | [.int j] => match okI j with
    | true => k (.fix (rngE (toN j) 0)) h
    | false => false
  | _ => false
def kRng2 (fa : KA) : KI := fun s h k => fa s h fun vs h => match vs with
  | [.int i, .int j] => match okI i && okI j with
    | true => k (.fix (rngE (toN (j - i)) i)) h
    | false => false
  | _ => false
def zipE : List EV → List EV → List EV
  | x :: xs, y :: ys => .tup [x, y] :: zipE xs ys
  | _, _ => []
def enumE : Nat → List EV → List EV
  | _, [] => []
  | i, x :: xs => .tup [.int (Int.ofNat i), x] :: enumE (i + 1) xs
/-- both lists, or both tuples; nobody changes them -/
def fixL : EV → Option (List EV)
  | .lst xs => some xs
  | _ => none
def fixT : EV → Option (List EV)
  | .tup xs => some xs
  | .kt xs => some xs
  | _ => none
def kZip (fa : KA) : KI := fun s h k => fa s h fun vs h => match vs with
  | [v, w] => match fixL v, fixL w with
    | some xs, some ys => k (.fix (zipE xs ys)) h
    | _, _ => match fixT v, fixT w with
      | some xs, some ys => k (.fix (zipE xs ys)) h
      | _, _ => false
  | _ => false
def kEnumL (fa : KA) : KI := fun s h k => fa s h fun vs h => match vs with
  | [v] => match fixL v with
    | some xs => k (.fix (enumE 0 xs)) h
    | none => false
  | _ => false
/-! for -/
def kForF (g : KG) (b : KS) : List EV → KS
  | [] => fun s h nx _ _ _ => nx s h
  | x :: xs => fun s h nx rt bk ct => g x s h fun s h => b s h (fun s h => kForF g b xs s h nx rt bk ct) rt nx (fun s h => kForF g b xs s h nx rt bk ct)
def kForS (g : KG) (b : KS) (src : Src) : Nat → Nat → KS
  | 0, _ => kNever
  | m + 1, i => fun s h nx rt bk ct => match nxt h i src with
    | some (some x) => g x s h fun s h => b s h (fun s h => kForS g b src m (i + 1) s h nx rt bk ct) rt nx (fun s h => kForS g b src m (i + 1) s h nx rt bk ct)
    | some none => nx s h
    | none => false
def kFor (it : KI) (g : KG) (b : KS) (m : Nat) : KS := fun s h nx rt bk ct => it s h fun src h => match src with
  | .fix xs => kForF g b xs s h nx rt bk ct
  | .own _ => kForS g b src m 0 s h nx rt bk ct
theorem forF_eq (g : KG) (b : KS) (ys : List EV) : ∀ (xs zs : List EV), ys = zs ++ xs → kForF g b xs = kForS g b (.fix ys) (xs.length + 1) zs.length
  | [], zs, e => by
    funext s h nx rt bk ct
    simp only [kForF, kForS, nxt, nthE_eq, List.length_nil]
    rw [e, List.append_nil, List.getElem?_eq_none (Nat.le_refl _)]
  | x :: xs, zs, e => by
    have ih := forF_eq g b ys xs (zs ++ [x]) (by rw [e]; simp)
    funext s h nx rt bk ct
    have e1 : ys[zs.length]? = some x := by rw [e]; simp
    rw [List.length_append] at ih
    simp only [List.length_cons, List.length_nil, Nat.zero_add] at ih ⊢
    rw [kForF, kForS]
    simp only [nxt, nthE_eq, e1]
    rw [ih]
/-! comprehensions -/
def clrS : ES → Nat → ES
  | [], _ => []
  | _ :: ss, 0 => none :: ss
  | s :: ss, i + 1 => s :: clrS ss i
def wipeE (s : ES) : List Nat → ES
  | [] => s
  | v :: vs => clrS (wipeE s vs) v
def kLcF (g : KG) (tt : KT) (te : KE) (s : ES) : List EV → EH → (List EV → EH → Bool) → Bool
  | [], h, k => k [] h
  | x :: xs, h, k => g x s h fun s2 h => tt s2 h fun b h => match b with
    | true => te s2 h fun v h => kLcF g tt te s xs h fun vs h => k (v :: vs) h
    | false => kLcF g tt te s xs h k
def kLcS (g : KG) (tt : KT) (te : KE) (s : ES) (src : Src) : Nat → Nat → EH → (List EV → EH → Bool) → Bool
  | 0, _, _, _ => false
  | m + 1, i, h, k => match nxt h i src with
    | some (some x) => g x s h fun s2 h => tt s2 h fun b h => match b with
      | true => te s2 h fun v h => kLcS g tt te s src m (i + 1) h fun vs h => k (v :: vs) h
      | false => kLcS g tt te s src m (i + 1) h k
    | some none => k [] h
    | none => false
def lcEnd (own : Bool) (k : EV → EH → Bool) : List EV → EH → Bool := fun ys h => match own with
  | true => newH h (.lst ys) k
  | false => k (.lst ys) h
def kLc (own : Bool) (it : KI) (g : KG) (tt : KT) (te : KE) (vs : List Nat) : KE := fun s h k => it s h fun src h => match src with
  | .fix xs => match okLen xs with
    | true => kLcF g tt te (wipeE s vs) xs h (lcEnd own k)
    | false => false
  | .own _ => kLcS g tt te (wipeE s vs) src 5000 0 h (lcEnd own k)
theorem lcF_eq (g : KG) (tt : KT) (te : KE) (s : ES) (ys : List EV) : ∀ (xs zs : List EV) (h : EH) (k : List EV → EH → Bool), ys = zs ++ xs → kLcF g tt te s xs h k = kLcS g tt te s (.fix ys) (xs.length + 1) zs.length h k
  | [], zs, h, k, e => by
    simp only [kLcF, kLcS, nxt, nthE_eq, List.length_nil]
    rw [e, List.append_nil, List.getElem?_eq_none (Nat.le_refl _)]
  | x :: xs, zs, h, k, e => by
    have ih := fun h k => lcF_eq g tt te s ys xs (zs ++ [x]) h k (by rw [e]; simp)
    have e1 : ys[zs.length]? = some x := by rw [e]; simp
    simp only [List.length_append, List.length_cons, List.length_nil, Nat.zero_add] at ih ⊢
    rw [kLcF, kLcS]
    simp only [nxt, nthE_eq, e1]
    congr 1
    funext s2 h
    congr 1
    funext b h
    cases b with
    | true =>
      show te s2 h _ = te s2 h _
      congr 1
      funext v h
      exact ih _ _
    | false => exact ih _ _

section
variable {G : Cn} {X : Cx} {ρ ρ' : Rho} {h h' : EH} {H H' : Hp} {L : Nat}
variable {a o e value tg : Expr} {es : List Expr} {f : KE} {fa : KA} {pos p tpos : Pos} {elts : List Expr} {kk : Nat}
/-! ### iterables -/
theorem walk_l {a : Addr} {xs : List EV} (w : ∀ ρ' h' H', Sim G ρ' h' H' → (∀ vs xs, RVs G ρ h.length H vs xs → RVs G ρ' h'.length H' vs xs) → ∃ ys, SqL G.K H' a ys ∧ RVs G ρ' h'.length H' xs ys) : WalkS G (Itl G.K a) (.fix xs) ρ h H := by
  intro ρ' h' H' S c _ i r e
  obtain ⟨ys, q, rr⟩ := w ρ' h' H' S c
  simp only [nxt, nthE_eq, Option.some.injEq] at e
  subst e
  cases ev : xs[i]? with
  | some v =>
    obtain ⟨x, ex, rx⟩ := rr.get ev
    refine ⟨⟨ys, x, q, ex⟩, ?_⟩
    rintro y H'' ⟨rfl, hy⟩
    have := hy ys q
    rw [ex] at this
    cases this
    exact ⟨Post.refl S, rx⟩
  | none =>
    have := List.getElem?_eq_none_iff.mp ev
    rw [rr.length] at this
    exact ⟨ys, q, this⟩
theorem walk_t {a : Addr} {xs : List EV} (w : ∀ ρ' h' H', Sim G ρ' h' H' → (∀ vs xs, RVs G ρ h.length H vs xs → RVs G ρ' h'.length H' vs xs) → ∃ ys, SqT G.K H' a ys ∧ RVs G ρ' h'.length H' xs ys) : WalkS G (Itt G.K a) (.fix xs) ρ h H := by
  intro ρ' h' H' S c _ i r e
  obtain ⟨ys, q, rr⟩ := w ρ' h' H' S c
  simp only [nxt, nthE_eq, Option.some.injEq] at e
  subst e
  cases ev : xs[i]? with
  | some v =>
    obtain ⟨x, ex, rx⟩ := rr.get ev
    refine ⟨⟨ys, x, q, ex⟩, ?_⟩
    rintro y H'' ⟨rfl, hy⟩
    have := hy ys q
    rw [ex] at this
    cases this
    exact ⟨Post.refl S, rx⟩
  | none =>
    have := List.getElem?_eq_none_iff.mp ev
    rw [rr.length] at this
    exact ⟨ys, q, this⟩
theorem walk_o {n : Nat} (hn : n < h.length) : WalkS G (Itl G.K (ρ n)) (.own n) ρ h H := by
  intro ρ' h' H' S c _ i r e
  have c1 := c [.ref n] [.ref (ρ n)] (RVs.cons (by unfold RV; exact ⟨hn, rfl⟩) RVs.nil)
  obtain ⟨x, ex, r1⟩ := one c1
  cases ex
  unfold RV at r1
  obtain ⟨hn', e1⟩ := r1
  have e1 : ρ n = ρ' n := V.ref.inj e1
  simp only [nxt, getH_eq] at e
  split at e
  · rename_i ys0 e2
    simp only [nthE_eq, Option.some.injEq] at e
    subst e
    obtain ⟨ys, q, rr⟩ := S.obj n _ e2
    rw [← e1] at q
    have q' : SqL G.K H' (ρ n) ys := .inl (.inl q)
    cases ev : ys0[i]? with
    | some v =>
      obtain ⟨x, ex, rx⟩ := rr.get ev
      refine ⟨⟨ys, x, q', ex⟩, ?_⟩
      rintro y H'' ⟨rfl, hy⟩
      have := hy ys q'
      rw [ex] at this
      cases this
      exact ⟨Post.refl S, rx⟩
    | none =>
      have := List.getElem?_eq_none_iff.mp ev
      rw [rr.length] at this
      exact ⟨ys, q', this⟩
  · cases e
theorem carry1 {v : EV} {x : V} (c : ∀ vs xs, RVs G ρ h.length H vs xs → RVs G ρ' h'.length H' vs xs) (r : RV G ρ h.length H v x) : RV G ρ' h'.length H' v x := by
  obtain ⟨y, e, q⟩ := one (c [v] [x] (RVs.cons r RVs.nil))
  cases e
  exact q
/-- a list or a tuple, whichever comes -/
def iSeq (K : PySem.W.Frag) (tl : TE) : TI := fun σ H R => tl σ H fun x H1 => (∃ a, x = .ref a ∧ (∃ xs, SqL K H1 a xs) ∧ R (Itl K a) H1) ∨ (∃ a, x = .ref a ∧ (∃ xs, SqT K H1 a xs) ∧ R (Itt K a) H1)
theorem pi_seq {tl : TE} (hl : PE X e tl) : PI X tg e (iSeq X.K tl) := by
  refine ⟨fun pins s σ H R I0 hw => thn (hl.run pins s σ H _ I0 hw) fun v s1 ⟨x, H1, I1, rx, q1⟩ => ?_⟩
  have fresh : ∀ c ∈ [s1.heap.objs.size], FpOk X pins H1 c := fun c hcm => by
    obtain rfl : c = s1.heap.objs.size := by simpa using hcm
    exact I1.fpOk (Nat.le_refl _) (I1.hok.fresh (Nat.le_refl _))
  have keep : ∀ ob : Obj, Inv X pins σ H1 { s1 with heap := s1.heap.push ob } := fun ob => I1.kept (t' := s1.toks) fun c u ec => Heap.get?_push_of_some _ ec
  rcases q1 with ⟨a, rfl, ⟨xs, hq⟩, q⟩ | ⟨a, rfl, ⟨xs, hq⟩, q⟩
  · cases rx
    obtain ⟨its, rv, pl, _⟩ := I1.list hq
    refine wpAny_pyIter_list pl.isList ⟨s1.heap.objs.size, [s1.heap.objs.size], _, _, H1, rfl, keep _, turn_list a _, ?_, fresh, q⟩
    exact ⟨_, Heap.get?_push_size _ rfl, rfl, rfl⟩
  · cases rx
    obtain ⟨its, rv, pt, _⟩ := I1.tuple hq
    refine wpAny_pyIter_tuple (show s1.heap.IsTuple a its.toArray from pt) ⟨s1.heap.objs.size, [s1.heap.objs.size], _, _, H1, rfl, keep _, turn_tuple a _, ?_, fresh, q⟩
    exact ⟨_, Heap.get?_push_size _ rfl, rfl, rfl⟩
theorem i_seq (g : Gd G X) (he : XE G X e f) : XI G X tg e (kIt f) := by
  refine PI.imp (pi_seq he) fun σ H R ⟨ρ, s, h, k, S, Rs, z, af⟩ => ?_
  rw [g.k]
  · refine ⟨ρ, s, h, _, S, Rs, z, fun v h1 ρ1 H1 x z1 p1 r1 => ?_⟩
    split at z1
    · rename_i src e1
      unfold srcOf at e1
      split at e1
      · rename_i n
        have r0 := r1
        unfold RV at r1
        obtain ⟨hn, rfl⟩ := r1
        rw [getH_eq] at e1
        split at e1
        · rename_i l e2
          cases e1
          obtain ⟨ys, q, rr⟩ := p1.sim.obj n _ e2
          exact .inl ⟨_, rfl, ⟨ys, .inl (.inl q)⟩, af _ h1 ρ1 H1 _ z1 p1 (walk_o hn)⟩
        · cases e1
      · rename_i w nr
        split at e1
        · rename_i xs e2
          cases e1
          have r0 := r1
          cases v with
          | lst l =>
            cases e2
            unfold RV at r1
            obtain ⟨a, ys, rfl, q, un, rr⟩ := r1
            refine .inl ⟨a, rfl, ⟨ys, .inl (.inl q)⟩, af _ h1 ρ1 H1 _ z1 p1 (walk_l fun ρ' h' H' S' c => ?_)⟩
            have c1 := carry1 c r0
            unfold RV at c1
            obtain ⟨a', ys', e, q', un', rr'⟩ := c1
            cases e
            exact ⟨ys', .inl (.inl q'), rr'⟩
          | tup l =>
            cases e2
            unfold RV at r1
            obtain ⟨a, ys, rfl, q, rr⟩ := r1
            refine .inr ⟨a, rfl, ⟨ys, .inl (.inl q)⟩, af _ h1 ρ1 H1 _ z1 p1 (walk_t fun ρ' h' H' S' c => ?_)⟩
            have c1 := carry1 c r0
            unfold RV at c1
            obtain ⟨a', ys', e, q', rr'⟩ := c1
            cases e
            exact ⟨ys', .inl (.inl q'), rr'⟩
          | kt l =>
            cases e2
            unfold RV at r1
            obtain ⟨a, ys, rfl, q, rr⟩ := r1
            refine .inr ⟨a, rfl, ⟨ys, q⟩, af _ h1 ρ1 H1 _ z1 p1 (walk_t fun ρ' h' H' S' c => ?_)⟩
            have c1 := carry1 c r0
            unfold RV at c1
            obtain ⟨a', ys', e, q', rr'⟩ := c1
            cases e
            exact ⟨ys', q', rr'⟩
          | ref n => exact absurd rfl (nr n)
          | _ => cases e2
        · cases e1
    · cases z1

/-! ranges -/
theorem rngE_get : ∀ (n : Nat) (lo : Int) (i : Nat), (rngE n lo)[i]? = if i < n then some (EV.int (lo + i)) else none
  | 0, lo, i => by simp [rngE]
  | n + 1, lo, 0 => by simp [rngE]
  | n + 1, lo, i + 1 => by
    rw [rngE, List.getElem?_cons_succ, rngE_get n (lo + 1) i]
    by_cases hi : i < n
    · rw [if_pos hi, if_pos (by omega)]
      congr 2
      omega
    · rw [if_neg hi, if_neg (by omega)]
theorem walk_r {n : Nat} {lo : Int} : WalkS G (Itr lo n) (.fix (rngE n lo)) ρ h H := by
  intro ρ' h' H' S c _ i r e
  simp only [nxt, nthE_eq, Option.some.injEq] at e
  subst e
  rw [rngE_get]
  by_cases hi : i < n
  · rw [if_pos hi]
    refine ⟨hi, ?_⟩
    rintro x H'' ⟨rfl, rfl⟩
    exact ⟨Post.refl S, by unfold RV; rfl⟩
  · rw [if_neg hi]
    exact Nat.le_of_not_lt hi
theorem okI_is {i : Int} (h : okI i = true) : -(2 ^ 62) ≤ i ∧ i < 2 ^ 62 := by
  cases i with
  | ofNat n =>
    have h : n ≤ 1000000 := Nat.le_of_ble_eq_true h
    have e : Int.ofNat n = (n : Int) := rfl
    rw [e]
    omega
  | negSucc n =>
    have h : n ≤ 1000000 := Nat.le_of_ble_eq_true h
    have e : Int.negSucc n = -(n : Int) - 1 := by omega
    rw [e]
    omega
theorem toN_is (i : Int) : toN i = i.toNat := by
  cases i <;> rfl
theorem i_rng1 (hg : Gl X "range") (hm : X.mg "range" = none) (ha : XA G X [a] fa) (hs : starEach [a] X.env = [(false, eval a X.env)] := by rfl) : XI G X tg (.Call (.Name "range" p) [a] [] pos) (kRng1 fa) := by
  refine PI.imp (pi_range1 hg hm ha hs) fun σ H R ⟨ρ, s, h, k, S, Rs, z, af⟩ => ⟨ρ, s, h, _, S, Rs, z, fun vs h1 ρ1 H1 xs z1 p1 r1 => ?_⟩
  split at z1
  · split at z1
    · rename_i ok
      obtain ⟨x, rfl, r2⟩ := one r1
      unfold RV at r2
      subst r2
      have := okI_is ok
      refine ⟨_, rfl, this.1, this.2, ?_⟩
      rw [toN_is] at z1
      exact af _ h1 ρ1 H1 _ z1 p1 walk_r
    · cases z1
  · cases z1
theorem i_rng2 {b : Expr} (hg : Gl X "range") (hm : X.mg "range" = none) (ha : XA G X [a, b] fa) (hs : starEach [a, b] X.env = [(false, eval a X.env), (false, eval b X.env)] := by rfl) (hs2 : starEach [b] X.env = [(false, eval b X.env)] := by rfl) :
    XI G X tg (.Call (.Name "range" p) [a, b] [] pos) (kRng2 fa) := by
  refine PI.imp (pi_range2 hg hm ha hs hs2) fun σ H R ⟨ρ, s, h, k, S, Rs, z, af⟩ => ⟨ρ, s, h, _, S, Rs, z, fun vs h1 ρ1 H1 xs z1 p1 r1 => ?_⟩
  split at z1
  · split at z1
    · rename_i ok
      obtain ⟨x, y, rfl, r2, r3⟩ := twoV r1
      unfold RV at r2 r3
      subst r2 r3
      rw [Bool.and_eq_true] at ok
      have o1 := okI_is ok.1
      have o2 := okI_is ok.2
      refine ⟨_, _, rfl, ⟨o1.1, o1.2, o2.1, o2.2⟩, ?_⟩
      rw [toN_is] at z1
      exact af _ h1 ρ1 H1 _ z1 p1 walk_r
    · cases z1
  · cases z1
/-! zip, enumerate -/
theorem zipE_get : ∀ (xs ys : List EV) (i : Nat), (zipE xs ys)[i]? = match xs[i]?, ys[i]? with
    | some x, some y => some (EV.tup [x, y])
    | _, _ => none
  | [], ys, i => by simp [zipE]
  | x :: xs, [], i => by
    simp only [zipE, List.getElem?_nil]
    split <;> simp_all
  | x :: xs, y :: ys, 0 => by simp [zipE]
  | x :: xs, y :: ys, i + 1 => by
    rw [zipE, List.getElem?_cons_succ, List.getElem?_cons_succ, List.getElem?_cons_succ]
    exact zipE_get xs ys i
theorem enumE_get : ∀ (n : Nat) (xs : List EV) (i : Nat), (enumE n xs)[i]? = (xs[i]?).map fun x => EV.tup [.int (Int.ofNat (n + i)), x]
  | n, [], i => by simp [enumE]
  | n, x :: xs, 0 => by simp [enumE]
  | n, x :: xs, i + 1 => by
    rw [enumE, List.getElem?_cons_succ, List.getElem?_cons_succ, enumE_get (n + 1) xs i]
    congr 1
    funext x
    have : n + 1 + i = n + (i + 1) := by omega
    rw [this]
theorem fixL_is {v : EV} {x : V} {xs : List EV} (r : RV G ρ L H v x) (e : fixL v = some xs) : ∃ a ys, x = .ref a ∧ SqL G.K H a ys ∧ RVs G ρ L H xs ys := by
  cases v with
  | lst l =>
    cases e
    unfold RV at r
    obtain ⟨a, ys, rfl, q, _, rr⟩ := r
    exact ⟨a, ys, rfl, .inl (.inl q), rr⟩
  | _ => cases e
theorem fixT_is {v : EV} {x : V} {xs : List EV} (r : RV G ρ L H v x) (e : fixT v = some xs) : ∃ a ys, x = .ref a ∧ SqT G.K H a ys ∧ RVs G ρ L H xs ys := by
  cases v with
  | tup l =>
    cases e
    unfold RV at r
    obtain ⟨a, ys, rfl, q, rr⟩ := r
    exact ⟨a, ys, rfl, .inl (.inl q), rr⟩
  | kt l =>
    cases e
    unfold RV at r
    obtain ⟨a, ys, rfl, q, rr⟩ := r
    exact ⟨a, ys, rfl, q, rr⟩
  | _ => cases e
theorem rv_pair {v w : EV} {x y : V} (S : Sim G ρ h H) {T : Addr} (hT : H T = none) (r1 : RV G ρ h.length H v x) (r2 : RV G ρ h.length H w y) : RV G ρ h.length (upd H T (.tup [x, y])) (.tup [v, w]) (.ref T) :=
  rv_tup S hT (RVs.cons r1 (RVs.cons r2 RVs.nil))
theorem i_zip {e2 : Expr} (g : Gd G X) (hg : Gl X "zip") (hm : X.mg "zip" = none) (ha : XA G X [e, e2] fa)
    (hs : starEach [e, e2] X.env = (false, eval e X.env) :: starEach [e2] X.env := by rfl) (hpl : (backTo pos (starEach [e2] X.env)).any (·.1) = false := by rfl) :
    XI G X (.Tuple elts kk tpos) (.Call (.Name "zip" p) [e, e2] [] pos) (kZip fa) := by
  refine PI.imp (RZ.pi_zipA hg hm ha hs hpl) fun σ H R ⟨ρ, s, h, k, S, Rs, z, af⟩ => ⟨ρ, s, h, _, S, Rs, z, fun vs h1 ρ1 H1 xs z1 p1 r1 => ?_⟩
  rw [g.k]
  split at z1
  · rename_i v w
    obtain ⟨x, y, rfl, r2, r3⟩ := twoV r1
    split at z1
    · rename_i l1 l2 e1 e2
      obtain ⟨a, ys, rfl, q1, rr1⟩ := fixL_is r2 e1
      obtain ⟨b, zs, rfl, q2, rr2⟩ := fixL_is r3 e2
      refine ⟨a, b, ys, zs, rfl, .inl ⟨q1, q2, af _ h1 ρ1 H1 _ z1 p1 fun ρ' h' H' S' c _ i r er => ?_⟩⟩
      simp only [nxt, nthE_eq, Option.some.injEq] at er
      subst er
      obtain ⟨a1, ys', ea, q1', rr1'⟩ := fixL_is (carry1 c r2) e1
      obtain ⟨b1, zs', eb, q2', rr2'⟩ := fixL_is (carry1 c r3) e2
      cases ea
      cases eb
      rw [zipE_get]
      cases ev : l1[i]? with
      | none =>
        have := List.getElem?_eq_none_iff.mp ev
        rw [rr1'.length] at this
        exact ⟨ys', zs', q1', q2', .inl this⟩
      | some v =>
        cases ew : l2[i]? with
        | none =>
          have := List.getElem?_eq_none_iff.mp ew
          rw [rr2'.length] at this
          exact ⟨ys', zs', q1', q2', .inr this⟩
        | some w =>
          obtain ⟨x, ex, rx⟩ := rr1'.get ev
          obtain ⟨y, ey, ry⟩ := rr2'.get ew
          refine ⟨⟨ys', zs', x, y, q1', q2', ex, ey⟩, ?_⟩
          rintro t H'' ⟨T, x', y', rfl, hT, rfl, hx, hy⟩
          have := hx _ q1'; rw [ex] at this; cases this
          have := hy _ q2'; rw [ey] at this; cases this
          exact ⟨Post.temp S' hT, rv_pair S' hT rx ry⟩
    · split at z1
      · rename_i l1 l2 e1 e2
        obtain ⟨a, ys, rfl, q1, rr1⟩ := fixT_is r2 e1
        obtain ⟨b, zs, rfl, q2, rr2⟩ := fixT_is r3 e2
        refine ⟨a, b, ys, zs, rfl, .inr ⟨q1, q2, af _ h1 ρ1 H1 _ z1 p1 fun ρ' h' H' S' c _ i r er => ?_⟩⟩
        simp only [nxt, nthE_eq, Option.some.injEq] at er
        subst er
        obtain ⟨a1, ys', ea, q1', rr1'⟩ := fixT_is (carry1 c r2) e1
        obtain ⟨b1, zs', eb, q2', rr2'⟩ := fixT_is (carry1 c r3) e2
        cases ea
        cases eb
        rw [zipE_get]
        cases ev : l1[i]? with
        | none =>
          have := List.getElem?_eq_none_iff.mp ev
          rw [rr1'.length] at this
          exact ⟨ys', zs', q1', q2', .inl this⟩
        | some v =>
          cases ew : l2[i]? with
          | none =>
            have := List.getElem?_eq_none_iff.mp ew
            rw [rr2'.length] at this
            exact ⟨ys', zs', q1', q2', .inr this⟩
          | some w =>
            obtain ⟨x, ex, rx⟩ := rr1'.get ev
            obtain ⟨y, ey, ry⟩ := rr2'.get ew
            refine ⟨⟨ys', zs', x, y, q1', q2', ex, ey⟩, ?_⟩
            rintro t H'' ⟨T, x', y', rfl, hT, rfl, hx, hy⟩
            have := hx _ q1'; rw [ex] at this; cases this
            have := hy _ q2'; rw [ey] at this; cases this
            exact ⟨Post.temp S' hT, rv_pair S' hT rx ry⟩
      · cases z1
  · cases z1
theorem i_enumL (g : Gd G X) (hg : Gl X "enumerate") (hm : X.mg "enumerate" = none) (ha : XA G X [e] fa) (hs : starEach [e] X.env = [(false, eval e X.env)] := by rfl) :
    XI G X (.Tuple elts kk tpos) (.Call (.Name "enumerate" p) [e] [] pos) (kEnumL fa) := by
  refine PI.imp (pi_enum hg hm ha hs) fun σ H R ⟨ρ, s, h, k, S, Rs, z, af⟩ => ⟨ρ, s, h, _, S, Rs, z, fun vs h1 ρ1 H1 xs z1 p1 r1 => ?_⟩
  rw [g.k]
  split at z1
  · rename_i v
    obtain ⟨x, rfl, r2⟩ := one r1
    split at z1
    · rename_i l1 e1
      obtain ⟨a, ys, rfl, q1, rr1⟩ := fixL_is r2 e1
      refine ⟨a, ys, rfl, q1, af _ h1 ρ1 H1 _ z1 p1 fun ρ' h' H' S' c _ i r er => ?_⟩
      simp only [nxt, nthE_eq, Option.some.injEq] at er
      subst er
      obtain ⟨a1, ys', ea, q1', rr1'⟩ := fixL_is (carry1 c r2) e1
      cases ea
      rw [enumE_get]
      cases ev : l1[i]? with
      | none =>
        have := List.getElem?_eq_none_iff.mp ev
        rw [rr1'.length] at this
        exact ⟨ys', q1', this⟩
      | some v =>
        obtain ⟨x, ex, rx⟩ := rr1'.get ev
        refine ⟨⟨ys', x, q1', ex⟩, ?_⟩
        rintro t H'' ⟨T, x', rfl, hT, rfl, hx⟩
        have := hx _ q1'; rw [ex] at this; cases this
        exact ⟨Post.temp S' hT, rv_pair S' hT (by unfold RV; simp) rx⟩
    · cases z1
  · cases z1
end
end Eg

set_option autoImplicit false
set_option maxRecDepth 100000
set_option maxHeartbeats 1000000
/-! E12: for, comprehensions. -/
namespace Eg
open PySem PySem.Spec L2
section
variable {G : Cn} {X : Cx} {ρ ρ' : Rho} {h h' : EH} {H H' : Hp} {L : Nat}
variable {a o e value tg iter elt : Expr} {es ifs : List Expr} {f te : KE} {fa : KA} {tt : KT} {it : KI} {gg : KG} {pos p tpos spos : Pos} {sf : KS} {body : List Stmt} {is : List Nat}
theorem Post.carry (p : Post G ρ h H ρ' h' H') : ∀ vs xs, RVs G ρ h.length H vs xs → RVs G ρ' h'.length H' vs xs := fun _ _ r => p.rvs r
theorem forS_ok {wi : TI} {tb : TS} {src : Src} {J : It} {D : Ends} {σ : St} {s : ES} {nx bk ct : ES → EH → Bool} {rt : EV → EH → Bool} {m : Nat} (S : Sim G ρ h H) (R : RS G ρ h.length H s σ) (w : WalkS G J src ρ h H)
    (z : kForS gg sf src m 0 s h nx rt bk ct = true) (a1 : AfterS G ρ h H nx D.nx) (a2 : After G ρ h H rt D.rt) :
    ∃ W : Nat → Nat → St → Hp → Prop, (∃ m, W 0 m σ H) ∧ ∀ i m σ H, W i m σ H →
      (J.stop i H ∧ D.nx σ H) ∨ (J.go i H ∧ ∃ N : St → Hp → Prop, (∀ σ' H', N σ' H' → ∃ m', m' < m ∧ W (i + 1) m' σ' H') ∧ ∀ x H', J.yld i H x H' → RG G gg is x σ H' fun σ2 H2 => RSt G sf { D with nx := N, ct := N, bk := D.nx } σ2 H2) := by
  refine ⟨fun i m σ' H' => ∃ ρ' s' h', Post G ρ h H ρ' h' H' ∧ RS G ρ' h'.length H' s' σ' ∧ kForS gg sf src m i s' h' nx rt bk ct = true, ⟨m, ρ, s, h, Post.refl S, R, z⟩, ?_⟩
  rintro i m σ1 H1 ⟨ρ1, s1, h1, p1, R1, z1⟩
  cases m with
  | zero => exact nomatch z1
  | succ m =>
    simp only [kForS] at z1
    cases en : nxt h1 i src with
    | none => rw [en] at z1; cases z1
    | some r =>
      rw [en] at z1
      have wk := w ρ1 h1 H1 p1.sim p1.carry p1.frzs i r en
      cases r with
      | none => exact .inl ⟨wk, a1 s1 h1 ρ1 H1 σ1 z1 p1 R1⟩
      | some v =>
        obtain ⟨go, yl⟩ := wk
        refine .inr ⟨go, fun σ' H' => ∃ ρ' s' h', Post G ρ h H ρ' h' H' ∧ RS G ρ' h'.length H' s' σ' ∧ kForS gg sf src m (i + 1) s' h' nx rt bk ct = true, fun σ' H' n => ⟨m, Nat.lt_succ_self m, n⟩, fun x H2 y => ?_⟩
        obtain ⟨p2, rx⟩ := yl x H2 y
        have p3 := p1.trans p2
        refine ⟨ρ1, s1, h1, v, _, p2.sim, p2.rs R1, rx, z1, fun s4 h4 ρ4 H4 σ4 z4 p4 r4 _ _ => ?_⟩
        have p5 := p3.trans p4
        refine ⟨ρ4, s4, h4, _, rt, nx, _, p4.sim, r4, z4, ?_, a2.next p5, a1.next p5, ?_⟩
        · exact fun s6 h6 ρ6 H6 σ6 z6 p6 r6 => ⟨ρ6, s6, h6, p5.trans p6, r6, z6⟩
        · exact fun s6 h6 ρ6 H6 σ6 z6 p6 r6 => ⟨ρ6, s6, h6, p5.trans p6, r6, z6⟩
theorem s_for (m : Nat) (g : Gd G X) (hp : PassesOwn (model X.prog X.w) X.A X.env X.xe) (hi : XI G X tg iter it) (hg : XG G X tg gg is) (hb : XSs G X body sf) (hs : ∀ x, foldedSetIterable iter X.env x = pure x := by intro _; rfl) :
    XS G X (.For tg iter body [] pos) (kFor it gg sf m) := by
  refine PS.imp (ps_for hp g.c hi hg hb hs) fun D σ H ⟨ρ, s, h, nx, rt, bk, ct, S, R, z, a1, a2, a3, a4⟩ => ⟨ρ, s, h, _, S, R, z, fun src h1 ρ1 H1 J z1 p1 w => ?_⟩
  cases src with
  | fix xs =>
    have z1 : kForF gg sf xs s h1 nx rt bk ct = true := z1
    rw [forF_eq gg sf xs xs [] rfl] at z1
    exact forS_ok (wi := fun _ _ _ => True) (tb := fun _ _ _ => True) p1.sim (p1.rs R) w z1 (a1.next p1) (a2.next p1)
  | own n => exact forS_ok (wi := fun _ _ _ => True) (tb := fun _ _ _ => True) p1.sim (p1.rs R) w z1 (a1.next p1) (a2.next p1)

/-! ### comprehensions -/
def XTs (G : Cn) (X : Cx) (ifs : List Expr) (f : KT) : Prop := PTs X ifs (RT G f)
theorem PTs.imp {t u : TT} (p : PTs X ifs t) (i : ∀ σ H Q, u σ H Q → t σ H Q) : PTs X ifs u := ⟨fun pins s σ H Q I q => p.run pins s σ H Q I (i σ H Q q)⟩
def kYes : KT := fun _ h k => k true h
theorem ts_nil : XTs G X [] kYes := PTs.imp pts_nil fun σ H Q ⟨ρ, s, h, k, S, R, z, af⟩ => af true h ρ H z (Post.refl S)
theorem ts_one {c : Expr} (hc : XT G X c tt) : XTs G X [c] tt := pts_one hc
theorem RS.clr : ∀ {s : ES} {σ : St} (i : Nat), RS G ρ L H s σ → RS G ρ L H (clrS s i) (σ.set i none)
  | [], σ, i, r => by unfold RS at r; subst r; simp [clrS, RS]
  | a :: s, σ, 0, r => by
    unfold RS at r
    obtain ⟨z, zs, rfl, r1, r2⟩ := r
    simp only [clrS, List.set_cons_zero]
    unfold RS
    exact ⟨none, zs, rfl, (fun w hw => nomatch hw), r2⟩
  | a :: s, σ, i + 1, r => by
    unfold RS at r
    obtain ⟨z, zs, rfl, r1, r2⟩ := r
    simp only [clrS, List.set_cons_succ]
    unfold RS
    exact ⟨_, _, rfl, r1, RS.clr i r2⟩
theorem RS.wiped {s : ES} {σ : St} (r : RS G ρ L H s σ) : ∀ vs : List Nat, RS G ρ L H (wipeE s vs) (wipe σ vs)
  | [] => r
  | v :: vs => RS.clr v (r.wiped vs)
theorem wipe_get (σ : St) (i : Nat) : ∀ vs : List Nat, (wipe σ vs)[i]? = if i ∈ vs then (if i < σ.length then some none else none) else σ[i]?
  | [] => by simp [wipe]
  | v :: vs => by
    unfold wipe
    by_cases hv : v = i
    · subst hv
      rw [if_pos List.mem_cons_self]
      by_cases hl : v < σ.length
      · rw [if_pos hl, List.getElem?_set_self (by rw [wipe_length]; exact hl)]
      · rw [if_neg hl, List.getElem?_eq_none (by rw [List.length_set, wipe_length]; omega)]
    · rw [List.getElem?_set_ne hv, wipe_get σ i vs]
      by_cases h2 : i ∈ vs
      · rw [if_pos h2, if_pos (List.mem_cons_of_mem _ h2)]
      · rw [if_neg h2, if_neg fun z => (List.mem_cons.mp z).elim (fun q => hv q.symm) h2]
theorem wipe_again {σ σ2 : St} {vs : List Nat} (hl : σ2.length = (wipe σ vs).length) (hd : ∀ i, i ∉ is → σ2[i]? = (wipe σ vs)[i]?) (hi : ∀ i ∈ is, i ∈ vs) : wipe σ2 vs = wipe σ vs := by
  apply List.ext_getElem?
  intro i
  rw [wipe_length] at hl
  rw [wipe_get, wipe_get]
  by_cases h1 : i ∈ vs
  · rw [if_pos h1, if_pos h1, hl]
  · rw [if_neg h1, if_neg h1, hd i fun z => h1 (hi i z), wipe_get, if_neg h1]

/-- the loop of a comprehension -/
theorem lcS_ok {σ : St} {s : ES} {src : Src} {J : It} {Q : VK} {m : Nat} {own : Bool} {k : EV → EH → Bool} {vs : List Nat} {D : Addr} (S : Sim G ρ h H) (R : RS G ρ h.length H s σ) (w : WalkS G J src ρ h H) (hvs : ∀ i ∈ is, i ∈ vs)
    (z : kLcS gg tt te (wipeE s vs) src m 0 h (lcEnd own k) = true) (hm : m ≤ 16000001) (af : After G ρ h H k Q) (hD : H D = none) :
    ∃ W : Nat → Nat → Hp → Prop, (∃ m, W 0 m (upd H D (.lst []))) ∧ ∀ i m H, W i m H →
      (J.stop i H ∧ Q (.ref D) H) ∨ (J.go i H ∧ ∃ Nx : Hp → Prop, (∀ H', Nx H' → ∃ m', m' < m ∧ W (i + 1) m' H') ∧ ∀ x H', J.yld i H x H' → RG G gg is x (wipe σ vs) H' fun σ2 H2 => wipe σ2 vs = wipe σ vs ∧ RT G tt σ2 H2 fun b H3 =>
        if b = true then RE G te σ2 H3 fun y H4 => ∃ acc, H4 D = some (.lst acc) ∧ acc.length < sizeLine ∧ Nx (upd H4 D (.lst (acc ++ [y]))) else Nx H3) := by
  let W : Nat → Nat → Hp → Prop := fun i m H' => ∃ ρ' h' accE accV k', During G D ρ h H ρ' h' H' ∧ H' D = some (.lst accV) ∧ RVs G ρ' h'.length H' accE accV ∧ RS G ρ' h'.length H' (wipeE s vs) (wipe σ vs) ∧
    (∀ ws xs, RVs G ρ h.length H ws xs → RVs G ρ' h'.length H' ws xs) ∧ kLcS gg tt te (wipeE s vs) src m i h' k' = true ∧ (∀ ys h, k' ys h = true → lcEnd own k (accE ++ ys) h = true) ∧ accV.length ≤ i ∧ i + m ≤ 16000001
  refine ⟨W, ⟨m, ρ.bar D, h, [], [], _, During.start S hD _, upd_same, RVs.nil, rs_bar hD _ (R.wiped vs), fun ws xs r => rvs_bar hD _ r, z, fun ys h q => q, Nat.zero_le _, by omega⟩, ?_⟩
  rintro i m H1 ⟨ρ1, h1, accE, accV, k1, d1, eD, rA, r1, c1, z1, hk, hl, hn⟩
  cases m with
  | zero => exact nomatch z1
  | succ m =>
    simp only [kLcS] at z1
    cases en : nxt h1 i src with
    | none => rw [en] at z1; cases z1
    | some r =>
      rw [en] at z1
      have wk := w ρ1 h1 H1 d1.sim c1 d1.post.frzs i r en
      cases r with
      | none =>
        refine .inl ⟨wk, ?_⟩
        have z2 := hk [] h1 z1
        rw [List.append_nil] at z2
        unfold lcEnd at z2
        cases own with
        | false => exact af _ h1 (ρ1.back ρ) H1 _ z2 d1.post (by unfold RV; exact ⟨D, accV, rfl, eD, d1.un S hD, d1.rvs rA⟩)
        | true =>
          have z2 : newH h1 (.lst accE) k = true := z2
          refine af _ _ _ H1 _ z2 (d1.own S hD fun ρ2 e1 e2 e3 => ⟨accV, eD, RVs.move (ρ := ρ1) e1 (Nat.le_succ _) (fun b o eb un => ⟨eb, fun q => un.1 ((d1.ban b).mpr (.inr (e2 ▸ q))), fun n hn q => ?_⟩) (fun _ _ e => e) (fun _ _ _ e => e) _ _ rA⟩) rv_new'
          by_cases h9 : n < h1.length
          · rw [e1 n h9] at q; exact un.2 n h9 q
          · have e9 : n = h1.length := by omega
            rw [e9, e3] at q
            exact un.1 ((d1.ban b).mpr (.inl q.symm))
      | some v =>
        obtain ⟨go, yl⟩ := wk
        refine .inr ⟨go, fun H' => W (i + 1) m H', fun H' n => ⟨m, Nat.lt_succ_self m, n⟩, fun x H2 y => ?_⟩
        obtain ⟨p2, rx⟩ := yl x H2 y
        refine ⟨ρ1, wipeE s vs, h1, v, _, p2.sim, p2.rs r1, rx, z1, fun s4 h4 ρ4 H4 σ4 z4 p4 r4 l4 u4 => ⟨wipe_again l4 u4 hvs, ρ4, s4, h4, _, p4.sim, r4, z4, fun b h5 ρ5 H5 z5 p5 => ?_⟩⟩
        have p6 := p2.trans (p4.trans p5)
        cases b with
        | false =>
          show W (i + 1) m H5
          exact ⟨ρ5, h5, accE, accV, k1, d1.step p6, p6.frame D _ eD (d1.sim.ban D ((d1.ban D).mpr (.inl rfl))).2, p6.rvs rA, p6.rs r1, fun ws xs r => p6.rvs (c1 ws xs r), z5, hk, by omega, by omega⟩
        | true =>
          show RE G te σ4 H5 fun y H4 => ∃ acc, H4 D = some (.lst acc) ∧ acc.length < sizeLine ∧ W (i + 1) m (upd H4 D (.lst (acc ++ [y])))
          refine ⟨ρ5, s4, h5, _, p5.sim, p5.rs r4, z5, fun v h7 ρ7 H7 y z7 p7 r7 => ?_⟩
          have p8 := p6.trans p7
          have d8 := d1.step p8
          have e8 := p8.frame D _ eD (d1.sim.ban D ((d1.ban D).mpr (.inl rfl))).2
          have nt : ∀ xs, HO.lst accV ≠ .tup xs := fun _ q => nomatch q
          have nf : ∀ ob u, HO.lst accV ≠ .frz ob u := fun _ _ q => nomatch q
          refine ⟨accV, e8, by rw [sizeLine_eq]; omega, ρ7, h7, accE ++ [v], accV ++ [y], _, d8.write hD e8 nt nf, upd_same, d8.rvw e8 nt nf ((p8.rvs rA).append (RVs.cons r7 RVs.nil)), d8.rsw e8 nt nf (p8.rs r1),
            fun ws xs r => d8.rvw e8 nt nf (p8.rvs (c1 ws xs r)), z7, fun ys h q => ?_, by simp; omega, by omega⟩
          rw [List.append_assoc]
          exact hk _ _ q
theorem x_lc (own : Bool) {scope : Scope} {ow : List (Str × Nat)} (g : Gd G X) (hi : XI G X tg iter it) (ok : BlkOk X.N X.env.scope scope ow)
    (hg : ∀ (s : Shared) (H : Hp) (C : Addr) (cl : List (Str × Addr)) (fp : List Addr), XG G (X.blk s H scope (compEnvC scope cl C X.env) fp) tg gg is) (ht : ∀ (s : Shared) (H : Hp) (C : Addr) (cl : List (Str × Addr)) (fp : List Addr), XTs G (X.blk s H scope (compEnvC scope cl C X.env) fp) ifs tt)
    (he : ∀ (s : Shared) (H : Hp) (C : Addr) (cl : List (Str × Addr)) (fp : List Addr), XE G (X.blk s H scope (compEnvC scope cl C X.env) fp) elt te) (hvs : ∀ i ∈ is, i ∈ ow.map (·.2) := by decide) (hs : ∀ x, foldedSetIterable iter X.env x = pure x := by intro _; rfl) :
    XE G X (.ListComp elt [⟨tg, iter, ifs, 0⟩] scope pos) (kLc own it gg tt te (ow.map (·.2))) := by
  refine PE.imp (pe_lc g.c g.nd hi ok hg ht he hs) fun σ H Q ⟨ρ, s, h, k, S, R, z, af⟩ => ⟨ρ, s, h, _, S, R, z, fun src h1 ρ1 H1 J z1 p1 w D hD => ?_⟩
  cases src with
  | fix xs =>
    have z1 : (match okLen xs with
      | true => kLcF gg tt te (wipeE s (ow.map (·.2))) xs h1 (lcEnd own k)
      | false => false) = true := z1
    split at z1
    · rename_i ol
      rw [lcF_eq gg tt te _ xs xs [] h1 _ rfl] at z1
      have := okLen_is ol
      exact lcS_ok p1.sim (p1.rs R) w hvs z1 (by omega) (af.next p1) hD
    · cases z1
  | own n => exact lcS_ok p1.sim (p1.rs R) w hvs z1 (by omega) (af.next p1) hD
/-- name = [..] on one line -/
theorem s_setLc (own : Bool) (i : Nat) {y : Str} {py : Pos} {scope : Scope} {ow : List (Str × Nat)} (g : Gd G X) (hi : XI G X tg iter it) (ok : BlkOk X.N X.env.scope scope ow)
    (hg : ∀ (s : Shared) (H : Hp) (C : Addr) (cl : List (Str × Addr)) (fp : List Addr), XG G (X.blk s H scope (compEnvC scope cl C X.env) fp) tg gg is) (ht : ∀ (s : Shared) (H : Hp) (C : Addr) (cl : List (Str × Addr)) (fp : List Addr), XTs G (X.blk s H scope (compEnvC scope cl C X.env) fp) ifs tt)
    (he : ∀ (s : Shared) (H : Hp) (C : Addr) (cl : List (Str × Addr)) (fp : List Addr), XE G (X.blk s H scope (compEnvC scope cl C X.env) fp) elt te) (hvs : ∀ i ∈ is, i ∈ ow.map (·.2) := by decide) (hs : ∀ x, foldedSetIterable iter X.env x = pure x := by intro _; rfl)
    (hy : X.N[i]? = some y := by rfl) (hyl : X.env.scope.names.lookup y = some .local := by rfl) (hsw : swapsWith (.ListComp elt [⟨tg, iter, ifs, 0⟩] scope pos) (some (.Name y py)) spos.line X.env = pure true := by rfl) :
    XS G X (.Assign [.Name y py] (.ListComp elt [⟨tg, iter, ifs, 0⟩] scope pos) spos) (kAsg (kLc own it gg tt te (ow.map (·.2))) (gVar i)) := by
  refine PS.imp (ps_setLc g.c g.nd hy hyl hsw hi ok hg ht he hs) fun Ds σ H ⟨ρ, s, h, nx, rt, bk, ct, S, R, z, a1, a2, a3, a4⟩ => ?_
  have af : After G ρ h H (fun v h => gVar i v s h nx) (fun x H1 => Ds.nx (σ.set i (some x)) H1) := fun v h' ρ' H' x z' p' r' => a1 _ h' ρ' H' _ z' p' (RS.set i (p'.rs R) r')
  refine ⟨ρ, s, h, _, S, R, z, fun src h1 ρ1 H1 J z1 p1 w D hD => ?_⟩
  cases src with
  | fix xs =>
    have z1 : (match okLen xs with
      | true => kLcF gg tt te (wipeE s (ow.map (·.2))) xs h1 (lcEnd own fun v h => gVar i v s h nx)
      | false => false) = true := z1
    split at z1
    · rename_i ol
      rw [lcF_eq gg tt te _ xs xs [] h1 _ rfl] at z1
      have := okLen_is ol
      exact lcS_ok (Q := fun x H1 => Ds.nx (σ.set i (some x)) H1) p1.sim (p1.rs R) w hvs z1 (by omega) (af.next p1) hD
    · cases z1
  | own n => exact lcS_ok (Q := fun x H1 => Ds.nx (σ.set i (some x)) H1) p1.sim (p1.rs R) w hvs z1 (by omega) (af.next p1) hD
end
end Eg

set_option autoImplicit false
set_option maxRecDepth 100000
set_option maxHeartbeats 1000000
/-! EC: {k: v for ..} with keys of either kind (ints and texts; tuples of them). -/
namespace Eg
open PySem PySem.Spec L2

section
variable {X : Cx} {pins : List (Addr × Obj)} {σ : L2.St} {H : Hp} {s : Shared}
theorem pass_on {M : Model} {A : Around} {α : Type} {m : Sem α} {P : α → Shared → Prop} {R : α → Shared → Prop} {E : Value → Shared → Prop} {s : Shared} (h : wpAny M A m P (fun _ _ => False) s) (k : ∀ v s', P v s' → R v s') : wpAny M A m R E s :=
  wpAny_mono h k fun _ _ z => z.elim
/-- d[y] = v inside a comprehension, by DPut -/
theorem dset_any {E : Value → Shared → Prop} {D : Addr} {y v : V} {u r : Value} {H' : Hp} {Q : Unit → Shared → Prop} (hu : X.A.units + 1 < cLine) (I : Inv X pins σ H s) (g : DPut H D y v H') (ry : RelV y u) (rv : RelV v r) (hQ : ∀ s', Inv X pins σ H' s' → Q () s') :
    wpAny (model X.prog X.w) X.A (dictSet D u r) Q E s := by
  rcases g with ⟨kvs, k, e, rfl, l, rfl⟩ | ⟨kvs, k, b, e, rfl, eb, l, rfl⟩
  · exact d_dictSet I e l ry rv hQ
  · cases (show u = Value.ref b from ry)
    obtain ⟨z, low, xs, rel, dh⟩ := dt_of I.hok e
    have nx : xs.length ≤ sizeLine := by rw [← Paired.length rel]; exact z
    have nk := length_putK kvs k v
    refine wpAny_dictSet_heap (hsz := nx) (by show X.A.units < cLine; omega) (key_of I.hok eb) dh fun h' dh' sb => hQ _ ?_
    obtain ⟨ob, es, ep, hob, d2, d3, d4, _, d5⟩ := dh'
    refine d_write I (by rw [e]; exact True.intro) sb ⟨ob, hob⟩ ⟨by omega, low, _, (rel.put k eb rv).keeps fun c ys ec => ?_, ob, es, ep, hob, d2, d3, d4, d5⟩
    rw [upd_ne (ne_of ec e fun z => nomatch z)]
    exact ec
/-- behind a block's loop the def goes on -/
theorem blk_out {sB s6 : Shared} {HB H6 : Hp} {scope : Scope} {ce : Env} {gp : List Addr} {τ : L2.St} (JB : Inv X pins σ HB sB) (fr : ∀ b ∈ gp, FpOk X pins HB b) (J : Inv (X.blk sB HB scope ce gp) [] τ H6 s6) : Inv X pins σ H6 s6 :=
  JB.call' (ch := gp) J.os J.base J.hok J.bare fun b hb =>
    have q := (fr b hb).2
    ⟨q.2.2.1, q.1, q.2.2.2.1, q.2.2.2.2⟩
/-- inside the block its iterator's objects may turn -/
theorem blk_fp {sB s6 : Shared} {HB H6 : Hp} {scope : Scope} {ce : Env} {gp : List Addr} {τ : L2.St} (J : Inv (X.blk sB HB scope ce gp) [] τ H6 s6) (no : ∀ b ∈ gp, H6 b = none) : ∀ b ∈ gp, FpOk (X.blk sB HB scope ce gp) [] H6 b := fun b hb =>
  ⟨no b hb, (J.ok.exf b hb).1, J.ok.exfs b hb, .inl hb, fun x c e => (J.ok.exf b hb).2 x c e, fun p hp => (List.not_mem_nil (show p ∈ ([] : List (Addr × Obj)) from hp)).elim⟩
/-- at a turn's end: the next turn's state -/
theorem blk_next {sB s7 s' : Shared} {HB H' : Hp} {scope : Scope} {ce : Env} {gp : List Addr} {τ τ8 : L2.St} {tn : Nat → Heap → Prop} {i : Nat} (obj : ∀ i h, tn i h → ∀ b ∈ gp, ∃ o, h.get? b = some o ∧ ∀ v, o.data ≠ .cell v)
    (keep : ∀ i h h', tn i h → (∀ b ∈ gp, ∀ o, h.get? b = some o → h'.get? b = some o) → tn i h') (vs : List Nat) (same : wipe τ8 vs = wipe τ vs) (t7 : tn i s7.heap) (J : Inv (X.blk sB HB scope ce gp) ([] ++ pinsAt gp s7.heap) τ8 H' s') :
    Inv (X.blk sB HB scope ce gp) [] (wipe τ vs) H' s' ∧ tn i s'.heap ∧ ∀ b ∈ gp, H' b = none := by
  have pinned : ∀ b ∈ gp, ∀ o, s7.heap.get? b = some o → s'.heap.get? b = some o ∧ H' b = none := fun b hb o e => by
    have q := J.pin (b, o) (List.mem_append_right _ (List.mem_append_right _ (mem_pinsAt hb e)))
    exact ⟨q.1, q.2.1⟩
  refine ⟨(J.unpinned (pins := [])).weak (by rw [← same, wipe_length]) fun j v e => ?_, keep _ _ _ t7 fun b hb o e => (pinned b hb o e).1, fun b hb => ?_⟩
  · rw [← same] at e
    exact (wipe_some e).1
  · obtain ⟨o, e, _⟩ := obj _ _ t7 b hb
    exact (pinned b hb o e).2
/-- a turn of a dict comprehension, by readings -/
def DcTurn (J : It) (g : TG) (tt : TT) (tk tv : TE) (vs : List Nat) (σ : L2.St) (D : Addr) (Q : VK) (W : Nat → Nat → Hp → Prop) : Prop := ∀ i m H, W i m H →
  (J.stop i H ∧ Q (.ref D) H) ∨ (J.go i H ∧ ∃ Nx : Hp → Prop, (∀ H', Nx H' → ∃ m', m' < m ∧ W (i + 1) m' H') ∧ ∀ x H', J.yld i H x H' → g x (wipe σ vs) H' fun σ2 H2 => wipe σ2 vs = wipe σ vs ∧ tt σ2 H2 fun b H3 =>
    if b = true then tk σ2 H3 fun y H4 => tv σ2 H4 fun z H5 => ∃ H6, DPut H5 D y z H6 ∧ Nx H6 else Nx H3)
variable {kx vx tg iter : Expr} {ifs : List Expr} {scope : Scope} {own : List (Str × Nat)} {pos : Pos} {wi : TI} {g : TG} {tt : TT} {tk tv : TE}
theorem dc_walk {Q : VK} {use : Option (Value → Sem Unit)} {Qf : Value → Shared → Prop} {sB : Shared} {HB : Hp} {gp : List Addr} {tn : Nat → Heap → Prop} {J : It} {ia D : Addr} {W : Nat → Nat → Hp → Prop} {m0 : Nat} (hc : X.calm = true) (hN : X.N.Nodup) (hu : X.A.units + 1 < cLine) (ok : BlkOk X.N X.env.scope scope own)
    (JB : Inv X pins σ HB sB) (T : Turn X.prog X.w X.K tg J gp ia tn) (tB : tn 0 sB.heap) (fr : ∀ b ∈ gp, FpOk X pins HB b) (bd : ∀ b ∈ gp, b < sB.heap.objs.size)
    (hg : ∀ (s : Shared) (H : Hp) (C : Addr) (cl : List (Str × Addr)) (fp : List Addr), PG (X.blk s H scope (compEnvC scope cl C X.env) fp) tg g)
    (ht : ∀ (s : Shared) (H : Hp) (C : Addr) (cl : List (Str × Addr)) (fp : List Addr), PTs (X.blk s H scope (compEnvC scope cl C X.env) fp) ifs tt)
    (hk : ∀ (s : Shared) (H : Hp) (C : Addr) (cl : List (Str × Addr)) (fp : List Addr), PE (X.blk s H scope (compEnvC scope cl C X.env) fp) kx tk)
    (he : ∀ (s : Shared) (H : Hp) (C : Addr) (cl : List (Str × Addr)) (fp : List Addr), PE (X.blk s H scope (compEnvC scope cl C X.env) fp) vx tv) (w0 : W 0 m0 HB) (turn : DcTurn J g tt tk tv (own.map (·.2)) σ D Q W)
    (hRR : ∀ s' m H', Inv X pins σ H' s' → Q (.ref D) H' → s'.heap.Ns sB.heap.objs.size m → FpOk X pins H' sB.heap.objs.size → compPost (model X.prog X.w) X.A X.xe use Qf (.ref D) sB.heap.objs.size (.ok .next) s') :
    codeAny (model X.prog X.w) X.A (.compStart (.DictComp kx vx [⟨tg, iter, ifs, 0⟩] scope pos) 0 (.ref ia) (.ref D) (compEnvC scope (cellsFrom (sB.heap.objs.size + 1) scope.names (cloFrom X.env.cells scope.names [])) sB.heap.objs.size X.env))
      (compPost (model X.prog X.w) X.A X.xe use Qf (.ref D) sB.heap.objs.size) { sB with heap := pushCells (sB.heap.push { cls := .type "dict", data := .dict #[] }) scope.names } := by
  have J0 := block_start JB ok hN fun b hb => ⟨fr b hb, bd b hb⟩
  have pg := hg sB HB sB.heap.objs.size (cellsFrom (sB.heap.objs.size + 1) scope.names (cloFrom X.env.cells scope.names [])) gp
  have pt := ht sB HB sB.heap.objs.size (cellsFrom (sB.heap.objs.size + 1) scope.names (cloFrom X.env.cells scope.names [])) gp
  have pk := hk sB HB sB.heap.objs.size (cellsFrom (sB.heap.objs.size + 1) scope.names (cloFrom X.env.cells scope.names [])) gp
  have pv := he sB HB sB.heap.objs.size (cellsFrom (sB.heap.objs.size + 1) scope.names (cloFrom X.env.cells scope.names [])) gp
  have entry : tn 0 (pushCells (sB.heap.push { cls := .type "dict", data := .dict #[] }) scope.names) := T.keep _ _ _ tB fun b _ o e => pushCells_keeps _ _ _ _ (Heap.get?_push_of_some _ e)
  have isL : (compEnvC scope (cellsFrom (sB.heap.objs.size + 1) scope.names (cloFrom X.env.cells scope.names [])) sB.heap.objs.size X.env).locals = sB.heap.objs.size := rfl
  generalize compEnvC scope (cellsFrom (sB.heap.objs.size + 1) scope.names (cloFrom X.env.cells scope.names [])) sB.heap.objs.size X.env = ce at J0 pg pt pk pv isL ⊢
  have main : codeAny (model X.prog X.w) X.A (.compLoop (.DictComp kx vx [⟨tg, iter, ifs, 0⟩] scope pos) 0 (.ref ia) (.ref D) ce) (compPost (model X.prog X.w) X.A X.xe use Qf (.ref D) sB.heap.objs.size)
      { sB with heap := pushCells (sB.heap.push { cls := .type "dict", data := .dict #[] }) scope.names } := by
    refine compLoop_anyD (fun n s' => ∃ i H', Inv (X.blk sB HB scope ce gp) [] (wipe σ (own.map (·.2))) H' s' ∧ tn i s'.heap ∧ (∀ b ∈ gp, H' b = none) ∧ W i n H') ?_ m0 ⟨0, HB, J0, entry, fun b hb => (fr b hb).1, w0⟩
    rintro n s5 ⟨i, H5, J5, t5, n5, w5⟩
    rcases turn i n H5 w5 with ⟨stop, isQ⟩ | ⟨go, Nx, less, step⟩
    · refine pass_on (T.done (X.blk sB HB scope ce gp) rfl rfl rfl hc i [] s5 _ H5 (fun _ _ => False) J5 (blk_fp J5 n5) t5 stop) fun r s6 ⟨hr, J6⟩ => ?_
      subst hr
      have back := blk_out JB fr J6
      obtain ⟨m, isN, _⟩ := J6.loc
      have isN : s6.heap.Ns sB.heap.objs.size m := by rw [← isL]; exact isN
      have free : H5 sB.heap.objs.size = none := by rw [← isL]; exact J6.free
      exact hRR s6 m H5 back isQ isN (JB.fpOk (Nat.le_refl _) free)
    · refine pass_on (T.item (X.blk sB HB scope ce gp) rfl rfl rfl hc i [] s5 _ H5 (fun _ _ => False) J5 (blk_fp J5 n5) t5 go) fun r s6 ⟨u, hr, h6⟩ => ?_
      subst hr
      refine pass_on h6 fun _ s7 ⟨x, H7, J7, r7, y7, t7, n7⟩ => ?_
      refine pass_on (pg.run _ s7 _ H7 x u _ (J7.pinned (blk_fp J7 n7) (T.obj _ _ t7)) r7 (step x H7 y7)) fun _ s8 ⟨σ8, H8, J8, same, q8⟩ => ?_
      have again : ∀ {s' : Shared} {H' : Hp}, Inv (X.blk sB HB scope ce gp) ([] ++ pinsAt gp s7.heap) σ8 H' s' → Nx H' →
          ∃ m, m < n ∧ ∃ i H', Inv (X.blk sB HB scope ce gp) [] (wipe σ (own.map (·.2))) H' s' ∧ tn i s'.heap ∧ (∀ b ∈ gp, H' b = none) ∧ W i m H' := fun {s' H'} J' nx => by
        obtain ⟨m', lt, w'⟩ := less H' nx
        obtain ⟨a1, a2, a3⟩ := blk_next T.obj T.keep _ same t7 J'
        exact ⟨m', lt, i + 1, H', a1, a2, a3, w'⟩
      refine pass_on (pt.run _ s8 σ8 H8 _ J8 q8) fun b s9 ⟨H9, J9, q9⟩ => ?_
      cases b with
      | false => exact again J9 q9
      | true =>
        refine pass_on (pk.run _ s9 σ8 H9 _ J9 q9) fun ky sK ⟨yk, HK, JK, rK, qK⟩ => ?_
        refine pass_on (pv.run _ sK σ8 HK _ JK qK) fun va sV ⟨yv, HV, JV, rV, HW, put, nx⟩ => ?_
        exact dset_any (X := X.blk sB HB scope ce gp) hu JV put rK rV fun sZ JZ => again JZ nx
  exact codeAny_compStart_dict main (T.self X.A 0 _ _ _ entry main)
/-- {k: v for target in iter if ..}: D the new dict, of the kind that t says -/
def dNew (t : Bool) : HO := match t with
  | false => .dK []
  | true => .dT []
def tDcA (t : Bool) (wi : TI) (g : TG) (tt : TT) (tk tv : TE) (vs : List Nat) : TE := fun σ H Q => wi σ H fun J H1 => ∀ D, H1 D = none → ∃ W : Nat → Nat → Hp → Prop, (∃ m, W 0 m (upd H1 D (dNew t))) ∧ DcTurn J g tt tk tv vs σ D Q W
theorem dcA_core (t : Bool) {pins : List (Addr × Obj)} {s : Shared} {σ : L2.St} {H : Hp} {Q : VK} {pos' : Pos} {use : Option (Value → Sem Unit)} {Qf : Value → Shared → Prop} (hc : X.calm = true) (hN : X.N.Nodup) (hu : X.A.units + 1 < cLine) (I : Inv X pins σ H s) (hi : PI X tg iter wi) (ok : BlkOk X.N X.env.scope scope own)
    (hg : ∀ (s : Shared) (H : Hp) (C : Addr) (cl : List (Str × Addr)) (fp : List Addr), PG (X.blk s H scope (compEnvC scope cl C X.env) fp) tg g)
    (ht : ∀ (s : Shared) (H : Hp) (C : Addr) (cl : List (Str × Addr)) (fp : List Addr), PTs (X.blk s H scope (compEnvC scope cl C X.env) fp) ifs tt)
    (hk : ∀ (s : Shared) (H : Hp) (C : Addr) (cl : List (Str × Addr)) (fp : List Addr), PE (X.blk s H scope (compEnvC scope cl C X.env) fp) kx tk)
    (he : ∀ (s : Shared) (H : Hp) (C : Addr) (cl : List (Str × Addr)) (fp : List Addr), PE (X.blk s H scope (compEnvC scope cl C X.env) fp) vx tv) (hs : ∀ x, foldedSetIterable iter X.env x = pure x)
    (h : tDcA t wi g tt tk tv (own.map (·.2)) σ H Q)
    (hRR : ∀ D C s' m H', Inv X pins σ H' s' → Q (.ref D) H' → s'.heap.Ns C m → FpOk X pins H' C → compPost (model X.prog X.w) X.A X.xe use Qf (.ref D) C (.ok .next) s') :
    wpAny (model X.prog X.w) X.A (comprehension (.DictComp kx vx [⟨tg, iter, ifs, 0⟩] scope pos) scope X.env pos' newDict false (eval iter X.env) use) Qf X.xe s := by
  have captured : ∀ y ∈ scope.names, y.2 = .free → ∃ c, X.env.cells.lookup y.1 = some c := fun y hy e => (ok.free y hy e).elim (fun q => I.ok.has _ (.inl q)) fun q => I.ok.has _ (.inr q)
  refine wpAny_comprehension_free (use := use) rfl hs (closure_ok captured) ok.kind (fun y hy e => by rw [ok.uniq y hy, e]) (thn (hi.run pins s σ H _ I h) fun xv s1 hx => thn hx fun itv s2 h2 => ?_)
  obtain ⟨ia, gp, tn, J, H2, rfl, I2, T, t2, f2, q⟩ := h2
  refine wpAny_newObj_type (newEnv_comp ?_)
  obtain ⟨W, ⟨m0, w0⟩, turn⟩ := q s2.heap.objs.size (I2.hok.fresh (Nat.le_refl _))
  have kept : ∀ b o, s2.heap.get? b = some o → (s2.heap.push { cls := .type "dict", data := .dict #[] }).get? b = some o := fun b o e => Heap.get?_push_of_some _ e
  have JB : Inv X pins σ (upd H2 s2.heap.objs.size (dNew t)) { s2 with heap := s2.heap.push { cls := .type "dict", data := .dict #[] } } := by
    refine I2.laid (t' := s2.toks) kept (Nat.le_refl _) ?_
    cases t with
    | false => exact dk_empty s2.heap I2.big
    | true => exact dt_empty s2.heap I2.big
  have older : ∀ b ∈ gp, b < s2.heap.objs.size := fun b hb => let ⟨_, e, _⟩ := T.obj _ _ t2 b hb; Heap.lt_size e
  have fr : ∀ b ∈ gp, FpOk X pins (upd H2 s2.heap.objs.size (dNew t)) b := fun b hb => ⟨by rw [upd_ne (Nat.ne_of_lt (older b hb))]; exact (f2 b hb).1, (f2 b hb).2⟩
  have tB : tn 0 (s2.heap.push { cls := .type "dict", data := .dict #[] }) := T.keep _ _ _ t2 fun b _ o e => kept b o e
  have bd : ∀ b ∈ gp, b < (s2.heap.push { cls := .type "dict", data := .dict #[] }).objs.size := fun b hb => by rw [Heap.size_push]; exact Nat.lt_succ_of_lt (older b hb)
  exact dc_walk hc hN hu ok JB T tB fr bd hg ht hk he w0 turn fun s' m H' I' q n f => hRR _ _ s' m H' I' q n f
theorem pe_dcA (t : Bool) (hc : X.calm = true) (hN : X.N.Nodup) (hu : X.A.units + 1 < cLine) (hi : PI X tg iter wi) (ok : BlkOk X.N X.env.scope scope own)
    (hg : ∀ (s : Shared) (H : Hp) (C : Addr) (cl : List (Str × Addr)) (fp : List Addr), PG (X.blk s H scope (compEnvC scope cl C X.env) fp) tg g)
    (ht : ∀ (s : Shared) (H : Hp) (C : Addr) (cl : List (Str × Addr)) (fp : List Addr), PTs (X.blk s H scope (compEnvC scope cl C X.env) fp) ifs tt)
    (hk : ∀ (s : Shared) (H : Hp) (C : Addr) (cl : List (Str × Addr)) (fp : List Addr), PE (X.blk s H scope (compEnvC scope cl C X.env) fp) kx tk)
    (he : ∀ (s : Shared) (H : Hp) (C : Addr) (cl : List (Str × Addr)) (fp : List Addr), PE (X.blk s H scope (compEnvC scope cl C X.env) fp) vx tv) (hs : ∀ x, foldedSetIterable iter X.env x = pure x) :
    PE X (.DictComp kx vx [⟨tg, iter, ifs, 0⟩] scope pos) (tDcA t wi g tt tk tv (own.map (·.2))) := by
  refine ⟨fun pins s σ H Q I h => ?_⟩
  rw [arm_eval_DictComp]
  refine dcA_core (use := none) t hc hN hu I hi ok hg ht hk he hs h fun D C s' m H' I' q isN f => ⟨m, isN, fun h9 sb => ?_⟩
  obtain ⟨g0, g1, g2, g3, g4, g5⟩ := f
  exact ⟨.ref D, H', I'.turned (t' := s'.toks) (fun b o hb e => (sb.2 b hb).trans e) g0 g1 g3 g4 g5, rfl, q⟩
/-- name = {..} on one line, the name a local -/
theorem ps_setDcA (t : Bool) {i : Nat} {y : Str} {py spos : Pos} (hc : X.calm = true) (hN : X.N.Nodup) (hu : X.A.units + 1 < cLine) (hy : X.N[i]? = some y) (hyl : X.env.scope.names.lookup y = some .local)
    (hsw : swapsWith (.DictComp kx vx [⟨tg, iter, ifs, 0⟩] scope pos) (some (.Name y py)) spos.line X.env = pure true) (hi : PI X tg iter wi) (ok : BlkOk X.N X.env.scope scope own)
    (hg : ∀ (s : Shared) (H : Hp) (C : Addr) (cl : List (Str × Addr)) (fp : List Addr), PG (X.blk s H scope (compEnvC scope cl C X.env) fp) tg g)
    (ht : ∀ (s : Shared) (H : Hp) (C : Addr) (cl : List (Str × Addr)) (fp : List Addr), PTs (X.blk s H scope (compEnvC scope cl C X.env) fp) ifs tt)
    (hk : ∀ (s : Shared) (H : Hp) (C : Addr) (cl : List (Str × Addr)) (fp : List Addr), PE (X.blk s H scope (compEnvC scope cl C X.env) fp) kx tk)
    (he : ∀ (s : Shared) (H : Hp) (C : Addr) (cl : List (Str × Addr)) (fp : List Addr), PE (X.blk s H scope (compEnvC scope cl C X.env) fp) vx tv) (hs : ∀ x, foldedSetIterable iter X.env x = pure x) :
    PS X (.Assign [.Name y py] (.DictComp kx vx [⟨tg, iter, ifs, 0⟩] scope pos) spos) (tAsg (tDcA t wi g tt tk tv (own.map (·.2))) (gName i)) := by
  refine ⟨fun pins s σ H D I h => ?_⟩
  rw [exec_Assign_Name_used _ _ _ _ hsw]
  refine wpAny_bind (wpAny_standAt (wpAny_bind ?_))
  show wpAny _ X.A (do let _ ← comprehension (.DictComp kx vx [⟨tg, iter, ifs, 0⟩] scope pos) scope X.env (firstIterPos [⟨tg, iter, ifs, 0⟩] pos) newDict false (eval iter X.env) (some (assign (.Name y py) X.env))) _ _ s
  have h : tDcA t wi g tt tk tv (own.map (·.2)) σ H (fun x H1 => gName i x σ H1 D.nx) := h
  refine wpAny_bind (thn (dcA_core (Qf := fun _ s' => SP X pins D .next s') t hc hN hu I hi ok hg ht hk he hs h fun L C s' m H' I' q isN f => ?_) fun _ s' hq => wpAny_pure (wpAny_pure hq))
  show wpAny _ _ (assign (.Name y py) X.env (.ref L)) _ _ _
  refine wpAny_assign_Name (store_ok2 (v := V.ref L) I' hN hy (.inl hyl) rfl (fun s2 I2 ⟨a, sb, ha⟩ => ?_) (.inr hyl))
  obtain ⟨g0, g1, g2, g3, g4, g5⟩ := f
  have apart : C ≠ a := by
    rcases ha with z | z
    · rw [z]; exact g1
    · exact fun e => g4 y a z e.symm
  exact ⟨m, isN.sameBut sb apart, fun h9 sb9 => ⟨_, H', I2.turned (t' := s2.toks) (fun b o hb e => (sb9.2 b hb).trans e) g0 g1 g3 g4 g5, q⟩⟩
end
end Eg

set_option autoImplicit false
set_option maxRecDepth 100000
set_option maxHeartbeats 1000000
/-! E13: defs by their bodies. -/
namespace Eg
open PySem PySem.Spec L2

def padN : Nat → ES
  | 0 => []
  | n + 1 => none :: padN n
def argS : List EV → Nat → ES
  | [], n => padN n
  | _ :: _, 0 => []
  | v :: vs, n + 1 => some v :: argS vs n
def mkF (n : Nat) (body : KS) : KF := fun args h k => body (argS args n) h (fun _ h => k .non h) k (fun _ _ => false) (fun _ _ => false)

section
variable {G : Cn} {ρ : Rho} {h : EH} {H : Hp} {L : Nat}
theorem rs_pad : ∀ n : Nat, RS G ρ L H (padN n) (List.replicate n none)
  | 0 => by unfold padN RS; rfl
  | n + 1 => by
    unfold padN RS
    exact ⟨none, List.replicate n none, List.replicate_succ, (fun w hw => nomatch hw), rs_pad n⟩
theorem rs_args : ∀ {vs : List EV} {xs : List V} {n : Nat}, RVs G ρ L H vs xs → vs.length ≤ n → RS G ρ L H (argS vs n) (xs.map some ++ List.replicate (n - xs.length) none)
  | [], xs, n, r, _ => by
    unfold RVs at r
    subst r
    exact rs_pad n
  | v :: vs, xs, 0, r, l => by simp at l
  | v :: vs, xs, n + 1, r, l => by
    unfold RVs at r
    obtain ⟨z, zs, rfl, r1, r2⟩ := r
    unfold argS RS
    refine ⟨some z, zs.map some ++ List.replicate (n - zs.length) none, ?_, fun w hw => ⟨z, rfl, by cases hw; exact r1⟩, rs_args r2 (by simpa using l)⟩
    simp only [List.map_cons, List.cons_append, List.length_cons]
    rw [Nat.add_sub_add_right]
end
/-- the context of a body -/
abbrev cx (P : Program) (w : World) (mg : Str → Option Value) (base : Heap) (G : Cn) (N : List Str) (qual : Str) (sc : Scope) (f : Addr) (cdv : Value) (A : Around) (outer : List Env) (s : Shared) (H : Hp) (E : XK) : Cx :=
  (cxOf CX0 P w G.K mg base N qual sc f cdv A outer s H E).nox
/-- a body's code, at room k -/
def Body (P : Program) (w : World) (mg : Str → Option Value) (base : Heap) (G : Cn) (k : Nat) (N : List Str) (qual : Str) (sc : Scope) (body : List Stmt) (b : KS) : Prop :=
  ∀ (f : Addr) (cdv : Value) (A : Around) (outer : List Env) (s : Shared) (H : Hp) (E : XK), Gd G (cx P w mg base G N qual sc f cdv A outer s H E) → Room k (cx P w mg base G N qual sc f cdv A outer s H E).A → XSs G (cx P w mg base G N qual sc f cdv A outer s H E) body b
section
variable {P : Program} {w : World} {mg : Str → Option Value} {base : Heap} {G : Cn} {k : Nat} {x qual : Str} {st : Stmt} {f : Addr} {fd : FuncData} {N ps : List Str} {b : KS}
theorem f_ok (F : Fun G.K x qual st f fd) (S : FnScope N ps (defScope st)) (hb : Body P w mg base G k N qual (defScope st) (defBody st) b) (hw : w = G.w := by rfl) : FnG P w G.K mg base (k + 1) f fd ps (SpF G ps.length (mkF N.length b)) := by
  obtain ⟨oc, od, kV, doc, pm, an, cdv, ct, osl, rfl, lk, hcd⟩ := F.ex
  refine fn_ofG lk hcd S (fun vs H Q E q => q.1) fun A outer s H vs Q E room gd ⟨hl, ρ, h, as, k1, S1, rr, z, af⟩ => ?_
  have g : Gd G (cx P w mg base G N qual (defScope st) f cdv A outer s H E) := ⟨rfl, rfl, S.nd, Nat.lt_of_le_of_lt (Nat.add_le_add_right (Nat.le_add_right _ (16 * k)) 200) room.un, gd, hw⟩
  have hpl : ps.length ≤ N.length := by have := congrArg List.length S.pre; rw [List.length_take] at this; omega
  refine ⟨_, (hb f cdv A outer s H E g room).nox, ρ, _, h, _, _, _, _, S1, ?_, z, ?_, af, ?_, ?_⟩
  · have e := rr.length
    unfold L2.start
    exact rs_args rr (by omega)
  · exact fun s2 h2 ρ2 H2 σ2 z2 p2 r2 => af .non h2 ρ2 H2 .non z2 p2 rv_non
  · exact fun s2 h2 ρ2 H2 σ2 z2 p2 r2 => nomatch z2
  · exact fun s2 h2 ρ2 H2 σ2 z2 p2 r2 => nomatch z2
theorem df_ok (hm : mg x = some (.ref f)) (F : Fun G.K x qual st f fd) (hb : L2.Binds G.K fd ps []) (S : FnScope N ps (defScope st)) (B : Body P w mg base G k N qual (defScope st) (defBody st) b) (hw : w = G.w := by rfl) : DfOk P w mg base G (k + 1) x ps (mkF N.length b) :=
  ⟨f, fd, hm, F.kp, hb, f_ok F S B hw⟩
end
end Eg

set_option autoImplicit false
set_option maxRecDepth 100000
set_option maxHeartbeats 1000000
/-! E14: dict comprehensions. -/
namespace Eg
open PySem PySem.Spec L2

def kDcF (t : Bool) (g : KG) (tt : KT) (tk tv : KE) (s : ES) : List EV → EH → List EV → List EV → (List EV → List EV → EH → Bool) → Bool
  | [], h, ks, vs, k => k ks vs h
  | x :: xs, h, ks, vs, k => g x s h fun s2 h => tt s2 h fun b h => match b with
    | true => tk s2 h fun y h => tv s2 h fun v h => match keyOk t y with
      | true => match putE ks vs y v with
        | (ks, vs) => kDcF t g tt tk tv s xs h ks vs k
      | false => false
    | false => kDcF t g tt tk tv s xs h ks vs k
def kDcS (t : Bool) (g : KG) (tt : KT) (tk tv : KE) (s : ES) (src : Src) : Nat → Nat → EH → List EV → List EV → (List EV → List EV → EH → Bool) → Bool
  | 0, _, _, _, _, _ => false
  | m + 1, i, h, ks, vs, k => match nxt h i src with
    | some (some x) => g x s h fun s2 h => tt s2 h fun b h => match b with
      | true => tk s2 h fun y h => tv s2 h fun v h => match keyOk t y with
        | true => match putE ks vs y v with
          | (ks, vs) => kDcS t g tt tk tv s src m (i + 1) h ks vs k
        | false => false
      | false => kDcS t g tt tk tv s src m (i + 1) h ks vs k
    | some none => k ks vs h
    | none => false
def dcEnd (own t : Bool) (k : EV → EH → Bool) : List EV → List EV → EH → Bool := fun ks vs h => match own with
  | true => newH h (.dic t ks vs) k
  | false => k (.dct t ks vs) h
def kDc (own t : Bool) (it : KI) (g : KG) (tt : KT) (tk tv : KE) (ns : List Nat) : KE := fun s h k => it s h fun src h => match src with
  | .fix xs => match okLen xs with
    | true => kDcF t g tt tk tv (wipeE s ns) xs h [] [] (dcEnd own t k)
    | false => false
  | .own _ => kDcS t g tt tk tv (wipeE s ns) src 5000 0 h [] [] (dcEnd own t k)
theorem dcF_eq (t : Bool) (g : KG) (tt : KT) (tk tv : KE) (s : ES) (ys : List EV) : ∀ (xs zs : List EV) (h : EH) (ks vs : List EV) (k : List EV → List EV → EH → Bool), ys = zs ++ xs →
    kDcF t g tt tk tv s xs h ks vs k = kDcS t g tt tk tv s (.fix ys) (xs.length + 1) zs.length h ks vs k
  | [], zs, h, ks, vs, k, e => by
    simp only [kDcF, kDcS, nxt, nthE_eq, List.length_nil]
    rw [e, List.append_nil, List.getElem?_eq_none (Nat.le_refl _)]
  | x :: xs, zs, h, ks, vs, k, e => by
    have ih := fun h ks vs k => dcF_eq t g tt tk tv s ys xs (zs ++ [x]) h ks vs k (by rw [e]; simp)
    have e1 : ys[zs.length]? = some x := by rw [e]; simp
    simp only [List.length_append, List.length_cons, List.length_nil, Nat.zero_add] at ih ⊢
    rw [kDcF, kDcS]
    simp only [nxt, nthE_eq, e1]
    congr 1
    funext s2 h
    congr 1
    funext b h
    cases b with
    | true =>
      show tk s2 h _ = tk s2 h _
      congr 1
      funext y h
      congr 1
      funext v h
      cases keyOk t y with
      | true => exact ih _ _ _ _
      | false => rfl
    | false => exact ih _ _ _ _

section
variable {G : Cn} {X : Cx} {ρ ρ' : Rho} {h h' : EH} {H H' : Hp} {L : Nat}
variable {a o e value tg iter kx vx : Expr} {es ifs : List Expr} {f tk tv : KE} {fa : KA} {tt : KT} {it : KI} {gg : KG} {pos p tpos spos : Pos} {is : List Nat}
/-- one more pair in a dict that stands at D -/
theorem DR.put {t : Bool} {ks vs : List EV} {ys : List V} {D : Addr} {w v : EV} {y x : V} (rv : RVs G ρ L H vs ys) (ro : DR H t ks D ys) (rw' : RV G ρ L H w y) (rx : RV G ρ L H v x) (kk : keyOk t w = true) (ol : ks.length < 16000001) :
    ∃ o ys', DPut H D y x (upd H D o) ∧ (∀ H2 : Hp, H2 D = some o → DR H2 t (putE ks vs w v).1 D ys') ∧ RVs G ρ L H (putE ks vs w v).2 ys' ∧ (putE ks vs w v).1.length ≤ ks.length + 1 := by
  have hk : (putE ks vs w v).1.length ≤ ks.length + 1 := by
    unfold putE
    split <;> simp
  cases t with
  | false =>
    obtain ⟨kl, e1, e2, e3⟩ := ro
    obtain ⟨key, ek⟩ := Option.isSome_iff_exists.mp kk
    have ey := key_k ek rw'
    subst ey
    obtain ⟨kk', ys', i0, i1, i2, i3⟩ := put_is kOf_f ek rx e1 rv e2
    rw [ofs_length e1] at ol
    refine ⟨.dK (putK (kl.zip ys) key x), ys', .inl ⟨_, key, e3, rfl, by rw [sizeLine_eq, List.length_zip]; omega, rfl⟩, fun H2 e => ⟨kk', i0, i2, by rw [e, i3]⟩, i1, hk⟩
  | true =>
    obtain ⟨kl, e1, e2, e3⟩ := ro
    obtain ⟨key, ek⟩ := Option.isSome_iff_exists.mp kk
    obtain ⟨b, ey, eb⟩ := key_t ek rw'
    subst ey
    obtain ⟨kk', ys', i0, i1, i2, i3⟩ := put_is tOf_f ek rx e1 rv e2
    rw [ofs_length e1] at ol
    refine ⟨.dT (putK (kl.zip ys) key x), ys', .inr ⟨_, key, b, e3, rfl, eb, by rw [sizeLine_eq, List.length_zip]; omega, rfl⟩, fun H2 e => ⟨kk', i0, i2, by rw [e, i3]⟩, i1, hk⟩
theorem dcS_ok {σ : St} {s : ES} {src : Src} {J : It} {Q : VK} {m : Nat} {own t : Bool} {k : EV → EH → Bool} {ns : List Nat} {D : Addr} (S : Sim G ρ h H) (R : RS G ρ h.length H s σ) (w : WalkS G J src ρ h H) (hvs : ∀ i ∈ is, i ∈ ns)
    (z : kDcS t gg tt tk tv (wipeE s ns) src m 0 h [] [] (dcEnd own t k) = true) (hm : m ≤ 16000001) (af : After G ρ h H k Q) (hD : H D = none) :
    ∃ W : Nat → Nat → Hp → Prop, (∃ m, W 0 m (upd H D (dNew t))) ∧ DcTurn J (RG G gg is) (RT G tt) (RE G tk) (RE G tv) ns σ D Q W := by
  let W : Nat → Nat → Hp → Prop := fun i m H' => ∃ ρ' h' ksE vsE ysV, During G D ρ h H ρ' h' H' ∧ DR H' t ksE D ysV ∧ RVs G ρ' h'.length H' vsE ysV ∧ RS G ρ' h'.length H' (wipeE s ns) (wipe σ ns) ∧
    (∀ ws xs, RVs G ρ h.length H ws xs → RVs G ρ' h'.length H' ws xs) ∧ kDcS t gg tt tk tv (wipeE s ns) src m i h' ksE vsE (dcEnd own t k) = true ∧ ksE.length ≤ i ∧ i + m ≤ 16000001
  have start : DR (upd H D (dNew t)) t [] D [] := by
    cases t with
    | false => exact ⟨[], rfl, rfl, upd_same⟩
    | true => exact ⟨[], rfl, rfl, upd_same⟩
  refine ⟨W, ⟨m, ρ.bar D, h, [], [], [], During.start S hD _, start, RVs.nil, rs_bar hD _ (R.wiped ns), fun ws xs r => rvs_bar hD _ r, z, Nat.zero_le _, by omega⟩, ?_⟩
  rintro i m H1 ⟨ρ1, h1, ksE, vsE, ysV, d1, eD, rA, r1, c1, z1, hl, hn⟩
  cases m with
  | zero => exact nomatch z1
  | succ m =>
    simp only [kDcS] at z1
    cases en : nxt h1 i src with
    | none => rw [en] at z1; cases z1
    | some r =>
      rw [en] at z1
      have wk := w ρ1 h1 H1 d1.sim c1 d1.post.frzs i r en
      cases r with
      | none =>
        refine .inl ⟨wk, ?_⟩
        have z2 : dcEnd own t k ksE vsE h1 = true := z1
        unfold dcEnd at z2
        cases own with
        | false => exact af _ h1 (ρ1.back ρ) H1 _ z2 d1.post (by unfold RV; exact ⟨D, ysV, rfl, d1.un S hD, d1.rvs rA, eD.rd⟩)
        | true =>
          have z2 : newH h1 (.dic t ksE vsE) k = true := z2
          refine af _ _ _ H1 _ z2 (d1.own S hD fun ρ2 e1 e2 e3 => ⟨ysV, RVs.move (ρ := ρ1) e1 (Nat.le_succ _) (fun b o eb un => ⟨eb, fun q => un.1 ((d1.ban b).mpr (.inr (e2 ▸ q))), fun n hn q => ?_⟩) (fun _ _ e => e) (fun _ _ _ e => e) _ _ rA, eD⟩) rv_new'
          by_cases h9 : n < h1.length
          · rw [e1 n h9] at q; exact un.2 n h9 q
          · have e9 : n = h1.length := by omega
            rw [e9, e3] at q
            exact un.1 ((d1.ban b).mpr (.inl q.symm))
      | some v =>
        obtain ⟨go, yl⟩ := wk
        refine .inr ⟨go, fun H' => W (i + 1) m H', fun H' n => ⟨m, Nat.lt_succ_self m, n⟩, fun x H2 y => ?_⟩
        obtain ⟨p2, rx⟩ := yl x H2 y
        refine ⟨ρ1, wipeE s ns, h1, v, _, p2.sim, p2.rs r1, rx, z1, fun s4 h4 ρ4 H4 σ4 z4 p4 r4 l4 u4 => ⟨wipe_again l4 u4 hvs, ρ4, s4, h4, _, p4.sim, r4, z4, fun b h5 ρ5 H5 z5 p5 => ?_⟩⟩
        have p6 := p2.trans (p4.trans p5)
        have bD := (d1.sim.ban D ((d1.ban D).mpr (.inl rfl))).2
        cases b with
        | false =>
          show W (i + 1) m H5
          exact ⟨ρ5, h5, ksE, vsE, ysV, d1.step p6, eD.stay fun o e => p6.frame D o e bD, p6.rvs rA, p6.rs r1, fun ws xs r => p6.rvs (c1 ws xs r), z5, by omega, by omega⟩
        | true =>
          show RE G tk σ4 H5 fun y H4 => RE G tv σ4 H4 fun z H5 => ∃ H6, DPut H5 D y z H6 ∧ W (i + 1) m H6
          refine ⟨ρ5, s4, h5, _, p5.sim, p5.rs r4, z5, fun kv h7 ρ7 H7 y z7 p7 r7 => ⟨ρ7, s4, h7, _, p7.sim, p7.rs (p5.rs r4), z7, fun v h8 ρ8 H8 x z8 p8 r8 => ?_⟩⟩
          have pp := p6.trans (p7.trans p8)
          have d8 := d1.step pp
          have e8 : DR H8 t ksE D ysV := eD.stay fun o e => pp.frame D o e bD
          split at z8
          · rename_i ek
            obtain ⟨ob, ys', put, dr, rr, lk⟩ := e8.put (pp.rvs rA) (p8.rv r7) r8 ek (by omega)
            obtain ⟨o1, eo, nt, nf⟩ := e8.obj
            refine ⟨_, put, ρ8, h8, _, _, ys', d8.write hD eo nt nf, dr _ upd_same, d8.rvw eo nt nf rr, d8.rsw eo nt nf (pp.rs r1), fun ws xs r => d8.rvw eo nt nf (pp.rvs (c1 ws xs r)), z8, by omega, by omega⟩
          · cases z8
theorem x_dc (own t : Bool) {scope : Scope} {ow : List (Str × Nat)} (g : Gd G X) (hi : XI G X tg iter it) (ok : BlkOk X.N X.env.scope scope ow)
    (hg : ∀ (s : Shared) (H : Hp) (C : Addr) (cl : List (Str × Addr)) (fp : List Addr), XG G (X.blk s H scope (compEnvC scope cl C X.env) fp) tg gg is) (ht : ∀ (s : Shared) (H : Hp) (C : Addr) (cl : List (Str × Addr)) (fp : List Addr), XTs G (X.blk s H scope (compEnvC scope cl C X.env) fp) ifs tt)
    (hk : ∀ (s : Shared) (H : Hp) (C : Addr) (cl : List (Str × Addr)) (fp : List Addr), XE G (X.blk s H scope (compEnvC scope cl C X.env) fp) kx tk)
    (he : ∀ (s : Shared) (H : Hp) (C : Addr) (cl : List (Str × Addr)) (fp : List Addr), XE G (X.blk s H scope (compEnvC scope cl C X.env) fp) vx tv) (hvs : ∀ i ∈ is, i ∈ ow.map (·.2) := by decide) (hs : ∀ x, foldedSetIterable iter X.env x = pure x := by intro _; rfl) :
    XE G X (.DictComp kx vx [⟨tg, iter, ifs, 0⟩] scope pos) (kDc own t it gg tt tk tv (ow.map (·.2))) := by
  refine PE.imp (pe_dcA t g.c g.nd (by have := g.u; omega) hi ok hg ht hk he hs) fun σ H Q ⟨ρ, s, h, k, S, R, z, af⟩ => ⟨ρ, s, h, _, S, R, z, fun src h1 ρ1 H1 J z1 p1 w D hD => ?_⟩
  cases src with
  | fix xs =>
    have z1 : (match okLen xs with
      | true => kDcF t gg tt tk tv (wipeE s (ow.map (·.2))) xs h1 [] [] (dcEnd own t k)
      | false => false) = true := z1
    split at z1
    · rename_i ol
      rw [dcF_eq t gg tt tk tv _ xs xs [] h1 _ _ _ rfl] at z1
      have := okLen_is ol
      exact dcS_ok p1.sim (p1.rs R) w hvs z1 (by omega) (af.next p1) hD
    · cases z1
  | own n => exact dcS_ok p1.sim (p1.rs R) w hvs z1 (by omega) (af.next p1) hD
theorem s_setDc (own t : Bool) (i : Nat) {y : Str} {py spos : Pos} {scope : Scope} {ow : List (Str × Nat)} (g : Gd G X) (hi : XI G X tg iter it) (ok : BlkOk X.N X.env.scope scope ow)
    (hg : ∀ (s : Shared) (H : Hp) (C : Addr) (cl : List (Str × Addr)) (fp : List Addr), XG G (X.blk s H scope (compEnvC scope cl C X.env) fp) tg gg is) (ht : ∀ (s : Shared) (H : Hp) (C : Addr) (cl : List (Str × Addr)) (fp : List Addr), XTs G (X.blk s H scope (compEnvC scope cl C X.env) fp) ifs tt)
    (hk : ∀ (s : Shared) (H : Hp) (C : Addr) (cl : List (Str × Addr)) (fp : List Addr), XE G (X.blk s H scope (compEnvC scope cl C X.env) fp) kx tk)
    (he : ∀ (s : Shared) (H : Hp) (C : Addr) (cl : List (Str × Addr)) (fp : List Addr), XE G (X.blk s H scope (compEnvC scope cl C X.env) fp) vx tv) (hvs : ∀ i ∈ is, i ∈ ow.map (·.2) := by decide) (hs : ∀ x, foldedSetIterable iter X.env x = pure x := by intro _; rfl)
    (hy : X.N[i]? = some y := by rfl) (hyl : X.env.scope.names.lookup y = some .local := by rfl) (hsw : swapsWith (.DictComp kx vx [⟨tg, iter, ifs, 0⟩] scope pos) (some (.Name y py)) spos.line X.env = pure true := by rfl) :
    XS G X (.Assign [.Name y py] (.DictComp kx vx [⟨tg, iter, ifs, 0⟩] scope pos) spos) (kAsg (kDc own t it gg tt tk tv (ow.map (·.2))) (gVar i)) := by
  refine PS.imp (ps_setDcA t g.c g.nd (by have := g.u; omega) hy hyl hsw hi ok hg ht hk he hs) fun Ds σ H ⟨ρ, s, h, nx, rt, bk, ct, S, R, z, a1, a2, a3, a4⟩ => ?_
  have af : After G ρ h H (fun v h => gVar i v s h nx) (fun x H1 => Ds.nx (σ.set i (some x)) H1) := fun v h' ρ' H' x z' p' r' => a1 _ h' ρ' H' _ z' p' (RS.set i (p'.rs R) r')
  refine ⟨ρ, s, h, _, S, R, z, fun src h1 ρ1 H1 J z1 p1 w D hD => ?_⟩
  cases src with
  | fix xs =>
    have z1 : (match okLen xs with
      | true => kDcF t gg tt tk tv (wipeE s (ow.map (·.2))) xs h1 [] [] (dcEnd own t fun v h => gVar i v s h nx)
      | false => false) = true := z1
    split at z1
    · rename_i ol
      rw [dcF_eq t gg tt tk tv _ xs xs [] h1 _ _ _ rfl] at z1
      have := okLen_is ol
      exact dcS_ok (Q := fun x H1 => Ds.nx (σ.set i (some x)) H1) p1.sim (p1.rs R) w hvs z1 (by omega) (af.next p1) hD
    · cases z1
  | own n => exact dcS_ok (Q := fun x H1 => Ds.nx (σ.set i (some x)) H1) p1.sim (p1.rs R) w hvs z1 (by omega) (af.next p1) hD
end
end Eg

set_option autoImplicit false
set_option maxRecDepth 100000
set_option maxHeartbeats 1000000
/-! E15: repr. -/
namespace Eg
open PySem PySem.Spec L2

mutual
/-- its text can be told: whole numbers of at most 50 digits, plain signs -/
def okR : EV → Bool
  | .non => true
  | .bl _ => true
  | .int (.ofNat n) => Nat.ble n 100000000000000000000000000000000000000000000000000
  | .int (.negSucc n) => Nat.ble n 100000000000000000000000000000000000000000000000000
  | .str l => okChars l
  | .tup xs => okRs xs
  | .lst xs => okRs xs
  | _ => false
def okRs : List EV → Bool
  | [] => true
  | x :: xs => match okR x with
    | true => okRs xs
    | false => false
def okChars : List Nat → Bool
  | [] => true
  | c :: cs => match Nat.ble c 1114111 with
    | true => okChars cs
    | false => false
end
mutual
def wtR : EV → Nat
  | .str l => Nat.succ (lenE l)
  | .tup xs => Nat.succ (wtRs xs)
  | .lst xs => Nat.succ (wtRs xs)
  | _ => 1
def wtRs : List EV → Nat
  | [] => 0
  | x :: xs => Nat.succ (Nat.add (wtR x) (wtRs xs))
end
mutual
def dpR : EV → Nat
  | .tup xs => Nat.succ (dpRs xs)
  | .lst xs => Nat.succ (dpRs xs)
  | _ => 0
def dpRs : List EV → Nat
  | [] => 0
  | x :: xs => Nat.add (dpR x) (dpRs xs)
end
theorem okChars_is : ∀ {l : List Nat}, okChars l = true → ∀ c ∈ l, c ≤ 1114111
  | [], _, c, h => nomatch h
  | a :: l, h, c, hc => by
    unfold okChars at h
    split at h
    · rename_i e
      rcases List.mem_cons.mp hc with rfl | hc
      · exact Nat.le_of_ble_eq_true e
      · exact okChars_is h c hc
    · cases h
mutual
theorem okR_is : ∀ (v : EV) (d : PyData), toPD v = some d → okR v = true → d.showable = true ∧ d.hasDict = false ∧ d.shown.length ≤ 60 * wtR v ∧ d.depth ≤ dpR v
  | .non, d, e, _ => by
    simp only [toPD, Option.some.injEq] at e
    subst e
    refine ⟨rfl, rfl, ?_, by simp [PyData.depth]⟩
    have : (PyData.shown .none).length = 4 := rfl
    simp only [wtR]; omega
  | .bl b, d, e, _ => by
    simp only [toPD, Option.some.injEq] at e
    subst e
    refine ⟨rfl, rfl, ?_, by simp [PyData.depth]⟩
    have : (PyData.shown (.bool b)).length ≤ 5 := by cases b <;> decide
    simp only [wtR]; omega
  | .int i, d, e, h => by
    simp only [toPD, Option.some.injEq] at e
    subst e
    have hi : i.natAbs < 10 ^ 51 := by
      cases i with
      | ofNat n =>
        simp only [okR] at h
        have := Nat.le_of_ble_eq_true h
        show n < 10 ^ 51
        omega
      | negSucc n =>
        simp only [okR] at h
        have := Nat.le_of_ble_eq_true h
        show n + 1 < 10 ^ 51
        omega
    have l1 := int_text_length_le10 (k := 51) (by decide) hi
    refine ⟨?_, rfl, ?_, by simp [PyData.depth]⟩
    · simp only [PyData.showable, decide_eq_true_eq]
      by_cases h0 : i.natAbs = 0
      · rw [h0]; decide
      · have := (Nat.log2_lt h0 (k := 1920)).mpr (Nat.lt_of_lt_of_le hi (by decide +kernel))
        exact this
    · have e2 : (PyData.shown (.int i)).length = (toString i).length := by
        show (Str.ofString (toString i)).length = _
        rw [ofString_length]
      rw [e2]
      simp only [wtR]
      omega
  | .str l, d, e, h => by
    simp only [toPD, Option.some.injEq] at e
    subst e
    simp only [okR] at h
    have hc := okChars_is h
    have e1 := StrLaws.reprText_len ⟨l.toArray⟩ (fun c hm => Nat.lt_of_le_of_lt (hc c (by simpa using hm)) (by decide))
    refine ⟨rfl, rfl, ?_, by simp [PyData.depth]⟩
    have e2 : (⟨l.toArray⟩ : Str).length = l.length := by simp [Str.length]
    rw [e2] at e1
    simp only [PyData.shown, wtR, lenE_eq]
    omega
  | .tup xs, d, e, h => by
    simp only [toPD, Option.map_eq_some_iff] at e
    obtain ⟨ds, e1, rfl⟩ := e
    simp only [okR] at h
    obtain ⟨h1, h2, h3, h4, h5⟩ := okRs_is xs ds e1 h
    refine ⟨by simpa [PyData.showable] using h1, by simpa [PyData.hasDict] using h2, ?_, ?_⟩
    · have := tupleText_len_le (PyData.shownAll ds)
      simp only [PyData.shown, wtR]
      omega
    · simp only [PyData.depth, dpR]; omega
  | .lst xs, d, e, h => by
    simp only [toPD, Option.map_eq_some_iff] at e
    obtain ⟨ds, e1, rfl⟩ := e
    simp only [okR] at h
    obtain ⟨h1, h2, h3, h4, h5⟩ := okRs_is xs ds e1 h
    refine ⟨by simpa [PyData.showable] using h1, by simpa [PyData.hasDict] using h2, ?_, ?_⟩
    · have := listText_len_le (PyData.shownAll ds)
      simp only [PyData.shown, wtR]
      omega
    · simp only [PyData.depth, dpR]; omega
  | .dct _ _ _, _, e, _ => by simp [toPD] at e
  | .rp _, _, e, _ => by simp [toPD] at e
  | .kt _, _, e, h => by simp [okR] at h
  | .ref _, _, e, _ => by simp [toPD] at e
  | .scr, _, e, _ => by simp [toPD] at e
  | .tx _, _, e, q => by simp [okR] at q
theorem okRs_is : ∀ (vs : List EV) (ds : List PyData), toPDs vs = some ds → okRs vs = true → PyData.showableAll ds = true ∧ PyData.hasDictAll ds = false ∧ ((PyData.shownAll ds).map (·.length)).sum + 2 * (PyData.shownAll ds).length ≤ 60 * wtRs vs ∧ PyData.depthAll ds ≤ dpRs vs ∧ True
  | [], ds, e, _ => by
    simp only [toPDs, Option.some.injEq] at e
    subst e
    simp [PyData.showableAll, PyData.hasDictAll, PyData.shownAll, PyData.depthAll, wtRs, dpRs]
  | v :: vs, ds, e, h => by
    simp only [toPDs] at e
    split at e
    · rename_i d ds' e1 e2
      cases e
      simp only [okRs] at h
      split at h
      · rename_i h1
        obtain ⟨a1, a2, a3, a4⟩ := okR_is v d e1 h1
        obtain ⟨b1, b2, b3, b4, _⟩ := okRs_is vs ds' e2 h
        refine ⟨by simp [PyData.showableAll, a1, b1], by simp [PyData.hasDictAll, a2, b2], ?_, ?_, trivial⟩
        · simp only [PyData.shownAll, List.map_cons, List.sum_cons, List.length_cons, wtRs]
          have e3 : (wtR v).add (wtRs vs) = wtR v + wtRs vs := rfl
          rw [e3]
          omega
        · simp only [PyData.depthAll, dpRs]
          have e3 : (dpR v).add (dpRs vs) = dpR v + dpRs vs := rfl
          rw [e3]
          omega
      · cases h
    · cases e
end
/-- as a value of its own -/
def plainE (h : EH) : EV → Option EV
  | .ref n => match getH h n with
    | some (.lst xs) => some (.lst xs)
    | _ => none
  | v => some v
def isBox : EV → Bool
  | .tup _ => true
  | .lst _ => true
  | _ => false
def isPD (v : EV) : Bool := match toPD v with
  | some _ => true
  | none => false
def bRepr : List EV → EH → (EV → EH → Bool) → Bool := fun vs h k => match vs with
  | [v] => match plainE h v with
    | some w => match isBox w && isPD w && okR w && Nat.ble (wtR w) 200000 && Nat.ble (dpR w) 100 with
      | true => k (.rp w) h
      | false => false
    | none => false
  | _ => false
def rRepr (K : PySem.W.Frag) : List V → Hp → VK → Prop := fun xs H Q => ∃ a d, xs = [V.ref a] ∧ Dp K H (.ref a) d ∧ d.showable = true ∧ d.hasDict = false ∧ d.depth ≤ 100 ∧ d.shown.length ≤ sizeLine ∧ Q (.str d.shown) H
section
variable {G : Cn} {X : Cx} {ρ : Rho} {h : EH} {H : Hp}
theorem c_repr (g : Gd G X) : CallR X (.builtin "repr") (rRepr G.K) := by
  intro pins s σ H xs us Q I r ⟨a, d, ex, dp, h1, h2, h3, h4, q⟩
  subst ex
  obtain ⟨u, rfl, ru⟩ := r.one
  cases (show u = Value.ref a from ru)
  rw [← g.k] at dp
  obtain ⟨as, rd⟩ := Dp.reads I d _ _ dp rfl
  exact repr_of_reads' rd h1 (PyData.noDict_hsm h2) g.gd (by have := g.u; omega) (fun b o e => e) (fun h' u tk hk => ⟨.str d.shown, H, I.kept hk, ⟨u, rfl⟩, q⟩) h4
theorem b_repr : CallS G bRepr (rRepr G.K) := by
  intro ρ h H vs xs k Q S r z af
  unfold bRepr at z
  split at z
  · rename_i v
    obtain ⟨x, rfl, rx⟩ := one r
    split at z
    · rename_i w e1
      split at z
      · rename_i ok
        simp only [Bool.and_eq_true] at ok
        obtain ⟨⟨⟨⟨o1, o2⟩, o3⟩, o4⟩, o5⟩ := ok
        have o4 := Nat.le_of_ble_eq_true o4
        have o5 := Nat.le_of_ble_eq_true o5
        obtain ⟨d, ed⟩ : ∃ d, toPD w = some d := by
          unfold isPD at o2
          split at o2
          · exact ⟨_, by assumption⟩
          · cases o2
        obtain ⟨i1, i2, i3, i4⟩ := okR_is w d ed o3
        have dp : ∃ a, x = .ref a ∧ Dp G.K H (.ref a) d := by
          unfold plainE at e1
          split at e1
          · rename_i n
            rw [getH_eq] at e1
            split at e1
            · rename_i l e2
              cases e1
              unfold RV at rx
              obtain ⟨hn, rfl⟩ := rx
              obtain ⟨ys, q, rr⟩ := S.obj n _ e2
              simp only [toPD, Option.map_eq_some_iff] at ed
              obtain ⟨ds, e3, rfl⟩ := ed
              exact ⟨_, rfl, .lst (.inl (.inl q)) (dps_of l ds ys e3 rr)⟩
            · cases e1
          · cases e1
            have d1 := dp_of v d x ed rx
            cases v with
            | tup l => unfold RV at rx; obtain ⟨a, ys, rfl, _⟩ := rx; exact ⟨a, rfl, d1⟩
            | lst l => unfold RV at rx; obtain ⟨a, ys, rfl, _⟩ := rx; exact ⟨a, rfl, d1⟩
            | _ => cases o1
        obtain ⟨a, rfl, dp⟩ := dp
        exact ⟨a, d, rfl, dp, i1, i2, by omega, by rw [sizeLine_eq]; omega, af.here S z (by unfold RV; exact ⟨d, ed, rfl⟩)⟩
      · cases z
    · cases z
  · cases z
end
end Eg

set_option autoImplicit false
set_option maxRecDepth 100000
set_option maxHeartbeats 1000000
/-! E16: sorted. -/
namespace Eg
open PySem PySem.Spec L2 PySem.W PySem.Calls
section
variable {prog : Program} {w : World} {A : Around} {E : Value → Shared → Prop} {s : Shared}
/-- sorted(v, ..): the items, a new list of them, its sort -/
theorem sorted_gen {v : Value} {kw : List (Str × Value)} {Q : Value → Shared → Prop} (ha1 : argsOk "sorted" ⟨[v], kw⟩)
    (col : wpAny (model prog w) A.in1 (collect v) (fun vs s1 => vs.length ≤ sizeLine ∧ ∃ h' tk, s1 = { s with heap := h', toks := tk } ∧
      wpAny (model prog w) A.in1 (call (.builtin "list.sort") [.ref h'.objs.size] kw) (fun _ s' => Q (.ref h'.objs.size) s') E { s with heap := h'.push (PyProof.Rows.seqObj "list" vs.toArray 0), toks := tk }) E s) :
    wpAny (model prog w) A (call (.builtin "sorted") [v] kw) Q E s := by
  refine PyProof.Rows.call_function_entry_kw PyProof.Rows.kind_sorted PyProof.Rows.plain_sorted PyProof.Rows.entry_sorted ha1 ?_
  unfold Builtin.«sorted»
  refine wpAny_bind (m := checkCount "sorted" 1 1 _) (wpAny_pure ?_)
  refine wpAny_bind (wpAny_mono col (fun vs s1 ⟨hz, h', tk, e, srt⟩ => ?_) fun _ _ z => z)
  subst e
  refine wpAny_bind (wpAny_newList ?_ hz)
  refine wpAny_bind (wpAny_holding (wpAny_mono srt (fun _ s' x => ?_) fun _ _ z => z))
  exact wpAny_pure ⟨_, rfl, x⟩
end
/-- x is walked over; P holds of its items -/
def HasIts (K : Frag) (w : World) (H : Hp) (x : V) (P : List V → Prop) : Prop := (∃ a ys, x = .ref a ∧ (SqL K H a ys ∨ SqT K H a ys) ∧ P ys) ∨ (∃ a kvs, x = .ref a ∧ Rd H a (.dT kvs) ∧ ∀ bs, IsKeys H kvs bs → P (bs.map V.ref)) ∨
  (∃ a kvs, x = .ref a ∧ Rd H a (.dK kvs) ∧ P (kvs.map fun kv => kV kv.1)) ∨ ∃ a kvs, x = .ref a ∧ Rd H a (nO w a kvs) ∧ P (kvs.map fun p => p.2.1)
section
variable {X : Cx} {pins : List (Addr × Obj)} {σ : L2.St} {H : Hp} {s : Shared}
theorem collect_its {A : Around} {E : Value → Shared → Prop} {x : V} {v : Value} {P : List V → Prop} (hh : A.handled = none) (I : Inv X pins σ H s) (r : RelV x v) (hx : HasIts X.K X.w H x P) :
    wpAny (model X.prog X.w) A (collect v) (fun vs s1 => vs.length ≤ sizeLine ∧ ∃ ys h' tk, P ys ∧ Vals ys vs ∧ (∀ b o, s.heap.get? b = some o → h'.get? b = some o) ∧ s1 = { s with heap := h', toks := tk }) E s := by
  rcases hx with ⟨a, ys, rfl, hq, hP⟩ | ⟨a, kvs, rfl, hd, hP⟩ | ⟨a, kvs, rfl, hd, hP⟩ | ⟨a, kvs, rfl, hd, hP⟩
  · cases r
    rcases hq with hq | hq
    · obtain ⟨its, rv, p, hz⟩ := I.list hq
      obtain ⟨o, e, c, n, d⟩ := p.isList
      have hz' : its.length ≤ sizeLine := by rw [← rv.length]; exact hz
      refine wpAny_collect_seq a (.inl rfl) e c d (fun h' hk => ⟨by simpa using hz', ys, h', s.toks, hP, by simpa using rv, hk, rfl⟩) (by simpa using hz')
    · obtain ⟨its, rv, p, hz⟩ := I.tuple hq
      obtain ⟨o, e, c, n, d⟩ := (show s.heap.IsTuple a its.toArray from p)
      have hz' : its.length ≤ sizeLine := by rw [← rv.length]; exact hz
      refine wpAny_collect_seq a (.inr rfl) e c d (fun h' hk => ⟨by simpa using hz', ys, h', s.toks, hP, by simpa using rv, hk, rfl⟩) (by simpa using hz')
  · cases r
    obtain ⟨z, hs, ks, pr, o, es, ep, ho, hx, hdt, he, hn⟩ := (show ObjOk X.prog X.w H s.heap a (.dT kvs) from hd.ok I.hok)
    have l1 : es.size = ks.length := size_of_entries he
    have l2 : kvs.length = ks.length := Paired.length pr
    refine kdu_collect (kdl_raw hs hx hdt) hh ho (by omega) fun h' tk acc kp it => ?_
    have len : acc.toList.length = ks.length := by rw [Array.length_toList, it.1]; exact l1
    have ea : acc.toList = (ks.map fun x => x.2.1).map Value.ref := by
      apply List.ext_getElem?
      intro j
      rw [List.getElem?_map, List.getElem?_map]
      cases hj : acc.toList[j]? with
      | none =>
        have h1 := List.getElem?_eq_none_iff.mp hj
        rw [List.getElem?_eq_none (by omega)]
        rfl
      | some u =>
        obtain ⟨en, hen, hv⟩ := it.2 j u (by rw [← Array.getElem?_toList]; exact hj)
        have qe := entry_at he j
        rw [hen] at qe
        cases hb : ks[j]? with
        | none => rw [hb] at qe; exact nomatch (show some en = none from qe)
        | some b =>
          rw [hb] at qe
          have e2 : en = entryOfKey (tupleKind (mixKind X.prog X.w)) b := Option.some.inj qe
          rw [hv, e2]
          rfl
    refine ⟨by omega, (ks.map fun x => x.2.1).map V.ref, h', tk, hP _ (isKeys_of pr), ?_, kp, rfl⟩
    rw [ea]
    exact vals_refs _
  · cases r
    obtain ⟨z, lo, vs, rk, dd⟩ := (show ObjOk X.prog X.w H s.heap a (.dK kvs) from hd.ok I.hok)
    obtain ⟨ep, hat⟩ := dd.dictAt
    have hl : kvs.length = vs.length := Paired.length rk
    refine kdu_collect (kdl_dict (knd := mixKind X.prog X.w) (kvs := vs) (ep := ep) lo) hh hat (by omega) fun h' tk acc kp it => ?_
    have len : acc.toList.length = vs.length := by rw [Array.length_toList]; exact it.1
    refine ⟨by omega, kvs.map fun kv => kV kv.1, h', tk, hP, ?_, kp, rfl⟩
    refine vals_of_at (by rw [List.length_map, len, hl]) fun j y u h1 h2 => ?_
    obtain ⟨k, y', hky, hi⟩ := it.2 j u (by rw [← Array.getElem?_toList]; exact h2)
    have e1 : (kvs.map (·.1))[j]? = some k := by rw [KV.keys rk, List.getElem?_map, hky]; rfl
    have e3 : (kvs.map fun kv => kV kv.1) = (kvs.map (·.1)).map kV := by rw [List.map_map]; rfl
    rw [e3, List.getElem?_map, e1] at h1
    cases h1
    exact keyIs_rel hi
  · cases r
    obtain ⟨o, es, ep, ho, hx, hdt, pr, nd, hz, lo⟩ := nO_at (hd.ok I.hok)
    have hl : kvs.length = es.size := by rw [← Array.length_toList]; exact Paired.length pr
    refine kdu_collect (kdl_raw lo hx hdt) hh ho (by omega) fun h' tk acc kp it => ?_
    have len : acc.toList.length = es.size := by rw [Array.length_toList]; exact it.1
    refine ⟨by omega, kvs.map fun p => p.2.1, h', tk, hP, ?_, kp, rfl⟩
    refine vals_of_at (by rw [List.length_map, len, hl]) fun j y u h1 h2 => ?_
    obtain ⟨en, hen, hv⟩ := it.2 j u (by rw [← Array.getElem?_toList]; exact h2)
    rw [List.getElem?_map] at h1
    obtain ⟨z, hz1, rfl⟩ := Option.map_eq_some_iff.mp h1
    have he' : es.toList[j]? = some en := by rw [Array.getElem?_toList]; exact hen
    obtain ⟨z', hz2, q⟩ := L2.DX.pget pr he'
    rw [hz1] at hz2
    cases hz2
    rw [hv]
    exact q.2.1
/-- the items with their data -/
structure Srt (K : Frag) (H : Hp) (ys : List V) (bs : List (V × PyData)) : Prop where
  eq : bs.map (·.1) = ys
  dat : ∀ b ∈ bs, Dp K H b.1 b.2
  al : AllAlike (bs.map (·.2))
  so : Sortable (bs.map (·.2))
  len : bs.length ≤ sizeLine
  dp : ∀ b ∈ bs, b.2.depth ≤ 100
def rSorted (K : Frag) (w : World) : List V → Hp → VK → Prop := fun xs H Q => ∃ x, xs = [x] ∧ HasIts K w H x fun ys => ∃ bs, Srt K H ys bs ∧ ∀ D, H D = none → Q (.ref D) (upd H D (.lst ((bs.mergeSort (dataLe false (·.2))).map (·.1))))
theorem each_of {R : Value → V × PyData → Prop} : ∀ {bs : List (V × PyData)} {us : List Value}, Vals (bs.map (·.1)) us → (∀ b u, b ∈ bs → RelV b.1 u → R u b) → EachIs R us bs
  | [], us, r, h => by cases r; exact .nil
  | b :: bs, us, r, h => by
    cases r with
    | cons r1 r2 => exact .cons (h b _ List.mem_cons_self r1) (each_of r2 fun b' u hb hr => h b' u (List.mem_cons_of_mem _ hb) hr)
theorem vals_each : ∀ {bs : List (V × PyData)} {us : List Value}, EachIs (fun u b => RelV b.1 u) us bs → Vals (bs.map (·.1)) us
  | [], _, .nil => .nil
  | b :: bs, _, .cons h t => .cons h (vals_each t)
/-- a list at D, its items replaced -/
theorem relist {D : Addr} {ys zs : List V} {h' : Heap} {tk : Nat} {out : List Value} {c : Nat} (I : Inv X pins σ (upd H D (.lst ys)) s) (hk : ∀ b o, b ≠ D → s.heap.get? b = some o → h'.get? b = some o) (at_ : h'.get? D = some (PyProof.Rows.seqObj "list" out.toArray c))
    (rv : Vals zs out) (hz : zs.length ≤ sizeLine) : Inv X pins σ (upd H D (.lst zs)) { s with heap := h', toks := tk } := by
  have J := I.write (x := D) (e := D) (o := .lst zs) (t' := tk) (h' := h') (by rw [upd_same]; exact True.intro) (.inl rfl) hk ⟨_, at_⟩ ⟨hz, out, c, rv, at_⟩
  rw [upd_upd] at J
  exact J
theorem cr_sorted (g1 : X.calm = true) (hu : X.A.units + 150 < cLine) : CallR X (.builtin "sorted") (rSorted X.K X.w) := by
  intro pins s σ H xs us Q I r ⟨x, ex, hx⟩
  subst ex
  obtain ⟨u, rfl, ru⟩ := r.one
  refine sorted_gen (PyProof.Rows.args_sorted1 _) (wpAny_mono (collect_its (I.ok.hd g1) I ru hx) (fun vs s1 ⟨hz, ys, h', tk, ⟨bs, S, q⟩, rv, kp, e⟩ => ⟨hz, h', tk, e, ?_⟩) fun _ _ z => z)
  have I1 : Inv X pins σ H { s with heap := h', toks := tk } := I.kept kp
  have hD : H h'.objs.size = none := I1.hok.fresh (Nat.le_refl _)
  have at0 : (h'.push (PyProof.Rows.seqObj "list" vs.toArray 0)).get? h'.objs.size = some (PyProof.Rows.seqObj "list" vs.toArray 0) := Heap.get?_push_size _ rfl
  have I2 : Inv X pins σ (upd H h'.objs.size (.lst ys)) { s with heap := h'.push (PyProof.Rows.seqObj "list" vs.toArray 0), toks := tk } :=
    I1.laid (t' := tk) (fun b o e => Heap.get?_push_of_some _ e) (Nat.le_refl _) ⟨by rw [rv.length]; exact hz, vs, 0, rv, at0⟩
  have e0 := S.eq
  subst e0
  have er : EachIs (fun v b => ∃ as, Reads (h'.push (PyProof.Rows.seqObj "list" vs.toArray 0)) v b.2 as ∧ h'.objs.size ∉ as) vs bs := each_of rv fun b u hb ru => by
    obtain ⟨as, rd⟩ := Dp.reads I1 b.2 b.1 u (S.dat b hb) ru
    refine ⟨as, PyProof.Rows.Reads.keeps (fun c o e => Heap.get?_push_of_some _ e) rd, fun hm => ?_⟩
    obtain ⟨o, e⟩ := PyProof.On.reads_mem_get rd _ hm
    exact absurd (Heap.lt_size e) (Nat.lt_irrefl _)
  have ei : EachIs (fun v b => RelV b.1 v) vs bs := each_of rv fun b u _ ru => ru
  refine list_sort_data (s := { s with heap := h'.push (PyProof.Rows.seqObj "list" vs.toArray 0), toks := tk }) at0 ei er S.al S.so S.len (fun b hb => by have := S.dp b hb; show X.A.units + 1 + 1 + b.2.depth < cLine; omega) fun out hl eo => ?_
  obtain ⟨c, atD⟩ := PyProof.Rows.sortedHeap_at (h := h'.push (PyProof.Rows.seqObj "list" vs.toArray 0)) (out := out.toArray) at0
  refine ⟨.ref h'.objs.size, _, relist I2 (fun b o hb e => ?_) atD (vals_each eo) (by rw [List.length_map, List.length_mergeSort]; exact S.len), rfl, q _ hD⟩
  exact (PyProof.Rows.sortedHeap_old hb (Heap.lt_size e)).trans e
end
end Eg

set_option autoImplicit false
set_option maxRecDepth 100000
set_option maxHeartbeats 1000000
/-! E17: sorted, in the engine. -/
namespace Eg
open PySem PySem.Spec L2

def tokLt : Int ⊕ List Nat → Int ⊕ List Nat → Bool
  | .inl a, .inl b => intLt a b
  | .inl _, .inr _ => true
  | .inr _, .inl _ => false
  | .inr a, .inr b => natsLt a b
theorem tokLt_eq (a b : Int ⊕ List Nat) : tokLt a b = PyProof.Rows.itemLt a b := by
  cases a with
  | inl a =>
    cases b with
    | inl b =>
      show intLt a b = decide (a < b)
      by_cases h : a < b
      · rw [decide_eq_true h]; exact intLt_iff.mpr h
      · rw [decide_eq_false h]
        cases e : intLt a b with
        | true => exact absurd (intLt_iff.mp e) h
        | false => rfl
    | inr b => rfl
  | inr a =>
    cases b with
    | inl b => rfl
    | inr b => exact natsLt_dec a b
def toksLt : List (Int ⊕ List Nat) → List (Int ⊕ List Nat) → Bool
  | [], [] => false
  | [], _ :: _ => true
  | _ :: _, [] => false
  | x :: r, y :: t => match tokLt x y with
    | true => true
    | false => match tokLt y x with
      | true => false
      | false => toksLt r t
theorem toksLt_eq : ∀ a b : List (Int ⊕ List Nat), toksLt a b = PyProof.Rows.lexLt PyProof.Rows.itemOrd a b
  | [], [] => rfl
  | [], _ :: _ => rfl
  | _ :: _, [] => rfl
  | x :: r, y :: t => by
    unfold toksLt
    rw [tokLt_eq, tokLt_eq, toksLt_eq r t]
    show _ = (PyProof.Rows.itemLt x y || (!PyProof.Rows.itemLt y x && PyProof.Rows.lexLt PyProof.Rows.itemOrd r t))
    cases PyProof.Rows.itemLt x y <;> cases PyProof.Rows.itemLt y x <;> rfl
def dataF (x y : PyData) : Bool := toksLt (W.keyToks x) (W.keyToks y)
theorem dataF_eq (x y : PyData) : dataF x y = W.dataLt x y := toksLt_eq _ _
/-! ### the sort -/
def insD {α : Type} (x : PyData × α) : List (PyData × α) → List (PyData × α)
  | [] => [x]
  | y :: ys => match dataF y.1 x.1 with
    | true => y :: insD x ys
    | false => x :: y :: ys
def sortD {α : Type} : List (PyData × α) → List (PyData × α)
  | [] => []
  | x :: xs => insD x (sortD xs)
section
variable {α : Type}
abbrev leD : PyData × α → PyData × α → Bool := W.dataLe false (·.1)
theorem leD_total : W.TotalLe (leD (α := α)) := W.sortLe_total _ _ _
theorem leD_eq (x y : PyData × α) : leD x y = !W.dataLt y.1 x.1 := rfl
theorem insD_mem (x : PyData × α) : ∀ (l : List (PyData × α)) (z : PyData × α), z ∈ insD x l ↔ z = x ∨ z ∈ l
  | [], z => by simp [insD]
  | y :: ys, z => by
    unfold insD
    rw [dataF_eq]
    split
    · simp only [List.mem_cons, insD_mem x ys z]
      constructor
      · rintro (h | h | h)
        · exact .inr (.inl h)
        · exact .inl h
        · exact .inr (.inr h)
      · rintro (h | h | h)
        · exact .inr (.inl h)
        · exact .inl h
        · exact .inr (.inr h)
    · simp
theorem insD_pw (x : PyData × α) : ∀ l : List (PyData × α), l.Pairwise (fun a b => leD a b = true) → (insD x l).Pairwise (fun a b => leD a b = true)
  | [], _ => by simp [insD]
  | y :: ys, h => by
    have hp := List.pairwise_cons.mp h
    unfold insD
    rw [dataF_eq]
    split
    · rename_i e
      have xy : leD y x = true := by
        rcases leD_total.total x y with q | q
        · rw [leD_eq, e] at q; cases q
        · exact q
      refine List.pairwise_cons.mpr ⟨fun z hz => ?_, insD_pw x ys hp.2⟩
      rcases (insD_mem x ys z).mp hz with rfl | hz
      · exact xy
      · exact hp.1 z hz
    · rename_i e
      have xy : leD x y = true := by rw [leD_eq, e]; rfl
      refine List.pairwise_cons.mpr ⟨fun z hz => ?_, h⟩
      rcases List.mem_cons.mp hz with rfl | hz
      · exact xy
      · exact leD_total.trans _ _ _ xy (hp.1 z hz)
theorem insD_filter (x c : PyData × α) : ∀ l : List (PyData × α), (insD x l).filter (W.sameRank leD c) = (x :: l).filter (W.sameRank leD c)
  | [] => rfl
  | y :: ys => by
    unfold insD
    rw [dataF_eq]
    split
    · rename_i e
      have ih := insD_filter x c ys
      have nxy : leD x y = false := by rw [leD_eq, e]; rfl
      by_cases hx : W.sameRank leD c x = true
      · by_cases hy : W.sameRank leD c y = true
        · exfalso
          have h1 : leD x c = true := by unfold W.sameRank at hx; simp only [Bool.and_eq_true] at hx; exact hx.2
          have h2 : leD c y = true := by unfold W.sameRank at hy; simp only [Bool.and_eq_true] at hy; exact hy.1
          rw [leD_total.trans _ _ _ h1 h2] at nxy
          cases nxy
        · rw [List.filter_cons_of_neg hy, ih, List.filter_cons_of_pos hx, List.filter_cons_of_pos hx, List.filter_cons_of_neg hy]
      · rw [List.filter_cons_of_neg hx] at ih ⊢
        by_cases hy : W.sameRank leD c y = true
        · rw [List.filter_cons_of_pos hy, ih, List.filter_cons_of_pos hy]
        · rw [List.filter_cons_of_neg hy, ih, List.filter_cons_of_neg hy]
    · rfl
theorem sortD_eq (l : List (PyData × α)) : sortD l = l.mergeSort leD := by
  refine W.sort_unique leD_total ?_ fun c => ?_
  · induction l with
    | nil => exact List.Pairwise.nil
    | cons x xs ih => exact insD_pw x _ ih
  · induction l with
    | nil => rfl
    | cons x xs ih =>
      show (insD x (sortD xs)).filter _ = _
      rw [insD_filter]
      by_cases hx : W.sameRank leD c x = true
      · rw [List.filter_cons_of_pos hx, List.filter_cons_of_pos hx, ih]
      · rw [List.filter_cons_of_neg hx, List.filter_cons_of_neg hx, ih]
end
/-! ### checks -/
def alikeO (d : PyData) : List PyData → Bool
  | [] => true
  | e :: es => match W.alike d e with
    | true => alikeO d es
    | false => false
def alikeP (all : List PyData) : List PyData → Bool
  | [] => true
  | d :: ds => match alikeO d all with
    | true => alikeP all ds
    | false => false
def tupsD : List PyData → Bool
  | [] => true
  | .tuple (_ :: _) :: ds => tupsD ds
  | _ => false
def nontD : List PyData → Bool
  | [] => true
  | .none :: _ => false
  | .tuple _ :: _ => false
  | _ :: ds => nontD ds
def depthsD : List PyData → Bool
  | [] => true
  | d :: ds => match Nat.ble d.depth 100 with
    | true => depthsD ds
    | false => false
theorem alikeO_is {d : PyData} : ∀ {l : List PyData}, alikeO d l = true → ∀ e ∈ l, W.alike d e = true
  | [], _, e, h => nomatch h
  | a :: l, h, e, he => by
    unfold alikeO at h
    split at h
    · rcases List.mem_cons.mp he with rfl | he
      · assumption
      · exact alikeO_is h e he
    · cases h
theorem alikeP_is {all : List PyData} : ∀ {l : List PyData}, alikeP all l = true → ∀ d ∈ l, ∀ e ∈ all, W.alike d e = true
  | [], _, d, h, _, _ => nomatch h
  | a :: l, h, d, hd, e, he => by
    unfold alikeP at h
    split at h
    · rename_i h1
      rcases List.mem_cons.mp hd with rfl | hd
      · exact alikeO_is h1 e he
      · exact alikeP_is h d hd e he
    · cases h
theorem tupsD_is : ∀ {l : List PyData}, tupsD l = true → ∀ d ∈ l, ∃ x r, d = .tuple (x :: r)
  | [], _, d, h => nomatch h
  | a :: l, h, d, hd => by
    have key : (∃ x r, a = .tuple (x :: r)) ∧ tupsD l = true := by
      cases a with
      | tuple xs =>
        cases xs with
        | nil => cases h
        | cons x r => exact ⟨⟨x, r, rfl⟩, h⟩
      | _ => cases h
    rcases List.mem_cons.mp hd with rfl | hd
    · exact key.1
    · exact tupsD_is key.2 d hd
theorem nontD_is : ∀ {l : List PyData}, nontD l = true → ∀ d ∈ l, d ≠ .none ∧ ∀ xs, d ≠ .tuple xs
  | [], _, d, h => nomatch h
  | a :: l, h, d, hd => by
    have key : (a ≠ .none ∧ ∀ xs, a ≠ .tuple xs) ∧ nontD l = true := by
      cases a with
      | none => cases h
      | tuple xs => cases h
      | bool b => exact ⟨⟨(fun z => nomatch z), fun _ z => nomatch z⟩, h⟩
      | int b => exact ⟨⟨(fun z => nomatch z), fun _ z => nomatch z⟩, h⟩
      | str b => exact ⟨⟨(fun z => nomatch z), fun _ z => nomatch z⟩, h⟩
      | list b => exact ⟨⟨(fun z => nomatch z), fun _ z => nomatch z⟩, h⟩
      | dict b => exact ⟨⟨(fun z => nomatch z), fun _ z => nomatch z⟩, h⟩
    rcases List.mem_cons.mp hd with rfl | hd
    · exact key.1
    · exact nontD_is key.2 d hd
theorem depthsD_is : ∀ {l : List PyData}, depthsD l = true → ∀ d ∈ l, d.depth ≤ 100
  | [], _, d, h => nomatch h
  | a :: l, h, d, hd => by
    unfold depthsD at h
    split at h
    · rename_i h1
      rcases List.mem_cons.mp hd with rfl | hd
      · exact Nat.le_of_ble_eq_true h1
      · exact depthsD_is h d hd
    · cases h
def sortOk (ds : List PyData) : Bool := alikeP ds ds && (tupsD ds || nontD ds) && depthsD ds && okLen ds
/-! ### what is walked -/
def itemsS (h : EH) (v : EV) : Option (List EV) := match v with
  | .dct _ ks _ => some ks
  | .ref n => match getH h n with
    | some (.lst xs) => some xs
    | some (.dic _ ks _) => some ks
    | some (.mix _ ks _) => some ks
    | _ => none
  | v => seqItems h v
def zipD : List EV → Option (List (PyData × EV))
  | [] => some []
  | x :: xs => match toPD x, zipD xs with
    | some d, some ds => some ((d, x) :: ds)
    | _, _ => none
def mapD {α β : Type} (f : α → β) : List α → List β
  | [] => []
  | x :: xs => f x :: mapD f xs
theorem mapD_eq {α β : Type} (f : α → β) : ∀ xs : List α, mapD f xs = xs.map f
  | [] => rfl
  | x :: xs => by rw [mapD, mapD_eq f xs]; rfl
def sortE (xs : List EV) : Option (List EV) := match zipD xs with
  | some ds => match sortOk (mapD (·.1) ds) with
    | true => some (mapD (·.2) (sortD ds))
    | false => none
  | none => none
def bSorted (own : Bool) : List EV → EH → (EV → EH → Bool) → Bool := fun vs h k => match vs with
  | [v] => match itemsS h v with
    | some xs => match sortE xs with
      | some ys => match own with
        | true => newH h (.lst ys) k
        | false => k (.lst ys) h
      | none => false
    | none => false
  | _ => false
section
variable {G : Cn} {X : Cx} {ρ : Rho} {h : EH} {H : Hp} {L : Nat}
theorem rvs_keys : ∀ {vs : List EV} {ks : List Key}, ofs kOf vs = some ks → RVs G ρ L H vs (ks.map kV)
  | [], ks, e => by simp only [ofs, Option.some.injEq] at e; subst e; exact RVs.nil
  | v :: vs, ks, e => by
    obtain ⟨k, l, rfl, e1, e2⟩ := ofs_cons e
    refine RVs.cons ?_ (rvs_keys e2)
    cases v with
    | int i => simp only [kOf, Option.some.injEq] at e1; subst e1; unfold RV; rfl
    | str x => simp only [kOf, Option.some.injEq] at e1; subst e1; unfold RV; rfl
    | _ => simp [kOf] at e1
theorem rvs_tups : ∀ {vs : List EV} {ks : List (List Key)} {kvs : List (List Key × V)} {bs : List Addr}, ofs tOf vs = some ks → kvs.map (·.1) = ks → IsKeys H kvs bs → RVs G ρ L H vs (bs.map V.ref)
  | [], ks, kvs, bs, e, em, ik => by
    simp only [ofs, Option.some.injEq] at e
    subst e
    have : kvs = [] := by simpa using em
    subst this
    cases ik
    exact RVs.nil
  | v :: vs, ks, kvs, bs, e, em, ik => by
    obtain ⟨k, l, rfl, e1, e2⟩ := ofs_cons e
    cases kvs with
    | nil => simp at em
    | cons p kvs =>
      simp only [List.map_cons, List.cons.injEq] at em
      obtain ⟨em1, em2⟩ := em
      cases ik with
      | cons h1 h2 =>
        refine RVs.cons ?_ (rvs_tups e2 em2 h2)
        cases v with
        | tup xs =>
          simp only [tOf] at e1
          unfold RV
          exact ⟨_, _, rfl, h1, by rw [em1]; exact rvs_keys e1⟩
        | _ => simp [tOf] at e1
/-- the three parts of each item -/
theorem zipD_is : ∀ {xs : List EV} {ds : List (PyData × EV)} {ys : List V}, zipD xs = some ds → RVs G ρ L H xs ys → ∃ ts : List (PyData × EV × V), ds = ts.map (fun t => (t.1, t.2.1)) ∧ ys = ts.map (fun t => t.2.2) ∧ ∀ t ∈ ts, RV G ρ L H t.2.1 t.2.2 ∧ Dp G.K H t.2.2 t.1
  | [], ds, ys, e, r => by
    simp only [zipD, Option.some.injEq] at e
    subst e
    unfold RVs at r
    subst r
    exact ⟨[], rfl, rfl, fun t ht => nomatch ht⟩
  | x :: xs, ds, ys, e, r => by
    unfold RVs at r
    obtain ⟨z, zs, rfl, r1, r2⟩ := r
    simp only [zipD] at e
    split at e
    · rename_i d l e1 e2
      cases e
      obtain ⟨ts, h1, h2, h3⟩ := zipD_is e2 r2
      refine ⟨(d, x, z) :: ts, by rw [h1]; rfl, by rw [h2]; rfl, fun t ht => ?_⟩
      rcases List.mem_cons.mp ht with rfl | ht
      · exact ⟨r1, dp_of x d z e1 r1⟩
      · exact h3 t ht
    · cases e
theorem rvs_of : ∀ {ts : List (PyData × EV × V)}, (∀ t ∈ ts, RV G ρ L H t.2.1 t.2.2) → RVs G ρ L H (ts.map fun t => t.2.1) (ts.map fun t => t.2.2)
  | [], _ => RVs.nil
  | t :: ts, h => RVs.cons (h t List.mem_cons_self) (rvs_of fun u hu => h u (List.mem_cons_of_mem _ hu))
theorem sortE_is {xs zs : List EV} {ys : List V} (e : sortE xs = some zs) (r : RVs G ρ L H xs ys) : ∃ bs, Srt G.K H ys bs ∧ RVs G ρ L H zs ((bs.mergeSort (W.dataLe false (·.2))).map (·.1)) := by
  unfold sortE at e
  split at e
  · rename_i ds ez
    split at e
    · rename_i ok
      cases e
      obtain ⟨ts, rfl, rfl, ht⟩ := zipD_is ez r
      unfold sortOk at ok
      simp only [Bool.and_eq_true, Bool.or_eq_true] at ok
      obtain ⟨⟨⟨o1, o2⟩, o3⟩, o4⟩ := ok
      rw [mapD_eq, List.map_map] at o1 o2 o3 o4
      have ol := okLen_is o4
      rw [List.length_map] at ol
      have m2 : ((ts.map fun t => (t.2.2, t.1)).map (·.2)) = ts.map (fun t => t.1) := by rw [List.map_map]; rfl
      have o1 := alikeP_is (all := ts.map fun t => t.1) (l := ts.map fun t => t.1) o1
      have o3 := depthsD_is (l := ts.map fun t => t.1) o3
      refine ⟨ts.map fun t => (t.2.2, t.1), ⟨by rw [List.map_map]; rfl, fun b hb => ?_, fun d hd e he => ?_, ?_, by rw [List.length_map, sizeLine_eq]; omega, fun b hb => ?_⟩, ?_⟩
      · obtain ⟨t, h1, rfl⟩ := List.mem_map.mp hb
        exact (ht t h1).2
      · rw [m2] at hd he
        exact o1 d hd e he
      · rw [m2]
        rcases o2 with o2 | o2
        · exact .inl (tupsD_is o2)
        · exact .inr (nontD_is o2)
      · obtain ⟨t, h1, rfl⟩ := List.mem_map.mp hb
        exact o3 _ (List.mem_map.mpr ⟨t, h1, rfl⟩)
      · rw [mapD_eq, sortD_eq]
        have s1 := W.sort_maps (r := W.dataLe false (fun t : PyData × EV × V => t.1)) (s := leD) (fun t : PyData × EV × V => (t.1, t.2.1)) (l := ts) (fun _ _ _ _ => rfl)
        have s2 := W.sort_maps (r := W.dataLe false (fun t : PyData × EV × V => t.1)) (s := W.dataLe false (fun b : V × PyData => b.2)) (fun t : PyData × EV × V => (t.2.2, t.1)) (l := ts) (fun _ _ _ _ => rfl)
        rw [← s1, ← s2, List.map_map, List.map_map]
        exact rvs_of fun t hm => (ht t ((List.mergeSort_perm ts _).mem_iff.mp hm)).1
    · cases e
  · cases e
theorem nkeysLen : ∀ {vs : List EV} {kk : List NK}, nkeys vs = some kk → vs.length = kk.length
  | [], kk, h => by simp only [nkeys, Option.some.injEq] at h; subst h; rfl
  | v :: vs, kk, h => by
    simp only [nkeys] at h
    split at h
    · rename_i d ds e1 e2
      cases h
      simp [nkeysLen e2]
    · cases h
theorem itemsS_is {v : EV} {x : V} {xs : List EV} {P : List V → Prop} (S : Sim G ρ h H) (r : RV G ρ h.length H v x) (e : itemsS h v = some xs) (hP : ∀ ys, RVs G ρ h.length H xs ys → P ys) : HasIts G.K G.w H x P := by
  have seq : ∀ {v : EV}, RV G ρ h.length H v x → seqItems h v = some xs → HasIts G.K G.w H x P := fun {v} r e => by
    obtain ⟨a, ys, rfl, q, rr⟩ := seqItems_is S r e
    exact .inl ⟨a, ys, rfl, q, hP ys rr⟩
  have dic : ∀ {t : Bool} {ks : List EV} {a : Addr} {ys : List V}, ks = xs → DRr H t ks a ys → x = .ref a → HasIts G.K G.w H x P := fun {t ks a ys} ek d ex => by
    subst ek ex
    cases t with
    | false =>
      obtain ⟨kl, e1, e2, e3⟩ := d
      refine .inr (.inr (.inl ⟨a, _, rfl, e3, hP _ ?_⟩))
      have : ((kl.zip ys).map fun kv => kV kv.1) = kl.map kV := by
        have : ((kl.zip ys).map (·.1)).map kV = kl.map kV := by rw [List.map_fst_zip (by omega)]
        rw [← this, List.map_map]; rfl
      rw [this]
      exact rvs_keys e1
    | true =>
      obtain ⟨kl, e1, e2, e3⟩ := d
      refine .inr (.inl ⟨a, _, rfl, e3, fun bs ik => hP _ (rvs_tups e1 (by rw [List.map_fst_zip (by omega)]) ik)⟩)
  unfold itemsS at e
  split at e
  · cases e
    unfold RV at r
    obtain ⟨a, ys, ex, _, _, d⟩ := r
    exact dic rfl d ex
  · rename_i n
    have r0 := r
    unfold RV at r
    obtain ⟨hn, ex⟩ := r
    rw [getH_eq] at e
    split at e
    · rename_i l e1
      cases e
      exact seq r0 (by simp only [seqItems, getH_eq, e1])
    · rename_i t ks vs e1
      cases e
      obtain ⟨ys, _, d⟩ := S.obj n _ e1
      exact dic rfl d.rd ex
    · rename_i lk ks vs e1
      cases e
      obtain ⟨nks, kys, ys, h1, h2, h3, h4, h5, e⟩ := S.obj n _ e1
      have l1 : nks.length = kys.length := by rw [← nkeysLen h1, ← h3.length]
      have l2 : kys.length = ys.length := by rw [← h3.length, ← h4.length, h5]
      subst ex
      refine .inr (.inr (.inr ⟨ρ n, nks.zip (kys.zip ys), rfl, ?_, hP _ ?_⟩))
      · cases lk with
        | false => exact .inl e
        | true => exact .inr e
      · have : ((nks.zip (kys.zip ys)).map fun p : NV => p.2.1) = kys := by
          have e1 : (nks.zip (kys.zip ys)).map (·.2) = kys.zip ys := List.map_snd_zip (by rw [List.length_zip]; omega)
          have e2 : (kys.zip ys).map (·.1) = kys := List.map_fst_zip (by omega)
          have e3 : (nks.zip (kys.zip ys)).map (fun p : NV => p.2.1) = ((nks.zip (kys.zip ys)).map (·.2)).map (·.1) := by rw [List.map_map]; rfl
          rw [e3, e1, e2]
        rw [this]
        exact h3
    · cases e
  · exact seq r e
theorem c_sorted (g : Gd G X) : CallR X (.builtin "sorted") (rSorted G.K G.w) := by
  rw [← g.k, ← g.w]; exact cr_sorted g.c (by have := g.u; omega)
theorem b_sorted (own : Bool) : CallS G (bSorted own) (rSorted G.K G.w) := by
  intro ρ h H vs xs k Q S r z af
  unfold bSorted at z
  split at z
  · obtain ⟨x, rfl, rx⟩ := one r
    split at z
    · rename_i ls e1
      split at z
      · rename_i zs e2
        refine ⟨x, rfl, itemsS_is S rx e1 fun ys rr => ?_⟩
        obtain ⟨bs, S2, r2⟩ := sortE_is e2 rr
        refine ⟨bs, S2, fun D hD => ?_⟩
        cases own with
        | true => exact af _ _ _ _ _ z (new_lst S hD r2) rv_new'
        | false => exact af _ h ρ _ _ z (Post.temp S hD) (rv_lst S hD r2)
      · cases z
    · cases z
  · cases z
end
end Eg

set_option autoImplicit false
set_option maxRecDepth 100000
set_option maxHeartbeats 1000000
/-! E18: sorted(xs, key=f), f a def that may do what a def does. -/
namespace Eg
open PySem PySem.Spec L2 PySem.W PySem.Calls
open PyProof.Rows (seqObj ksk_rest ksk_fold ksk_tree)
section
variable {X : Cx} {pins : List (Addr × Obj)} {σ : L2.St} {H : Hp} {s : Shared} {k : Nat} {fn : Addr} {fd : FuncData} {ps : List Str} {sp : Sp}
/-- a callee, under a built-in -/
theorem run_in {A : Around} {E : Value → Shared → Prop} {Q : VK} {us : List Value} {vs : List V} (F : FnG X.prog X.w X.K X.mg X.base k fn fd ps sp) (gd : A.guards = some []) (room : Room k A) (hb : L2.Binds X.K fd ps []) (fr : A.frames = X.A.frames)
    (I : Inv X pins σ H s) (rel : Vals vs us) (wish : sp vs H Q XN) : wpAny (model X.prog X.w) A (call (.ref fn) us) (EP X pins σ Q) E s := by
  have hl : (us ++ []).length = ps.length := by rw [List.append_nil, ← rel.length]; exact F.len _ _ _ _ wish
  have bt := hb s us I.kIn hl
  rw [List.append_nil] at bt
  have e0 := I.env0
  have e1 : Env0 X.prog X.w X.K X.mg X.base A X.stack s H := ⟨fr.trans e0.frames, e0.mod, e0.bs, e0.bsz, e0.funs, e0.frf, e0.hok, e0.bare⟩
  refine wpAny_call (codeAny_mono (F.run A X.stack s H ⟨us, []⟩ us vs Q XN room gd e1 bt rel wish) fun r s' hq => ?_)
  match r, hq with
  | .ok (.ret u), hq => exact I.after hq
  | .ok .next, hq => exact False.elim hq
  | .ok .brk, hq => exact False.elim hq
  | .ok .cont, hq => exact False.elim hq
  | .error er, hq => exact False.elim hq
/-- what a sort by keys asks: acc: item, key, the key's data -/
structure SortK (K : Frag) (sp : Sp) (ys : List V) (H : Hp) (Q : VK) (W : List (V × V × PyData) → Hp → Prop) : Prop where
  start : W [] H
  turn : ∀ acc H' y, W acc H' → ys[acc.length]? = some y → sp [y] H' (fun kv H'' => ∃ d, W (acc ++ [(y, kv, d)]) H'') XN
  fin : ∀ acc H', W acc H' → acc.map (·.1) = ys → (∀ t ∈ acc, Dp K H' t.2.1 t.2.2) ∧ AllAlike (acc.map (·.2.2)) ∧ Sortable (acc.map (·.2.2)) ∧ acc.length ≤ sizeLine ∧ (∀ t ∈ acc, t.2.2.depth ≤ 100) ∧
    ∀ D, H' D = none → Q (.ref D) (upd H' D (.lst ((acc.mergeSort (dataLe false (·.2.2))).map (·.1))))
/-- what stays true of an object that may turn -/
def FpS (X : Cx) (pins : List (Addr × Obj)) (b : Addr) : Prop := b ≠ X.env.locals ∧ b ∉ X.fs ∧ (b ∈ X.ex ∨ X.s_0.heap.objs.size ≤ b) ∧ (∀ x c, X.env.cells.lookup x = some c → c ≠ b) ∧ ∀ p ∈ X.pn ++ pins, p.1 ≠ b
theorem FpS.ok {b : Addr} (f : FpS X pins b) (n : H b = none) : FpOk X pins H b := ⟨n, f⟩
def acc3 (acc : List (V × V × PyData)) (us : List Value) : Prop := Vals (acc.map (·.2.1)) us
theorem vals_snoc : ∀ {xs : List V} {us : List Value} {x : V} {u : Value}, Vals xs us → RelV x u → Vals (xs ++ [x]) (us ++ [u])
  | [], _, x, u, .nil, r => .cons r .nil
  | _ :: _, _, x, u, .cons h t, r => .cons h (vals_snoc t r)
theorem each_reads (I : Inv X pins σ H s) : ∀ {acc : List (V × V × PyData)} {us : List Value}, Vals (acc.map (·.2.1)) us → (∀ t ∈ acc, Dp X.K H t.2.1 t.2.2) → EachIs (fun v d => ∃ as, Reads s.heap v d as) us (acc.map (·.2.2))
  | [], _, .nil, _ => .nil
  | t :: acc, _, .cons h r, dp => .cons (Dp.reads I t.2.2 t.2.1 _ (dp t List.mem_cons_self) h) (each_reads I r fun u hu => dp u (List.mem_cons_of_mem _ hu))
theorem each_items : ∀ {acc : List (V × V × PyData)} {us : List Value}, Vals (acc.map (·.1)) us → EachIs (fun v t => RelV (Prod.fst t) v) us acc
  | [], _, .nil => .nil
  | t :: acc, _, .cons h r => .cons h (each_items r)
theorem vals_items : ∀ {acc : List (V × V × PyData)} {us : List Value}, EachIs (fun v t => RelV (Prod.fst t) v) us acc → Vals (acc.map (·.1)) us
  | [], _, .nil => .nil
  | t :: acc, _, .cons h r => .cons h (vals_items r)
/-- list.sort(key=f) of a new list D, from the copy of its items on -/
theorem keys_ok {A : Around} {D kS : Addr} {e1 : Nat} {vs : List Value} {ys : List V} {Q : VK} {W : List (V × V × PyData) → Hp → Prop} {E : Value → Shared → Prop} (F : FnG X.prog X.w X.K X.mg X.base k fn fd ps sp) (gd : A.guards = some []) (room : Room k A) (hb : L2.Binds X.K fd ps [])
    (fr : A.frames = X.A.frames) (hu : A.units + 101 < cLine) (I : Inv X pins σ H s) (fD : FpS X pins D) (fK : FpS X pins kS) (nD : H D = none) (nK : H kS = none) (hne : kS ≠ D) (atD : s.heap.get? D = some (seqObj "list" #[] e1)) (atK : s.heap.get? kS = some (seqObj "list" #[] 0))
    (rv : Vals ys vs) (hz : vs.length ≤ sizeLine) (S : SortK X.K sp ys H Q W) :
    wpAny (model X.prog X.w) A (ksk_rest D (.ref fn) false vs.toArray e1 (.ref kS)) (fun f s' => f = .done (.ret .none) ∧ EP X pins σ Q (.ref D) s') E s := by
  unfold ksk_rest
  refine wpAny_bind (wpAny_rule ?_)
  first
    | rw [List.forIn_toArray]
    | (rw [← Array.forIn_toList]; simp only [List.toList_toArray])
    | rw [← Array.forIn_toList]
  let J : Nat → Shared → Prop := fun i s' => ∃ H' acc kA e, Inv X pins σ H' s' ∧ H' D = none ∧ H' kS = none ∧ s'.heap.get? kS = some (seqObj "list" kA e) ∧ s'.heap.get? D = some (seqObj "list" #[] e1) ∧ acc.length = i ∧ acc.map (·.1) = ys.take i ∧ W acc H' ∧ Vals (acc.map (·.2.1)) kA.toList
  refine wpAny_bind (ksk_fold J vs 0 s ⟨H, [], #[], 0, I, nD, nK, atK, atD, rfl, rfl, S.start, .nil⟩ ?step ?done)
  case step =>
    rintro j x s' hx ⟨H', acc, kA, e, I', nD', nK', atK', atD', la, ea, w, rk⟩
    simp only [Nat.zero_add] at la ea ⊢
    have hj : j < vs.length := (List.getElem?_eq_some_iff.mp hx).1
    have ly := rv.length
    obtain ⟨y, hy⟩ : ∃ y, ys[j]? = some y := ⟨_, List.getElem?_eq_getElem (by omega)⟩
    obtain ⟨x', hx', ry⟩ := rv.get hy
    rw [hx] at hx'
    cases hx'
    have lk : kA.size = j := by
      have h8 := rk.length
      rw [List.length_map] at h8
      have h9 : kA.toList.length = kA.size := Array.length_toList
      omega
    have both : ∀ b ∈ [D, kS], FpOk X pins H' b := fun b hbm => by
      rcases List.mem_cons.mp hbm with rfl | hbm
      · exact fD.ok nD'
      · rw [List.mem_singleton.mp hbm]; exact fK.ok nK'
    have Ip := I'.pinned both fun b hbm => by
      rcases List.mem_cons.mp hbm with rfl | hbm
      · exact ⟨_, atD', fun v z => nomatch z⟩
      · rw [List.mem_singleton.mp hbm]; exact ⟨_, atK', fun v z => nomatch z⟩
    have wish := S.turn acc H' y w (by rw [la]; exact hy)
    refine wpAny_bind (wpAny_attempt (wpAny_mono (run_in (us := [x]) (vs := [y]) F gd room hb fr Ip (.cons ry .nil) wish) (fun kv s2 ⟨z, H2, I2, rz, d, w2⟩ => ?_) fun _ _ z => z))
    have pD := I2.pin (D, seqObj "list" #[] e1) (List.mem_append_right _ (List.mem_append_right _ (mem_pinsAt (by simp) atD')))
    have pK := I2.pin (kS, seqObj "list" kA e) (List.mem_append_right _ (List.mem_append_right _ (mem_pinsAt (by simp) atK')))
    have I3 := I2.unpinned
    try dsimp only
    have ch := Heap.SameBut.update s2.heap kS (Obj.mapSeq (·.push kv))
    obtain ⟨c2, hc2⟩ : ∃ c2, (s2.heap.update kS (Obj.mapSeq (·.push kv))).get? kS = some (seqObj "list" (kA.push kv) c2) := ⟨_, PyProof.Rows.get?_update_seq pK.1 (·.push kv)⟩
    refine wpAny_bind (PyProof.Rows.listUpdate_at pK.1 rfl ?_ (by omega) (by rw [Array.size_push]; omega))
    refine wpAny_pure ⟨rfl, H2, acc ++ [(y, z, d)], kA.push kv, c2, ?_, pD.2.1, pK.2.1, hc2, (ch.2 D hne.symm).trans pD.1, by simp [la], ?_, w2, ?_⟩
    · exact I3.turned (t' := s2.toks) (it := kS) (fun b o hb eb => (ch.2 b hb).trans eb) pK.2.1 fK.1 fK.2.2.1 fK.2.2.2.1 fK.2.2.2.2
    · rw [List.map_append, ea, List.take_add_one, hy]; rfl
    · rw [List.map_append, Array.toList_push]
      exact vals_snoc rk rz
  case done =>
    rintro s' ⟨H', acc, kA, e, I', nD', nK', atK', atD', la, ea, w, rk⟩
    simp only [Nat.zero_add] at la ea
    have ly := rv.length
    rw [List.take_of_length_le (by omega)] at ea
    obtain ⟨dp, al, so, len, dep, q⟩ := S.fin acc H' w ea
    have lk : kA.size = vs.length := by
      have h8 := rk.length
      rw [List.length_map] at h8
      have h9 : kA.toList.length = kA.size := Array.length_toList
      omega
    try dsimp only
    refine wpAny_bind (PyProof.Rows.listItems_at atK' rfl ?_)
    have er := each_reads I' rk dp
    have hid : (hidT s'.heap fun b => if b = kS then some (.lst []) else none).get? kS = none := by
      cases h9 : (hidT s'.heap fun b => if b = kS then some (.lst []) else none).get? kS with
      | none => rfl
      | some o =>
        have := (of_hidT h9).2
        rw [if_pos rfl] at this
        cases this
    have ei : EachIs (fun v t => RelV (Prod.fst t) v) vs acc := each_items (by rw [ea]; exact rv)
    refine keyH_end (κ := dataKind s'.heap (acc.map (·.2.2))) (h₁ := hidT s'.heap fun b => if b = kS then some (.lst []) else none) (fun b o _ eb => (of_hidT eb).1) hid atK' atD' hne
      (SortsAt.data (s := s') er al so (fun d hd => by
        obtain ⟨t, ht, rfl⟩ := List.mem_map.mp hd
        have := dep t ht
        omega)) lk hz fun h3 tk3 c k3 n3 => ⟨rfl, ?_⟩
    have ko : KeyedOut false (acc.map (·.2.2)) vs (sortVals (dataKind s'.heap (acc.map (·.2.2))) false kA.toList vs) := ⟨s'.heap, kA.toList, al, rfl, er⟩
    have eo := keyedOut_each (R := fun v (t : V × V × PyData) => RelV (Prod.fst t) v) (fun t : V × V × PyData => t.2.2) ko ei
    have kept : ∀ b o, b ∉ [D, kS] → s'.heap.get? b = some o → h3.get? b = some o := fun b o hbm eb => by
      simp only [List.mem_cons, List.not_mem_nil, or_false, not_or] at hbm
      exact k3 b o hbm.1 (hidT_get eb (if_neg hbm.2))
    have J2 : Inv X pins σ H' { s' with heap := h3, toks := tk3 } := I'.turnedL (t' := tk3) (ch := [D, kS]) kept fun b hbm => by
      rcases List.mem_cons.mp hbm with rfl | hbm
      · exact fD.ok nD'
      · rw [List.mem_singleton.mp hbm]; exact fK.ok nK'
    have vo := vals_items eo
    have J3 := J2.take (h' := h3) (t' := tk3) (fun b ob _ eb => eb) (fD.ok nD') (o := .lst ((acc.mergeSort (dataLe false (·.2.2))).map (·.1))) ⟨by rw [List.length_map, List.length_mergeSort]; exact len, _, c, vo, n3⟩
    exact ⟨.ref D, _, J3, rfl, q D nD'⟩
/-- sorted(xs, key=f) -/
theorem cr_sortedK (g : Room (k + 2) X.A) (g1 : X.calm = true) (gd : X.A.guards = some []) (F : FnG X.prog X.w X.K X.mg X.base k fn fd ps sp) (hb : L2.Binds X.K fd ps []) :
    CallRK X (.builtin "sorted") [Str.ofString "key"] (fun xs zs H Q => ∃ x, xs = [x] ∧ zs = [V.ref fn] ∧ HasIts X.K X.w H x fun ys => ∃ W, SortK X.K sp ys H Q W) := by
  intro pins s σ H xs zs us ws Q I r rz ⟨x, ex, ez, hx⟩
  subst ex ez
  obtain ⟨u, rfl, ru⟩ := r.one
  obtain ⟨w, rfl, rw'⟩ := rz.one
  cases (show w = Value.ref fn from rw')
  refine sorted_gen (v := u) (kw := [(Str.ofString "key", .ref fn)]) (PyProof.Rows.ksk_s1 _ _) (wpAny_mono (collect_its (I.ok.hd g1) I ru hx) (fun vs s1 ⟨hz, ys, h', tk, ⟨W, S⟩, rv, kp, e⟩ => ⟨hz, h', tk, e, ?_⟩) fun _ _ z => z)
  have I1 : Inv X pins σ H { s with heap := h', toks := tk } := I.kept kp
  have nD : H h'.objs.size = none := I1.hok.fresh (Nat.le_refl _)
  have fD : FpS X pins h'.objs.size := (I1.fpOk (Nat.le_refl _) nD).2
  have at0 : (h'.push (seqObj "list" vs.toArray 0)).get? h'.objs.size = some (seqObj "list" vs.toArray 0) := Heap.get?_push_size _ rfl
  have I2 : Inv X pins σ H { s with heap := h'.push (seqObj "list" vs.toArray 0), toks := tk } := I1.kept (t' := tk) fun b o eb => Heap.get?_push_of_some _ eb
  show wpAny (model X.prog X.w) X.A.in1 (call (.builtin "list.sort") [.ref h'.objs.size] [(Str.ofString "key", .ref fn)]) _ _ _
  refine PyProof.Rows.wpAny_call_entry_kw PyProof.Rows.slot_list_sort ⟨_, at0, rfl⟩ PyProof.Rows.entry_list_sort ?_ (PyProof.Rows.ksk_l1 _ _)
  rw [PyProof.Rows.ksk_t1]
  obtain ⟨e1, at1⟩ : ∃ e1, ((h'.push (seqObj "list" vs.toArray 0)).update h'.objs.size (Obj.mapSeq fun _ => (#[] : Array Value))).get? h'.objs.size = some (seqObj "list" #[] e1) := ⟨_, PyProof.Rows.get?_update_seq at0 fun _ => #[]⟩
  have ch := Heap.SameBut.update (h'.push (seqObj "list" vs.toArray 0)) h'.objs.size (Obj.mapSeq fun _ => (#[] : Array Value))
  have I3 : Inv X pins σ H { s with heap := (h'.push (seqObj "list" vs.toArray 0)).update h'.objs.size (Obj.mapSeq fun _ => (#[] : Array Value)), toks := tk } :=
    Inv.turned (s := { s with heap := h'.push (seqObj "list" vs.toArray 0), toks := tk }) (t' := tk) (it := h'.objs.size) I2 (fun b o hb eb => (ch.2 b hb).trans eb) nD fD.1 fD.2.2.1 fD.2.2.2.1 fD.2.2.2.2
  have hzA : vs.toArray.size ≤ sizeLine := by rw [List.size_toArray]; exact hz
  unfold ksk_tree
  refine wpAny_bind (PyProof.Rows.listItems_at at0 rfl ?_)
  refine wpAny_bind (PyProof.Rows.listUpdate_at at0 rfl ?_ hzA (Nat.zero_le _))
  refine wpAny_bind (PyProof.Rows.seqEpoch_at at1 rfl ?_)
  refine wpAny_bind (wpAny_newTuple ?_ (by show vs.length ≤ _; exact hz))
  refine wpAny_bind (wpAny_newList ?_ (Nat.zero_le _))
  have I4 := I3.kept (t' := tk) (h' := ((h'.push (seqObj "list" vs.toArray 0)).update h'.objs.size (Obj.mapSeq fun _ => (#[] : Array Value))).push (seqObj "tuple" vs.toArray 0)) fun b o eb => Heap.get?_push_of_some _ eb
  have nK := I4.hok.fresh (Nat.le_refl _)
  have fK : FpS X pins _ := (I4.fpOk (Nat.le_refl _) nK).2
  have I5 := I4.kept (t' := tk) (h' := (((h'.push (seqObj "list" vs.toArray 0)).update h'.objs.size (Obj.mapSeq fun _ => (#[] : Array Value))).push (seqObj "tuple" vs.toArray 0)).push (seqObj "list" #[] 0)) fun b o eb => Heap.get?_push_of_some _ eb
  have r2 : Room k X.A.in1.in1 := Room.in1 (Room.in1 g)
  have hne : (((h'.push (seqObj "list" vs.toArray 0)).update h'.objs.size (Obj.mapSeq fun _ => (#[] : Array Value))).push (seqObj "tuple" vs.toArray 0)).objs.size ≠ h'.objs.size := by
    exact Nat.ne_of_gt (Heap.lt_size (Heap.get?_push_of_some (seqObj "tuple" vs.toArray 0) at1))
  refine wpAny_holding (wpAny_mono (keys_ok (A := X.A.in1.in1) F gd r2 hb rfl (by have := r2.un; omega) I5 fD fK nD nK hne (Heap.get?_push_of_some _ (Heap.get?_push_of_some _ at1)) (Heap.get?_push_size _ rfl) rv hz S) (fun f s' ⟨ef, ep⟩ => ?_) fun _ _ z => z)
  exact ⟨.none, ef, ep⟩
end
end Eg

set_option autoImplicit false
set_option maxRecDepth 100000
set_option maxHeartbeats 1000000
/-! E19: sorted(xs, key=f), in the engine. -/
namespace Eg
open PySem PySem.Spec L2

def kKeys (F : KF) : List EV → EH → (List EV → EH → Bool) → Bool
  | [], h, k => k [] h
  | x :: xs, h, k => F [x] h fun kv h => kKeys F xs h fun ks h => k (kv :: ks) h
def zipK : List EV → List EV → Option (List (PyData × EV))
  | [], [] => some []
  | k :: ks, x :: xs => match toPD k, zipK ks xs with
    | some d, some ds => some ((d, x) :: ds)
    | _, _ => none
  | _, _ => none
def sortKE (ks xs : List EV) : Option (List EV) := match zipK ks xs with
  | some ds => match sortOk (mapD (·.1) ds) with
    | true => some (mapD (·.2) (sortD ds))
    | false => none
  | none => none
def sortKEnd (own : Bool) (xs : List EV) (k : EV → EH → Bool) : List EV → EH → Bool := fun ks h => match sortKE ks xs with
  | some ys => match own with
    | true => newH h (.lst ys) k
    | false => k (.lst ys) h
  | none => false
def kSortK (own : Bool) (F : KF) (f : KE) : KE := fun s h k => f s h fun v h => match itemsS h v with
  | some xs => kKeys F xs h (sortKEnd own xs k)
  | none => false
section
variable {G : Cn} {X : Cx} {ρ : Rho} {h : EH} {H : Hp} {L : Nat}
variable {e : Expr} {f : KE} {F : KF} {p pos kp kpos : Pos} {x : Str} {j k : Nat} {ps : List Str}
def dOf (v : EV) : PyData := match toPD v with
  | some d => d
  | none => .none
theorem zipK_is : ∀ {ks xs : List EV} {ds : List (PyData × EV)} {acc : List (V × V × PyData)}, zipK ks xs = some ds → RVs G ρ L H xs (acc.map (·.1)) → RVs G ρ L H ks (acc.map (·.2.1)) → acc.map (·.2.2) = ks.map dOf →
    ∃ ts : List (EV × V × V × PyData), ts.map (fun t => (t.2.2.2, t.1)) = ds ∧ ts.map (·.2) = acc ∧ ∀ t ∈ ts, RV G ρ L H t.1 t.2.1 ∧ Dp G.K H t.2.2.1 t.2.2.2
  | [], [], ds, acc, e, r1, r2, e3 => by
    simp only [zipK, Option.some.injEq] at e
    subst e
    have : acc = [] := by simpa using e3
    subst this
    exact ⟨[], rfl, rfl, fun t ht => nomatch ht⟩
  | k :: ks, [], ds, acc, e, r1, r2, e3 => by simp [zipK] at e
  | [], x :: xs, ds, acc, e, r1, r2, e3 => by simp [zipK] at e
  | k :: ks, x :: xs, ds, acc, e, r1, r2, e3 => by
    cases acc with
    | nil => simp at e3
    | cons a acc =>
      simp only [List.map_cons, List.cons.injEq] at e3
      unfold RVs at r1 r2
      obtain ⟨z, zs, e4, r11, r12⟩ := r1
      obtain ⟨y, ys, e5, r21, r22⟩ := r2
      simp only [List.map_cons, List.cons.injEq] at e4 e5
      obtain ⟨rfl, rfl⟩ := e4
      obtain ⟨rfl, rfl⟩ := e5
      simp only [zipK] at e
      split at e
      · rename_i d l ed e2
        cases e
        obtain ⟨ts, h1, h2, h3⟩ := zipK_is e2 r12 r22 e3.2
        have ea : a.2.2 = d := by rw [e3.1]; simp only [dOf, ed]
        refine ⟨(x, a) :: ts, by rw [List.map_cons, h1, ea], by rw [List.map_cons, h2], fun t ht => ?_⟩
        rcases List.mem_cons.mp ht with rfl | ht
        · exact ⟨r11, by rw [ea]; exact dp_of k d _ ed r21⟩
        · exact h3 t ht
      · cases e
theorem sortK_fin {ks xs ys : List EV} {acc : List (V × V × PyData)} (e : sortKE ks xs = some ys) (r1 : RVs G ρ L H xs (acc.map (·.1))) (r2 : RVs G ρ L H ks (acc.map (·.2.1))) (e3 : acc.map (·.2.2) = ks.map dOf) :
    (∀ t ∈ acc, Dp G.K H t.2.1 t.2.2) ∧ W.AllAlike (acc.map (·.2.2)) ∧ W.Sortable (acc.map (·.2.2)) ∧ acc.length ≤ sizeLine ∧ (∀ t ∈ acc, t.2.2.depth ≤ 100) ∧ RVs G ρ L H ys ((acc.mergeSort (W.dataLe false (·.2.2))).map (·.1)) := by
  unfold sortKE at e
  split at e
  · rename_i ds ez
    split at e
    · rename_i ok
      cases e
      obtain ⟨ts, rfl, rfl, ht⟩ := zipK_is ez r1 r2 e3
      unfold sortOk at ok
      simp only [Bool.and_eq_true, Bool.or_eq_true] at ok
      obtain ⟨⟨⟨o1, o2⟩, o3⟩, o4⟩ := ok
      rw [mapD_eq, List.map_map] at o1 o2 o3 o4
      have ol := okLen_is o4
      rw [List.length_map] at ol
      have m2 : ((ts.map (·.2)).map (·.2.2)) = ts.map (fun t => t.2.2.2) := by rw [List.map_map]; rfl
      have o1 := alikeP_is (all := ts.map fun t => t.2.2.2) (l := ts.map fun t => t.2.2.2) o1
      have o3 := depthsD_is (l := ts.map fun t => t.2.2.2) o3
      refine ⟨fun b hb => ?_, fun d hd e he => ?_, ?_, by rw [List.length_map, sizeLine_eq]; omega, fun b hb => ?_, ?_⟩
      · obtain ⟨t, h1, rfl⟩ := List.mem_map.mp hb
        exact (ht t h1).2
      · rw [m2] at hd he
        exact o1 d hd e he
      · rw [m2]
        rcases o2 with o2 | o2
        · exact .inl (tupsD_is o2)
        · exact .inr (nontD_is o2)
      · obtain ⟨t, h1, rfl⟩ := List.mem_map.mp hb
        exact o3 _ (List.mem_map.mpr ⟨t, h1, rfl⟩)
      · rw [mapD_eq, sortD_eq]
        have s1 := W.sort_maps (r := W.dataLe false (fun t : EV × V × V × PyData => t.2.2.2)) (s := leD) (fun t : EV × V × V × PyData => (t.2.2.2, t.1)) (l := ts) (fun _ _ _ _ => rfl)
        have s2 := W.sort_maps (r := W.dataLe false (fun t : EV × V × V × PyData => t.2.2.2)) (s := W.dataLe false (fun b : V × V × PyData => b.2.2)) (fun t : EV × V × V × PyData => t.2) (l := ts) (fun _ _ _ _ => rfl)
        rw [← s1, ← s2, List.map_map, List.map_map]
        have all : ∀ t ∈ ts.mergeSort (W.dataLe false (fun t : EV × V × V × PyData => t.2.2.2)), RV G ρ L H t.1 t.2.1 := fun t hm => (ht t ((List.mergeSort_perm ts _).mem_iff.mp hm)).1
        generalize ts.mergeSort (W.dataLe false (fun t : EV × V × V × PyData => t.2.2.2)) = us at all
        clear s1 s2
        induction us with
        | nil => exact RVs.nil
        | cons t us ih => exact RVs.cons (all t List.mem_cons_self) (ih fun u hu => all u (List.mem_cons_of_mem _ hu))
    · cases e
  · cases e
theorem x_sortK (own : Bool) (g : Gd G X) (hF : DfOk X.prog X.w X.mg X.base G j x ps F) (hr : Room k X.A) (hs : Gl X "sorted") (hms : X.mg "sorted" = none) (hg : Gl X x) (he : XE G X e f) (h1 : ps.length = 1 := by rfl) (hjk : j + 2 ≤ k := by exact Nat.le_of_ble_eq_true rfl)
    (hdb : (x == ("__debug__" : Str)) = false := by decide)
    (hse : backTo pos (starEach [e] X.env) = (false, eval e X.env) :: backTo pos (starEach [] X.env) := by rfl) (hpl : (backTo pos (starEach [e] X.env)).any (·.1) = false := by rfl)
    (hall : (backToKw pos (keywordEach [⟨some (Str.ofString "key"), .Name x p, kpos⟩] X.env)).all (·.1.isSome) = true := by rfl) (hnone : (backToKw pos (keywordEach [⟨some (Str.ofString "key"), .Name x p, kpos⟩] X.env)).any (·.1.isNone) = false := by rfl)
    (hks : (backToKw pos (keywordEach [⟨some (Str.ofString "key"), .Name x p, kpos⟩] X.env)).filterMap (·.1) = [Str.ofString "key"] := by rfl)
    (hst : starEach [e] X.env = (false, eval e X.env) :: starEach [] X.env := by rfl) :
    XE G X (.Call (.Name "sorted" kp) [e] [⟨some (Str.ofString "key"), .Name x p, kpos⟩] pos) (kSortK own F f) := by
  obtain ⟨fn, fd, hm, hk, hb, hF⟩ := hF
  rw [← g.k] at hk hb hF
  refine PE.imp (pe_callBK (cr_sortedK (k := j) (hr.mono hjk) g.c g.gd hF hb) hs hms (by decide +kernel) (pa_cons he pa_nil hst) (pk_cons (pe_glob (v := .ref fn) hg hm rfl hdb) pk_nil) (by decide) (by decide) hse hpl hall hnone hks) ?_
  intro σ H Q ⟨ρ, s, h, kk, S, R, z, af⟩
  refine ⟨ρ, s, h, _, S, R, z, fun v h1' ρ1 H1 y z1 p1 r1 => ?_⟩
  split at z1
  · rename_i xs e1
    refine ⟨y, rfl, rfl, ?_⟩
    rw [g.k, g.w]
    refine itemsS_is p1.sim r1 e1 fun ys rr => ?_
    refine ⟨fun acc H' => ∃ ρ' h' ks k', Post G ρ1 h1' H1 ρ' h' H' ∧ RVs G ρ' h'.length H' ks (acc.map (·.2.1)) ∧ acc.map (·.2.2) = ks.map dOf ∧ kKeys F (xs.drop acc.length) h' k' = true ∧ (∀ js h, k' js h = true → sortKEnd own xs kk (ks ++ js) h = true), ?_, ?_, ?_⟩
    · exact ⟨ρ1, h1', [], _, Post.refl p1.sim, RVs.nil, rfl, z1, fun js h q => q⟩
    · rintro acc H' y' ⟨ρ', h', ks, k', p2, rk, ed, z2, hk'⟩ hy
      have rx := p2.rvs rr
      have lx : acc.length < xs.length := by rw [rr.length]; exact (List.getElem?_eq_some_iff.mp hy).1
      have ex : xs.drop acc.length = xs[acc.length] :: xs.drop (acc.length + 1) := List.drop_eq_getElem_cons lx
      rw [ex] at z2
      obtain ⟨y2, hy2, ry⟩ := rx.get (List.getElem?_eq_getElem lx)
      rw [hy] at hy2
      cases hy2
      refine ⟨by rw [h1]; rfl, ρ', h', _, _, p2.sim, RVs.cons ry RVs.nil, z2, fun kv h3 ρ3 H3 t z3 p3 r3 => ⟨dOf kv, ρ3, h3, ks ++ [kv], _, p2.trans p3, ?_, ?_, by rw [List.length_append]; exact z3, fun js h q => ?_⟩⟩
      · rw [List.map_append]
        exact (p3.rvs rk).append (RVs.cons r3 RVs.nil)
      · rw [List.map_append, List.map_append, ed]; rfl
      · rw [List.append_assoc]
        exact hk' _ _ q
    · rintro acc H' ⟨ρ', h', ks, k', p2, rk, ed, z2, hk'⟩ em
      have rx := p2.rvs rr
      have lx : acc.length = xs.length := by
        have := congrArg List.length em
        rw [List.length_map] at this
        rw [this, rr.length]
      rw [List.drop_of_length_le (by omega)] at z2
      have z4 := hk' [] h' z2
      rw [List.append_nil] at z4
      unfold sortKEnd at z4
      split at z4
      · rename_i zs e9
        rw [← em] at rx
        obtain ⟨a1, a2, a3, a4, a5, a6⟩ := sortK_fin e9 rx rk ed
        refine ⟨a1, a2, a3, a4, a5, fun D hD => ?_⟩
        have pp := p1.trans p2
        cases own with
        | true => exact af _ _ _ _ _ z4 (pp.trans (new_lst p2.sim hD a6)) rv_new'
        | false => exact af _ h' ρ' _ _ z4 (pp.trans (Post.temp p2.sim hD)) (rv_lst p2.sim hD a6)
      · cases z4
  · cases z1
end
end Eg

set_option autoImplicit false
set_option maxRecDepth 100000
set_option maxHeartbeats 2000000
/-! E20: enumerate of a tuple; the signs of a text; chained comparisons. -/
namespace Eg
open PySem PySem.Spec L2

theorem meets_enum1 {v : Value} {o : Obj} {H : Heap → Prop} (B : Begins v o H) :
    Meets (Builtin.«enumerate.__new__» ⟨[.type "enumerate", v], []⟩) (fun _ R s => H s.heap ∧
      R (.ok (.ret (.ref (s.heap.push o).objs.size))) { s with heap := (s.heap.push o).push { cls := .type "enumerate", data := .fields #[.none, .bool false, .ref s.heap.objs.size, rawInt 0, .none, .none] } }) :=
  .of_wp fun prog w A R s h => by
    obtain ⟨hp, g, d, tk, os⟩ := s
    obtain ⟨h1, h⟩ := h
    have hsub := sub_enumerate
    have go : ∀ {A' : Around} {E : Value → Shared → Prop} {Q : Value → Shared → Prop}, Q (.ref hp.objs.size) ⟨hp.push o, g, d, tk, os⟩ → wpAny (model prog w) A' (pyIter v) Q E ⟨hp, g, d, tk, os⟩ :=
      fun q => B.iter prog w _ _ ⟨hp, g, d, tk, os⟩ _ h1 q
    wp_walk using go
    refine wpAny_stack_any fun st => wpAny_pure ?_
    split
    · rename_i c _ _ _ _ _
      cases (c == Value.type "enumerate")
      · wp_walk using go
        exact ⟨_, rfl, h⟩
      · wp_walk using go
        exact ⟨_, rfl, h⟩
    · wp_walk using go
      exact ⟨_, rfl, h⟩
/-- enumerate(t), t a tuple -/
def IteT (K : PySem.W.Frag) (a : Addr) : It :=
  ⟨fun i H => ∃ (xs : List V) (x : V), SqT K H a xs ∧ xs[i]? = some x, fun i H v H' => ∃ T x, v = .ref T ∧ H T = none ∧ H' = upd H T (.tup [.int (i : Nat), x]) ∧ ∀ xs, SqT K H a xs → xs[i]? = some x, fun i H => ∃ xs : List V, SqT K H a xs ∧ xs.length ≤ i⟩
theorem turn_enumT {P : Program} {w : World} {K : PySem.W.Frag} {elts : List Expr} {kk : Nat} {tpos : Pos} (a en it : Addr) (hai : a ≠ it) (hae : a ≠ en) :
    Turn P w K (.Tuple elts kk tpos) (IteT K a) [en, it] en (fun i h => (∃ old, IsEnum h en it ((i : Nat) : Int) old) ∧ h.IsTupleIter it a i ∧ en ≠ it) where
  mem := by simp
  obj := fun i h ⟨⟨old, he⟩, ⟨o, ho, hc, hd⟩, _⟩ b hb => by
    rcases List.mem_cons.mp hb with rfl | hb
    · exact ⟨_, he, fun v q => nomatch q⟩
    · rw [List.mem_singleton.mp hb]
      exact ⟨o, ho, fun v q => by rw [hd] at q; cases q⟩
  keep := fun i h h' ⟨⟨old, he⟩, hi, hne⟩ k => ⟨⟨old, k en (by simp) _ he⟩, hi.at fun o q => k it (by simp) o q, hne⟩
  item := by
    intro X hP hw hK hc i pins s σ H E I hf st hg
    subst hP hw hK
    obtain ⟨⟨old, he⟩, hit, hne⟩ := st
    obtain ⟨xs, x, hq, hx⟩ := hg
    obtain ⟨its, rv, p, hz⟩ := I.tuple hq
    have pt : s.heap.IsTuple a its.toArray := p
    obtain ⟨u, hu, ru⟩ := rv.get hx
    have D := Draws.tuple (prog := X.prog) (w := X.w) (A := X.A.in1) (I.ok.hd hc) it a hai its.toArray
    have hi : i < its.toArray.size := by
      have := (List.getElem?_eq_some_iff.mp hu).1
      simpa using this
    have hel : en < s.heap.objs.size := Heap.lt_size he
    have hil : it < s.heap.objs.size := by obtain ⟨_, q, _⟩ := hit; exact Heap.lt_size q
    refine wpAny_pyNext_enum_itemD D he ⟨hit, pt⟩ hi hne (by simp [hne, hae.symm]) fun y h' tk hy ho st' hT hsz hk => ?_
    have hy' : y = u := by
      have h1 : its.toArray[i]? = some y := hy
      rw [List.getElem?_toArray, hu] at h1
      exact (Option.some.inj h1).symm
    subst hy'
    refine ⟨_, rfl, wpAny_letOwnedTupleGo_enum (s := { s with heap := h', toks := tk + 1 }) ho fun h2 he2 sb => ?_⟩
    have hT2 : h2.get? s.heap.objs.size = some { cls := .type "tuple", data := .seq #[.int i tk, y] } := (sb.2 _ (Nat.ne_of_gt hel)).trans hT
    have new : ObjOk X.prog X.w (upd H s.heap.objs.size (.tup [.int (i : Nat), x])) h2 s.heap.objs.size (.tup [.int (i : Nat), x]) := ⟨by show 2 ≤ sizeLine; decide, [.int i tk, y], .cons ⟨_, rfl⟩ (.cons ru .nil), ⟨_, hT2, rfl, _, rfl⟩⟩
    have I1 : Inv X pins σ (upd H s.heap.objs.size (.tup [.int (i : Nat), x])) { s with heap := h2, toks := tk + 1 } :=
      I.turnedNew (ch := [en, it]) (fun b ob hb q => (sb.2 b (fun z => hb (by simp [z]))).trans (hk b ob (fun z => hb (by simp [z])) (fun z => hb (by simp [z])) q)) hf (Nat.le_refl _) new
    refine ⟨.ref s.heap.objs.size, _, I1, rfl, ⟨_, x, rfl, I.hok.fresh (Nat.le_refl _), rfl, fun ys hy => by rw [I.tuple_inj hy hq]; exact hx⟩, ⟨⟨y, ?_⟩, st'.1.at fun o q => (sb.2 it (Ne.symm hne)).trans q, hne⟩, fun b hb => ?_⟩
    · have e1 : ((i + 1 : Nat) : Int) = (i : Int) + 1 := by omega
      rw [e1]
      exact he2
    · have lt : b < s.heap.objs.size := by
        rcases List.mem_cons.mp hb with rfl | hb
        · exact hel
        · rw [List.mem_singleton.mp hb]; exact hil
      rw [upd_ne (Nat.ne_of_lt lt)]
      exact (hf b hb).1
  done := by
    intro X hP hw hK hc i pins s σ H E I hf st hg
    subst hP hw hK
    obtain ⟨⟨old, he⟩, hit, hne⟩ := st
    obtain ⟨xs, hq, hx⟩ := hg
    obtain ⟨its, rv, p, hz⟩ := I.tuple hq
    have pt : s.heap.IsTuple a its.toArray := p
    obtain ⟨f0, f1, f2, f3, f4, f5⟩ := hf it (by simp)
    have hl := rv.length
    have hT : s.TypeIs (.ref en) "enumerate" := ⟨_, he, rfl⟩
    unfold pyNext
    refine wpAny_bind (wpAny_attempt (wpAny_callSpecial?_slot (name := Str.ofString "__next__") hT F.slot_enumerate_next (wpAny_call_entry F.slot_enumerate_next hT F.entry_enumerate_next ?_ (F.args_enumerate_next_1 _))))
    show wpAny _ _ (field (.ref en) 2 >>= _) _ _ _
    refine wpAny_bind (wpAny_field he rfl (x := .ref it) rfl ?_)
    refine wpAny_bind (wpAny_nextOf_tuple_end (show X.A.in1.handled = none from I.ok.hd hc) hit pt (by simp; omega) fun h' x he' hx' => ?_)
    obtain ⟨o, ho, hcs⟩ := hx'
    refine wpAny_bind (wpAny_isInstance (T := "StopIteration") (b := true) ⟨o, ho, hcs⟩ isSubtype_stop ?_)
    exact wpAny_pure ⟨rfl, I.turned (t' := s.toks) (fun b o hb e => he' b o hb e) f0 f1 f3 f4 f5⟩
  self := fun A i s Q E st h => let ⟨⟨_, he⟩, _⟩ := st; wpAny_pyIter_enum he h
def iEnumT (K : PySem.W.Frag) (ta : TA) : TI := fun σ H R => ta σ H fun vs H1 => ∃ a xs, vs = [.ref a] ∧ SqT K H1 a xs ∧ R (IteT K a) H1
theorem pi_enumT {X : Cx} {e : Expr} {ta : TA} {p pos tpos : Pos} {elts : List Expr} {kk : Nat} (hg : Gl X "enumerate") (hm : X.mg "enumerate" = none) (ha : PA X [e] ta) (hs : starEach [e] X.env = [(false, eval e X.env)]) :
    PI X (.Tuple elts kk tpos) (.Call (.Name "enumerate" p) [e] [] pos) (iEnumT X.K ta) := by
  refine ⟨fun pins s σ H R I h => ?_⟩
  refine PyProof.Rows.Call_ (ld_blt I hg hm (by decide +kernel : bootBuiltins "enumerate" = some (.type "enumerate")) (PyProof.Rows.callWith_type1 (thn (ha.run pos pins s σ H _ I h) fun us s1 ⟨vs, H1, I1, r1, q1⟩ => ?_) hs rfl))
  obtain ⟨a, xs, rfl, hq, q⟩ := q1
  obtain ⟨u, rfl, ru⟩ := r1.one
  cases ru
  obtain ⟨its, rv, pt, hz⟩ := I1.tuple hq
  have pt : s1.heap.IsTuple a its.toArray := pt
  have la : a < s1.heap.objs.size := by obtain ⟨_, q, _⟩ := pt; exact Heap.lt_size q
  refine callType_new F.called_enumerate (by decide) (F.typeCall_enumerate_1 _) (F.newCall_enumerate_1 _) (fun obj => F.args_object_init_2 obj _) F.entry_enumerate_new (meets_enum1 (begins_tuple a its.toArray)) ⟨pt, ?_⟩
  have hz : (s1.heap.push { cls := .type "tuple_iterator", data := .fields #[.ref a, .int 0 0] }).objs.size = s1.heap.objs.size + 1 := Heap.size_push ..
  show _ ∧ _
  rw [hz]
  have he : IsEnum ((s1.heap.push { cls := .type "tuple_iterator", data := .fields #[.ref a, .int 0 0] }).push { cls := .type "enumerate", data := .fields #[.none, .bool false, .ref s1.heap.objs.size, rawInt 0, .none, .none] }) (s1.heap.objs.size + 1) s1.heap.objs.size 0 .none := by
    have := Heap.get?_push_size (s1.heap.push { cls := .type "tuple_iterator", data := .fields #[.ref a, .int 0 0] }) (o := { cls := .type "enumerate", data := .fields #[.none, .bool false, .ref s1.heap.objs.size, rawInt 0, .none, .none] }) rfl
    rw [hz] at this
    exact this
  have keep : ∀ b o, s1.heap.get? b = some o → ((s1.heap.push { cls := .type "tuple_iterator", data := .fields #[.ref a, .int 0 0] }).push { cls := .type "enumerate", data := .fields #[.none, .bool false, .ref s1.heap.objs.size, rawInt 0, .none, .none] }).get? b = some o :=
    fun b o x => Heap.get?_push_of_some _ (Heap.get?_push_of_some _ x)
  refine ⟨⟨_, he, rfl⟩, wpAny_pyIter_enum he ?_⟩
  refine ⟨s1.heap.objs.size + 1, [s1.heap.objs.size + 1, s1.heap.objs.size], _, _, H1, rfl, I1.kept (t' := s1.toks) keep, turn_enumT a (s1.heap.objs.size + 1) s1.heap.objs.size (Nat.ne_of_lt la) (Nat.ne_of_lt (Nat.lt_succ_of_lt la)),
    ⟨⟨.none, he⟩, ⟨_, Heap.get?_push_of_some _ (Heap.get?_push_size _ rfl), rfl, rfl⟩, Nat.succ_ne_self _⟩, fun b hb => ?_, q⟩
  have hle : s1.heap.objs.size ≤ b := by
    rcases List.mem_cons.mp hb with rfl | hb
    · omega
    · rw [List.mem_singleton.mp hb]; exact Nat.le_refl _
  exact I1.fpOk hle (I1.hok.fresh hle)
def kEnumT (fa : KA) : KI := fun s h k => fa s h fun vs h => match vs with
  | [v] => match fixT v with
    | some xs => k (.fix (enumE 0 xs)) h
    | none => false
  | _ => false
section
variable {G : Cn} {X : Cx} {ρ ρ' : Rho} {h h' : EH} {H H' : Hp} {L : Nat}
variable {a b c e value tg : Expr} {es : List Expr} {f g1 g2 : KE} {fa : KA} {pos p tpos : Pos} {elts : List Expr} {kk : Nat}
theorem i_enumT (g : Gd G X) (hg : Gl X "enumerate") (hm : X.mg "enumerate" = none) (ha : XA G X [e] fa) (hs : starEach [e] X.env = [(false, eval e X.env)] := by rfl) :
    XI G X (.Tuple elts kk tpos) (.Call (.Name "enumerate" p) [e] [] pos) (kEnumT fa) := by
  refine PI.imp (pi_enumT hg hm ha hs) fun σ H R ⟨ρ, s, h, k, S, Rs, z, af⟩ => ⟨ρ, s, h, _, S, Rs, z, fun vs h1 ρ1 H1 xs z1 p1 r1 => ?_⟩
  rw [g.k]
  split at z1
  · rename_i v
    obtain ⟨x, rfl, r2⟩ := one r1
    split at z1
    · rename_i l1 e1
      obtain ⟨a, ys, rfl, q1, rr1⟩ := fixT_is r2 e1
      refine ⟨a, ys, rfl, q1, af _ h1 ρ1 H1 _ z1 p1 fun ρ' h' H' S' c _ i r er => ?_⟩
      simp only [nxt, nthE_eq, Option.some.injEq] at er
      subst er
      obtain ⟨a1, ys', ea, q1', rr1'⟩ := fixT_is (carry1 c r2) e1
      cases ea
      rw [enumE_get]
      cases ev : l1[i]? with
      | none =>
        have := List.getElem?_eq_none_iff.mp ev
        rw [rr1'.length] at this
        exact ⟨ys', q1', this⟩
      | some v =>
        obtain ⟨x, ex, rx⟩ := rr1'.get ev
        refine ⟨⟨ys', x, q1', ex⟩, ?_⟩
        rintro t H'' ⟨T, x', rfl, hT, rfl, hx⟩
        have := hx _ q1'; rw [ex] at this; cases this
        exact ⟨Post.temp S' hT, rv_pair S' hT (by unfold RV; simp) rx⟩
    · cases z1
  · cases z1
/-! the signs of a text -/
def signs : List Nat → List EV
  | [] => []
  | c :: cs => .str [c] :: signs cs
theorem signs_get : ∀ (l : List Nat) (i : Nat), (signs l)[i]? = (l[i]?).map fun c => EV.str [c]
  | [], i => by simp [signs]
  | c :: cs, 0 => by simp [signs]
  | c :: cs, i + 1 => by rw [signs, List.getElem?_cons_succ, List.getElem?_cons_succ]; exact signs_get cs i
def kSgn (f : KE) : KI := fun s h k => f s h fun v h => match v with
  | .str l => k (.fix (signs l)) h
  | _ => false
theorem i_str (he : XE G X e f) : XI G X tg e (kSgn f) := by
  refine PI.imp (pi_str he) fun σ H R ⟨ρ, s, h, k, S, Rs, z, af⟩ => ⟨ρ, s, h, _, S, Rs, z, fun v h1 ρ1 H1 x z1 p1 r1 => ?_⟩
  split at z1
  · rename_i l
    unfold RV at r1
    subst r1
    refine ⟨_, rfl, af _ h1 ρ1 H1 _ z1 p1 fun ρ' h' H' S' c _ i r er => ?_⟩
    simp only [nxt, nthE_eq, Option.some.injEq] at er
    subst er
    rw [signs_get]
    cases ev : l[i]? with
    | none =>
      have := List.getElem?_eq_none_iff.mp ev
      show (⟨l.toArray⟩ : Str).cps.size ≤ i
      simpa using this
    | some c =>
      have lt := (List.getElem?_eq_some_iff.mp ev).1
      refine ⟨by show i < (⟨l.toArray⟩ : Str).cps.size; simpa using lt, ?_⟩
      rintro x H'' ⟨rfl, c', hc, rfl⟩
      have hc' : l[i]? = some c' := by simpa using hc
      rw [ev] at hc'
      cases hc'
      exact ⟨Post.refl S', by unfold RV; rfl⟩
  · cases z1
/-! a < b < c -/
def kChain (p q : EV → EV → EH → (EV → EH → Bool) → Bool) (f g1 g2 : KE) : KE := fun s h k => f s h fun v h => g1 s h fun w h => p v w h fun t h => match t with
  | .bl true => g2 s h fun u h => q w u h k
  | .bl false => k (.bl false) h
  | _ => false
theorem x_chain {op op' : CmpOp} {r r' : R2} {p q : EV → EV → EH → (EV → EH → Bool) → Bool} (ho : OpR X (compareOp op) r) (hp : OpS G p r) (ho' : OpR X (compareOp op') r') (hp' : OpS G q r') (ha : XE G X a f) (hb : XE G X b g1) (hc : XE G X c g2)
    (hm : lastMarks [op, op'] [b, c] = false := by with_unfolding_all rfl) : XE G X (.Compare a [op, op'] [b, c] pos) (kChain p q f g1 g2) := by
  refine PE.imp (pe_chain ho ho' ha hb hc hm) fun σ H Q ⟨ρ, s, h, k, S, R, z, af⟩ => ?_
  refine two S R z fun v w h1 ρ1 H1 x y z1 p1 rx ry => ?_
  refine hp ρ1 h1 H1 v w x y _ _ p1.sim rx ry z1 fun t h2 ρ2 H2 xt z2 p2 rt => ?_
  split at z2
  · unfold RV at rt
    refine ⟨true, rt, ?_⟩
    rw [if_pos rfl]
    refine ⟨ρ2, s, h2, _, p2.sim, p2.rs (p1.rs R), z2, fun u h3 ρ3 H3 xu z3 p3 ru => ?_⟩
    exact hp' ρ3 h3 H3 w u y xu k Q p3.sim (p3.rv (p2.rv ry)) ru z3 (((af.next p1).next p2).next p3)
  · unfold RV at rt
    refine ⟨false, rt, ?_⟩
    rw [if_neg Bool.false_ne_true]
    exact ((af.next p1).next p2).here p2.sim z2 (by unfold RV; rfl)
  · cases z2
end
end Eg

set_option autoImplicit false
set_option maxRecDepth 100000
set_option maxHeartbeats 2000000
/-! E21: dict(a list of pairs). -/
namespace Eg
open PySem PySem.Spec L2

def mergeT {κ : Type} [DecidableEq κ] (kvs more : List (κ × V)) : List (κ × V) := more.foldl (fun acc kv => putK acc kv.1 kv.2) kvs
/-- the pair at p, its key a tuple at b -/
def PairT (K : W.Frag) (H : Hp) (p : Addr) (q : List Key × V) : Prop := ∃ b, SqT K H p [.ref b, q.2] ∧ H b = some (.tup (q.1.map kV))
section
variable {X : Cx} {pins : List (Addr × Obj)} {σ : L2.St} {H : Hp} {s : Shared}
theorem pairsT_of (I : Inv X pins σ H s) : ∀ {ps : List Addr} {kvs : List (List Key × V)}, Paired (PairT X.K H) ps kvs →
    ∃ prs : List (List Key × Addr × Value), L2.KT H kvs prs ∧ prs.length = ps.length ∧ ∀ (j : Nat) (q : List Key × Addr × Value), prs[j]? = some q → ∃ c, ps[j]? = some c ∧ s.heap.IsTuple c #[.ref q.2.1, q.2.2]
  | _, _, .nil => ⟨[], .nil, rfl, fun j q e => by simp at e⟩
  | _, _, .cons (a := p) (b := kv) h t => by
    obtain ⟨prs, r, hl, hp⟩ := pairsT_of I t
    obtain ⟨b, sq, hb⟩ := h
    obtain ⟨its, rv, ht, _⟩ := I.tuple sq
    obtain ⟨u, y, rfl, ru, ry⟩ := vals2 rv
    cases (show u = Value.ref b from ru)
    refine ⟨(kv.1, b, y) :: prs, .cons ⟨rfl, hb, ry⟩ r, by rw [List.length_cons, List.length_cons, hl], fun j q e => ?_⟩
    cases j with
    | zero =>
      cases (Option.some.inj e : (kv.1, b, y) = q)
      exact ⟨p, rfl, ht⟩
    | succ j => exact hp j q (by simpa using e)
theorem kt_stored : ∀ {more : List (List Key × V)} {rs : List (List Key × Addr × Value)} {kvs : List (List Key × V)} {xs : List (List Key × Addr × Value)}, L2.KT H more rs → L2.KT H kvs xs → L2.KT H (mergeT kvs more) (storedAllH xs rs) := by
  intro more rs kvs xs r
  induction r generalizing kvs xs with
  | nil => intro q; exact q
  | @cons p q ps qs h t ih =>
    intro r0
    refine ih (kvs := putK kvs p.1 p.2) (xs := storedH xs q.1 q.2.1 q.2.2) ?_
    have := r0.put p.1 h.2.1 h.2.2
    rw [← h.1]
    exact this
theorem kt_mem : ∀ {kvs : List (List Key × V)} {prs : List (List Key × Addr × Value)}, L2.KT H kvs prs → ∀ x ∈ prs, H x.2.1 = some (.tup (x.1.map kV)) := by
  intro kvs prs r
  induction r with
  | nil => intro x hx; exact nomatch hx
  | cons h t ih =>
    intro x hx
    rcases List.mem_cons.mp hx with rfl | hx
    · rw [← h.1]; exact h.2.1
    · exact ih x hx
theorem length_mergeT {κ : Type} [DecidableEq κ] : ∀ (more kvs : List (κ × V)), (mergeT kvs more).length ≤ kvs.length + more.length
  | [], kvs => Nat.le_refl _
  | p :: r, kvs => by
    have h1 := length_mergeT r (putK kvs p.1 p.2)
    have h2 := length_putK kvs p.1 p.2
    show (mergeT (putK kvs p.1 p.2) r).length ≤ _
    rw [List.length_cons]
    omega
theorem call_dictT (g1 : X.calm = true) (hu : X.A.units + 10 < cLine) : CallR X (.type "dict") (fun xs H Q => ∃ (a : Addr) (ps : List Addr) (kvs : List (List Key × V)), xs = [.ref a] ∧ SqL X.K H a (ps.map V.ref) ∧ Paired (PairT X.K H) ps kvs ∧
    ∀ p, H p = none → Q (.ref p) (upd H p (.dT (mergeT [] kvs)))) := by
  intro pins s σ H xs us Q I r ⟨a, ps, kvs, ex, hq, hp, q⟩
  subst ex
  obtain ⟨u, rfl, ru⟩ := r.one
  cases (show u = Value.ref a from ru)
  obtain ⟨its, rv, pl, hz⟩ := I.list hq
  have ei := refs_at rv
  subst ei
  rw [List.length_map] at hz
  obtain ⟨prs, rel, hl, hpr⟩ := pairsT_of I hp
  obtain ⟨o, n, ho, hc, hd, hdat⟩ := pl
  have np : prs.length ≤ sizeLine := by rw [hl]; exact hz
  let Ts : Nat → Addr := fun j => ps.getD j 0
  let vs : List (Value × Value) := prs.map fun x => (Value.ref x.2.1, x.2.2)
  have ok : PlainSeq "list" s.heap a (ps.map Value.ref).toArray ∧ PairItems s.heap (ps.map Value.ref).toArray Ts vs := by
    refine ⟨⟨o, _, ho, hc, hd, hdat⟩, by simp [vs, hl], fun j k v e => ?_⟩
    simp only [vs, List.getElem?_map] at e
    cases hj : prs[j]? with
    | none => rw [hj] at e; simp at e
    | some x =>
      rw [hj] at e
      simp only [Option.map_some, Option.some.injEq, Prod.mk.injEq] at e
      obtain ⟨rfl, rfl⟩ := e
      obtain ⟨c, hc1, hc2⟩ := hpr j x hj
      have hT : Ts j = c := by simp [Ts, hc1]
      refine ⟨by simp [hc1, hT], .inl ?_⟩
      rw [hT]
      exact hc2
  have hst : KeysStay (tupleKind (mixKind X.prog X.w)) s.heap s.heap.objs.size [] prs := by
    intro h' keep x hx
    have inH := kt_mem rel x hx
    obtain ⟨o1, items, n1, h1, h2, h3, h4⟩ := key_of I.hok inH
    exact ⟨o1, items, n1, keep _ _ (Nat.ne_of_lt (Heap.lt_size h1)) (by simp) h1, h2, h3, h4⟩
  have hc2 : PairsHaveH (tupleKind (mixKind X.prog X.w)) vs.length (PairRel vs) prs := by
    refine ⟨by simp [vs], fun j key v e => ?_⟩
    simp only [PairRel, vs, List.getElem?_map] at e
    cases hj : prs[j]? with
    | none => rw [hj] at e; simp at e
    | some x =>
      rw [hj] at e
      simp only [Option.map_some, Option.some.injEq, Prod.mk.injEq] at e
      obtain ⟨rfl, rfl⟩ := e
      exact ⟨x.1, x.2.1, rfl, rfl⟩
  refine call_dict_pairsH (PairArg.list a (ps.map Value.ref).toArray Ts vs) (I.ok.hd g1) (by show X.A.units + 1 + 1 < cLine; omega) ok hc2 hst (by simp [vs]; exact np) fun h' tk hd' k => ?_
  have hm : (s.heap.objs.size == sysModules) = false := beq_eq_false_iff_ne.mpr (Nat.ne_of_gt I.big)
  have hlen : (mergeT [] kvs).length ≤ sizeLine := by
    have h1 := length_mergeT kvs ([] : List (List Key × V))
    have h2 : kvs.length = prs.length := Paired.length rel
    simp only [List.length_nil] at h1
    omega
  have hD : H s.heap.objs.size = none := I.hok.fresh (Nat.le_refl _)
  obtain ⟨ob, es, ep, g1, g2, g3, g4, _, g5⟩ := hd'
  refine ⟨.ref s.heap.objs.size, _, I.laid (t' := tk) (fun b o e => k b o (by simp) e) (Nat.le_refl _) (o := .dT (mergeT [] kvs)) ⟨hlen, hm, storedAllH [] prs, (kt_stored rel .nil).keeps fun b ys e => by rw [upd_ne (ne_of_none e hD)]; exact e, ob, es, ep, g1, g2, g3, g4, g5⟩, rfl, q _ hD⟩
end
/-! ### in the engine -/
def dictE (t : Bool) : List EV → List EV → List EV → Option (List EV × List EV)
  | [], ks, vs => some (ks, vs)
  | .tup [y, v] :: xs, ks, vs => match keyOk t y with
    | true => match putE ks vs y v with
      | (ks, vs) => dictE t xs ks vs
    | false => none
  | _, _, _ => none
def bDict (own t : Bool) : List EV → EH → (EV → EH → Bool) → Bool := fun as h k => match as with
  | [v] => match items h v with
    | some xs => match okLen xs with
      | true => match dictE t xs [] [] with
        | some (ks, vs) => match own with
          | true => newH h (.dic t ks vs) k
          | false => k (.dct t ks vs) h
        | none => false
      | false => false
    | none => false
  | _ => false
def rDictP (K : W.Frag) : List V → Hp → VK → Prop := fun xs H Q => (∃ (a : Addr) (ps : List Addr) (kvs : List (Key × V)), xs = [.ref a] ∧ SqL K H a (ps.map V.ref) ∧ Paired (fun p kv => SqT K H p [kV kv.1, kv.2]) ps kvs ∧ ∀ p, H p = none → Q (.ref p) (upd H p (.dK (mergeK [] kvs)))) ∨
  (∃ (a : Addr) (ps : List Addr) (kvs : List (List Key × V)), xs = [.ref a] ∧ SqL K H a (ps.map V.ref) ∧ Paired (PairT K H) ps kvs ∧ ∀ p, H p = none → Q (.ref p) (upd H p (.dT (mergeT [] kvs))))
section
variable {G : Cn} {X : Cx} {ρ : Rho} {h : EH} {H : Hp} {L : Nat}
theorem c_dict (g : Gd G X) : CallR X (.type "dict") (rDictP G.K) := g.k ▸ CallR.or (call_dictP g.c) (call_dictT g.c (by have := g.u; omega))
theorem mergeK_eq (kvs more : List (Key × V)) : mergeK kvs more = mergeT kvs more := rfl
theorem dictE_k : ∀ {xs ks vs ks' vs' : List EV} {ys zs : List V} {kk : List Key}, dictE false xs ks vs = some (ks', vs') → RVs G ρ L H xs ys → ofs kOf ks = some kk → RVs G ρ L H vs zs → kk.length = zs.length →
    ∃ ps kvs kk' zs', ys = ps.map V.ref ∧ Paired (fun p (kv : Key × V) => SqT G.K H p [kV kv.1, kv.2]) ps kvs ∧ ofs kOf ks' = some kk' ∧ RVs G ρ L H vs' zs' ∧ kk'.length = zs'.length ∧ kk'.zip zs' = mergeT (kk.zip zs) kvs
  | [], ks, vs, ks', vs', ys, zs, kk, e, r, h1, h2, h3 => by
    simp only [dictE, Option.some.injEq, Prod.mk.injEq] at e
    obtain ⟨rfl, rfl⟩ := e
    unfold RVs at r
    subst r
    exact ⟨[], [], kk, zs, rfl, .nil, h1, h2, h3, rfl⟩
  | x :: xs, ks, vs, ks', vs', ys, zs, kk, e, r, h1, h2, h3 => by
    unfold dictE at e
    split at e
    · rename_i q; cases q
    · rename_i y v xs' q
      cases q
      split at e
      · rename_i ok
        unfold RVs at r
        obtain ⟨z, zs0, rfl, r1, r2⟩ := r
        unfold RV at r1
        obtain ⟨a, us, rfl, at1, r3⟩ := r1
        obtain ⟨ky, kx, rfl, r4, r5⟩ := twoV r3
        obtain ⟨key, ek⟩ := Option.isSome_iff_exists.mp ok
        have ey := key_k ek r4
        subst ey
        obtain ⟨kk1, zs1, i0, i1, i2, i3⟩ := put_is kOf_f ek r5 h1 h2 h3
        obtain ⟨ps, kvs, kk', zs', j1, j2, j3, j4, j5, j6⟩ := dictE_k e r2 i0 i1 i2
        refine ⟨a :: ps, (key, kx) :: kvs, kk', zs', by rw [j1]; rfl, .cons (.inl (.inl at1)) j2, j3, j4, j5, ?_⟩
        rw [j6, i3]
        rfl
      · cases e
    · cases e
theorem dictE_t : ∀ {xs ks vs ks' vs' : List EV} {ys zs : List V} {kk : List (List Key)}, dictE true xs ks vs = some (ks', vs') → RVs G ρ L H xs ys → ofs tOf ks = some kk → RVs G ρ L H vs zs → kk.length = zs.length →
    ∃ ps kvs kk' zs', ys = ps.map V.ref ∧ Paired (PairT G.K H) ps kvs ∧ ofs tOf ks' = some kk' ∧ RVs G ρ L H vs' zs' ∧ kk'.length = zs'.length ∧ kk'.zip zs' = mergeT (kk.zip zs) kvs
  | [], ks, vs, ks', vs', ys, zs, kk, e, r, h1, h2, h3 => by
    simp only [dictE, Option.some.injEq, Prod.mk.injEq] at e
    obtain ⟨rfl, rfl⟩ := e
    unfold RVs at r
    subst r
    exact ⟨[], [], kk, zs, rfl, .nil, h1, h2, h3, rfl⟩
  | x :: xs, ks, vs, ks', vs', ys, zs, kk, e, r, h1, h2, h3 => by
    unfold dictE at e
    split at e
    · rename_i q; cases q
    · rename_i y v xs' q
      cases q
      split at e
      · rename_i ok
        unfold RVs at r
        obtain ⟨z, zs0, rfl, r1, r2⟩ := r
        unfold RV at r1
        obtain ⟨a, us, rfl, at1, r3⟩ := r1
        obtain ⟨ky, kx, rfl, r4, r5⟩ := twoV r3
        obtain ⟨key, ek⟩ := Option.isSome_iff_exists.mp ok
        obtain ⟨b, ey, eb⟩ := key_t ek r4
        subst ey
        obtain ⟨kk1, zs1, i0, i1, i2, i3⟩ := put_is tOf_f ek r5 h1 h2 h3
        obtain ⟨ps, kvs, kk', zs', j1, j2, j3, j4, j5, j6⟩ := dictE_t e r2 i0 i1 i2
        refine ⟨a :: ps, (key, kx) :: kvs, kk', zs', by rw [j1]; rfl, .cons ⟨b, .inl (.inl at1), eb⟩ j2, j3, j4, j5, ?_⟩
        rw [j6, i3]
        rfl
      · cases e
    · cases e
theorem b_dict (own t : Bool) : CallS G (bDict own t) (rDictP G.K) := by
  intro ρ h H vs xs k Q S r z af
  unfold bDict at z
  split at z
  · obtain ⟨x, rfl, rx⟩ := one r
    split at z
    · rename_i ls e1
      split at z
      · split at z
        · rename_i ks vs e2
          obtain ⟨a, ys, rfl, q, rr⟩ := items_is S rx e1
          have fin : ∀ {o : HO} {D : Addr} {zs : List V}, H D = none → RVs G ρ h.length H vs zs → DR (upd H D o) t ks D zs → Q (.ref D) (upd H D o) := fun {o D zs} hD rz d => by
            cases own with
            | true => exact af _ _ _ _ _ z (new_dic S hD rz d) rv_new'
            | false => exact af _ h ρ _ _ z (Post.temp S hD) (rv_dct S hD rz d)
          cases t with
          | false =>
            obtain ⟨ps, kvs, kk', zs', j1, j2, j3, j4, j5, j6⟩ := dictE_k e2 rr rfl RVs.nil rfl
            refine .inl ⟨a, ps, kvs, rfl, by rw [← j1]; exact .inl (.inl q), j2, fun D hD => fin hD j4 ⟨kk', j3, j5, ?_⟩⟩
            rw [upd_same, j6]; rfl
          | true =>
            obtain ⟨ps, kvs, kk', zs', j1, j2, j3, j4, j5, j6⟩ := dictE_t e2 rr rfl RVs.nil rfl
            refine .inr ⟨a, ps, kvs, rfl, by rw [← j1]; exact .inl (.inl q), j2, fun D hD => fin hD j4 ⟨kk', j3, j5, ?_⟩⟩
            rw [upd_same, j6]; rfl
        · cases z
      · cases z
    · cases z
  · cases z
/-! max and min of two whole numbers -/
def bMax2 (lo : Bool) : List EV → EH → (EV → EH → Bool) → Bool := fun as h k => match as with
  | [.int i, .int j] => match (match lo with
      | true => intLt j i
      | false => intLt i j) with
    | true => k (.int j) h
    | false => k (.int i) h
  | _ => false
theorem b_max2 : CallS G (bMax2 false) (fun xs H Q => ∃ i j, xs = [.int i, .int j] ∧ Q (.int (if j > i then j else i)) H) := by
  intro ρ h H vs xs k Q S r z af
  unfold bMax2 at z
  split at z
  · rename_i i j
    obtain ⟨x, y, rfl, r1, r2⟩ := twoV r
    unfold RV at r1 r2
    subst r1 r2
    refine ⟨i, j, rfl, ?_⟩
    cases e : intLt i j with
    | true =>
      simp only [e] at z
      rw [if_pos (intLt_iff.mp e)]
      exact af.here S z (by unfold RV; rfl)
    | false =>
      simp only [e] at z
      rw [if_neg (fun q => by rw [intLt_iff.mpr q] at e; cases e)]
      exact af.here S z (by unfold RV; rfl)
  · cases z
theorem b_min2 : CallS G (bMax2 true) (fun xs H Q => ∃ i j, xs = [.int i, .int j] ∧ Q (.int (if j < i then j else i)) H) := by
  intro ρ h H vs xs k Q S r z af
  unfold bMax2 at z
  split at z
  · rename_i i j
    obtain ⟨x, y, rfl, r1, r2⟩ := twoV r
    unfold RV at r1 r2
    subst r1 r2
    refine ⟨i, j, rfl, ?_⟩
    cases e : intLt j i with
    | true =>
      simp only [e] at z
      rw [if_pos (intLt_iff.mp e)]
      exact af.here S z (by unfold RV; rfl)
    | false =>
      simp only [e] at z
      rw [if_neg (fun q => by rw [intLt_iff.mpr q] at e; cases e)]
      exact af.here S z (by unfold RV; rfl)
  · cases z
end
end Eg

set_option autoImplicit false
set_option maxRecDepth 100000
set_option maxHeartbeats 4000000
/-! E22: tuple(d); the module's own dicts of texts. -/
namespace Eg
open PySem PySem.Spec L2

section
variable {prog : Program} {w : World} {A : Around} {E : Value → Shared → Prop} {s : Shared}
theorem code_tuple_dict {d : Addr} {Q₁ : Value → Shared → Prop} (hT : s.TypeIs (.ref d) "dict") {R : List Value → Shared → Prop}
    (col : ∀ {E' : Value → Shared → Prop}, wpAny (model prog w) A.in1 (collect (.ref d)) R E' s) (hR : ∀ vs s', R vs s' → vs.length ≤ sizeLine ∧ Q₁ (.ref s'.heap.objs.size) { s' with heap := s'.heap.push { cls := .type "tuple", data := .seq vs.toArray } }) :
    codeAny (model prog w) A (.call (.builtin "tuple.__new__") ⟨[.type "tuple", .ref d], []⟩) (PySem.wants Q₁ E) s := by
  refine codeAny_of_tree ?_
  show wpAny _ A.in1 (do checkBuiltinCall "tuple.__new__" ⟨[.type "tuple", .ref d], []⟩; again (.builtin "tuple.__new__" ⟨[.type "tuple", .ref d], []⟩)) _ _ s
  refine wpAny_bind (wpAny_of_eq (F.newCall_tuple_1 _) (wpAny_pure ⟨plainId_quiet F.plain_tuple_new _, codeAny_builtin F.entry_tuple_new ?_⟩))
  rw [Around.under_plainId F.plain_tuple_new _]
  have hsub := sub_tuple_self
  have hinit := init_tuple_lookup
  have hmh := madeHere_tuple
  have go : ∀ {E' : Value → Shared → Prop} {Q : List Value → Shared → Prop}, (∀ vs s', R vs s' → Q vs s') → wpAny (model prog w) A.in1 (collect (.ref d)) Q E' s := fun {E' Q} k => wpAny_mono col k fun _ _ z => z
  wp_walk using wpAny_typeOf hT, go
  intro vs s' hv
  obtain ⟨hz, hq⟩ := hR vs s' hv
  refine wpAny_bind (wpAny_pure ?_)
  show wpAny _ _ (Builtin.Tuple.tupleExact vs.toArray >>= fun v => ret v) _ _ _
  unfold Builtin.Tuple.tupleExact
  refine wpAny_bind (wpAny_newObj_type ?_ (by show vs.toArray.size ≤ sizeLine; simpa using hz))
  exact wpAny_pure hq
theorem call_tuple_dict {d : Addr} {o : Obj} {es : Array DictEntry} {ep : Nat} {Q : Value → Shared → Prop} (hh : A.handled = none) (low : (d == sysModules) = false) (at_ : s.heap.get? d = some o) (ex : o.ExactDict) (dat : o.data = .dict es ep) (hz : es.size ≤ sizeLine)
    (hQ : ∀ (h' : Heap) (tk : Nat), (∀ b o, s.heap.get? b = some o → h'.get? b = some o) → Q (.ref h'.objs.size) { s with heap := h'.push { cls := .type "tuple", data := .seq (es.map (·.key)) }, toks := tk }) :
    wpAny (model prog w) A (call (.type "tuple") [.ref d]) Q E s := by
  have hT : s.TypeIs (.ref d) "dict" := ⟨o, at_, ex.1⟩
  refine callType_codes (Q₁ := fun obj s₁ => s₁.TypeIs obj "tuple" ∧ Q obj s₁) F.called_tuple (F.typeCall_tuple_1 _) F.entry_object_init
    (code_tuple_dict (R := fun vs s' => ∃ (h' : Heap) (tk : Nat), s' = { s with heap := h', toks := tk } ∧ (∀ b o, s.heap.get? b = some o → h'.get? b = some o) ∧ vs = es.toList.map (·.key)) hT (fun {E'} => W.kdu_collect (kdl_raw low ex dat) (show A.in1.in1.handled = none from hh) at_ hz fun h' tk acc kp it => ⟨h', tk, rfl, kp, ?_⟩) fun vs s' ⟨h', tk, e1, kp, e2⟩ => ?_) fun obj s₁ h₁ => ?_
  · apply List.ext_getElem?
    intro j
    rw [List.getElem?_map]
    cases hj : acc.toList[j]? with
    | none =>
      have h1 := List.getElem?_eq_none_iff.mp hj
      rw [Array.length_toList, it.1] at h1
      rw [List.getElem?_eq_none (by simpa using h1)]
      rfl
    | some u =>
      obtain ⟨en, hen, hv⟩ := it.2 j u (by rw [← Array.getElem?_toList]; exact hj)
      rw [Array.getElem?_toList, hen, hv]
      rfl
  · subst e1 e2
    refine ⟨by simpa using hz, ⟨_, Heap.get?_push_size _ rfl, rfl⟩, ?_⟩
    have e3 : (es.toList.map (·.key)).toArray = es.map (·.key) := by rw [← Array.toList_map, Array.toArray_toList]
    rw [e3]
    exact hQ h' tk kp
  · exact ⟨h₁.1, F.args_object_init_2 obj _, object_init_meets F.called_tuple.init.lookup F.called_tuple.made (by decide) prog w A.in1 _ s₁ ⟨h₁.1, rfl, h₁.2⟩⟩
end
/-- a dict of the module, its keys texts, its values of the engine's -/
structure KdOk (G : Cn) (w : World) (mg : Str → Option Value) (x : Str) (tbl : List (List Nat × EV)) (d : Addr) (es : Array DictEntry) (n : Nat) : Prop where
  mg : mg x = some (.ref d)
  kd : KDict G.K w d es n
  keys : Vals (tbl.map fun p => V.str ⟨p.1.toArray⟩) (es.toList.map (·.key))
  small : es.size ≤ 1000
  at_ : ∀ p ∈ tbl, ∃ u y, W.nsIn G.K d ⟨p.1.toArray⟩ = some (some u) ∧ RelV y u ∧ ∀ ρ L H, RV G ρ L H p.2 y
def lookT : List (List Nat × EV) → List Nat → Option EV
  | [], _ => none
  | (k, v) :: r, x => match natsEq k x with
    | true => some v
    | false => lookT r x
theorem lookT_is : ∀ {tbl : List (List Nat × EV)} {x : List Nat} {v : EV}, lookT tbl x = some v → (x, v) ∈ tbl
  | [], x, v, e => by simp [lookT] at e
  | (k, w) :: r, x, v, e => by
    unfold lookT at e
    split at e
    · rename_i h
      cases e
      rw [natsEq_iff.mp h]
      exact List.mem_cons_self
    · exact List.mem_cons_of_mem _ (lookT_is e)
def kTabIx (tbl : List (List Nat × EV)) (f : KE) : KE := fun s h k => f s h fun v h => match v with
  | .str l => match lookT tbl l with
    | some w => k w h
    | none => false
  | _ => false
def strsE : List (List Nat × EV) → List EV
  | [] => []
  | p :: r => .str p.1 :: strsE r
section
variable {G : Cn} {X : Cx} {i : Expr} {f : KE} {p pos kp : Pos} {x : Str} {tbl : List (List Nat × EV)} {d : Addr} {es : Array DictEntry} {n : Nat}
theorem strs_rv {ρ : Rho} {L : Nat} {H : Hp} : ∀ tbl : List (List Nat × EV), RVs G ρ L H (strsE tbl) (tbl.map fun p => V.str ⟨p.1.toArray⟩)
  | [] => RVs.nil
  | p :: r => RVs.cons (by unfold RV; rfl) (strs_rv r)
/-- D[e] -/
theorem x_tabIx (g : Gd G X) (D : KdOk G X.w X.mg x tbl d es n) (hg : Gl X x) (hi : XE G X i f) (hs : NoSl i := by intro _ _; rfl) (hdb : (x == ("__debug__" : Str)) = false := by decide) : XE G X (.Subscript (.Name x p) i pos) (kTabIx tbl f) := by
  refine ⟨fun pins s σ H Q I h => ?_⟩
  obtain ⟨ρ, ss, hh, k, S, R, z, af⟩ := h
  have hD : KDict X.K X.w d es n := by rw [g.k]; exact D.kd
  refine subD_of PySem.F.slot_dict_getitem.lookup hs (thn ((pe_glob (v := .ref d) hg D.mg rfl hdb).run pins s σ H (fun v H1 => v = .ref d ∧ H1 = H) I ⟨rfl, rfl⟩) fun u s1 ⟨v, H1, I1, rx, e1, e2⟩ => ?_)
  subst e1 e2
  cases (show u = Value.ref d from rx)
  refine thn (hi.run pins s1 σ H1 (fun y H2 => ∃ u y2, y = y2 ∧ ∃ z : Str, y = .str z ∧ ∃ v0, W.nsIn X.K d z = some (some u) ∧ RelV v0 u ∧ Q v0 H2) I1 ⟨ρ, ss, hh, _, S, R, z, fun v h1 ρ1 H2 y z1 p1 r1 => ?_⟩) fun iv s2 ⟨y, H2, I2, ry, u0, _, _, zz, ey, v0, ns, rv0, q⟩ => ⟨kd_type hD I2, ?_⟩
  · split at z1
    · rename_i l
      split at z1
      · rename_i w ew
        obtain ⟨u0, y0, ns, rv0, rvE⟩ := D.at_ _ (lookT_is ew)
        unfold RV at r1
        subst r1
        exact ⟨u0, _, rfl, _, rfl, y0, by rw [g.k]; exact ns, rv0, af _ h1 ρ1 H2 _ z1 p1 (rvE _ _ _)⟩
      · cases z1
    · cases z1
  · subst ey
    exact op_item_kd hD pins s2 σ H2 (.ref d) (.str zz) (.ref d) iv Q I2 rfl ry ⟨zz, u0, v0, rfl, rfl, ns, rv0, q⟩
/-- tuple(D) -/
theorem x_tabTup (g : Gd G X) (D : KdOk G X.w X.mg x tbl d es n) (ht : Gl X "tuple") (hmt : X.mg "tuple" = none) (hg : Gl X x) (hdb : (x == ("__debug__" : Str)) = false := by decide)
    (na : starEach [.Name x p] X.env = (false, eval (.Name x p) X.env) :: starEach [] X.env := by rfl) : XE G X (.Call (.Name "tuple" kp) [.Name x p] [] pos) (kC (.tup (strsE tbl))) := by
  refine ⟨fun pins s σ H Q I h => ?_⟩
  obtain ⟨ρ, ss, hh, k, S, R, z, af⟩ := h
  have hD : KDict X.K X.w d es n := by rw [g.k]; exact D.kd
  refine PyProof.Rows.Call_ (ld_blt I ht hmt (by decide +kernel : bootBuiltins "tuple" = some (.type "tuple")) (PyProof.Rows.callWith_type1 (one_arg (pe_glob (v := .ref d) hg D.mg rfl hdb) I (R := fun v H1 => v = .ref d ∧ H1 = H) ⟨rfl, rfl⟩ (fun v s2 x H2 I2 r q => ?_) na) na))
  obtain ⟨e1, e2⟩ := q
  subst e1 e2
  cases (show v = Value.ref d from r)
  refine call_tuple_dict (I2.ok.hd g.c) hD.low (I2.kIn _ _ hD.at_) ⟨rfl, rfl, rfl⟩ rfl (by have := D.small; rw [sizeLine_eq]; omega) fun h' tk kp => ?_
  have I3 : Inv X pins σ H2 { s2 with heap := h', toks := tk } := I2.kept kp
  have nq := I3.hok.fresh (Nat.le_refl _)
  have hl : (tbl.map fun p => V.str ⟨p.1.toArray⟩).length ≤ sizeLine := by
    rw [D.keys.length, List.length_map, Array.length_toList]
    have := D.small
    rw [sizeLine_eq]
    omega
  refine ⟨.ref h'.objs.size, _, I3.laid (t' := tk) (o := .tup (tbl.map fun p => V.str ⟨p.1.toArray⟩)) (fun b o e => Heap.get?_push_of_some _ e) (Nat.le_refl _) ⟨hl, es.toList.map (·.key), D.keys, ?_⟩, rfl, ?_⟩
  · have e3 : (es.toList.map (·.key)).toArray = es.map (·.key) := by rw [← Array.toList_map, Array.toArray_toList]
    rw [e3]
    exact PyProof.Rows.IsTup.new _ _
  · exact af _ hh ρ _ _ z (Post.temp S nq) (rv_tup S nq (strs_rv tbl))
end
end Eg

set_option autoImplicit false
set_option maxRecDepth 100000
set_option maxHeartbeats 8000000
/-! E23: the law's own _law_pot and _law_take, for any constants. Printed by wip/gen/mkE23.py. -/
namespace Eg
open PySem PySem.Spec L2

def allD (f : Nat → Bool) : Nat → Bool
  | 0 => true
  | n + 1 => match f n with
    | true => allD f n
    | false => false
theorem allD_is {f : Nat → Bool} : ∀ {n : Nat}, allD f n = true → ∀ i, i < n → f i = true
  | 0, _, i, h => by omega
  | n + 1, e, i, h => by
    unfold allD at e
    split at e
    · rename_i e1
      by_cases hi : i = n
      · subst hi; exact e1
      · exact allD_is e i (by omega)
    · cases e
/-- a pot from the script -/
def potF : KF := fun args h k => match args with
  | [.scr, .int (.ofNat n)] => match Nat.ble n 1000 with
    | true => newH h (.pot 0) k
    | false => false
  | _ => false
/-- any digit below upto -/
def takeF : KF := fun args h k => match args with
  | [.ref n, .int (.ofNat (.succ u))] => match Nat.ble u 1000000 with
    | true => match getH h n with
      | some (.pot z) => match Nat.ble z 100000 with
        | true => allD (fun d => k (.int (.ofNat d)) (setH h n (.pot (.succ z)))) (.succ u)
        | false => false
      | _ => false
    | false => false
  | _ => false

theorem op_powW {X : Cx} : OpR X (binaryOp .Pow) (rI (fun i j => 0 ≤ j ∧ (Builtin.Int.intBits i : Int) * j ≤ 2 ^ 27) fun i j => .int (i ^ j.toNat)) := opI fun _ _ _ _ _ _ _ hc q => PyProof.Rows.pow_int hc.1 hc.2 q

section
variable {P : Program} {w : World} {mg : Str → Option Value} {base : Heap} {G : Cn} {st : Stmt} {f : Addr} {fd : FuncData} {c1 c2 c3 c4 c5 : Int}
abbrev potScope : Scope := { kind := PySem.ScopeKind.function, names := [ (PySem.Str.ofString "script", PySem.NameKind.local), (PySem.Str.ofString "place", PySem.NameKind.local), (PySem.Str.ofString "cell", PySem.NameKind.local), (PySem.Str.ofString "own", PySem.NameKind.local), (PySem.Str.ofString "small", PySem.NameKind.local), (PySem.Str.ofString "len", PySem.NameKind.globalImplicit), (PySem.Str.ofString "int", PySem.NameKind.globalImplicit), (PySem.Str.ofString "sum", PySem.NameKind.globalImplicit), (PySem.Str.ofString "abs", PySem.NameKind.globalImplicit)], isGenerator := false, isCoroutine := false, more := [] : PySem.Scope }
abbrev takeScope : Scope := { kind := PySem.ScopeKind.function, names := [ (PySem.Str.ofString "pot", PySem.NameKind.local), (PySem.Str.ofString "upto", PySem.NameKind.local), (PySem.Str.ofString "digit", PySem.NameKind.local), (PySem.Str.ofString "prime", PySem.NameKind.local), (PySem.Str.ofString "blend", PySem.NameKind.local), (PySem.Str.ofString "int", PySem.NameKind.globalImplicit)], isGenerator := false, isCoroutine := false, more := [] : PySem.Scope }
theorem potS : FnScope ["script", "place", "cell", "own", "small"] ["script", "place"] potScope := ⟨rfl, rfl, rfl, by decide +kernel, rfl, by decide +kernel, by decide +kernel⟩
theorem takeS : FnScope ["pot", "upto", "digit", "prime", "blend"] ["pot", "upto"] takeScope := ⟨rfl, rfl, rfl, by decide +kernel, rfl, by decide +kernel, by decide +kernel⟩
theorem pot_ok {p0 p1 p2 p3 p4 p5 p6 p7 p8 p9 p10 p11 p12 p13 p14 p15 p16 p17 p18 p19 p20 p21 p22 p23 p24 p25 p26 p27 p28 p29 p30 p31 p32 p33 p34 p35 p36 p37 p38 p39 p40 p41 p42 p43 p44 p45 p46 p47 p48 p49 p50 p51 p52 p53 p54 p55 p56 p57 p58 p59 p60 p61 p62 p63 p64 p65 p66 p67 p68 p69 p70 p71 p72 p73 p74 p75 : Pos} (F : Fun G.K "_law_pot" "_law_pot" st f fd) (hs : defScope st = potScope) (hb : defBody st = [ (PySem.Stmt.Assign (targets := [(PySem.Expr.Name "cell" p0)]) (value := (PySem.Expr.IfExp (test := (PySem.Expr.Compare (left := (PySem.Expr.Name "place" p1)) (ops := [PySem.CmpOp.Lt]) (comparators := [ (PySem.Expr.Call (func := (PySem.Expr.Name "len" p2)) (args := [(PySem.Expr.Name "script" p3)]) (keywords := []) (pos := p4))]) (pos := p5))) (body := (PySem.Expr.Subscript (value := (PySem.Expr.Name "script" p6)) (slice := (PySem.Expr.Name "place" p7)) (pos := p8))) (orelse := (PySem.Expr.BinOp (left := (PySem.Expr.BinOp (left := (PySem.Expr.BinOp (left := (PySem.Expr.Call (func := (PySem.Expr.Name "int" p9)) (args := [ (PySem.Expr.Call (func := (PySem.Expr.Name "sum" p10)) (args := [ (PySem.Expr.Subscript (value := (PySem.Expr.Name "script" p11)) (slice := (PySem.Expr.Slice (lower := none) (upper := (some (PySem.Expr.Constant (PySem.Const.int 1) 0 p12))) (step := none) (pos := p13))) (pos := p14))]) (keywords := []) (pos := p15))]) (keywords := []) (pos := p16))) (op := PySem.Operator.Mod) (right := (PySem.Expr.Constant (PySem.Const.int 1000003) 0 p17)) (pos := p18))) (op := PySem.Operator.Add) (right := (PySem.Expr.BinOp (left := (PySem.Expr.Constant (PySem.Const.int c1) 0 p19)) (op := PySem.Operator.Mult) (right := (PySem.Expr.Name "place" p20)) (pos := p21))) (pos := p22))) (op := PySem.Operator.Add) (right := (PySem.Expr.Constant (PySem.Const.int c2) 0 p23)) (pos := p24))) (pos := p25))) (pos := p26)), (PySem.Stmt.Assign (targets := [(PySem.Expr.Name "own" p27)]) (value := (PySem.Expr.BinOp (left := (PySem.Expr.BinOp (left := (PySem.Expr.Call (func := (PySem.Expr.Name "int" p28)) (args := [ (PySem.Expr.Call (func := (PySem.Expr.Name "abs" p29)) (args := [(PySem.Expr.Name "cell" p30)]) (keywords := []) (pos := p31))]) (keywords := []) (pos := p32))) (op := PySem.Operator.Mod) (right := (PySem.Expr.BinOp (left := (PySem.Expr.BinOp (left := (PySem.Expr.Constant (PySem.Const.int 10) 0 p33)) (op := PySem.Operator.Pow) (right := (PySem.Expr.Constant (PySem.Const.int 60) 0 p34)) (pos := p35))) (op := PySem.Operator.Pow) (right := (PySem.Expr.Constant (PySem.Const.int 5) 0 p36)) (pos := p37))) (pos := p38))) (op := PySem.Operator.Mult) (right := (PySem.Expr.Call (func := (PySem.Expr.Name "int" p39)) (args := [ (PySem.Expr.Compare (left := (PySem.Expr.Call (func := (PySem.Expr.Name "abs" p40)) (args := [(PySem.Expr.Name "cell" p41)]) (keywords := []) (pos := p42))) (ops := [PySem.CmpOp.GtE]) (comparators := [ (PySem.Expr.BinOp (left := (PySem.Expr.Constant (PySem.Const.int 10) 0 p43)) (op := PySem.Operator.Pow) (right := (PySem.Expr.Constant (PySem.Const.int 18) 0 p44)) (pos := p45))]) (pos := p46))]) (keywords := []) (pos := p47))) (pos := p48))) (pos := p49)), (PySem.Stmt.Assign (targets := [(PySem.Expr.Name "small" p50)]) (value := (PySem.Expr.BinOp (left := (PySem.Expr.Call (func := (PySem.Expr.Name "int" p51)) (args := [(PySem.Expr.Name "cell" p52)]) (keywords := []) (pos := p53))) (op := PySem.Operator.Mod) (right := (PySem.Expr.Constant (PySem.Const.int 2305843009213693951) 0 p54)) (pos := p55))) (pos := p56)), (PySem.Stmt.Return (value := (some (PySem.Expr.List (elts := [ (PySem.Expr.Name "own" p57), (PySem.Expr.BinOp (left := (PySem.Expr.Call (func := (PySem.Expr.Name "int" p58)) (args := [ (PySem.Expr.BinOp (left := (PySem.Expr.BinOp (left := (PySem.Expr.BinOp (left := (PySem.Expr.Name "small" p59)) (op := PySem.Operator.Mult) (right := (PySem.Expr.Constant (PySem.Const.int c3) 0 p60)) (pos := p61))) (op := PySem.Operator.Add) (right := (PySem.Expr.BinOp (left := (PySem.Expr.BinOp (left := (PySem.Expr.Constant (PySem.Const.int c4) 0 p62)) (op := PySem.Operator.Mult) (right := (PySem.Expr.Name "place" p63)) (pos := p64))) (op := PySem.Operator.Mult) (right := (PySem.Expr.Name "place" p65)) (pos := p66))) (pos := p67))) (op := PySem.Operator.Add) (right := (PySem.Expr.Constant (PySem.Const.int c5) 0 p68)) (pos := p69))]) (keywords := []) (pos := p70))) (op := PySem.Operator.Mod) (right := (PySem.Expr.Constant (PySem.Const.int 2305843009213693921) 0 p71)) (pos := p72)), (PySem.Expr.Constant (PySem.Const.int 0) 0 p73)]) (pos := p74)))) (pos := p75))])
    (mlen : mg "len" = none) (mint : mg "int" = none) (msum : mg "sum" = none) (mabs : mg "abs" = none) (l3 : 0 ≤ c3 ∧ c3 ≤ 1000000) (l4 : 0 ≤ c4 ∧ c4 ≤ 1000000) (l1 : 0 ≤ c1 ∧ c1 ≤ 1000000) :
    FnG P w G.K mg base 1 f fd ["script", "place"] (SpF G 2 potF) := by
  obtain ⟨oc, od, kV, doc, pm, an, cdv, ct, osl, rfl, lk, hcd⟩ := F.ex
  rw [hs, hb] at lk ⊢
  refine fn_ofG lk hcd potS (fun vs H Q E q => q.1) fun A outer s H vs Q E room gd ⟨hl, ρ, h, as, k1, S1, rr, z, af⟩ => ?_
  refine ⟨_, pss_cons (ps_set (i := 2) potS.nd rfl (Or.inl rfl) (pe_ifExp (pt_cmpR op_lt (pv 1) (pe_callB call_len_seq rfl mlen PySem.boot_len (pa_cons (pv 0) pa_nil)) (nomark _)) (pe_ix ix_list (pv 0) (pv 1) (by intro _ _; rfl))
        (pe_op op_add (pe_op op_add (pe_op op_mod (pe_callTy call_int1 rfl mint PyProof.Rows.boot_int (pa_cons (pe_callB (cr_sum rfl) rfl msum PyProof.Rows.boot_sum (pa_cons (pe_slice sl_list (pv 0) po_none (po_some pe_int)) pa_nil)) pa_nil)) pe_int) (pe_op op_mul pe_int (pv 1))) pe_int)))
    (pss_cons (ps_set (i := 3) potS.nd rfl (Or.inl rfl) (pe_op op_mul (pe_op op_mod (pe_callTy call_int1 rfl mint PyProof.Rows.boot_int (pa_cons (pe_callB call_abs rfl mabs PyProof.Rows.boot_abs (pa_cons (pv 2) pa_nil)) pa_nil)) (pe_op op_powW (pe_op op_powW pe_int pe_int) pe_int))
        (pe_callTy call_int1 rfl mint PyProof.Rows.boot_int (pa_cons (pe_cmpR op_ge (pe_callB call_abs rfl mabs PyProof.Rows.boot_abs (pa_cons (pv 2) pa_nil)) (pe_op op_powW pe_int pe_int) (nomark _)) pa_nil))))
    (pss_cons (ps_set (i := 4) potS.nd rfl (Or.inl rfl) (pe_op op_mod (pe_callTy call_int1 rfl mint PyProof.Rows.boot_int (pa_cons (pv 2) pa_nil)) pe_int))
    (pss_one (ps_ret (pe_lst (pa_cons (pv 3) (pa_cons (pe_op op_mod (pe_callTy call_int1 rfl mint PyProof.Rows.boot_int (pa_cons (pe_op op_add (pe_op op_add (pe_op op_mul (pv 4) pe_int) (pe_op op_mul (pe_op op_mul pe_int (pv 1)) (pv 1))) pe_int) pa_nil)) pe_int) (pa_cons pe_int pa_nil)))))))), ?_⟩
  unfold potF at z
  split at z
  · rename_i n
    split at z
    · rename_i hn
      have hn := Nat.le_of_ble_eq_true hn
      obtain ⟨xa, xi, rfl, r1, r2⟩ := twoV rr
      have hj0 : 0 ≤ Int.ofNat n := Int.natCast_nonneg n
      have hj1 : Int.ofNat n ≤ 1000 := Int.ofNat_le.mpr hn
      unfold RV at r1 r2
      obtain ⟨a, ns, rfl, sq, ln⟩ := r1
      subst r2
      refine ⟨_, rfl, _, rfl, a, _, rfl, .inl sq.sq, _, _, rfl, rfl, _, rfl, ?_⟩
      refine ite2 (fun lt => ?_) (fun _ => ?_)
      rotate_left 1
      · -- no such cell
        refine ⟨_, rfl, 1, rfl, a, _, rfl, sq.sq, fun p hp => ?_⟩
        have ec : (cutE ns none (some 1)).map V.int = cutV (ns.map V.int) none (some 1) := by
          unfold cutV cutE
          rw [List.map_take, List.map_drop, List.length_map]
        refine ⟨p, cutE ns none (some 1), rfl, by rw [ec]; exact SqL.of upd_same, ?_⟩
        refine .inl ⟨_, rfl, _, _, rfl, rfl, (by show (0 : Int) < _; decide +kernel), ?_⟩
        refine ⟨_, rfl, _, _, rfl, rfl, .inl ⟨by omega, by omega⟩, ?_⟩
        refine ⟨_, _, rfl, rfl, _, _, rfl, rfl, ?_⟩
        have pp : Post G ρ h H ρ h (upd H p (.lst (cutV (ns.map V.int) none (some 1)))) := Post.temp S1 hp
        revert pp
        generalize upd H p (.lst (cutV (ns.map V.int) none (some 1))) = H1
        generalize (cutE ns none (some 1)).sum % 1000003 + c1 * Int.ofNat n + c2 = cell
        intro pp
        (
        refine ⟨_, rfl, ⟨_, rfl, .inl ⟨_, rfl, _, _, rfl, rfl, ⟨by decide, by decide⟩, _, _, rfl, rfl, ⟨by decide, by decide +kernel⟩, _, _, rfl, rfl, (by show (0 : Int) < _; decide +kernel), ?_⟩⟩⟩
        refine ⟨_, rfl, _, rfl, _, _, rfl, rfl, ⟨by decide, by decide⟩, _, _, rfl, rfl, .inr ⟨_, rfl, _, _, rfl, rfl, .inr ⟨?_, ?_⟩, ?_⟩⟩
        · split <;> omega
        · split <;> omega
        refine ⟨_, rfl, .inl ⟨_, rfl, _, _, rfl, rfl, (by show (0 : Int) < _; decide +kernel), ?_⟩⟩
        have sm0 : 0 ≤ cell % 2305843009213693951 := Int.emod_nonneg _ (by decide)
        have sm1 : cell % 2305843009213693951 < 2305843009213693951 := Int.emod_lt_of_pos _ (by decide)
        generalize cell % 2305843009213693951 = sm at sm0 sm1 ⊢
        refine ⟨_, rfl, _, rfl, _, _, rfl, rfl, .inl ⟨by omega, by omega⟩, ?_⟩
        refine ⟨_, rfl, _, _, rfl, rfl, .inl ⟨by omega, by omega⟩, _, rfl, _, _, rfl, rfl, .inr ⟨by omega, by omega⟩, ?_⟩
        refine ⟨_, _, rfl, rfl, _, _, rfl, rfl, .inl ⟨_, rfl, _, _, rfl, rfl, (by show (0 : Int) < _; decide +kernel), ?_⟩⟩
        refine ⟨(by show 3 ≤ sizeLine; decide), fun q hq => ?_⟩
        refine af _ _ _ _ _ z (pp.trans (Post.new pp.sim hq ⟨_, _, 0, upd_same, ?_, Int.emod_nonneg _ (by decide), ?_, by decide, by decide⟩)) rv_new'
        · refine Int.mul_nonneg (Int.emod_nonneg _ (by decide +kernel)) ?_
          repeat' split
          all_goals omega
        · exact Int.lt_trans (Int.emod_lt_of_pos _ (by decide)) (by decide))
      · -- the cell
        have hlt : n < ns.length := by
          have := of_decide_eq_true lt
          rw [List.length_map] at this
          have e : Int.ofNat n = (n : Int) := rfl
          omega
        refine ⟨_, rfl, _, rfl, a, _, Int.ofNat n, .int ns[n], rfl, rfl, sq.sq, atI_nat (by rw [List.getElem?_map, List.getElem?_eq_getElem hlt]; rfl), ?_⟩
        have pp : Post G ρ h H ρ h H := Post.refl S1
        revert pp
        generalize ns[n] = cell
        intro pp
        (
        refine ⟨_, rfl, ⟨_, rfl, .inl ⟨_, rfl, _, _, rfl, rfl, ⟨by decide, by decide⟩, _, _, rfl, rfl, ⟨by decide, by decide +kernel⟩, _, _, rfl, rfl, (by show (0 : Int) < _; decide +kernel), ?_⟩⟩⟩
        refine ⟨_, rfl, _, rfl, _, _, rfl, rfl, ⟨by decide, by decide⟩, _, _, rfl, rfl, .inr ⟨_, rfl, _, _, rfl, rfl, .inr ⟨?_, ?_⟩, ?_⟩⟩
        · split <;> omega
        · split <;> omega
        refine ⟨_, rfl, .inl ⟨_, rfl, _, _, rfl, rfl, (by show (0 : Int) < _; decide +kernel), ?_⟩⟩
        have sm0 : 0 ≤ cell % 2305843009213693951 := Int.emod_nonneg _ (by decide)
        have sm1 : cell % 2305843009213693951 < 2305843009213693951 := Int.emod_lt_of_pos _ (by decide)
        generalize cell % 2305843009213693951 = sm at sm0 sm1 ⊢
        refine ⟨_, rfl, _, rfl, _, _, rfl, rfl, .inl ⟨by omega, by omega⟩, ?_⟩
        refine ⟨_, rfl, _, _, rfl, rfl, .inl ⟨by omega, by omega⟩, _, rfl, _, _, rfl, rfl, .inr ⟨by omega, by omega⟩, ?_⟩
        refine ⟨_, _, rfl, rfl, _, _, rfl, rfl, .inl ⟨_, rfl, _, _, rfl, rfl, (by show (0 : Int) < _; decide +kernel), ?_⟩⟩
        refine ⟨(by show 3 ≤ sizeLine; decide), fun q hq => ?_⟩
        refine af _ _ _ _ _ z (pp.trans (Post.new pp.sim hq ⟨_, _, 0, upd_same, ?_, Int.emod_nonneg _ (by decide), ?_, by decide, by decide⟩)) rv_new'
        · refine Int.mul_nonneg (Int.emod_nonneg _ (by decide +kernel)) ?_
          repeat' split
          all_goals omega
        · exact Int.lt_trans (Int.emod_lt_of_pos _ (by decide)) (by decide))
    · cases z
  · cases z
theorem take_ok {p0 p1 p2 p3 p4 p5 p6 p7 p8 p9 p10 p11 p12 p13 p14 p15 p16 p17 p18 p19 p20 p21 p22 p23 p24 p25 p26 p27 p28 p29 p30 p31 p32 p33 p34 p35 p36 p37 p38 p39 p40 p41 p42 p43 p44 p45 p46 p47 p48 p49 p50 p51 p52 p53 p54 p55 p56 p57 p58 p59 p60 p61 p62 p63 p64 p65 p66 p67 p68 p69 p70 p71 p72 p73 p74 p75 p76 p77 p78 p79 p80 p81 p82 p83 p84 p85 p86 p87 p88 p89 p90 p91 p92 p93 p94 p95 : Pos} (F : Fun G.K "_law_take" "_law_take" st f fd) (hs : defScope st = takeScope) (hb : defBody st = [ (PySem.Stmt.If (test := (PySem.Expr.Compare (left := (PySem.Expr.Subscript (value := (PySem.Expr.Name "pot" p0)) (slice := (PySem.Expr.Constant (PySem.Const.int 0) 0 p1)) (pos := p2))) (ops := [PySem.CmpOp.Gt]) (comparators := [(PySem.Expr.Constant (PySem.Const.int 0) 0 p3)]) (pos := p4))) (body := [ (PySem.Stmt.Assign (targets := [(PySem.Expr.Name "digit" p5)]) (value := (PySem.Expr.BinOp (left := (PySem.Expr.Call (func := (PySem.Expr.Name "int" p6)) (args := [ (PySem.Expr.Subscript (value := (PySem.Expr.Name "pot" p7)) (slice := (PySem.Expr.Constant (PySem.Const.int 0) 0 p8)) (pos := p9))]) (keywords := []) (pos := p10))) (op := PySem.Operator.Mod) (right := (PySem.Expr.Name "upto" p11)) (pos := p12))) (pos := p13)), (PySem.Stmt.Assign (targets := [ (PySem.Expr.Subscript (value := (PySem.Expr.Name "pot" p14)) (slice := (PySem.Expr.Constant (PySem.Const.int 0) 0 p15)) (pos := p16))]) (value := (PySem.Expr.BinOp (left := (PySem.Expr.Subscript (value := (PySem.Expr.Name "pot" p17)) (slice := (PySem.Expr.Constant (PySem.Const.int 0) 0 p18)) (pos := p19))) (op := PySem.Operator.FloorDiv) (right := (PySem.Expr.Name "upto" p20)) (pos := p21))) (pos := p22)), (PySem.Stmt.Return (some (PySem.Expr.Name "digit" p23)) p24)]) (orelse := []) (pos := p25)), (PySem.Stmt.Assign (targets := [ (PySem.Expr.Subscript (value := (PySem.Expr.Name "pot" p26)) (slice := (PySem.Expr.Constant (PySem.Const.int 2) 0 p27)) (pos := p28))]) (value := (PySem.Expr.BinOp (left := (PySem.Expr.Subscript (value := (PySem.Expr.Name "pot" p29)) (slice := (PySem.Expr.Constant (PySem.Const.int 2) 0 p30)) (pos := p31))) (op := PySem.Operator.Add) (right := (PySem.Expr.Constant (PySem.Const.int 1) 0 p32)) (pos := p33))) (pos := p34)), (PySem.Stmt.Assign (targets := [(PySem.Expr.Name "prime" p35)]) (value := (PySem.Expr.Subscript (value := (PySem.Expr.List (elts := [ (PySem.Expr.Constant (PySem.Const.int 2147483647) 0 p36), (PySem.Expr.Constant (PySem.Const.int 2147483629) 0 p37), (PySem.Expr.Constant (PySem.Const.int 2147483587) 0 p38), (PySem.Expr.Constant (PySem.Const.int 2147483579) 0 p39), (PySem.Expr.Constant (PySem.Const.int 2147483563) 0 p40)]) (pos := p41))) (slice := (PySem.Expr.BinOp (left := (PySem.Expr.Call (func := (PySem.Expr.Name "int" p42)) (args := [ (PySem.Expr.Subscript (value := (PySem.Expr.Name "pot" p43)) (slice := (PySem.Expr.Constant (PySem.Const.int 2) 0 p44)) (pos := p45))]) (keywords := []) (pos := p46))) (op := PySem.Operator.Mod) (right := (PySem.Expr.Constant (PySem.Const.int 5) 0 p47)) (pos := p48))) (pos := p49))) (pos := p50)), (PySem.Stmt.Assign (targets := [(PySem.Expr.Name "blend" p51)]) (value := (PySem.Expr.BinOp (left := (PySem.Expr.Call (func := (PySem.Expr.Name "int" p52)) (args := [ (PySem.Expr.BinOp (left := (PySem.Expr.Call (func := (PySem.Expr.Name "int" p53)) (args := [ (PySem.Expr.BinOp (left := (PySem.Expr.BinOp (left := (PySem.Expr.Subscript (value := (PySem.Expr.Name "pot" p54)) (slice := (PySem.Expr.Constant (PySem.Const.int 1) 0 p55)) (pos := p56))) (op := PySem.Operator.Add) (right := (PySem.Expr.BinOp (left := (PySem.Expr.BinOp (left := (PySem.Expr.Constant (PySem.Const.int c1) 0 p57)) (op := PySem.Operator.Mult) (right := (PySem.Expr.Subscript (value := (PySem.Expr.Name "pot" p58)) (slice := (PySem.Expr.Constant (PySem.Const.int 2) 0 p59)) (pos := p60))) (pos := p61))) (op := PySem.Operator.Mult) (right := (PySem.Expr.Subscript (value := (PySem.Expr.Name "pot" p62)) (slice := (PySem.Expr.Constant (PySem.Const.int 2) 0 p63)) (pos := p64))) (pos := p65))) (pos := p66))) (op := PySem.Operator.Add) (right := (PySem.Expr.Constant (PySem.Const.int c2) 0 p67)) (pos := p68))]) (keywords := []) (pos := p69))) (op := PySem.Operator.Pow) (right := (PySem.Expr.Constant (PySem.Const.int 3) 0 p70)) (pos := p71))]) (keywords := []) (pos := p72))) (op := PySem.Operator.Mod) (right := (PySem.Expr.Name "prime" p73)) (pos := p74))) (pos := p75)), (PySem.Stmt.Return (value := (some (PySem.Expr.BinOp (left := (PySem.Expr.Call (func := (PySem.Expr.Name "int" p76)) (args := [ (PySem.Expr.BinOp (left := (PySem.Expr.BinOp (left := (PySem.Expr.Name "blend" p77)) (op := PySem.Operator.Mult) (right := (PySem.Expr.BinOp (left := (PySem.Expr.BinOp (left := (PySem.Expr.Call (func := (PySem.Expr.Name "int" p78)) (args := [(PySem.Expr.Name "blend" p79)]) (keywords := []) (pos := p80))) (op := PySem.Operator.Mod) (right := (PySem.Expr.Constant (PySem.Const.int c3) 0 p81)) (pos := p82))) (op := PySem.Operator.Add) (right := (PySem.Expr.BinOp (left := (PySem.Expr.Constant (PySem.Const.int c4) 0 p83)) (op := PySem.Operator.Mult) (right := (PySem.Expr.Subscript (value := (PySem.Expr.Name "pot" p84)) (slice := (PySem.Expr.Constant (PySem.Const.int 2) 0 p85)) (pos := p86))) (pos := p87))) (pos := p88))) (pos := p89))) (op := PySem.Operator.FloorDiv) (right := (PySem.Expr.Constant (PySem.Const.int c5) 0 p90)) (pos := p91))]) (keywords := []) (pos := p92))) (op := PySem.Operator.Mod) (right := (PySem.Expr.Name "upto" p93)) (pos := p94)))) (pos := p95))])
    (mint : mg "int" = none) (l1 : 0 ≤ c1 ∧ c1 ≤ 1000000) (l2 : 0 ≤ c2 ∧ c2 ≤ 1000000) (l3 : 0 < c3 ∧ c3 ≤ 1000000) (l4 : 0 ≤ c4 ∧ c4 ≤ 1000000) (l5 : 0 < c5 ∧ c5 ≤ 1000000) :
    FnG P w G.K mg base 1 f fd ["pot", "upto"] (SpF G 2 takeF) := by
  obtain ⟨oc, od, kV, doc, pm, an, cdv, ct, osl, rfl, lk, hcd⟩ := F.ex
  rw [hs, hb] at lk ⊢
  refine fn_ofG lk hcd takeS (fun vs H Q E q => q.1) fun A outer s H vs Q E room gd ⟨hl, ρ, h, as, k1, S1, rr, z, af⟩ => ?_
  refine ⟨_, pss_cons (ps_if (pt_cmpR op_gt (pe_ix ix_list (pv 0) pe_int (by intro _ _; rfl)) pe_int (nomark _))
      (pss_cons (ps_set (i := 2) takeS.nd rfl (Or.inl rfl) (pe_op op_mod (pe_callTy call_int1 rfl mint PyProof.Rows.boot_int (pa_cons (pe_ix ix_list (pv 0) pe_int (by intro _ _; rfl)) pa_nil)) (pv 1)))
      (pss_cons (ps_asg (pe_op op_fdiv (pe_ix ix_list (pv 0) pe_int (by intro _ _; rfl)) (pv 1)) (pg_sub (pv 0) pe_int set_list))
      (pss_one (ps_ret (pv 2))))) pss_nil)
    (pss_cons (ps_asg (pe_op op_add (pe_ix ix_list (pv 0) pe_int (by intro _ _; rfl)) pe_int) (pg_sub (pv 0) pe_int set_list))
    (pss_cons (ps_set (i := 3) takeS.nd rfl (Or.inl rfl) (pe_ix ix_list (pe_lst (pa_cons pe_int (pa_cons pe_int (pa_cons pe_int (pa_cons pe_int (pa_cons pe_int pa_nil))))))
        (pe_op op_mod (pe_callTy call_int1 rfl mint PyProof.Rows.boot_int (pa_cons (pe_ix ix_list (pv 0) pe_int (by intro _ _; rfl)) pa_nil)) pe_int) (by intro _ _; rfl)))
    (pss_cons (ps_set (i := 4) takeS.nd rfl (Or.inl rfl) (pe_op op_mod (pe_callTy call_int1 rfl mint PyProof.Rows.boot_int (pa_cons (pe_op op_pow (pe_callTy call_int1 rfl mint PyProof.Rows.boot_int (pa_cons
          (pe_op op_add (pe_op op_add (pe_ix ix_list (pv 0) pe_int (by intro _ _; rfl)) (pe_op op_mul (pe_op op_mul pe_int (pe_ix ix_list (pv 0) pe_int (by intro _ _; rfl))) (pe_ix ix_list (pv 0) pe_int (by intro _ _; rfl)))) pe_int) pa_nil)) pe_int) pa_nil)) (pv 3)))
    (pss_one (ps_ret (pe_op op_mod (pe_callTy call_int1 rfl mint PyProof.Rows.boot_int (pa_cons (pe_op op_fdiv (pe_op op_mul (pv 4) (pe_op op_add (pe_op op_mod (pe_callTy call_int1 rfl mint PyProof.Rows.boot_int (pa_cons (pv 4) pa_nil)) pe_int)
        (pe_op op_mul pe_int (pe_ix ix_list (pv 0) pe_int (by intro _ _; rfl))))) pe_int) pa_nil)) (pv 1))))))), ?_⟩
  unfold takeF at z
  split at z
  · rename_i n u
    split at z
    · rename_i hu
      have hu := Nat.le_of_ble_eq_true hu
      split at z
      · rename_i zz e1
        split at z
        · rename_i hz
          have hz := Nat.le_of_ble_eq_true hz
          obtain ⟨xa, xi, rfl, r1, r2⟩ := twoV rr
          unfold RV at r1 r2
          obtain ⟨hn, rfl⟩ := r1
          subst r2
          rw [getH_eq] at e1
          obtain ⟨x, y, ww, eH, x0, y0, y1, w0, w1⟩ := S1.obj n _ e1
          have up0 : 0 < Int.ofNat (Nat.succ u) := Int.natCast_pos.mpr (Nat.succ_pos u)
          have up1 : Int.ofNat (Nat.succ u) ≤ 1000001 := Int.ofNat_le.mpr (Nat.succ_le_succ hu)
          have digits : ∀ (d : Int) (H' : Hp), 0 ≤ d → d < Int.ofNat (Nat.succ u) → Post G ρ h H ρ (setH h n (.pot (.succ zz))) H' → Q (.int d) H' := fun d H' d0 d1 pp => by
            obtain ⟨m, rfl⟩ := Int.eq_ofNat_of_zero_le d0
            have hm : m < Nat.succ u := Int.ofNat_lt.mp d1
            exact af _ _ _ _ _ (allD_is z m hm) pp (by unfold RV; rfl)
          clear z
          generalize Int.ofNat (Nat.succ u) = up at up0 up1 digits ⊢
          have at0 : ∀ {H' : Hp} {a b c : Int}, H' (ρ n) = some (.lst [.int a, .int b, .int c]) → SqL G.K H' (ρ n) [.int a, .int b, .int c] := fun e => .inl (.inl e)
          refine ⟨_, rfl, _, _, 0, _, rfl, rfl, at0 eH, rfl, _, _, rfl, rfl, _, rfl, ?_⟩
          refine ite2 (fun lt => ?_) (fun _ => ?_)
          · have lt := of_decide_eq_true lt
            refine ⟨_, rfl, _, _, 0, _, rfl, rfl, at0 eH, rfl, .inl ⟨_, rfl, _, rfl, _, _, rfl, rfl, up0, ?_⟩⟩
            refine ⟨_, rfl, _, _, 0, _, rfl, rfl, at0 eH, rfl, _, rfl, _, _, rfl, rfl, ⟨up0, by omega⟩, ?_⟩
            refine ⟨_, rfl, _, _, 0, 0, rfl, rfl, eH, rfl, ?_⟩
            refine ⟨_, rfl, digits _ _ (Int.emod_nonneg _ (by omega)) (Int.emod_lt_of_pos _ up0) (Post.write S1 hn ⟨_, _, _, upd_same, Int.ediv_nonneg x0 (by omega), y0, y1, w0, by omega⟩)⟩
          · refine ⟨_, rfl, _, _, 2, _, rfl, rfl, at0 eH, rfl, _, _, rfl, rfl, ?_⟩
            refine ⟨_, rfl, _, _, 2, 2, rfl, rfl, eH, rfl, ?_⟩
            have eW : upd H (ρ n) (.lst ([V.int x, V.int y, V.int ww].set 2 ((fun i j => V.int (i + j)) ww 1))) (ρ n) = some (.lst [.int x, .int y, .int (ww + 1)]) := upd_same
            have pp : Post G ρ h H ρ (setH h n (.pot (.succ zz))) (upd H (ρ n) (.lst ([V.int x, V.int y, V.int ww].set 2 ((fun i j => V.int (i + j)) ww 1)))) := Post.write S1 hn ⟨_, _, _, upd_same, x0, y0, y1, by omega, by omega⟩
            generalize upd H (ρ n) (.lst ([V.int x, V.int y, V.int ww].set 2 ((fun i j => V.int (i + j)) ww 1))) = H1 at eW pp ⊢
            have W0 : 0 ≤ ww + 1 := by omega
            have W1 : ww + 1 ≤ 100001 := by omega
            generalize ww + 1 = W at eW W0 W1 ⊢
            refine ⟨(by show 5 ≤ sizeLine; decide), fun p hp => ?_⟩
            have np : ρ n ≠ p := fun q => by rw [q, hp] at eW; cases eW
            have eP : ∀ l, upd H1 p (.lst l) (ρ n) = some (.lst [.int x, .int y, .int W]) := fun l => by rw [upd_ne np]; exact eW
            refine ⟨_, rfl, _, _, 2, _, rfl, rfl, at0 (eP _), rfl, .inl ⟨_, rfl, _, _, rfl, rfl, (by show (0 : Int) < 5; decide), ?_⟩⟩
            obtain ⟨pr, hpr, pr0, pr1⟩ : ∃ pr : Int, atI [V.int 2147483647, .int 2147483629, .int 2147483587, .int 2147483579, .int 2147483563] (W % 5) = some (.int pr) ∧ 0 < pr ∧ pr ≤ 2147483647 := by
              have h5 : W % 5 = 0 ∨ W % 5 = 1 ∨ W % 5 = 2 ∨ W % 5 = 3 ∨ W % 5 = 4 := by omega
              rcases h5 with h5 | h5 | h5 | h5 | h5 <;> rw [h5] <;> exact ⟨_, rfl, by decide, by decide⟩
            refine ⟨p, _, _, _, rfl, rfl, SqL.of upd_same, hpr, ?_⟩
            have pp2 : Post G ρ h H ρ (setH h n (.pot (.succ zz))) (upd H1 p (.lst [V.int 2147483647, .int 2147483629, .int 2147483587, .int 2147483579, .int 2147483563])) := pp.trans (Post.temp pp.sim hp)
            have eQ := eP [V.int 2147483647, .int 2147483629, .int 2147483587, .int 2147483579, .int 2147483563]
            generalize upd H1 p (.lst [V.int 2147483647, .int 2147483629, .int 2147483587, .int 2147483579, .int 2147483563]) = H2 at eQ pp2 ⊢
            have m1 : 0 ≤ c1 * W := Int.mul_nonneg l1.1 W0
            have m2 : c1 * W ≤ 1000000 * 100001 := Int.mul_le_mul l1.2 W1 W0 (by decide)
            have m3 : 0 ≤ c1 * W * W := Int.mul_nonneg m1 W0
            have m4 : c1 * W * W ≤ 1000000 * 100001 * 100001 := Int.mul_le_mul m2 W1 W0 (by decide)
            refine ⟨_, rfl, _, _, 1, _, rfl, rfl, at0 eQ, rfl, _, rfl, _, _, 2, _, rfl, rfl, at0 eQ, rfl, _, _, rfl, rfl, .inl ⟨by omega, by omega⟩, ?_⟩
            refine ⟨_, rfl, _, _, 2, _, rfl, rfl, at0 eQ, rfl, _, _, rfl, rfl, .inl ⟨by omega, by omega⟩, _, _, rfl, rfl, _, _, rfl, rfl, .inl ⟨_, rfl, ?_⟩⟩
            refine ⟨_, _, rfl, rfl, ⟨by decide, by decide, by omega⟩, .inl ⟨_, rfl, _, rfl, _, _, rfl, rfl, pr0, ?_⟩⟩
            have b0 := Int.emod_nonneg ((y + c1 * W * W + c2) ^ Int.toNat 3) (show pr ≠ 0 by omega)
            have b1 := Int.emod_lt_of_pos ((y + c1 * W * W + c2) ^ Int.toNat 3) pr0
            refine ⟨_, rfl, _, rfl, .inl ⟨_, rfl, _, _, rfl, rfl, l3.1, ?_⟩⟩
            refine ⟨_, rfl, _, _, 2, _, rfl, rfl, at0 eQ, rfl, _, _, rfl, rfl, .inl ⟨by omega, by omega⟩, _, _, rfl, rfl, _, _, rfl, rfl, .inl ⟨Int.lt_of_lt_of_le (show -(2 ^ 64 : Int) < 0 by decide) b0, Int.lt_of_lt_of_le (Int.lt_of_lt_of_le b1 pr1) (by decide)⟩, ?_⟩
            refine ⟨_, _, rfl, rfl, ⟨l5.1, by omega⟩, .inl ⟨_, rfl, _, rfl, _, _, rfl, rfl, up0, ?_⟩⟩
            exact digits _ _ (Int.emod_nonneg _ (by omega)) (Int.emod_lt_of_pos _ up0) pp2
        · cases z
      · cases z
    · cases z
  · cases z
end
end Eg

set_option autoImplicit false
set_option maxRecDepth 100000
set_option maxHeartbeats 2000000
/-! E24: a def run by itself; the law's end. -/
namespace Eg
open PySem PySem.Spec L2

theorem FnG.imp {P : Program} {w : World} {K : PySem.W.Frag} {mg : Str → Option Value} {base : Heap} {k : Nat} {f : Addr} {fd : FuncData} {ps : List Str} {sp sp' : Sp} (F : FnG P w K mg base k f fd ps sp) (h : ∀ vs H Q E, sp' vs H Q E → sp vs H Q E) :
    FnG P w K mg base k f fd ps sp' := ⟨fun vs H Q E q => F.len vs H Q E (h _ _ _ _ q), fun A outer s H args us vs Q E room gd e0 b r q => F.run A outer s H args us vs Q E room gd e0 b r (h _ _ _ _ q)⟩
def isT : EV → EH → Bool := fun v _ => match v with
  | .bl b => b
  | _ => false
/-- the end of a def that runs by itself: true, the pot still a pot -/
def finT : EV → EH → Bool := fun v h => match v with
  | .bl true => match getH h 0 with
    | some (.pot z) => Nat.ble z 1000000
    | _ => false
  | _ => false
/-- a def of a pot that answers true -/
def okF : KF := fun args h k => match args with
  | [.ref n] => match getH h n with
    | some (.pot 0) => k (.bl true) (setH h n (.pot 1000000))
    | _ => false
  | _ => false
section
variable {G : Cn} {F : KF}
theorem framed (hF : F [.ref 0] [.pot 0] finT = true) {vs : List V} {H : Hp} {Q : VK} {E : XK} (q : SpF G 1 okF vs H Q E) : SpF G 1 F vs H Q E := by
  obtain ⟨hl, ρ, h, as, k, S, r, z, af⟩ := q
  refine ⟨hl, ?_⟩
  unfold okF at z
  split at z
  · rename_i n
    split at z
    · rename_i e1
      rw [getH_eq] at e1
      obtain ⟨x, rfl, r1⟩ := one r
      have r0 := r1
      unfold RV at r1
      obtain ⟨hn, rfl⟩ := r1
      obtain ⟨x, y, w, eH, x0, y0, y1, w0, w1⟩ := S.obj n _ e1
      have S0 : Sim G ⟨fun _ => ρ n, fun _ => False⟩ [.pot 0] H := by
        refine ⟨fun m o e => ?_, fun a b ha hb _ => by simp at ha hb; omega, fun b hb => hb.elim⟩
        cases m with
        | zero =>
          simp only [List.getElem?_cons_zero, Option.some.injEq] at e
          subst e
          exact ⟨x, y, w, eH, x0, y0, y1, w0, w1⟩
        | succ m => simp at e
      refine ⟨⟨fun _ => ρ n, fun _ => False⟩, [.pot 0], [.ref 0], finT, S0, RVs.cons (by unfold RV; exact ⟨by simp, rfl⟩) RVs.nil, hF, fun v h' ρ' H' x' z' p' r' => ?_⟩
      unfold finT at z'
      split at z'
      · split at z'
        · rename_i zz e2
          have z' := Nat.le_of_ble_eq_true z'
          unfold RV at r'
          subst r'
          rw [getH_eq] at e2
          obtain ⟨x2, y2, w2, eH2, a0, b0, b1, c0, c1⟩ := p'.sim.obj 0 _ e2
          have e0 : ρ' 0 = ρ n := p'.ext 0 (by simp)
          rw [e0] at eH2
          have keep : ∀ b o, H b = some o → b ≠ ρ n → H' b = some o := fun b o e ne => p'.frame b o e fun m hm q => ne q.symm
          have keepU : ∀ b o, H b = some o → (∀ m, m < h.length → ρ m ≠ b) → H' b = some o := fun b o e un => keep b o e fun q => un n hn q.symm
          refine af _ _ ρ H' _ z ⟨⟨fun m o e => ?_, ?_, fun b hb => ?_⟩, ?_, fun _ _ => rfl, keepU, ?_, p'.tups, p'.frzs, rfl⟩ (by unfold RV; rfl)
          · rw [setH_eq] at e ⊢
            rw [List.length_set]
            by_cases hm : m = n
            · subst hm
              rw [List.getElem?_set_self hn] at e
              cases e
              exact ⟨x2, y2, w2, eH2, a0, b0, b1, c0, by omega⟩
            · rw [List.getElem?_set_ne (Ne.symm hm)] at e
              have hm2 := (List.getElem?_eq_some_iff.mp e).1
              obtain ⟨oo, eo⟩ := S.some_at hm2
              refine RO.stay (fun _ _ => rfl) (Nat.le_refl _) keepU (fun _ h1 h2 => absurd h2 (Nat.not_lt.mpr h1)) p'.tups p'.frzs rfl ?_ (S.obj m o e)
              rw [eo]
              exact keep _ _ eo fun q => hm (S.inj m n hm2 hn q)
          · rw [setH_eq, List.length_set]
            exact S.inj
          · rw [setH_eq, List.length_set]
            obtain ⟨⟨o, e⟩, h2⟩ := S.ban b hb
            exact ⟨⟨o, keepU b o e h2⟩, h2⟩
          · rw [setH_eq, List.length_set]; exact Nat.le_refl _
          · rw [setH_eq, List.length_set]; exact fun m h1 h2 => absurd h2 (Nat.not_lt.mpr h1)
        · cases z'
      · cases z'
    · cases z
  · cases z
end
/-! ### the law -/
def spL : PySem.W.Frag → Sp := fun K vs H Q _ => ∃ (a : Addr) (ns : List Int), vs = [.ref a] ∧ SqS K H a (ns.map V.int) ∧ ns.length ≤ 1000000 ∧ ∀ H', Q (.bl true) H'
theorem spL_of {G : Cn} {F : KF} (hF : F [.scr] [] isT = true) {vs : List V} {H : Hp} {Q : VK} {E : XK} (q : spL G.K vs H Q E) : SpF G 1 F vs H Q E := by
  obtain ⟨a, ns, rfl, sq, ln, q⟩ := q
  refine ⟨rfl, ⟨fun _ => 0, fun _ => False⟩, [], [.scr], isT, ⟨fun n o e => by simp at e, fun n m hn => by simp at hn, fun b hb => hb.elim⟩, RVs.cons (by unfold RV; exact ⟨a, ns, rfl, sq, ln⟩) RVs.nil, hF, fun v h' ρ' H' x z p r => ?_⟩
  unfold isT at z
  split at z
  · subst z
    unfold RV at r
    subst r
    exact q H'
  · cases z
theorem walkL {l : PySem.W.OpenLaw} {n k : Nat} {q : Program} {loose : List Str} {XP : (Str → Option Value) → Heap → Prop} {YP : World → Heap → Prop} {d : DefRec} {K : Params → PySem.W.Frag} {x : Str}
    (hn : l.most = some n) (hn2 : n ≤ 1000000) (hdf : d.params.defaults = []) (room : Room k PySem.callerA) (hY : ∀ (w : World) (h : Heap), YP w h → (K w.params).In h)
    (F : ∀ (w : World) (mg : Str → Option Value) (fa : Addr) (h : Heap), (K w.params).In h → h.Ns mainGlobals mg → mg d.name = some (.ref fa) →
      ∃ fd : FuncData, (∀ (s : Shared) (u : Value), BindsTo s fd ⟨[u], []⟩ [(x, u)]) ∧ ∀ base : Heap, (K w.params).In base → base.Ns mainGlobals mg → FnG l.prog w (K w.params) mg base k fa fd [x] (spL (K w.params))) :
    PySem.W.WalkO q loose XP YP l.row.toRowW d [] (fun f vs => PySem.call f vs) := by
  refine walkG hn (by rw [sizeLine_eq]; omega) hdf room hY F fun K H a ns hl only sq => ⟨a, ns, rfl, ?_, by omega, fun _ => rfl⟩
  rcases sq with (e | ⟨o, e⟩) | w
  · rcases only a with z | ⟨o, xs, z⟩
    · rw [e] at z; cases z
    · rw [e] at z; cases z
  · exact .inl ⟨o, e⟩
  · exact .inr w
end Eg

set_option autoImplicit false
set_option maxRecDepth 100000
set_option maxHeartbeats 2000000
/-! E25: small helps for printed texts. -/
namespace Eg
open PySem PySem.Spec L2
theorem bt_len : bootBuiltins "len" = some (.builtin "len") := by decide +kernel
theorem bt_all : bootBuiltins "all" = some (.builtin "all") := by decide +kernel
theorem bt_any : bootBuiltins "any" = some (.builtin "any") := by decide +kernel
theorem bt_int : bootBuiltins "int" = some (.type "int") := by decide +kernel
theorem bt_tuple : bootBuiltins "tuple" = some (.type "tuple") := by decide +kernel
theorem bt_list : bootBuiltins "list" = some (.type "list") := by decide +kernel
theorem bt_dict : bootBuiltins "dict" = some (.type "dict") := by decide +kernel
theorem bt_sorted : bootBuiltins "sorted" = some (.builtin "sorted") := by decide +kernel
theorem bt_repr : bootBuiltins "repr" = some (.builtin "repr") := by decide +kernel
theorem bt_max : bootBuiltins "max" = some (.builtin "max") := by decide +kernel
theorem bt_min : bootBuiltins "min" = some (.builtin "min") := by decide +kernel
theorem bt_isinstance : bootBuiltins "isinstance" = some (.builtin "isinstance") := by decide +kernel
/-- the same in a block -/
theorem Gd.blk {G : Cn} {X : Cx} (g : Gd G X) (s : Shared) (H : Hp) (scope : Scope) (ce : Env) (fp : List Addr) : Gd G (X.blk s H scope ce fp) := ⟨g.k, g.c, g.nd, g.u, g.gd, g.w⟩
/-- what the classes' facts say -/
structure ClsF (G : Cn) : Prop where
  cl : ∀ c, c < G.nc → Cls G.K (G.cls c)
  na : ∀ c i, c < G.nc → i < G.nf → NoAttr G.K (G.cls c) (G.fld i)
  inj : ∀ i j, i < G.nf → j < G.nf → G.fld i = G.fld j → i = j
theorem Gd.gk {G : Cn} {X : Cx} (g : Gd G X) (c : ClsF G) : Gk G X := ⟨g, c.cl, c.na, c.inj⟩
end Eg

set_option autoImplicit false
set_option maxRecDepth 100000
set_option maxHeartbeats 2000000
/-! E26: constants of the module; d.pop(k). -/
namespace Eg
open PySem PySem.Spec L2
section
variable {G : Cn} {X : Cx} {x : Str} {v : EV} {pos : Pos}
/-- a constant of the module: its value as a value of the layer -/
def GcE (G : Cn) (mg : Str → Option Value) (x : Str) (v : EV) : Prop := ∃ u y, mg x = some u ∧ RelV y u ∧ ∀ ρ L H, RV G ρ L H v y
theorem x_globE (hg : Gl X x) (T : GcE G X.mg x v) (hd : (x == ("__debug__" : Str)) = false := by decide) : XE G X (.Name x pos) (kC v) := by
  obtain ⟨u, y, h1, h2, h3⟩ := T
  exact x_glob hg h1 h2 h3 hd
variable {ρ : Rho} {h : EH} {H : Hp} {L : Nat}
theorem kt_drop {kvs : List (List Key × V)} {xs : List (List Key × Addr × Value)} (k : List Key) (r : L2.KT H kvs xs) : L2.KT H (dropK kvs k) (withoutH xs k) := by
  induction r with
  | nil => exact Paired.nil
  | @cons p q ps qs h t ih =>
    by_cases e : p.1 = k
    · have e2 : q.1 = k := h.1.symm.trans e
      have z1 : dropK (p :: ps) k = dropK ps k := List.filter_cons_of_neg (by simp [e])
      have z2 : withoutH (q :: qs) k = withoutH qs k := List.filter_cons_of_neg (by simp [e2])
      rw [z1, z2]
      exact ih
    · have e2 : ¬ q.1 = k := fun z => e (h.1.trans z)
      have z1 : dropK (p :: ps) k = p :: dropK ps k := List.filter_cons_of_pos (by simp [e])
      have z2 : withoutH (q :: qs) k = q :: withoutH qs k := List.filter_cons_of_pos (by simp [e2])
      rw [z1, z2]
      exact Paired.cons h ih
/-- d.pop(k), k there -/
def rDPop : V → List V → Hp → VK → Prop := fun x xs H Q => ∃ (a : Addr), x = .ref a ∧ ((∃ (kvs : List (Key × V)) (k : Key) (v : V), xs = [kV k] ∧ H a = some (.dK kvs) ∧ valV kvs k = some v ∧ Q v (upd H a (.dK (dropK kvs k)))) ∨
  ∃ (kvs : List (List Key × V)) (k : List Key) (b : Addr) (v : V), xs = [.ref b] ∧ H a = some (.dT kvs) ∧ H b = some (.tup (k.map kV)) ∧ valV kvs k = some v ∧ Q v (upd H a (.dT (dropK kvs k))))
theorem mt_dpop (g : Gd G X) : MtR X "dict.pop" rDPop := by
  intro pins s σ H x xs v us Q I rx rxs h
  obtain ⟨a, rfl, h⟩ := h
  cases rx
  rcases h with ⟨kvs, k, v, rfl, ha, hv, q⟩ | ⟨kvs, k, b, v, rfl, ha, hb, hv, q⟩
  · obtain ⟨u, rfl, r1⟩ := vals1 rxs
    exact d_pop (more := []) I ha r1 hv (.inl rfl) fun w' s' I' rw' => ⟨v, _, I', rw', q⟩
  · obtain ⟨u, rfl, r1⟩ := vals1 rxs
    cases r1
    obtain ⟨z, hd, xs', rel, dd⟩ := dt_of I.hok ha
    have hz : xs'.length ≤ sizeLine := by rw [← Paired.length rel]; exact z
    have r := rel.val k
    rw [hv] at r
    obtain ⟨p, hp, rp⟩ : ∃ p, atKey xs' k = some p ∧ RelV v p.2 := by
      cases e : atKey xs' k with
      | none => rw [e] at r; exact r.elim
      | some p => rw [e] at r; exact ⟨p, rfl, r⟩
    refine call_pop_heap (more := []) (.inl rfl) (PySem.F.args_dict_pop_2 _ _) (tupleKind_room_in1 (by have := g.u; omega)) (key_of I.hok hb) hd dd hp (fun h' dd' hs => ?_) hz
    obtain ⟨o, es, ep, hq, h2, h3, h4, _, h5⟩ := dd'
    exact ⟨v, _, d_write (ob := .dT (dropK kvs k)) I (by rw [ha]; exact True.intro) hs ⟨o, hq⟩ ⟨Nat.le_trans (dropK_le kvs k) z, hd, _, (kt_drop k rel).keeps (fun c ys ec => (by rw [upd_ne (ne_of ec ha (fun z => nomatch z))]; exact ec)), o, es, ep, hq, h2, h3, h4, h5⟩, rp, q⟩
def mDPop : EV → List EV → EH → (EV → EH → Bool) → Bool := fun v vs h k => match v with
  | .ref n => match getH h n with
    | some (.dic t ks xs) => match vs with
      | [w] => match keyOk t w with
        | true => match lookE ks xs w with
          | some y => match dropE ks xs w with
            | (a, b) => k y (setH h n (.dic t a b))
          | none => false
        | false => false
      | _ => false
    | _ => false
  | _ => false
theorem s_dpop : MtS G mDPop "dict" rDPop := by
  intro ρ h H v x vs xs k Q S rv rvs z af
  unfold mDPop at z
  split at z
  · rename_i n
    unfold RV at rv
    obtain ⟨hn, rfl⟩ := rv
    rw [getH_eq] at z
    split at z
    · rename_i t ks ws e1
      split at z
      · rename_i w
        obtain ⟨y, rfl, q⟩ := one rvs
        split at z
        · rename_i ek
          split at z
          · rename_i y0 e2
            have z : k y0 (setH h n (.dic t (dropE ks ws w).1 (dropE ks ws w).2)) = true := z
            obtain ⟨ys, rr, ro⟩ := S.obj n _ e1
            have dg := dget_of rr ro.rd q ek
            cases t with
            | false =>
              obtain ⟨kl, k1, k2, k3⟩ := ro
              obtain ⟨key, ek⟩ := Option.isSome_iff_exists.mp ek
              have ey := key_k ek q
              subst ey
              have lk := look_is kOf_f ek k1 rr k2
              rw [e2] at lk
              obtain ⟨y1, lv, ry⟩ := lk
              obtain ⟨kk', ys', i0, i1, i2, i3⟩ := drop_is kOf_f ek k1 rr k2
              refine ⟨ρ n, rfl, .inl ⟨_, key, y1, rfl, k3, lv, ?_⟩⟩
              have w1 : RO G ρ h.length (upd H (ρ n) (.dK (dropK (kl.zip ys) key))) (.dic false (dropE ks ws w).1 (dropE ks ws w).2) (ρ n) := ⟨ys', RVs.write S hn i1, kk', i0, i2, by rw [upd_same, i3]⟩
              exact af _ _ ρ _ _ z (Post.write S hn w1) (by
                have := RV.write (o := .dK (dropK (kl.zip ys) key)) S hn ry
                simpa [setH_eq] using this)
            | true =>
              obtain ⟨kl, k1, k2, k3⟩ := ro
              obtain ⟨key, ek⟩ := Option.isSome_iff_exists.mp ek
              obtain ⟨b, ey, eb⟩ := key_t ek q
              subst ey
              have lk := look_is tOf_f ek k1 rr k2
              rw [e2] at lk
              obtain ⟨y1, lv, ry⟩ := lk
              obtain ⟨kk', ys', i0, i1, i2, i3⟩ := drop_is tOf_f ek k1 rr k2
              refine ⟨ρ n, rfl, .inr ⟨_, key, b, y1, rfl, k3, eb, lv, ?_⟩⟩
              have w1 : RO G ρ h.length (upd H (ρ n) (.dT (dropK (kl.zip ys) key))) (.dic true (dropE ks ws w).1 (dropE ks ws w).2) (ρ n) := ⟨ys', RVs.write S hn i1, kk', i0, i2, by rw [upd_same, i3]⟩
              exact af _ _ ρ _ _ z (Post.write S hn w1) (by
                have := RV.write (o := .dT (dropK (kl.zip ys) key)) S hn ry
                simpa [setH_eq] using this)
          · cases z
        · cases z
      · cases z
    · cases z
  · cases z
end
end Eg

set_option autoImplicit false
set_option maxRecDepth 100000
set_option maxHeartbeats 2000000
/-! E27: the law's own _law_cells. -/
namespace Eg
open PySem PySem.Spec L2
/-- i, i + 1, .. : n of them -/
def rngZ : Nat → Nat → List EV
  | _, 0 => []
  | i, n + 1 => .int (.ofNat i) :: rngZ (.succ i) n
/-- the list 0 .. m - 1, for each m from 1 to the limit -/
def kCells : KE := fun s h k => match getS s 0, getS s 1 with
  | some .scr, some (.int (.ofNat (.succ l))) => match Nat.ble l 1000 with
    | true => allD (fun m => k (.lst (rngZ 0 (.succ m))) h) (.succ l)
    | false => false
  | _, _ => false
section
variable {G : Cn} {X : Cx} {ρ : Rho} {L : Nat} {H : Hp}
theorem rv_rng : ∀ (n i : Nat), RVs G ρ L H (rngZ i n) ((List.range n).map fun j => V.int ((i : Int) + (j : Nat)))
  | 0, i => RVs.nil
  | n + 1, i => by
    rw [List.range_succ_eq_map, List.map_cons, List.map_map]
    refine RVs.cons (by unfold RV; simp) ?_
    have := rv_rng n (i + 1)
    have e : ((fun j : Nat => V.int ((i : Int) + (j : Nat))) ∘ Nat.succ) = fun j : Nat => V.int (((i + 1 : Nat) : Int) + (j : Nat)) := by
      funext j
      simp only [Function.comp]
      congr 1
      omega
    rw [e]
    exact this
variable {p0 p1 p2 p3 p4 p5 p6 p7 p8 p9 p10 p11 p12 : Pos}
theorem x_cells (g : Gd G X) (m1 : X.mg "list" = none) (m2 : X.mg "range" = none) (m3 : X.mg "max" = none) (m4 : X.mg "min" = none) (m5 : X.mg "len" = none)
    (g1 : Gl X "list" := by rfl) (g2 : Gl X "range" := by rfl) (g3 : Gl X "max" := by rfl) (g4 : Gl X "min" := by rfl) (g5 : Gl X "len" := by rfl)
    (n0 : X.N[0]? = some ("script" : Str) := by rfl) (n1 : X.N[1]? = some ("limit" : Str) := by rfl) (v0 : Vis X.env.scope "script" := by exact Or.inl rfl) (v1 : Vis X.env.scope "limit" := by exact Or.inl rfl) :
    XE G X (.Call (.Name "list" p0) [.Call (.Name "range" p1) [.Call (.Name "max" p2) [.Constant (.int 1) 0 p3, .Call (.Name "min" p4) [.Name "limit" p5, .Call (.Name "len" p6) [.Name "script" p7] [] p8] [] p9] [] p10] [] p11] [] p12) kCells := by
  refine PE.imp (pe_listRg g.c g1 m1 (prg_1 g2 m2 (pe_callB (call_max2 g.c) g3 m3 PyProof.Rows.boot_max (pa_cons pe_int (pa_cons (pe_callB (call_min2 g.c) g4 m4 PyProof.Rows.boot_min (pa_cons (pe_var n1 v1 (by decide) (by decide)) (pa_cons (pe_callB call_len_seq g5 m5 PySem.boot_len (pa_cons (pe_var n0 v0 (by decide) (by decide)) pa_nil)) pa_nil))) pa_nil))))) fun σ H Q ⟨ρ, s, h, k, S, R, z, af⟩ => ?_
  unfold kCells at z
  split at z
  · rename_i l e0 e1
    split at z
    · rename_i hl
      have hl := Nat.le_of_ble_eq_true hl
      obtain ⟨x0, ex0, r0⟩ := R.get e0
      obtain ⟨x1, ex1, r1⟩ := R.get e1
      unfold RV at r0 r1
      obtain ⟨a, ns, rfl, sq, ln⟩ := r0
      subst r1
      have all := allD_is z
      refine ⟨_, ex1, _, ex0, a, _, rfl, .inl (g.k ▸ sq.sq), _, _, rfl, ?_⟩
      refine ⟨_, _, rfl, ?_⟩
      rw [List.length_map]
      obtain ⟨m, hm, em⟩ : ∃ m : Nat, m < l.succ ∧ (if (if ((ns.length : Nat) : Int) < Int.ofNat l.succ then ((ns.length : Nat) : Int) else Int.ofNat l.succ) > 1 then (if ((ns.length : Nat) : Int) < Int.ofNat l.succ then ((ns.length : Nat) : Int) else Int.ofNat l.succ) else 1) = ((m + 1 : Nat) : Int) := by
        have e : Int.ofNat l.succ = ((l : Nat) : Int) + 1 := rfl
        rw [e]
        by_cases h1 : ((ns.length : Nat) : Int) < (l : Int) + 1
        · rw [if_pos h1]
          by_cases h2 : ((ns.length : Nat) : Int) > 1
          · rw [if_pos h2]; exact ⟨ns.length - 1, by omega, by omega⟩
          · rw [if_neg h2]; exact ⟨0, by omega, rfl⟩
        · rw [if_neg h1]
          by_cases h2 : (l : Int) + 1 > 1
          · rw [if_pos h2]; exact ⟨l, by omega, by omega⟩
          · rw [if_neg h2]; exact ⟨0, by omega, rfl⟩
      rw [em]
      refine ⟨_, rfl, RgOk.of_le (by omega) (by omega) (by omega) (by omega), fun q hq => ?_⟩
      have rr : RVs G ρ h.length H (rngZ 0 (m + 1)) (rgV 0 ((m + 1 : Nat) : Int)) := by
        have := rv_rng (G := G) (ρ := ρ) (L := h.length) (H := H) (m + 1) 0
        unfold rgV
        simpa using this
      exact af _ h ρ _ _ (all m hm) (Post.temp S hq) (rv_lst S hq rr)
    · cases z
  · cases z
end
end Eg

set_option autoImplicit false
set_option maxRecDepth 100000
set_option maxHeartbeats 2000000
/-! E28: a def that says yes or no, asked by itself; the draws one by one. -/
namespace Eg
open PySem PySem.Spec L2
mutual
/-- no object of the engine's -/
def pur : EV → Bool
  | .ref _ => false
  | .tup xs => purs xs
  | .lst xs => purs xs
  | .dct _ _ vs => purs vs
  | .kt xs => purs xs
  | .clo _ xs => purs xs
  | .exc _ v => pur v
  | _ => true
def purs : List EV → Bool
  | [] => true
  | x :: xs => match pur x with
    | true => purs xs
    | false => false
end
def isFa : EV → EH → Bool := fun v _ => match v with
  | .bl true => false
  | .bl false => true
  | _ => false
/-- a def that says yes or no, asked at an empty heap -/
def memoB (F : KF) : KF := fun args h k => match purs args with
  | true => match F args [] isT with
    | true => k (.bl true) h
    | false => match F args [] isFa with
      | true => k (.bl false) h
      | false => false
  | false => false
section
variable {G : Cn} {F : KF} {ρ : Rho} {H : Hp} {L n : Nat}
mutual
theorem pur_rv : ∀ {v : EV} {x : V}, pur v = true → RV G ρ L H v x → RV G ρ 0 H v x
  | .non, x, _, r => by unfold RV at r ⊢; exact r
  | .bl b, x, _, r => by unfold RV at r ⊢; exact r
  | .int i, x, _, r => by unfold RV at r ⊢; exact r
  | .str c, x, _, r => by unfold RV at r ⊢; exact r
  | .rp v, x, _, r => by unfold RV at r ⊢; exact r
  | .scr, x, _, r => by unfold RV at r ⊢; exact r
  | .tx _, x, _, r => by unfold RV at r ⊢; exact r
  | .ref n, x, z, _ => by unfold pur at z; cases z
  | .tup xs, x, z, r => by
    unfold pur at z
    unfold RV at r ⊢
    obtain ⟨a, ys, e, q, rr⟩ := r
    exact ⟨a, ys, e, q, purs_rv z rr⟩
  | .kt xs, x, z, r => by
    unfold pur at z
    unfold RV at r ⊢
    obtain ⟨a, ys, e, q, rr⟩ := r
    exact ⟨a, ys, e, q, purs_rv z rr⟩
  | .lst xs, x, z, r => by
    unfold pur at z
    unfold RV at r ⊢
    obtain ⟨a, ys, e, q, u, rr⟩ := r
    exact ⟨a, ys, e, q, ⟨u.1, fun n hn => absurd hn (Nat.not_lt_zero n)⟩, purs_rv z rr⟩
  | .dct t ks vs, x, z, r => by
    unfold pur at z
    unfold RV at r ⊢
    obtain ⟨a, ys, e, u, rr, d⟩ := r
    exact ⟨a, ys, e, ⟨u.1, fun n hn => absurd hn (Nat.not_lt_zero n)⟩, purs_rv z rr, d⟩
  | .clo i caps, x, z, r => by
    unfold pur at z
    unfold RV at r ⊢
    obtain ⟨f, cl, ys, e, fa, co, rr⟩ := r
    exact ⟨f, cl, ys, e, fa, co, purs_rv z rr⟩
  | .exc c v, x, z, r => by
    unfold pur at z
    unfold RV at r ⊢
    obtain ⟨a, oe, vs, d, od, y, e, ha, h1, h2, h3, h4, hd, rr⟩ := r
    exact ⟨a, oe, vs, d, od, y, e, ha, h1, h2, h3, h4, hd, pur_rv z rr⟩
theorem purs_rv : ∀ {vs : List EV} {xs : List V}, purs vs = true → RVs G ρ L H vs xs → RVs G ρ 0 H vs xs
  | [], xs, _, r => by unfold RVs at r ⊢; exact r
  | v :: vs, xs, z, r => by
    unfold purs at z
    unfold RVs at r ⊢
    obtain ⟨y, ys, e, r1, r2⟩ := r
    split at z
    · rename_i z1
      exact ⟨y, ys, e, pur_rv z1 r1, purs_rv z r2⟩
    · cases z
end
/-- what a run at an empty heap says of the heap -/
theorem post0 {h h' : EH} {ρ' : Rho} {H' : Hp} (S : Sim G ρ h H) (p : Post G ρ [] H ρ' h' H') : Post G ρ h H ρ h H' := by
  have keep : ∀ b o, H b = some o → H' b = some o := fun b o e => p.frame b o e fun m hm => absurd hm (Nat.not_lt_zero m)
  refine ⟨⟨fun m o e => ?_, S.inj, fun b hb => ?_⟩, Nat.le_refl _, fun _ _ => rfl, fun b o e _ => keep b o e, fun m h1 h2 => absurd h2 (Nat.not_lt.mpr h1), p.tups, p.frzs, rfl⟩
  · exact RO.stay (fun _ _ => rfl) (Nat.le_refl _) (fun b o e _ => keep b o e) (fun _ h1 h2 => absurd h2 (Nat.not_lt.mpr h1)) p.tups p.frzs rfl (by
      have hm := (List.getElem?_eq_some_iff.mp e).1
      obtain ⟨oo, eo⟩ := S.some_at hm
      rw [eo]
      exact keep _ _ eo) (S.obj m o e)
  · obtain ⟨⟨o, e⟩, h2⟩ := S.ban b hb
    exact ⟨⟨o, keep b o e⟩, h2⟩
theorem memo_sp {vs : List V} {Q : VK} {E : XK} (q : SpF G n (memoB F) vs H Q E) : SpF G n F vs H Q E := by
  obtain ⟨hl, ρ, h, as, k, S, r, z, af⟩ := q
  unfold memoB at z
  have S0 : Sim G ρ [] H := ⟨fun m o e => by simp at e, fun m j hm => absurd hm (Nat.not_lt_zero m), fun b hb => ⟨(S.ban b hb).1, fun m hm => absurd hm (Nat.not_lt_zero m)⟩⟩
  split at z
  · rename_i zp
    split at z
    · rename_i z1
      refine ⟨hl, ρ, [], as, isT, S0, purs_rv zp r, z1, fun v h' ρ' H' x z' p r' => ?_⟩
      unfold isT at z'
      split at z'
      · subst z'
        unfold RV at r'
        subst r'
        exact af _ h ρ H' _ z (post0 S p) (by unfold RV; rfl)
      · cases z'
    · split at z
      · rename_i z1
        refine ⟨hl, ρ, [], as, isFa, S0, purs_rv zp r, z1, fun v h' ρ' H' x z' p r' => ?_⟩
        unfold isFa at z'
        split at z'
        · cases z'
        · unfold RV at r'
          subst r'
          exact af _ h ρ H' _ z (post0 S p) (by unfold RV; rfl)
        · cases z'
      · cases z
  · cases z
variable {P : Program} {w : World} {mg : Str → Option Value} {base : Heap} {k j c : Nat} {x : Str} {ps : List Str}
theorem DfOk.memo (d : DfOk P w mg base G k x ps F) : DfOk P w mg base G k x ps (memoB F) := by
  obtain ⟨fn, fd, h1, h2, h3, h4⟩ := d
  exact ⟨fn, fd, h1, h2, h3, h4.imp fun _ _ _ _ q => memo_sp q⟩
end
/-! ### the draws -/
/-- the law's _law_take, shut: the kernel does not look into it -/
theorem takeSh : ∃ f : KF, f = takeF := ⟨takeF, rfl⟩
@[irreducible] noncomputable def takeX : KF := Classical.choose takeSh
theorem takeX_eq : takeX = takeF := by unfold takeX; exact Classical.choose_spec takeSh
theorem take_all {n u z : Nat} {h : EH} {k : EV → EH → Bool} (e : getH h n = some (.pot z)) (hu : Nat.ble u 1000000 = true) (hz : Nat.ble z 100000 = true)
    (q : ∀ d, d < Nat.succ u → k (.int (.ofNat d)) (setH h n (.pot (.succ z))) = true) : takeX [.ref n, .int (.ofNat (.succ u))] h k = true := by
  rw [takeX_eq]
  have hm : ∀ m, m ≤ Nat.succ u → allD (fun d => k (.int (.ofNat d)) (setH h n (.pot (.succ z)))) m = true := by
    intro m
    induction m with
    | zero => intro _; rfl
    | succ m ih =>
      intro h1
      unfold allD
      rw [q m h1]
      exact ih (Nat.le_of_succ_le h1)
  unfold takeF
  simp only [hu, e, hz]
  exact hm _ (Nat.le_refl _)
theorem lt_z {p : Nat → Prop} : ∀ d, d < 0 → p d := fun d h => absurd h (Nat.not_lt_zero d)
theorem lt_s {p : Nat → Prop} {n : Nat} (h : p n) (q : ∀ d, d < n → p d) : ∀ d, d < n + 1 → p d := fun d hd => by
  by_cases e : d = n
  · subst e; exact h
  · exact q d (by omega)
end Eg
namespace Eg
open PySem PySem.Spec L2
theorem DfOk.framed {P : Program} {w : World} {mg : Str → Option Value} {base : Heap} {G : Cn} {k : Nat} {x : Str} {ps : List Str} {F : KF} (d : DfOk P w mg base G k x ps F) (hl : ps.length = 1) (hF : F [.ref 0] [.pot 0] finT = true) : DfOk P w mg base G k x ps okF := by
  obtain ⟨fn, fd, h1, h2, h3, h4⟩ := d
  refine ⟨fn, fd, h1, h2, h3, h4.imp fun _ _ _ _ q => ?_⟩
  rw [hl] at q ⊢
  exact Eg.framed hF q
end Eg

set_option autoImplicit false
set_option maxRecDepth 100000
set_option maxHeartbeats 2000000
/-! E29: pairs sorted by their first items, which are unlike. -/
namespace Eg
open PySem PySem.Spec L2 PySem.W PySem.Calls PyProof.Rows
/-- v is a pair whose first item reads as d -/
def PairD (h : Heap) (v : Value) (d : PyData) : Prop := ∃ (a k : Addr) (o : Obj) (u : Value) (n : Nat) (as : List Addr), v = .ref a ∧ h.get? a = some o ∧ o.cls = .type "tuple" ∧ o.data = .seq #[.ref k, u] n ∧ Reads h (.ref k) d as
theorem PairD.uniq {h : Heap} {v : Value} {d d' : PyData} (x : PairD h v d) (y : PairD h v d') (al : alike d d' = true) : d = d' := by
  obtain ⟨a, k, o, u, n, as, e1, h1, c1, d1, r1⟩ := x
  obtain ⟨a', k', o', u', n', as', e2, h2, c2, d2, r2⟩ := y
  rw [e1] at e2
  cases e2
  rw [h1] at h2
  cases h2
  rw [d1] at d2
  have z : #[Value.ref k, u] = #[Value.ref k', u'] := by injection d2
  have z1 : k = k' := by
    have := congrArg (fun x : Array Value => x[0]?) z
    simpa using this
  subst z1
  exact alike_unique _ _ _ _ _ al r1 r2
noncomputable def pairKind (bs : List (Value × PyData)) : PyProof.Rows.KeyKind where
  toKeyOrd := listOrd itemOrd
  keyOf v := open Classical in if q : ∃ b, b ∈ bs ∧ b.1 = v then some (keyToks q.choose.2) else none
  dflt := ([] : List (Int ⊕ List Nat))
section
variable {h : Heap} {bs : List (Value × PyData)}
theorem pairKind_some (hd : ∀ b ∈ bs, PairD h b.1 b.2) (hal : ∀ b ∈ bs, ∀ c ∈ bs, alike b.2 c.2 = true) {b : Value × PyData} (hb : b ∈ bs) : (pairKind bs).keyOf b.1 = some (keyToks b.2) := by
  have q : ∃ c, c ∈ bs ∧ c.1 = b.1 := ⟨b, hb, rfl⟩
  have e : (pairKind bs).keyOf b.1 = some (keyToks q.choose.2) := by
    show (open Classical in if q : ∃ c, c ∈ bs ∧ c.1 = b.1 then some (keyToks q.choose.2) else none) = _
    rw [dif_pos q]
  obtain ⟨h1, h2⟩ := q.choose_spec
  have x := hd _ h1
  rw [h2] at x
  rw [e, x.uniq (hd b hb) (hal _ h1 _ hb)]
theorem pairKind_inv {v : Value} {k : List (Int ⊕ List Nat)} (e : (pairKind bs).keyOf v = some k) : ∃ b, b ∈ bs ∧ b.1 = v ∧ k = keyToks b.2 := by
  by_cases q : ∃ c, c ∈ bs ∧ c.1 = v
  · have e' : (pairKind bs).keyOf v = some (keyToks q.choose.2) := by
      show (open Classical in if q : ∃ c, c ∈ bs ∧ c.1 = v then some (keyToks q.choose.2) else none) = _
      rw [dif_pos q]
    obtain ⟨h1, h2⟩ := q.choose_spec
    rw [e'] at e
    exact ⟨_, h1, h2, (Option.some.inj e).symm⟩
  · have e' : (pairKind bs).keyOf v = none := by
      show (open Classical in if q : ∃ c, c ∈ bs ∧ c.1 = v then some (keyToks q.choose.2) else none) = _
      rw [dif_neg q]
      rfl
    rw [e'] at e
    exact absurd e (by simp)
end
section
variable {prog : Program} {w : World} {A : Around} {s : Shared} {bs : List (Value × PyData)}
theorem pair_firsts {h : Heap} : ∀ bs : List (Value × PyData), (∀ b ∈ bs, PairD h b.1 b.2) → (∀ b ∈ bs, ∃ x r, b.2 = .tuple (x :: r)) → ∃ fs : List Value, KatTups h (bs.map (·.1)) fs ∧ fs.length = bs.length ∧ ∀ f ∈ fs, ∃ (q : Addr) (o : Obj), f = Value.ref q ∧ h.get? q = some o ∧ o.cls = .type "tuple"
  | [], _, _ => ⟨[], KatTups.nil, rfl, fun f hf => nomatch hf⟩
  | b :: bs, x, t => by
    obtain ⟨fs, k, hl, hi⟩ := pair_firsts bs (fun u hu => x u (List.mem_cons_of_mem _ hu)) fun u hu => t u (List.mem_cons_of_mem _ hu)
    obtain ⟨a, q, o, u, n, as, e, ho, hc, hdt, r⟩ := x b List.mem_cons_self
    obtain ⟨y, l, ed⟩ := t b List.mem_cons_self
    rw [ed] at r
    refine ⟨.ref q :: fs, ?_, by rw [List.length_cons, List.length_cons, hl], fun f hf => ?_⟩
    · rw [List.map_cons, e]
      exact KatTups.cons ho hc hdt rfl k
    · rcases List.mem_cons.mp hf with rfl | hf
      · cases r with
        | @tuple _ o2 xs n2 _ _ h1 h2 h3 h4 => exact ⟨q, o2, rfl, h1, h2⟩
      · exact hi f hf
theorem lex_irr (x : List (Int ⊕ List Nat)) : PyProof.Rows.lexLt itemOrd x x = false := (listOrd itemOrd).irrefl x
theorem sorts_pairs (hd : ∀ b ∈ bs, PairD s.heap b.1 b.2) (hal : ∀ b ∈ bs, ∀ c ∈ bs, alike b.2 c.2 = true) (hne : ∀ b ∈ bs, ∀ c ∈ bs, PyData.eqv b.2 c.2 = true → b = c) (tp : ∀ b ∈ bs, ∃ x r, b.2 = .tuple (x :: r))
    (hu : ∀ b ∈ bs, A.units + 1 + b.2.depth < cLine) : SortsAt prog w A s (pairKind bs) (bs.map (·.1)) := by
  refine ⟨fun v hv => ?_, tuples' false, ?_, fun h2 E Q hq => ?_⟩
  · obtain ⟨b, hb, rfl⟩ := List.mem_map.mp hv
    exact ⟨_, pairKind_some hd hal hb⟩
  · intro E x y a b Q ha hb hq
    obtain ⟨p, hp, rfl, rfl⟩ := pairKind_inv ha
    obtain ⟨q, hq', rfl, rfl⟩ := pairKind_inv hb
    have hq2 : Q (PyProof.Rows.lexLt itemOrd (keyToks p.2) (keyToks q.2)) s := hq
    obtain ⟨a1, k1, o1, u1, n1, as1, e1, h1, c1, d1, r1⟩ := hd p hp
    obtain ⟨a2, k2, o2, u2, n2, as2, e2, h2, c2, d2, r2⟩ := hd q hq'
    have room : A.units + min p.2.depth q.2.depth < cLine := by
      have := hu p hp
      have := Nat.min_le_left p.2.depth q.2.depth
      omega
    have eq := eqAt_alike p.2 q.2 A s _ _ _ _ r1 r2 (hal p hp q hq') room
    rw [e1, e2]
    refine kat_lt h1 d1 h2 d2 ?_
    show KatLex prog w A false false Q [(Value.ref k1, Value.ref k2), (u1, u2)] 0 s
    refine kat_cons (eq prog w _ _ ?_)
    refine kat_go (fun e0 => ?_) (fun e0 => ?_)
    · have z := hne p hp q hq' e0
      subst z
      rw [e1] at e2
      cases e2
      rw [h1] at h2
      cases h2
      rw [d1] at d2
      have z : #[Value.ref k1, u1] = #[Value.ref k2, u2] := by injection d2
      have zu : u1 = u2 := by
        have := congrArg (fun x : Array Value => x[1]?) z
        simpa using this
      subst zu
      rw [lex_irr] at hq2
      refine kat_yes (kat_cons (SeqAt.EqAt.same u1 prog w _ _ ?_))
      exact kat_go (fun _ => kat_yes (kat_nil hq2)) (fun z => nomatch z)
    · refine kat_no ?_
      show wpAny _ _ (oneLt' false _ _) _ _ _
      obtain ⟨x, r, ex⟩ := tp p hp
      exact oneLt_alike (fun z => nomatch z) r1 r2 (hal p hp q hq') (by rw [ex]; exact fun z => nomatch z) room hq2
  · obtain ⟨fs, k, hl, hi⟩ := pair_firsts bs hd tp
    rw [List.length_map] at h2
    refine kat_kind (T := Value.type "tuple") k (by omega) (fun f hf => ?_) rfl ?_
    · obtain ⟨q, o, rfl, ho, hc⟩ := hi f hf
      have z : PySem.W.Looks (model prog w) s.heap (typeOf (.ref q)) o.cls := (PySem.W.Looks.ld ho).andThen .now
      rw [hc] at z
      exact z
    · have hb : (Value.type "tuple" != Value.type "tuple") = false := by first | rfl | decide | simp
      rw [hb]
      exact hq
end

theorem paired_maps {α β γ : Type} {F : β → γ → Prop} (f : α → β) (g : α → γ) : ∀ l : List α, (∀ z ∈ l, F (f z) (g z)) → Paired F (l.map f) (l.map g)
  | [], _ => Paired.nil
  | z :: l, h => Paired.cons (h z List.mem_cons_self) (paired_maps f g l fun y hy => h y (List.mem_cons_of_mem _ hy))
theorem paired_at {α β : Type} {F : α → β → Prop} : ∀ {l : List α} {m : List β} {j : Nat} {x : β}, Paired F l m → m[j]? = some x → ∃ y, l[j]? = some y ∧ F y x := L2.DX.pget
/-- sorted(d.items()), d's keys are tuples that read as alike data, unlike one another -/
def rSortPairs (K : PySem.W.Frag) : List V → Hp → VK → Prop := fun vs H Q => ∃ (p a : Addr) (ts : List (List L2.Key × V × PyData)), vs = [.ref p] ∧ H p = some (L2.DX.itemsO p a) ∧ Rd H a (.dT (ts.map fun t => (t.1, t.2.1))) ∧
  (∀ t ∈ ts, ∀ b, H b = some (.tup (t.1.map kV)) → Dp K H (.ref b) t.2.2) ∧ (∀ t ∈ ts, ∀ u ∈ ts, alike t.2.2 u.2.2 = true) ∧ (∀ t ∈ ts, ∀ u ∈ ts, PyData.eqv t.2.2 u.2.2 = true → t.1 = u.1) ∧ (∀ t ∈ ts, ∃ x r, t.2.2 = .tuple (x :: r)) ∧
  (∀ t ∈ ts, t.2.2.depth ≤ 100) ∧
  ∀ (H' : Hp) (l : Addr) (ps : List (Addr × Addr)), (∀ b o, H b = some o → H' b = some o) → H l = none → H' l = some (.lst (ps.map fun z => V.ref z.1)) →
    Paired (fun (q : Addr × Addr) (t : List L2.Key × V × PyData) => H' q.1 = some (.tup [.ref q.2, t.2.1]) ∧ H' q.2 = some (.tup (t.1.map kV))) ps (ts.mergeSort (dataLe false fun t => t.2.2)) → Q (.ref l) H'
theorem each_fst : ∀ bs : List (Value × PyData), EachIs (fun v b => v = b.1) (bs.map (·.1)) bs
  | [] => .nil
  | b :: bs => .cons rfl (each_fst bs)
theorem each_keyd {κ : PyProof.Rows.KeyKind} {k : Value × PyData → κ.α} : ∀ bs : List (Value × PyData), (∀ b ∈ bs, κ.keyOf b.1 = some (k b)) → EachIs (fun v b => κ.keyOf v = some (k b)) (bs.map (·.1)) bs
  | [], _ => .nil
  | b :: bs, h => .cons (h b List.mem_cons_self) (each_keyd bs fun c hc => h c (List.mem_cons_of_mem _ hc))
theorem each_out : ∀ {vs : List Value} {bs : List (Value × PyData)}, EachIs (fun v b => v = b.1) vs bs → vs = bs.map (·.1)
  | _, _, .nil => rfl
  | _, _, .cons h t => by rw [h, each_out t] <;> rfl
section
variable {X : Cx}
theorem cr_sortPairs (hc : X.calm = true) (hu : X.A.units + 150 < cLine) : CallR X (.builtin "sorted") (rSortPairs X.K) := by
  intro pins s σ H xs us Q I r h
  obtain ⟨p, a, ts, rfl, hp, ha, hdp, hal, hne, htp, hdd, q⟩ := h
  obtain rfl := Vals.ref1 r
  have view : s.heap.IsItemsView p a := (show ObjOk X.prog X.w H s.heap p (L2.DX.itemsO p a) from I.hok p _ hp).1
  obtain ⟨z, hd, xs', rel, o, es, ep, ho, hx, hdat, hes, his, hn⟩ := dt_rd I.hok ha
  have l1 : (ts.map fun t => (t.1, t.2.1)).length = xs'.length := Paired.length rel
  rw [List.length_map] at l1 z
  have l2 : es.size = xs'.length := size_of_entries hes
  have hh : X.A.handled = none := I.ok.hd hc
  refine DT.sortedI (es := es) (ep := ep) hh view ⟨o, ho, hx, hdat⟩ (by omega) fun h' tk as hk hlt hl hG => ?_
  have nd : as.Nodup := List.Pairwise.imp (fun h => Nat.ne_of_lt h) hG.rise
  have ne0 : ∀ b o, h'.get? b = some o → b ≠ h'.objs.size := fun b o e => Nat.ne_of_lt (Heap.lt_size e)
  -- the pairs that were made
  generalize hzs : as.zip (xs'.zip ts) = zs
  have mz : ∀ zz ∈ zs, ∃ j : Nat, as[j]? = some zz.1 ∧ xs'[j]? = some zz.2.1 ∧ ts[j]? = some zz.2.2 := by
    intro zz hzz
    rw [← hzs] at hzz
    obtain ⟨j, hj⟩ := List.mem_iff_getElem?.mp hzz
    obtain ⟨j1, j2⟩ := List.getElem?_zip_eq_some.mp hj
    obtain ⟨j2, j3⟩ := List.getElem?_zip_eq_some.mp j2
    exact ⟨j, j1, j2, j3⟩
  have lz : zs.length = as.length := by rw [← hzs, List.length_zip, List.length_zip]; omega
  have mfst : zs.map (·.1) = as := by rw [← hzs]; exact List.map_fst_zip (by rw [List.length_zip]; omega)
  have msnd : zs.map (fun zz => zz.2.2) = ts := by
    have e1 : zs.map (·.2) = xs'.zip ts := by rw [← hzs]; exact List.map_snd_zip (by rw [List.length_zip]; omega)
    have e2 : (xs'.zip ts).map (·.2) = ts := List.map_snd_zip (by omega)
    rw [← e2, ← e1, List.map_map]
    rfl
  have fact : ∀ zz ∈ zs, H zz.2.1.2.1 = some (.tup (zz.2.2.1.map kV)) ∧ RelV zz.2.2.2.1 zz.2.1.2.2 ∧ h'.get? zz.1 = some { cls := .type "tuple", data := .seq #[Value.ref zz.2.1.2.1, zz.2.1.2.2] } := by
    intro zz hzz
    obtain ⟨j, j1, j2, j3⟩ := mz zz hzz
    obtain ⟨en, he, hg⟩ := hG.pairs j _ j1
    rw [entry_at hes j, j2] at he
    have een : entryOfKey (tupleKind (mixKind X.prog X.w)) zz.2.1 = en := Option.some.inj he
    obtain ⟨e0, he0, r1, r2, r3⟩ := paired_at rel j2
    rw [List.getElem?_map, j3] at he0
    have ee := Option.some.inj he0
    rw [← ee] at r2 r3
    exact ⟨r2, r3, by rw [hg, ← een] <;> rfl⟩
  -- the heap of the sort
  have hob : (h'.push { cls := .type "list", data := .seq (as.map Value.ref).toArray }).get? h'.objs.size = some (seqObj "list" (as.map Value.ref).toArray 0) := Heap.get?_push_size _ rfl
  have kb : ∀ b o, s.heap.get? b = some o → (h'.push { cls := .type "list", data := .seq (as.map Value.ref).toArray }).get? b = some o := fun b o e => Heap.get?_push_of_some _ (hk b o e)
  generalize hh2 : h'.push { cls := .type "list", data := .seq (as.map Value.ref).toArray } = h2 at hob kb ⊢
  have ka : ∀ b o, h'.get? b = some o → h2.get? b = some o := fun b o e => by rw [← hh2]; exact Heap.get?_push_of_some _ e
  generalize hbs : zs.map (fun zz => ((Value.ref zz.1 : Value), zz.2.2.2.2)) = bs
  have hvs : bs.map (·.1) = as.map Value.ref := by
    rw [← hbs, List.map_map, ← mfst, List.map_map]
    rfl
  rw [← hvs] at hob
  have kso : ∀ b o, h'.get? b = some o → (sortingHeap h2 h'.objs.size (bs.map (·.1))).get? b = some o := fun b o e => sortingHeap_old (ne0 b o e) (ka b o e)
  have I' : Inv X pins σ H { s with heap := h', toks := tk } := I.kept hk
  have mb : ∀ b ∈ bs, ∃ zz ∈ zs, b = (Value.ref zz.1, zz.2.2.2.2) := fun b hb => by
    rw [← hbs] at hb
    obtain ⟨zz, h1, h2⟩ := List.mem_map.mp hb
    exact ⟨zz, h1, h2.symm⟩
  have mt : ∀ zz ∈ zs, zz.2.2 ∈ ts := fun zz hzz => by rw [← msnd]; exact List.mem_map.mpr ⟨zz, hzz, rfl⟩
  have pd : ∀ b ∈ bs, PairD (sortingHeap h2 h'.objs.size (bs.map (·.1))) b.1 b.2 := by
    intro b hb
    obtain ⟨zz, hzz, rfl⟩ := mb b hb
    obtain ⟨f1, f2, f3⟩ := fact zz hzz
    obtain ⟨rs, rd⟩ := Dp.reads I' zz.2.2.2.2 (.ref zz.2.1.2.1) (.ref zz.2.1.2.1) (hdp _ (mt zz hzz) _ f1) rfl
    exact ⟨zz.1, zz.2.1.2.1, _, zz.2.1.2.2, 0, rs, rfl, kso _ _ f3, rfl, rfl, PyProof.Rows.Reads.keeps kso rd⟩
  refine wpAny_call_entry PyProof.Rows.slot_list_sort ⟨_, hob, rfl⟩ PyProof.Rows.entry_list_sort
    (list_sort_vals (s := { s with heap := h2, toks := tk }) (κ := pairKind bs) hob (sorts_pairs (s := { s with heap := sortingHeap h2 h'.objs.size (bs.map (·.1)), toks := tk }) pd ?_ ?_ ?_ ?_) (by rw [hvs, List.length_map]; omega) ⟨.none, rfl, ?_⟩) (PyProof.Rows.args_list_sort _)
  · intro b hb c hc
    obtain ⟨y, hy, rfl⟩ := mb b hb
    obtain ⟨y2, hy2, rfl⟩ := mb c hc
    exact hal _ (mt y hy) _ (mt y2 hy2)
  · intro b hb c hc e
    obtain ⟨y, hy, rfl⟩ := mb b hb
    obtain ⟨y2, hy2, rfl⟩ := mb c hc
    have e1 := hne _ (mt y hy) _ (mt y2 hy2) e
    obtain ⟨j, j1, j2, j3⟩ := mz y hy
    obtain ⟨i, i1, i2, i3⟩ := mz y2 hy2
    obtain ⟨e0, he0, r1, r2, r3⟩ := paired_at rel j2
    obtain ⟨e0', he0', r1', r2', r3'⟩ := paired_at rel i2
    rw [List.getElem?_map, j3] at he0
    rw [List.getElem?_map, i3] at he0'
    have ee := Option.some.inj he0
    have ee' := Option.some.inj he0'
    rw [← ee] at r1
    rw [← ee'] at r1'
    have ek : y.2.1.1 = y2.2.1.1 := r1.symm.trans (e1.trans r1')
    have nk : (xs'.map (·.1)).Nodup := hn
    have q1 : (xs'.map (·.1))[j]? = some y.2.1.1 := by rw [List.getElem?_map, j2]; rfl
    have q2 : (xs'.map (·.1))[i]? = some y.2.1.1 := by rw [List.getElem?_map, i2, ek]; rfl
    have eij : j = i := (List.getElem?_inj (List.getElem?_eq_some_iff.mp q1).1 nk).mp (q1.trans q2.symm)
    subst eij
    rw [Option.some.inj (j1.symm.trans i1), Option.some.inj (j3.symm.trans i3)]
  · intro b hb
    obtain ⟨y, hy, rfl⟩ := mb b hb
    exact htp _ (mt y hy)
  · intro b hb
    obtain ⟨y, hy, rfl⟩ := mb b hb
    have := hdd _ (mt y hy)
    show X.A.units + 1 + 1 + 1 + y.2.2.2.2.depth < cLine
    omega
  · generalize hZ : zs.mergeSort (dataLe false fun zz => zz.2.2.2.2) = ZS
    have mZ : ∀ zz ∈ ZS, zz ∈ zs := fun zz h => by rw [← hZ] at h; exact List.mem_mergeSort.mp h
    have lZ : ZS.length = zs.length := by rw [← hZ, List.length_mergeSort]
    have bS : bs.mergeSort (dataLe false fun b => b.2) = ZS.map fun zz => ((Value.ref zz.1 : Value), zz.2.2.2.2) := by
      rw [← hZ, ← hbs]
      exact (List.map_mergeSort (f := fun zz : Addr × (List L2.Key × Addr × Value) × List L2.Key × V × PyData => ((Value.ref zz.1 : Value), zz.2.2.2.2)) (r := dataLe false fun zz : Addr × (List L2.Key × Addr × Value) × List L2.Key × V × PyData => zz.2.2.2.2) (s := dataLe false fun b : Value × PyData => b.2) fun _ _ _ _ => rfl).symm
    have tS : ts.mergeSort (dataLe false fun t => t.2.2) = ZS.map fun zz => zz.2.2 := by
      rw [← hZ]
      conv => lhs; rw [← msnd]
      exact (List.map_mergeSort (f := fun zz : Addr × (List L2.Key × Addr × Value) × List L2.Key × V × PyData => zz.2.2) (r := dataLe false fun zz : Addr × (List L2.Key × Addr × Value) × List L2.Key × V × PyData => zz.2.2.2.2) (s := dataLe false fun t : List L2.Key × V × PyData => t.2.2) fun _ _ _ _ => rfl).symm
    have hout : sortVals (pairKind bs) false (bs.map (·.1)) (bs.map (·.1)) = ZS.map fun zz => (Value.ref zz.1 : Value) := by
      have e1 := sortVals_each (κ := pairKind bs) (rev := false) (fun b => keyToks b.2) (each_fst bs) (each_keyd bs fun b hb => pairKind_some pd (fun b hb c hc => by
        obtain ⟨y, hy, rfl⟩ := mb b hb
        obtain ⟨y2, hy2, rfl⟩ := mb c hc
        exact hal _ (mt y hy) _ (mt y2 hy2)) hb)
      have e2 := each_out e1
      rw [e2]
      have e3 : bs.mergeSort (sortLe (pairKind bs).toKeyOrd false fun b => keyToks b.2) = ZS.map fun zz => ((Value.ref zz.1 : Value), zz.2.2.2.2) := bS
      rw [e3, List.map_map]
      rfl
    rw [hout]
    generalize hO : (ZS.map fun zz => (Value.ref zz.1 : Value)).toArray = out
    show EP X pins σ Q (.ref h'.objs.size) { s with heap := sortedHeap h2 h'.objs.size (bs.map (·.1)) out, toks := tk }
    have kF : ∀ b o, b ≠ h'.objs.size → h2.get? b = some o → (sortedHeap h2 h'.objs.size (bs.map (·.1)) out).get? b = some o := fun b o hb e => (PyProof.Rows.sortedHeap_old hb (Heap.lt_size e)).trans e
    have kS : ∀ b o, s.heap.get? b = some o → (sortedHeap h2 h'.objs.size (bs.map (·.1)) out).get? b = some o := fun b o e => kF b o (ne0 _ _ (hk b o e)) (kb b o e)
    obtain ⟨eF, heF⟩ := PyProof.Rows.sortedHeap_at (vs := bs.map (·.1)) (out := out) hob
    generalize sortedHeap h2 h'.objs.size (bs.map (·.1)) out = hF at kF kS heF ⊢
    have I1 : Inv X pins σ H { s with heap := hF, toks := tk } := I.kept (t' := tk) kS
    have hn0 : H h'.objs.size = none := I.hok.fresh (Nat.le_of_lt hlt)
    have hlen : (ZS.map fun zz : Addr × (List L2.Key × Addr × Value) × List L2.Key × V × PyData => V.ref zz.1).length ≤ sizeLine := by rw [List.length_map]; omega
    have rv : Vals (ZS.map fun zz : Addr × (List L2.Key × Addr × Value) × List L2.Key × V × PyData => V.ref zz.1) out.toList := by
      rw [← hO]
      show Vals _ (ZS.map fun zz => (Value.ref zz.1 : Value))
      exact vals_maps (fun zz : Addr × (List L2.Key × Addr × Value) × List L2.Key × V × PyData => V.ref zz.1) (fun zz => Value.ref zz.1) ZS fun _ _ => rfl
    have I2 : Inv X pins σ (upd H h'.objs.size (.lst (ZS.map fun zz => V.ref zz.1))) { s with heap := hF, toks := tk } :=
      I1.take (h' := hF) (t' := tk) (fun b ob _ e => e) (I.fpOk (Nat.le_of_lt hlt) hn0) ⟨hlen, out.toList, eF, rv, heF⟩
    obtain ⟨H2, I3, g, qt⟩ := L2.DX.takeT (P := fun b vs => ∃ zz ∈ zs, zz.1 = b ∧ vs = [.ref zz.2.1.2.1, zz.2.2.2.1]) I as _ I2 nd fun b hb => by
      rw [← mfst] at hb
      obtain ⟨zz, hzz, rfl⟩ := List.mem_map.mp hb
      obtain ⟨f1, f2, f3⟩ := fact zz hzz
      have ha' : zz.1 ∈ as := by rw [← mfst]; exact List.mem_map.mpr ⟨zz, hzz, rfl⟩
      have hbl : s.heap.objs.size ≤ zz.1 := Nat.le_of_lt (hG.above _ ha')
      refine ⟨hbl, ?_, [.ref zz.2.1.2.1, zz.2.2.2.1], ⟨zz, hzz, rfl, rfl⟩, fun H3 => ⟨(by rw [sizeLine_eq]; show 2 ≤ 16777216; omega), [Value.ref zz.2.1.2.1, zz.2.1.2.2], .cons rfl (.cons f2 .nil), ⟨_, kF _ _ (ne0 _ _ f3) (ka _ _ f3), rfl, 0, rfl⟩⟩⟩
      rw [upd_ne (ne0 _ _ f3)]
      exact I.hok.fresh hbl
    have gr : ∀ b o, H b = some o → H2 b = some o := fun b o e => g b o (by rw [upd_ne (ne_of_none e hn0)]; exact e)
    refine ⟨.ref h'.objs.size, H2, I3, rfl, q H2 h'.objs.size (ZS.map fun zz => (zz.1, zz.2.1.2.1)) gr hn0 ?_ ?_⟩
    · rw [List.map_map]
      exact g _ _ upd_same
    · rw [tS]
      refine paired_maps _ _ ZS fun zz hzz => ?_
      obtain ⟨f1, f2, f3⟩ := fact zz (mZ zz hzz)
      have ha' : zz.1 ∈ as := by rw [← mfst]; exact List.mem_map.mpr ⟨zz, mZ zz hzz, rfl⟩
      obtain ⟨vs, ⟨y, hy, ey, ev⟩, hH⟩ := qt zz.1 ha'
      obtain ⟨j, j1, j2, j3⟩ := mz y hy
      obtain ⟨i, i1, i2, i3⟩ := mz zz (mZ zz hzz)
      rw [ey] at j1
      have eij : i = j := (List.getElem?_inj (List.getElem?_eq_some_iff.mp i1).1 nd).mp (i1.trans j1.symm)
      subst eij
      have e1 := Option.some.inj (j2.symm.trans i2)
      have e2 := Option.some.inj (j3.symm.trans i3)
      rw [ev, e1, e2] at hH
      exact ⟨hH, gr _ _ f1⟩
end
end Eg

set_option autoImplicit false
set_option maxRecDepth 100000
set_option maxHeartbeats 2000000
/-! E30: sorted(d.items()), in the engine; d.update(d2). -/
namespace Eg
open PySem PySem.Spec L2 PyProof.Rows
/-- keys, values: the pairs with their keys' data -/
def zipI : List EV → List EV → Option (List (PyData × EV))
  | [], [] => some []
  | k :: ks, v :: vs => match tOf k, toPD k, zipI ks vs with
    | some _, some d, some ds => some ((d, .tup [k, v]) :: ds)
    | _, _, _ => none
  | _, _ => none
def sortI (ks vs : List EV) : Option (List EV) := match zipI ks vs with
  | some ds => match alikeP (mapD (·.1) ds) (mapD (·.1) ds) && tupsD (mapD (·.1) ds) && depthsD (mapD (·.1) ds) with
    | true => some (mapD (·.2) (sortD ds))
    | false => none
  | none => none
def kSortI (f : KE) : KE := fun s h k => f s h fun v h => match dictOf h v with
  | some (true, ks, vs) => match sortI ks vs with
    | some ys => k (.lst ys) h
    | none => false
  | _ => false
section
variable {G : Cn} {X : Cx} {ρ : Rho} {h : EH} {H H' : Hp} {L : Nat}
/-- all that stands stays, more may be there -/
theorem Post.more (S : Sim G ρ h H) (keep : ∀ b o, H b = some o → H' b = some o) : Post G ρ h H ρ h H' := by
  have tp : ∀ b xs, H b = some (.tup xs) → H' b = some (.tup xs) := fun b xs e => keep b _ e
  have fz : ∀ b o u, H b = some (.frz o u) → H' b = some (.frz o u) := fun b o u e => keep b _ e
  refine ⟨⟨fun m o e => ?_, S.inj, fun b hb => ?_⟩, Nat.le_refl _, fun _ _ => rfl, fun b o e _ => keep b o e, fun m h1 h2 => absurd h2 (Nat.not_lt.mpr h1), tp, fz, rfl⟩
  · exact RO.stay (fun _ _ => rfl) (Nat.le_refl _) (fun b o e _ => keep b o e) (fun _ h1 h2 => absurd h2 (Nat.not_lt.mpr h1)) tp fz rfl (by
      have hm := (List.getElem?_eq_some_iff.mp e).1
      obtain ⟨oo, eo⟩ := S.some_at hm
      rw [eo]
      exact keep _ _ eo) (S.obj m o e)
  · obtain ⟨⟨o, e⟩, h2⟩ := S.ban b hb
    exact ⟨⟨o, keep b o e⟩, h2⟩
/-- one entry: its key, its value, as the engine has them, as they lie -/
structure Ent where
  k : EV
  v : EV
  key : List L2.Key
  y : V
  d : PyData
theorem ents_of : ∀ {ks vs : List EV} {ds : List (PyData × EV)} {kk : List (List L2.Key)} {ys : List V}, zipI ks vs = some ds → ofs tOf ks = some kk → RVs G ρ L H vs ys → kk.length = ys.length →
    ∃ es : List Ent, ds = es.map (fun e => (e.d, EV.tup [e.k, e.v])) ∧ kk.zip ys = es.map (fun e => (e.key, e.y)) ∧ ∀ e ∈ es, tOf e.k = some e.key ∧ toPD e.k = some e.d ∧ RV G ρ L H e.v e.y
  | [], [], ds, kk, ys, h1, h2, h3, h4 => by
    simp only [zipI, Option.some.injEq] at h1
    simp only [ofs, Option.some.injEq] at h2
    subst h1 h2
    exact ⟨[], rfl, by simp, fun e he => nomatch he⟩
  | [], v :: vs, ds, kk, ys, h1, h2, h3, h4 => by simp [zipI] at h1
  | k :: ks, [], ds, kk, ys, h1, h2, h3, h4 => by simp [zipI] at h1
  | k :: ks, v :: vs, ds, kk, ys, h1, h2, h3, h4 => by
    simp only [zipI] at h1
    split at h1
    · rename_i a d es0 e1 e2 e3
      cases h1
      obtain ⟨k1, l1, rfl, f1, f2⟩ := ofs_cons h2
      unfold RVs at h3
      obtain ⟨z, zs, rfl, r1, r2⟩ := h3
      obtain ⟨es, i1, i2, i3⟩ := ents_of e3 f2 r2 (by simpa using h4)
      rw [e1] at f1
      cases f1
      refine ⟨⟨k, v, a, z, d⟩ :: es, by rw [List.map_cons, i1], by rw [List.zip_cons_cons, List.map_cons, i2], fun e he => ?_⟩
      rcases List.mem_cons.mp he with rfl | he
      · exact ⟨e1, e2, r1⟩
      · exact i3 e he
    · cases h1
theorem keys_eqv : ∀ {xs ys : List EV} {a b : List L2.Key} {ds es : List PyData}, ofs kOf xs = some a → ofs kOf ys = some b → toPDs xs = some ds → toPDs ys = some es → PyData.eqvAll ds es = true → a = b
  | [], [], a, b, ds, es, h1, h2, h3, h4, h5 => by
    simp only [ofs, Option.some.injEq] at h1 h2
    rw [← h1, ← h2]
  | [], y :: ys, a, b, ds, es, h1, h2, h3, h4, h5 => by
    simp only [toPDs, Option.some.injEq] at h3
    subst h3
    simp only [toPDs] at h4
    split at h4
    · cases h4
      simp [PyData.eqvAll] at h5
    · cases h4
  | x :: xs, [], a, b, ds, es, h1, h2, h3, h4, h5 => by
    simp only [toPDs, Option.some.injEq] at h4
    subst h4
    simp only [toPDs] at h3
    split at h3
    · cases h3
      simp [PyData.eqvAll] at h5
    · cases h3
  | x :: xs, y :: ys, a, b, ds, es, h1, h2, h3, h4, h5 => by
    obtain ⟨k1, l1, rfl, f1, f2⟩ := ofs_cons h1
    obtain ⟨k2, l2, rfl, g1, g2⟩ := ofs_cons h2
    simp only [toPDs] at h3 h4
    split at h3
    · rename_i d ds' e1 e2
      split at h4
      · rename_i d2 es' e3 e4
        cases h3
        cases h4
        rw [PyData.eqvAll, Bool.and_eq_true] at h5
        have ih := keys_eqv f2 g2 e2 e4 h5.2
        have z : k1 = k2 := by
          have q := h5.1
          cases x <;> simp only [kOf, reduceCtorEq, Option.some.injEq] at f1 <;> cases y <;> simp only [kOf, reduceCtorEq, Option.some.injEq] at g1 <;> simp only [toPD, Option.some.injEq] at e1 e3 <;> subst f1 g1 e1 e3 <;> simp [PyData.eqv] at q <;> simp [q]
        rw [z, ih]
      · cases h4
    · cases h3
/-- what the sort of the pairs asks, and what it makes -/
theorem sortI_is {ks vs zs : List EV} {kk : List (List L2.Key)} {ys : List V} (e : sortI ks vs = some zs) (hk : ofs tOf ks = some kk) (r : RVs G ρ L H vs ys) (hl : kk.length = ys.length) :
    ∃ es : List Ent, kk.zip ys = es.map (fun e => (e.key, e.y)) ∧ (∀ e ∈ es, tOf e.k = some e.key ∧ toPD e.k = some e.d ∧ RV G ρ L H e.v e.y) ∧ (∀ t ∈ es, ∀ u ∈ es, PySem.W.alike t.d u.d = true) ∧ (∀ t ∈ es, ∃ x r, t.d = .tuple (x :: r)) ∧ (∀ t ∈ es, t.d.depth ≤ 100) ∧
      zs = (es.mergeSort (PySem.W.dataLe false fun e => e.d)).map fun e => EV.tup [e.k, e.v] := by
  unfold sortI at e
  split at e
  · rename_i ds ez
    split at e
    · rename_i ok
      cases e
      obtain ⟨es, rfl, i2, i3⟩ := ents_of ez hk r hl
      simp only [Bool.and_eq_true] at ok
      obtain ⟨⟨o1, o2⟩, o3⟩ := ok
      rw [mapD_eq, List.map_map] at o1 o2 o3
      have m1 : es.map ((fun x : PyData × EV => x.1) ∘ fun e : Ent => (e.d, EV.tup [e.k, e.v])) = es.map fun e => e.d := rfl
      rw [m1] at o1 o2 o3
      refine ⟨es, i2, i3, fun t ht u hu => alikeP_is o1 _ (List.mem_map.mpr ⟨t, ht, rfl⟩) _ (List.mem_map.mpr ⟨u, hu, rfl⟩), fun t ht => tupsD_is o2 _ (List.mem_map.mpr ⟨t, ht, rfl⟩), fun t ht => depthsD_is o3 _ (List.mem_map.mpr ⟨t, ht, rfl⟩), ?_⟩
      rw [mapD_eq, sortD_eq]
      have s1 := W.sort_maps (r := W.dataLe false (fun e : Ent => e.d)) (s := leD) (fun e : Ent => (e.d, EV.tup [e.k, e.v])) (l := es) (fun _ _ _ _ => rfl)
      rw [← s1, List.map_map]
      rfl
    · cases e
  · cases e
theorem key_rv {k : EV} {key : List L2.Key} {b : Addr} (e : tOf k = some key) (hb : H b = some (.tup (key.map kV))) : RV G ρ L H k (.ref b) := by
  cases k with
  | tup xs =>
    simp only [tOf] at e
    unfold RV
    exact ⟨_, _, rfl, hb, rvs_keys e⟩
  | _ => simp [tOf] at e
theorem key_eqv {k k2 : EV} {a b : List L2.Key} {d d2 : PyData} (h1 : tOf k = some a) (h2 : tOf k2 = some b) (h3 : toPD k = some d) (h4 : toPD k2 = some d2) (h : PyData.eqv d d2 = true) : a = b := by
  cases k with
  | tup xs =>
    cases k2 with
    | tup ys =>
      simp only [tOf] at h1 h2
      simp only [toPD, Option.map_eq_some_iff] at h3 h4
      obtain ⟨ds, e1, rfl⟩ := h3
      obtain ⟨es, e2, rfl⟩ := h4
      rw [PyData.eqv] at h
      exact keys_eqv h1 h2 e1 e2 h
    | _ => simp [tOf] at h2
  | _ => simp [tOf] at h1
theorem rvs_ents : ∀ {es : List Ent} {ps : List (Addr × Addr)}, Paired (fun (q : Addr × Addr) (t : List L2.Key × V × PyData) => H q.1 = some (.tup [.ref q.2, t.2.1]) ∧ H q.2 = some (.tup (t.1.map kV))) ps (es.map fun e => (e.key, e.y, e.d)) →
    (∀ e ∈ es, tOf e.k = some e.key ∧ RV G ρ L H e.v e.y) → RVs G ρ L H (es.map fun e => EV.tup [e.k, e.v]) (ps.map fun z => V.ref z.1)
  | [], ps, h, _ => by
    cases h
    exact RVs.nil
  | e :: es, ps, h, he => by
    cases h with
    | cons h1 h2 =>
      obtain ⟨f1, f2⟩ := he e List.mem_cons_self
      refine RVs.cons ?_ (rvs_ents h2 fun u hu => he u (List.mem_cons_of_mem _ hu))
      unfold RV
      exact ⟨_, _, rfl, h1.1, RVs.cons (key_rv f1 h1.2) (RVs.cons f2 RVs.nil)⟩
variable {e : Expr} {f : KE} {p pos apos cpos : Pos} {x : Str}
/-- d.items(), keys tuples -/
def tItemsR (te : TE) : TE := fun σ H Q => te σ H fun x H1 => ∃ (a : Addr) (kvs : List (List L2.Key × V)), x = .ref a ∧ Rd H1 a (.dT kvs) ∧ ∀ p, H1 p = none → Q (.ref p) (upd H1 p (L2.DX.itemsO p a))
theorem pe_itemsR {te : TE} (he : PE X e te) (hbase : attributeBase e "items" X.env (eval e X.env) = eval e X.env) (hline : (apos.endLine == cpos.line) = true) : PE X (.Call (.Attribute e "items" apos) [] [] cpos) (tItemsR te) := by
  refine ⟨fun pins s σ H Q I hq => ?_⟩
  refine wpAny_Call_method (T := "dict") (id := "dict.items") hbase rfl hline PySem.F.plainAttrs_dict PySem.F.slot_dict_items PySem.F.type_dict_items (thn (he.run pins s σ H _ I hq) fun u s1 ⟨x, H1, I1, rx, a, kvs, ex, hd, q⟩ => ?_)
  subst ex
  obtain rfl : u = Value.ref a := rx
  obtain ⟨t1, t2, t3⟩ := isD_at I1 (.inr ⟨kvs, hd⟩)
  obtain ⟨z, hdd, xs', rel, o, es, ep, ho, hx, hdat, _⟩ := dt_rd I1.hok hd
  refine ⟨t1, t2, ?_⟩
  refine Calls.callWith_builtin rfl (PySem.evalArgs_none ?_)
  refine DT.callItems (es := es) (ep := ep) t3 ⟨o, ho, hx, hdat⟩ ?_
  have hf : H1 s1.heap.objs.size = none := I1.hok.fresh (Nat.le_refl _)
  exact ⟨.ref s1.heap.objs.size, upd H1 s1.heap.objs.size (L2.DX.itemsO s1.heap.objs.size a), I1.laid (t' := s1.toks) (fun b u e => Heap.get?_push_of_some _ e) (Nat.le_refl _) (L2.DX.itemsO_ok (Heap.get?_push_size _ rfl)), rfl, q _ hf⟩
theorem x_sortI (g : Gd G X) (he : XE G X e f) (hg : Gl X "sorted") (hm : X.mg "sorted" = none)
    (hbase : attributeBase e "items" X.env (eval e X.env) = eval e X.env := by rfl) (hline : (apos.endLine == cpos.line) = true := by rfl)
    (hs : starEach [.Call (.Attribute e "items" apos) [] [] cpos] X.env = (false, eval (.Call (.Attribute e "items" apos) [] [] cpos) X.env) :: starEach [] X.env := by rfl) :
    XE G X (.Call (.Name "sorted" p) [.Call (.Attribute e "items" apos) [] [] cpos] [] pos) (kSortI f) := by
  refine PE.imp (pe_callB (cr_sortPairs g.c (by have := g.u; omega)) hg hm (by decide +kernel) (pa_cons (pe_itemsR he hbase hline) pa_nil hs) (by decide) (by decide) hs) fun σ H Q ⟨ρ, s, h, k, S, R, z, af⟩ => ?_
  refine ⟨ρ, s, h, _, S, R, z, fun v h1 ρ1 H1 x z1 p1 r1 => ?_⟩
  have z1 : (match dictOf h1 v with
    | some (true, ks, vs) => match sortI ks vs with
      | some ys => k (.lst ys) h1
      | none => false
    | _ => false) = true := z1
  split at z1
  · rename_i ks vs e1
    split at z1
    · rename_i ys e2
      · skip
        obtain ⟨a, ws, rfl, rw', dr⟩ := dictOf_is p1.sim r1 e1
        obtain ⟨kk, k1, k2, k3⟩ := dr
        refine ⟨a, _, rfl, k3, fun q hq => ?_⟩
        obtain ⟨es, s1, s2, s3, s4, s5, s6⟩ := sortI_is e2 k1 rw' k2
        subst s6
        have keepV : ∀ b o, H1 b = some o → upd H1 q (L2.DX.itemsO q a) b = some o := fun b o eb => by rw [upd_ne (ne_of_none eb hq)]; exact eb
        have P1 : Post G ρ1 h1 H1 ρ1 h1 (upd H1 q (L2.DX.itemsO q a)) := Post.temp p1.sim hq
        refine ⟨q, a, es.map fun e => (e.key, e.y, e.d), rfl, upd_same, ?_, ?_, ?_, ?_, ?_, ?_, ?_⟩
        · rw [List.map_map]
          have e9 := Rd.stay k3 (keepV a)
          rw [s1] at e9
          exact e9
        · intro t ht b hb
          obtain ⟨u, hu, rfl⟩ := List.mem_map.mp ht
          obtain ⟨f1, f2, f3⟩ := s2 u hu
          exact g.k ▸ dp_of (G := G) (ρ := ρ1) (L := h1.length) u.k u.d (.ref b) f2 (key_rv f1 hb)
        · intro t ht u hu
          obtain ⟨t, mt, rfl⟩ := List.mem_map.mp ht
          obtain ⟨u, mu, rfl⟩ := List.mem_map.mp hu
          exact s3 t mt u mu
        · intro t ht u hu hq
          obtain ⟨t, mt, rfl⟩ := List.mem_map.mp ht
          obtain ⟨u, mu, rfl⟩ := List.mem_map.mp hu
          exact key_eqv (s2 t mt).1 (s2 u mu).1 (s2 t mt).2.1 (s2 u mu).2.1 hq
        · intro t ht
          obtain ⟨t, mt, rfl⟩ := List.mem_map.mp ht
          exact s4 t mt
        · intro t ht
          obtain ⟨t, mt, rfl⟩ := List.mem_map.mp ht
          exact s5 t mt
        · intro H' l ps keep hl hl' hp
          have sm := W.sort_maps (r := W.dataLe false (fun e : Ent => e.d)) (s := W.dataLe false (fun t : List L2.Key × V × PyData => t.2.2)) (fun e : Ent => (e.key, e.y, e.d)) (l := es) (fun _ _ _ _ => rfl)
          rw [← sm] at hp
          have P2 : Post G ρ1 h1 H1 ρ1 h1 H' := P1.trans (Post.more P1.sim keep)
          have hl1 : H1 l = none := by
            cases q1 : H1 l with
            | none => rfl
            | some o => rw [keepV _ _ q1] at hl; cases hl
          have rr : RVs G ρ1 h1.length H' ((es.mergeSort (PySem.W.dataLe false fun e => e.d)).map fun e => EV.tup [e.k, e.v]) (ps.map fun z => V.ref z.1) := rvs_ents hp fun u hu => by
            have hu' := (List.mergeSort_perm es _).mem_iff.mp hu
            exact ⟨(s2 u hu').1, P2.rv (s2 u hu').2.2⟩
          have un1 : ρ1.un h1.length l := p1.sim.un hl1
          exact af _ h1 ρ1 _ _ z1 (p1.trans P2) (by unfold RV; exact ⟨l, _, rfl, hl', un1, rr⟩)
    · cases z1
  · cases z1
end
end Eg

set_option autoImplicit false
set_option maxRecDepth 100000
set_option maxHeartbeats 2000000
/-! E31: d.update(d2), keys tuples. -/
namespace Eg
open PySem PySem.Spec L2
section
variable {G : Cn} {X : Cx} {ρ : Rho} {h : EH} {H H' : Hp} {L : Nat}
def rDUpd : V → List V → Hp → VK → Prop := fun x xs H Q => ∃ (a b : Addr) (kvs more : List (List Key × V)), x = .ref a ∧ xs = [.ref b] ∧ a ≠ b ∧ H a = some (.dT kvs) ∧ Rd H b (.dT more) ∧ (kvs ≠ [] ∨ more.length ≤ 1 ∨ ∀ w, (more.map fun x => reduceHash (Builtin.Tuple.tupleHashOf (x.1.map (keyH w)))).Nodup) ∧ kvs.length + more.length ≤ sizeLine ∧ Q .non (upd H a (.dT (mergeT kvs more)))
theorem kt_hash {P : Program} {w : World} : ∀ {kvs : List (List Key × V)} {prs : List (List Key × Addr × Value)}, L2.KT H kvs prs → (prs.map fun x => (tupleKind (mixKind P w)).hash x.1) = kvs.map fun x => reduceHash (Builtin.Tuple.tupleHashOf (x.1.map (keyH w)))
  | _, _, .nil => rfl
  | _, _, .cons hq t => by
    rw [List.map_cons, List.map_cons, kt_hash t, hq.1]
    rfl
theorem mt_dupd (g : Gd G X) : MtR X "dict.update" rDUpd := by
  intro pins s σ H x xs v us Q I rx rxs h
  obtain ⟨a, b, kvs, more, rfl, rfl, hab, ha, hb, hap, hl, q⟩ := h
  cases rx
  obtain ⟨u, rfl, r1⟩ := vals1 rxs
  cases r1
  obtain ⟨z, hd, xs', rel, dd⟩ := dt_of I.hok ha
  obtain ⟨z2, hd2, ys', rel2, dd2⟩ := dt_rd I.hok hb
  have l1 : kvs.length = xs'.length := Paired.length rel
  have l2 : more.length = ys'.length := Paired.length rel2
  refine call_update_dictH (knd := tupleKind (mixKind X.prog X.w)) (tupleKind_room_in1 (by have := g.u; omega)) hab hd2 dd dd2 ?_ (by omega) fun h' dd' _ hs => ?_
  · rcases hap with hap | hap
    · refine .inl fun e => hap ?_
      subst e
      exact List.length_eq_zero_iff.mp l1
    · refine .inr ⟨fun x hx => ?_, ?_⟩
      · have hm := kt_mem rel2 x hx
        exact (show IsTupleKey (mixKind X.prog X.w) s.heap x.1 x.2.1 from key_of I.hok hm).typeIs
      · rcases hap with hap | hap
        · match ys', l2 with
          | [], _ => exact List.nodup_nil
          | [y], _ => exact List.nodup_cons.mpr ⟨List.not_mem_nil, List.nodup_nil⟩
          | _ :: _ :: _, l2 => simp at l2; omega
        · have e1 : (ys'.map fun x => (tupleKind (mixKind X.prog X.w)).hash x.1) = more.map fun x => reduceHash (Builtin.Tuple.tupleHashOf (x.1.map (keyH X.w))) := by
            exact kt_hash rel2
          rw [e1]
          exact hap X.w
  · obtain ⟨o, es, ep, hq, h2, h3, h4, _, h5⟩ := dd'
    exact ⟨.non, _, d_write (ob := .dT (mergeT kvs more)) I (by rw [ha]; exact True.intro) hs ⟨o, hq⟩ ⟨Nat.le_trans (length_mergeT more kvs) hl, hd, _, (kt_stored rel2 rel).keeps (fun c ys ec => (by rw [upd_ne (ne_of ec ha (fun z => nomatch z))]; exact ec)), o, es, ep, hq, h2, h3, h4, h5⟩, rfl, q⟩
/-- keys, values put one by one -/
def mergeE : List EV → List EV → List EV → List EV → List EV × List EV
  | k :: ks', v :: vs', ks, vs => match putE ks vs k v with
    | (a, b) => mergeE ks' vs' a b
  | _, _, ks, vs => (ks, vs)
def isNil {α : Type} : List α → Bool
  | [] => true
  | _ :: _ => false
def few {α : Type} : List α → Bool
  | [] => true
  | [_] => true
  | _ => false
/-- whole numbers' tuples, unlike in hash -/
def intsOf : List EV → Option (List Int)
  | [] => some []
  | .int i :: xs => match intsOf xs with
    | some is => some (i :: is)
    | none => none
  | _ => none
def hashK : EV → Option Int := fun v => match v with
  | .tup xs => match intsOf xs with
    | some is => some (reduceHash (Builtin.Tuple.tupleHashOf (mapD hashInt is)))
    | none => none
  | _ => none
def notIn (x : Int) : List Int → Bool
  | [] => true
  | y :: ys => !(decide (x = y)) && notIn x ys
def nodupI : List Int → Bool
  | [] => true
  | x :: xs => notIn x xs && nodupI xs
def hashU (ks : List EV) : Bool := match ofs hashK ks with
  | some hs => nodupI hs
  | none => false
theorem notIn_is {x : Int} : ∀ {ys : List Int}, notIn x ys = true → x ∉ ys
  | [], h => List.not_mem_nil
  | y :: ys, h => by
    simp only [notIn, Bool.and_eq_true, Bool.not_eq_true', decide_eq_false_iff_not] at h
    exact fun q => (List.mem_cons.mp q).elim h.1 (notIn_is h.2)
theorem nodupI_is : ∀ {xs : List Int}, nodupI xs = true → xs.Nodup
  | [], h => List.nodup_nil
  | x :: xs, h => by
    simp only [nodupI, Bool.and_eq_true] at h
    exact List.nodup_cons.mpr ⟨notIn_is h.1, nodupI_is h.2⟩
theorem intsOf_is : ∀ {xs : List EV} {is : List Int}, intsOf xs = some is → ofs kOf xs = some (is.map Sum.inl)
  | [], is, h => by simp only [intsOf, Option.some.injEq] at h; subst h; rfl
  | .int i :: xs, is, h => by
    simp only [intsOf] at h
    split at h
    · rename_i js e
      cases h
      simp only [ofs, kOf, intsOf_is e, List.map_cons]
    · cases h
  | .non :: _, is, h => by simp [intsOf] at h
  | .bl _ :: _, is, h => by simp [intsOf] at h
  | .str _ :: _, is, h => by simp [intsOf] at h
  | .tup _ :: _, is, h => by simp [intsOf] at h
  | .lst _ :: _, is, h => by simp [intsOf] at h
  | .dct _ _ _ :: _, is, h => by simp [intsOf] at h
  | .rp _ :: _, is, h => by simp [intsOf] at h
  | .kt _ :: _, is, h => by simp [intsOf] at h
  | .ref _ :: _, is, h => by simp [intsOf] at h
  | .scr :: _, is, h => by simp [intsOf] at h
  | .tx _ :: _, is, h => by simp [intsOf] at h
theorem hashK_is {v : EV} {i : Int} {k : List Key} (w : World) (h : hashK v = some i) (e : tOf v = some k) : reduceHash (Builtin.Tuple.tupleHashOf (k.map (keyH w))) = i := by
  unfold hashK at h
  split at h
  · split at h
    · rename_i xs is e1
      cases h
      simp only [tOf] at e
      rw [intsOf_is e1] at e
      cases e
      rw [mapD_eq, List.map_map]
      rfl
    · cases h
  · cases h
theorem hashs_is (w : World) : ∀ {ks : List EV} {kk : List (List Key)} {hs : List Int}, ofs hashK ks = some hs → ofs tOf ks = some kk → (kk.map fun x => reduceHash (Builtin.Tuple.tupleHashOf (x.map (keyH w)))) = hs
  | [], kk, hs, h1, h2 => by
    simp only [ofs, Option.some.injEq] at h1 h2
    subst h1 h2
    rfl
  | v :: ks, kk, hs, h1, h2 => by
    obtain ⟨a, l, rfl, e1, e2⟩ := ofs_cons h1
    obtain ⟨b, m, rfl, f1, f2⟩ := ofs_cons h2
    rw [List.map_cons, hashK_is w e1 f1, hashs_is w e2 f2]
def mDUpd : EV → List EV → EH → (EV → EH → Bool) → Bool := fun v vs h k => match v with
  | .ref n => match getH h n with
    | some (.dic true ks xs) => match vs with
      | [.dct true ks2 xs2] => match (!isNil ks || few ks2 || hashU ks2) && okLen ks && okLen ks2 && Nat.ble (lenE ks + lenE ks2) 16000000 with
        | true => match mergeE ks2 xs2 ks xs with
          | (a, b) => k .non (setH h n (.dic true a b))
        | false => false
      | _ => false
    | _ => false
  | _ => false
theorem mergeE_is : ∀ {ks2 xs2 ks xs : List EV} {kk2 kk : List (List Key)} {ys2 ys : List V}, ofs tOf ks2 = some kk2 → RVs G ρ L H xs2 ys2 → kk2.length = ys2.length → ofs tOf ks = some kk → RVs G ρ L H xs ys → kk.length = ys.length →
    ∃ kk' ys', ofs tOf (mergeE ks2 xs2 ks xs).1 = some kk' ∧ RVs G ρ L H (mergeE ks2 xs2 ks xs).2 ys' ∧ kk'.length = ys'.length ∧ kk'.zip ys' = mergeT (kk.zip ys) (kk2.zip ys2)
  | [], xs2, ks, xs, kk2, kk, ys2, ys, h1, h2, h3, h4, h5, h6 => by
    simp only [ofs, Option.some.injEq] at h1
    subst h1
    have : mergeE [] xs2 ks xs = (ks, xs) := by cases xs2 <;> rfl
    rw [this]
    exact ⟨kk, ys, h4, h5, h6, by simp [mergeT]⟩
  | k :: ks2, xs2, ks, xs, kk2, kk, ys2, ys, h1, h2, h3, h4, h5, h6 => by
    obtain ⟨k1, l1, rfl, f1, f2⟩ := ofs_cons h1
    cases xs2 with
    | nil =>
      unfold RVs at h2
      subst h2
      simp at h3
    | cons v xs2 =>
      unfold RVs at h2
      obtain ⟨z, zs, rfl, r1, r2⟩ := h2
      obtain ⟨kk', ys', i0, i1, i2, i3⟩ := put_is tOf_f f1 r1 h4 h5 h6
      obtain ⟨kk3, ys3, j0, j1, j2, j3⟩ := mergeE_is f2 r2 (by simpa using h3) i0 i1 i2
      refine ⟨kk3, ys3, j0, j1, j2, ?_⟩
      rw [j3, i3]
      rfl
theorem s_dupd : MtS G mDUpd "dict" rDUpd := by
  intro ρ h H v x vs xs k Q S rv rvs z af
  unfold mDUpd at z
  split at z
  · rename_i n
    unfold RV at rv
    obtain ⟨hn, rfl⟩ := rv
    split at z
    · rename_i ks ws e1
      rw [getH_eq] at e1
      split at z
      · rename_i ks2 ws2
        obtain ⟨y, rfl, q⟩ := one rvs
        split at z
        · rename_i ok
          simp only [Bool.and_eq_true] at ok
          obtain ⟨⟨⟨o1, o2⟩, o3⟩, o4⟩ := ok
          have o4 := Nat.le_of_ble_eq_true o4
          rw [lenE_eq, lenE_eq] at o4
          unfold RV at q
          obtain ⟨b, ys2, rfl, un, rr2, kk2, d1, d2, d3⟩ := q
          obtain ⟨ys, rr, kk, c1, c2, c3⟩ := S.obj n _ e1
          obtain ⟨kk', ys', i0, i1, i2, i3⟩ := mergeE_is d1 rr2 d2 c1 rr c2
          have z : k .non (setH h n (.dic true (mergeE ks2 ws2 ks ws).1 (mergeE ks2 ws2 ks ws).2)) = true := z
          have lk : ks.length = kk.length := ofs_length c1
          have lk2 : ks2.length = kk2.length := ofs_length d1
          have m1 : (kk.zip ys).length = kk.length := by rw [List.length_zip]; omega
          have m2 : (kk2.zip ys2).length = kk2.length := by rw [List.length_zip]; omega
          refine ⟨ρ n, b, _, _, rfl, rfl, un.2 n hn, c3, d3, ?_, by rw [m1, m2, sizeLine_eq]; omega, ?_⟩
          · rw [Bool.or_eq_true, Bool.or_eq_true] at o1
            rcases o1 with (o1 | o1) | o1
            · left
              intro e0
              rw [e0] at m1
              have : ks = [] := List.length_eq_zero_iff.mp (by rw [lk]; simpa using m1.symm)
              rw [this] at o1
              cases o1
            · right; left
              rw [m2, ← lk2]
              match ks2, o1 with
              | [], _ => simp
              | [_], _ => simp
            · right; right
              intro w
              unfold hashU at o1
              split at o1
              · rename_i hs eh
                have e9 : ((kk2.zip ys2).map fun x => reduceHash (Builtin.Tuple.tupleHashOf (x.1.map (keyH w)))) = hs := by
                  rw [← hashs_is w eh d1]
                  have : ((kk2.zip ys2).map fun x => reduceHash (Builtin.Tuple.tupleHashOf (x.1.map (keyH w)))) = ((kk2.zip ys2).map (·.1)).map fun x => reduceHash (Builtin.Tuple.tupleHashOf (x.map (keyH w))) := by rw [List.map_map]; rfl
                  rw [this, List.map_fst_zip (by omega)]
                rw [e9]
                exact nodupI_is o1
              · cases o1
          · have w1 : RO G ρ h.length (upd H (ρ n) (.dT (mergeT (kk.zip ys) (kk2.zip ys2)))) (.dic true (mergeE ks2 ws2 ks ws).1 (mergeE ks2 ws2 ks ws).2) (ρ n) := ⟨ys', RVs.write S hn i1, kk', i0, i2, by rw [upd_same, i3]⟩
            exact af _ _ ρ _ _ z (Post.write S hn w1) (by unfold RV; rfl)
        · cases z
      · cases z
    · cases z
  · cases z
end
end Eg

set_option autoImplicit false
set_option maxRecDepth 100000
set_option maxHeartbeats 2000000
/-! E32: texts kept as letters: what says whether they are texts, names; their draws. -/
namespace Eg
open PySem PySem.Spec L2
/-- the code of is_text -/
def cText : KS := (kSeq (kIfS (kTor (kTnot (kTv (kIsi .str (kVar 0)))) (kTv (kBin (pLt .gt) (kCall bLen (kCons (kVar 0) kNil)) (kC (.int 400))))) (kRet (kC (.bl false))) kPass) (kRet (kCall (bAll false) (kCons (kLc false (kSgn (kVar 0)) (gVar 1) kYes (kChain (pLt .le) (pLt .le) (kC (.str [32])) (kVar 1) (kC (.str [126]))) [1]) kNil))))
/-- the code of is_name -/
def cName : KS := (kRet (kAnd (kIsi .str (kVar 0)) (kAnd (kBin (pEq true) (kVar 0) (kC (.str []))) (kAnd (kBin (pIn true) (kVar 0) (kC (.kt [(.str [46]), (.str [46, 46])]))) (kCall (bAll false) (kCons (kLc false (kSgn (kVar 0)) (gVar 1) kYes (kBin (pIn false) (kVar 1) (kC (.str [97, 98, 99, 100, 101, 102, 103, 104, 105, 106, 107, 108, 109, 110, 111, 112, 113, 114, 115, 116, 117, 118, 119, 120, 121, 122, 65, 66, 67, 68, 69, 70, 71, 72, 73, 74, 75, 76, 77, 78, 79, 80, 81, 82, 83, 84, 85, 86, 87, 88, 89, 90, 48, 49, 50, 51, 52, 53, 54, 55, 56, 57, 46, 45, 95]))) [1]) kNil))))))
theorem lc_signs {te : KE} {s : ES} {h : EH} (K : List EV → EH → Bool) : ∀ (l : List Nat), (∀ c ∈ l, ∀ K, te (setS s 1 (.str [c])) h K = K (.bl true) h) → ∀ acc : List EV → List EV, kLcF (gVar 1) kYes te s (signs l) h (fun ys h => K (acc ys) h) = K (acc (l.map fun _ => EV.bl true)) h
  | [], _, acc => rfl
  | c :: l, hc, acc => by
    show te (setS s 1 (.str [c])) h (fun v h => kLcF (gVar 1) kYes te s (signs l) h fun vs h => K (acc (v :: vs)) h) = _
    rw [hc c List.mem_cons_self]
    exact lc_signs K l (fun d hd => hc d (List.mem_cons_of_mem _ hd)) fun ys => acc (.bl true :: ys)
theorem bools_true : ∀ l : List Nat, boolsE (l.map fun _ => EV.bl true) = some (l.map fun _ => true)
  | [] => rfl
  | c :: l => by
    show (match boolsE (l.map fun _ => EV.bl true) with
      | some bs => some (true :: bs)
      | none => none) = _
    rw [bools_true l]
    rfl
theorem and_true : ∀ l : List Nat, andE (l.map fun _ => true) = true
  | [] => rfl
  | c :: l => and_true l
theorem signs_len : ∀ l : List Nat, (signs l).length = l.length
  | [] => rfl
  | c :: l => congrArg Nat.succ (signs_len l)
theorem all_signs {te : KE} {l : List Nat} {h : EH} {k : EV → EH → Bool} {s : ES} (hl : l.length ≤ 300) (hs : getS s 0 = some (.str l)) (hw : (∀ c ∈ l, ∀ K, te (setS (wipeE s [1]) 1 (.str [c])) h K = K (.bl true) h)) :
    kCall (bAll false) (kCons (kLc false (kSgn (kVar 0)) (gVar 1) kYes te [1]) kNil) s h k = k (.bl true) h := by
  have o : okLen (signs l) = true := by
    unfold okLen
    rw [lenE_eq, signs_len, Nat.ble_eq]
    omega
  have e1 : ∀ K, kSgn (kVar 0) s h K = K (.fix (signs l)) h := fun K => by
    unfold kSgn kVar
    simp only [hs]
  show kSgn (kVar 0) s h (fun src h => match src with
    | .fix xs => (match okLen xs with
      | true => kLcF (gVar 1) kYes te (wipeE s [1]) xs h (lcEnd false fun a h => bAll false [a] h k)
      | false => false)
    | .own _ => kLcS (gVar 1) kYes te (wipeE s [1]) src 5000 0 h (lcEnd false fun a h => bAll false [a] h k)) = _
  rw [e1]
  show (match okLen (signs l) with
    | true => kLcF (gVar 1) kYes te (wipeE s [1]) (signs l) h (lcEnd false fun a h => bAll false [a] h k)
    | false => false) = _
  rw [o]
  have := lc_signs (te := te) (s := wipeE s [1]) (h := h) (fun ys h => bAll false [EV.lst ys] h k) l hw id
  refine Eq.trans this ?_
  show (match boolsE (l.map fun _ => EV.bl true) with
      | some bs => k (.bl (andE bs)) h
      | none => false) = _
  rw [bools_true]
  show k (.bl (andE (l.map fun _ => true))) h = _
  rw [and_true]
theorem okTx_len {nm : Bool} {l : List Nat} (ok : okTx nm l = true) : l.length ≤ 300 := by
  unfold okTx at ok
  simp only [Bool.and_eq_true, Nat.ble_eq] at ok
  exact ok.1.1
theorem okTx_sign {nm : Bool} {l : List Nat} (ok : okTx nm l = true) : ∀ c ∈ l, 32 ≤ c ∧ c ≤ 126 := by
  unfold okTx at ok
  simp only [Bool.and_eq_true, List.all_eq_true] at ok
  intro c hc
  have := ok.1.2 c hc
  unfold okSign at this
  simpa [Bool.and_eq_true, Nat.ble_eq] using this
theorem le_true {a b : Nat} (h : a ≤ b) (hd : EH) (K : EV → EH → Bool) : pLt .le (.str [a]) (.str [b]) hd K = K (.bl true) hd := by
  show K (.bl (!natsLt [b] [a])) hd = _
  have this : natsLt [b] [a] = false := by
    have e : Nat.blt b a = false := by
      cases q : Nat.blt b a with
      | false => rfl
      | true =>
        have := Nat.le_of_ble_eq_true q
        omega
    show (match Nat.blt b a with
      | true => true
      | false => match Nat.beq b a with
        | true => natsLt [] []
        | false => false) = false
    rw [e]
    cases Nat.beq b a <;> rfl
  rw [this]
  rfl
theorem run_text {nm : Bool} {l : List Nat} (ok : okTx nm l = true) (h : EH) (k : EV → EH → Bool) : mkF 2 cText [.str l] h k = k (.bl true) h := by
  have hl := okTx_len ok
  have hb : Nat.ble (lenE l) 16000000 = true := by rw [lenE_eq, Nat.ble_eq]; omega
  have hi : intLt 400 (Int.ofNat (lenE l)) = false := by
    rw [intLt_dec, lenE_eq]
    simp
    omega
  have e1 : ∀ (s : ES) (K : EV → EH → Bool), getS s 0 = some (.str l) → kCall bLen (kCons (kVar 0) kNil) s h K = K (.int (Int.ofNat (lenE l))) h := fun s K hs => by
    show kVar 0 s h (fun a h => bLen [a] h K) = _
    unfold kVar
    simp only [hs, bLen, hb]
  have e2 : ∀ K, kTv (kBin (pLt .gt) (kCall bLen (kCons (kVar 0) kNil)) (kC (.int 400))) [some (.str l), none] h K = K false h := fun K => by
    show kCall bLen (kCons (kVar 0) kNil) [some (.str l), none] h (fun a h => pLt .gt a (.int 400) h fun a h => match a with
      | .bl b => K b h
      | _ => false) = _
    rw [e1 _ _ rfl]
    show K (intLt 400 (Int.ofNat (lenE l))) h = _
    rw [hi]
  show kTv (kBin (pLt .gt) (kCall bLen (kCons (kVar 0) kNil)) (kC (.int 400))) [some (.str l), none] h _ = _
  rw [e2]
  show kCall (bAll false) _ [some (.str l), none] h k = _
  refine all_signs (l := l) hl rfl fun c hc K => ?_
  obtain ⟨c1, c2⟩ := okTx_sign ok c hc
  show pLt .le (.str [32]) (.str [c]) h (fun t h => match t with
    | .bl true => pLt .le (.str [c]) (.str [126]) h K
    | .bl false => K (.bl false) h
    | _ => false) = _
  rw [le_true c1]
  show pLt .le (.str [c]) (.str [126]) h K = _
  rw [le_true c2]
theorem okTx_name {l : List Nat} (ok : okTx true l = true) : l ≠ [] ∧ l ≠ [46] ∧ l ≠ [46, 46] ∧ ∀ c ∈ l, okNamed c = true := by
  unfold okTx at ok
  simp only [Bool.and_eq_true, Bool.or_eq_true, Bool.not_eq_true', List.all_eq_true] at ok
  rcases ok.2 with q | q
  · cases q
  · obtain ⟨⟨⟨q1, q2⟩, q3⟩, q4⟩ := q
    exact ⟨fun e => (by rw [e] at q2; cases q2), fun e => (by rw [e] at q3; cases q3), fun e => (by rw [e] at q4; cases q4), q1⟩
def named : List Nat := [97, 98, 99, 100, 101, 102, 103, 104, 105, 106, 107, 108, 109, 110, 111, 112, 113, 114, 115, 116, 117, 118, 119, 120, 121, 122, 65, 66, 67, 68, 69, 70, 71, 72, 73, 74, 75, 76, 77, 78, 79, 80, 81, 82, 83, 84, 85, 86, 87, 88, 89, 90, 48, 49, 50, 51, 52, 53, 54, 55, 56, 57, 46, 45, 95]
theorem mem_named {c : Nat} (h : okNamed c = true) : memN c named = true := by
  unfold okNamed at h
  simp only [Bool.or_eq_true, Bool.and_eq_true, Nat.ble_eq, Nat.beq_eq] at h
  rw [memN_is, decide_eq_true_iff]
  unfold named
  simp only [List.mem_cons, List.not_mem_nil, or_false]
  omega
theorem run_name {l : List Nat} (ok : okTx true l = true) (h : EH) (k : EV → EH → Bool) : mkF 2 cName [.str l] h k = k (.bl true) h := by
  have hl := okTx_len ok
  obtain ⟨n1, n2, n3, n4⟩ := okTx_name ok
  have b1 : natsEq l [] = false := by rw [natsEq_dec]; exact decide_eq_false n1
  have b2 : natsEq l [46] = false := by rw [natsEq_dec]; exact decide_eq_false n2
  have b3 : natsEq l [46, 46] = false := by rw [natsEq_dec]; exact decide_eq_false n3
  have c2 : natsEq [46] l = false := by rw [natsEq_dec]; exact decide_eq_false fun e => n2 e.symm
  have c3 : natsEq [46, 46] l = false := by rw [natsEq_dec]; exact decide_eq_false fun e => n3 e.symm
  have t1 : ∀ K, pEq true (.str l) (.str []) h K = K (.bl true) h := fun K => by
    show K (.bl (natsEq l [] != true)) h = _
    rw [b1]
    rfl
  have t2 : ∀ K, pIn true (.str l) (.kt [.str [46], .str [46, 46]]) h K = K (.bl true) h := fun K => by
    show K (.bl ((match natsEq [46] l with
      | true => true
      | false => match natsEq [46, 46] l with
        | true => true
        | false => false) != true)) h = _
    rw [c2, c3]
    rfl
  show pEq true (.str l) (.str []) h (fun a h => match a with
    | .bl true => kAnd (kBin (pIn true) (kVar 0) (kC (.kt [(.str [46]), (.str [46, 46])]))) (kCall (bAll false) (kCons (kLc false (kSgn (kVar 0)) (gVar 1) kYes (kBin (pIn false) (kVar 1) (kC (.str named))) [1]) kNil)) [some (.str l), none] h k
    | .bl false => k (.bl false) h
    | _ => false) = _
  rw [t1]
  show pIn true (.str l) (.kt [.str [46], .str [46, 46]]) h (fun a h => match a with
    | .bl true => kCall (bAll false) (kCons (kLc false (kSgn (kVar 0)) (gVar 1) kYes (kBin (pIn false) (kVar 1) (kC (.str named))) [1]) kNil) [some (.str l), none] h k
    | .bl false => k (.bl false) h
    | _ => false) = _
  rw [t2]
  show kCall (bAll false) _ [some (.str l), none] h k = _
  refine all_signs (l := l) hl rfl fun c hc K => ?_
  show K (.bl (memN c named != false)) h = _
  rw [mem_named (n4 c hc)]
  rfl
/-- a letter is a text -/
def txText (F : KF) : KF := fun args h k => match args with
  | [.tx _] => k (.bl true) h
  | _ => F args h k
/-- a letter that is a name is one -/
def txName (F : KF) : KF := fun args h k => match args with
  | [.tx x] => match x.nm with
    | true => k (.bl true) h
    | false => false
  | _ => F args h k
section
variable {G : Cn} {ρ : Rho} {L : Nat} {H : Hp}
theorem tx_str {t : TX} {xs : List V} (r : RVs G ρ L H [.tx t] xs) : RVs G ρ L H [.str t.l] xs := by
  obtain ⟨x, rfl, q⟩ := one r
  unfold RV at q
  exact RVs.cons (by unfold RV; exact q) RVs.nil
theorem txText_sp {vs : List V} {Q : VK} {E : XK} (q : SpF G 1 (txText (memoB (mkF 2 cText))) vs H Q E) : SpF G 1 (mkF 2 cText) vs H Q E := by
  obtain ⟨hl, ρ, h, as, k, S, r, z, af⟩ := q
  unfold txText at z
  split at z
  · rename_i t
    exact ⟨hl, ρ, h, [.str t.l], k, S, tx_str r, by rw [run_text t.ok]; exact z, af⟩
  · exact memo_sp ⟨hl, ρ, h, as, k, S, r, z, af⟩
theorem txName_sp {vs : List V} {Q : VK} {E : XK} (q : SpF G 1 (txName (memoB (mkF 2 cName))) vs H Q E) : SpF G 1 (mkF 2 cName) vs H Q E := by
  obtain ⟨hl, ρ, h, as, k, S, r, z, af⟩ := q
  unfold txName at z
  split at z
  · rename_i t
    split at z
    · rename_i e
      refine ⟨hl, ρ, h, [.str t.l], k, S, tx_str r, ?_, af⟩
      rw [run_name (by have := t.ok; rw [e] at this; exact this)]
      exact z
    · cases z
  · exact memo_sp ⟨hl, ρ, h, as, k, S, r, z, af⟩
variable {P : Program} {w : World} {mg : Str → Option Value} {base : Heap} {k j c : Nat} {x : Str} {ps : List Str}
theorem DfOk.text (d : DfOk P w mg base G k x ps (mkF 2 cText)) (hl : ps.length = 1) : DfOk P w mg base G k x ps (txText (memoB (mkF 2 cText))) := by
  obtain ⟨fn, fd, h1, h2, h3, h4⟩ := d
  refine ⟨fn, fd, h1, h2, h3, h4.imp fun _ _ _ _ q => ?_⟩
  rw [hl] at q ⊢
  exact txText_sp q
theorem DfOk.name (d : DfOk P w mg base G k x ps (mkF 2 cName)) (hl : ps.length = 1) : DfOk P w mg base G k x ps (txName (memoB (mkF 2 cName))) := by
  obtain ⟨fn, fd, h1, h2, h3, h4⟩ := d
  refine ⟨fn, fd, h1, h2, h3, h4.imp fun _ _ _ _ q => ?_⟩
  rw [hl] at q ⊢
  exact txName_sp q
end
end Eg

set_option autoImplicit false
set_option maxRecDepth 100000
set_option maxHeartbeats 2000000
/-! E33: a draw of a text, kept as a letter. -/
namespace Eg
open PySem PySem.Spec L2
@[irreducible] noncomputable def allTX (nm : Bool) (p : TX → Bool) : Bool := @decide (∀ l ok, p ⟨nm, l, ok⟩ = true) (Classical.propDecidable _)
theorem allTX_intro {nm : Bool} {p : TX → Bool} (h : ∀ l ok, p ⟨nm, l, ok⟩ = true) : allTX nm p = true := by
  unfold allTX
  exact @decide_eq_true _ (Classical.propDecidable _) h
theorem allTX_elim {nm : Bool} {p : TX → Bool} (h : allTX nm p = true) : ∀ l ok, p ⟨nm, l, ok⟩ = true := by
  unfold allTX at h
  exact @of_decide_eq_true _ (Classical.propDecidable _) h
/-- a def of a pot that draws a text -/
noncomputable def pickF (nm : Bool) : KF := fun args h k => match args with
  | [.ref n] => match getH h n with
    | some (.pot z) => match Nat.ble z 100000 with
      | true => allTX nm fun x => k (.tx x) (setH h n (.pot (Nat.succ z)))
      | false => false
    | _ => false
  | _ => false
/-- what is to be shown of the def -/
def PickOk (nm : Bool) (F : KF) : Prop := ∀ (n z : Nat) (h : EH) (k : EV → EH → Bool), getH h n = some (.pot z) → Nat.ble z 100000 = true → (∀ l, okTx nm l = true → k (.str l) (setH h n (.pot (Nat.succ z))) = true) → F [.ref n] h k = true
section
variable {G : Cn} {F : KF} {nm : Bool}
theorem pick_sp (hF : PickOk nm F) {vs : List V} {H : Hp} {Q : VK} {E : XK} (q : SpF G 1 (pickF nm) vs H Q E) : SpF G 1 F vs H Q E := by
  obtain ⟨hl, ρ, h, as, k, S, r, z, af⟩ := q
  unfold pickF at z
  split at z
  · rename_i n
    split at z
    · rename_i z0 e1
      split at z
      · rename_i e2
        have all := allTX_elim z
        refine ⟨hl, ρ, h, [.ref n], fun v h' => match v with
          | .str l => if ok : okTx nm l = true then k (.tx ⟨nm, l, ok⟩) h' else false
          | _ => false, S, r, hF n z0 h _ e1 e2 fun l ok => ?_, fun v h' ρ' H' x z' p' r' => ?_⟩
        · show (if ok : okTx nm l = true then k (.tx ⟨nm, l, ok⟩) (setH h n (.pot (Nat.succ z0))) else false) = true
          rw [dif_pos ok]
          exact all l ok
        · dsimp only at z'
          split at z'
          · rename_i l
            split at z'
            · rename_i ok
              refine af _ h' ρ' H' x z' p' ?_
              unfold RV at r' ⊢
              exact r'
            · cases z'
          · cases z'
      · cases z
    · cases z
  · cases z
variable {P : Program} {w : World} {mg : Str → Option Value} {base : Heap} {k j c : Nat} {x : Str} {ps : List Str}
theorem DfOk.pick (d : DfOk P w mg base G k x ps F) (hl : ps.length = 1) (hF : PickOk nm F) : DfOk P w mg base G k x ps (pickF nm) := by
  obtain ⟨fn, fd, h1, h2, h3, h4⟩ := d
  refine ⟨fn, fd, h1, h2, h3, h4.imp fun _ _ _ _ q => ?_⟩
  rw [hl] at q ⊢
  exact pick_sp hF q
end
end Eg

set_option autoImplicit false
set_option maxRecDepth 100000
set_option maxHeartbeats 2000000
/-! E34: a text many times. -/
namespace Eg
open PySem PySem.Spec L2
def rMulS : R2 := fun x y H Q => ∃ (a : Str) (n : Int), x = .str a ∧ y = .int n ∧ 2 ≤ n ∧ n ≤ 10000 ∧ 0 < a.length ∧ a.length ≤ 1000 ∧ Q (.str ⟨(List.replicate n.toNat a.cps).foldl (· ++ ·) #[]⟩) H
theorem foldl_len : ∀ (n : Nat) (a acc : Array Nat), ((List.replicate n a).foldl (· ++ ·) acc).size = acc.size + n * a.size
  | 0, a, acc => by simp
  | n + 1, a, acc => by
    rw [List.replicate_succ, List.foldl_cons, foldl_len n a (acc ++ a), Array.size_append, Nat.succ_mul]
    omega
section
variable {G : Cn} {X : Cx}
theorem op_mulS : OpR X (binaryOp .Mult) rMulS := by
  intro pins s σ H x y v u Q I rx ry h
  obtain ⟨a, n, rfl, rfl, h1, h2, h3, h4, q⟩ := h
  obtain ⟨t, rfl⟩ := rx
  obtain ⟨t', rfl⟩ := ry
  have hm : a.length * n.toNat ≤ 10000000 := by
    have : n.toNat ≤ 10000 := by omega
    exact Nat.mul_le_mul h4 this
  refine P.mul_str ?_ (fun _ _ => ?_) (fun _ _ => ?_) ?_
  · have e1 : ¬ n < -(2 ^ 63 : Int) := by omega
    have e2 : ¬ n ≥ 2 ^ 63 := by omega
    rw [decide_eq_false e1, decide_eq_false e2]
    rfl
  · have : (1000 : Int) ≤ (2 ^ 63 - 1) / n := by
      rw [Int.le_ediv_iff_mul_le (by omega)]
      omega
    omega
  · show decide (a.length * n.toNat > sizeLine) = false
    rw [sizeLine_eq]
    exact decide_eq_false (by omega)
  · rw [if_neg (by omega)]
    have e1 : (n == 1) = false := by
      rw [beq_eq_false_iff_ne]
      omega
    have e2 : (a.length == 0) = false := by
      rw [beq_eq_false_iff_ne]
      omega
    rw [e1, e2, if_neg (by decide)]
    refine ⟨?_, .str _, H, I.tok _, ⟨_, rfl⟩, q⟩
    show ((List.replicate n.toNat a.cps).foldl (· ++ ·) #[]).size ≤ sizeLine
    rw [foldl_len, sizeLine_eq]
    have e3 : n.toNat * a.cps.size = a.length * n.toNat := Nat.mul_comm _ _
    simp only [List.size_toArray, List.length_nil, Nat.zero_add]
    omega
def repN : Nat → List Nat → List Nat
  | 0, _ => []
  | n + 1, xs => appE xs (repN n xs)
theorem repN_is (xs : List Nat) : ∀ (n : Nat) (acc : List Nat), (List.replicate n xs.toArray).foldl (· ++ ·) acc.toArray = (acc ++ repN n xs).toArray
  | 0, acc => by simp [repN]
  | n + 1, acc => by
    rw [List.replicate_succ, List.foldl_cons, repN, appE_eq]
    have : acc.toArray ++ xs.toArray = (acc ++ xs).toArray := by simp
    rw [this, repN_is xs n (acc ++ xs), List.append_assoc]
def pMulA : EV → EV → EH → (EV → EH → Bool) → Bool := fun v w h k => match v, w with
  | .str a, .int (.ofNat n) => match Nat.ble 2 n && Nat.ble n 10000 && Nat.ble 1 (lenE a) && Nat.ble (lenE a) 1000 with
    | true => k (.str (repN n a)) h
    | false => false
  | v, w => pMul v w h k
def rMulA : R2 := fun x y H Q => rI CMul (fun i j => .int (i * j)) x y H Q ∨ rMulS x y H Q
theorem o_mulA : OpR X (binaryOp .Mult) rMulA := OpR.or op_mul op_mulS
theorem s_mulA : OpS G pMulA rMulA := by
  intro ρ h H v w x y k Q S rv rw' z af
  unfold pMulA at z
  split at z
  · rename_i a n
    split at z
    · rename_i ok
      simp only [Bool.and_eq_true, Nat.ble_eq, lenE_eq] at ok
      unfold RV at rv rw'
      subst rv rw'
      refine .inr ⟨_, _, rfl, rfl, ?_, ?_, ?_, ?_, ?_⟩
      · have := ok.1.1.1
        exact Int.ofNat_le.mpr this
      · have := ok.1.1.2
        exact Int.ofNat_le.mpr this
      · have := ok.1.2
        show 0 < a.toArray.size
        simp only [List.size_toArray]
        omega
      · have := ok.2
        show a.toArray.size ≤ 1000
        simp only [List.size_toArray]
        omega
      · refine af _ h ρ H _ z (Post.refl S) ?_
        unfold RV
        have := repN_is a n []
        simp only [List.nil_append] at this
        show V.str ⟨(List.replicate n a.toArray).foldl (· ++ ·) #[]⟩ = _
        rw [← this]
    · cases z
  · exact .inl (s_mul ρ h H v w x y k Q S rv rw' z af)
end
end Eg

set_option autoImplicit false
set_option maxRecDepth 100000
set_option maxHeartbeats 2000000
/-! E35: ==, quicker, and where texts are letters. -/
namespace Eg
open PySem PySem.Spec L2
mutual
/-- data that can be compared, nested at most so deep -/
def okV : Nat → EV → Bool
  | _, .non => true
  | _, .bl _ => true
  | _, .int _ => true
  | _, .tx _ => true
  | _, .str l => okChars l
  | 0, .tup _ => false
  | n + 1, .tup xs => okVs n xs
  | 0, .lst _ => false
  | n + 1, .lst xs => okVs n xs
  | _, _ => false
def okVs : Nat → List EV → Bool
  | _, [] => true
  | n, x :: xs => match okV n x with
    | true => okVs n xs
    | false => false
end
theorem chars_ok : ∀ {l : List Nat}, okChars l = true → ∀ c ∈ l, c ≤ 1114111
  | [], _, c, h => nomatch h
  | a :: l, e, c, h => by
    unfold okChars at e
    split at e
    · rename_i e1
      rcases List.mem_cons.mp h with rfl | h
      · exact Nat.le_of_ble_eq_true e1
      · exact chars_ok e c h
    · cases e
theorem strOk_of {l : List Nat} (h : ∀ c ∈ l, c ≤ 1114111) : PyData.strOk ⟨l.toArray⟩ = true := by
  unfold PyData.strOk
  simp only [List.all_toArray, List.all_eq_true, decide_eq_true_eq]
  intro c hc
  have := h c hc
  omega
mutual
theorem okV_is : ∀ (n : Nat) (v : EV), okV n v = true → ∃ d, toPD v = some d ∧ d.canLay0 = true ∧ d.depth ≤ n
  | n, .non, h => ⟨.none, rfl, rfl, by simp [PyData.depth]⟩
  | n, .bl b, h => ⟨.bool b, rfl, rfl, by simp [PyData.depth]⟩
  | n, .int b, h => ⟨.int b, rfl, rfl, by simp [PyData.depth]⟩
  | n, .tx t, h => ⟨.str _, rfl, by
      rw [PyData.canLay0]
      exact strOk_of fun c hc => by
        have := (okTx_sign t.ok c hc).2
        omega, by simp [PyData.depth]⟩
  | n, .str l, h => ⟨.str _, rfl, by
      rw [PyData.canLay0]
      exact strOk_of (chars_ok (by cases n <;> (unfold okV at h; exact h))), by simp [PyData.depth]⟩
  | 0, .tup xs, h => by unfold okV at h; cases h
  | n + 1, .tup xs, h => by
    unfold okV at h
    obtain ⟨ds, e1, e2, e3⟩ := okVs_is n xs h
    refine ⟨.tuple ds, by simp only [toPD, e1, Option.map_some], ?_, ?_⟩
    · rw [PyData.canLay0]; exact e2
    · rw [PyData.depth]; omega
  | 0, .lst xs, h => by unfold okV at h; cases h
  | n + 1, .lst xs, h => by
    unfold okV at h
    obtain ⟨ds, e1, e2, e3⟩ := okVs_is n xs h
    refine ⟨.list ds, by simp only [toPD, e1, Option.map_some], ?_, ?_⟩
    · rw [PyData.canLay0]; exact e2
    · rw [PyData.depth]; omega
  | n, .dct _ _ _, h => by cases n <;> (unfold okV at h; cases h)
  | n, .rp _, h => by cases n <;> (unfold okV at h; cases h)
  | n, .kt _, h => by cases n <;> (unfold okV at h; cases h)
  | n, .ref _, h => by cases n <;> (unfold okV at h; cases h)
  | n, .scr, h => by cases n <;> (unfold okV at h; cases h)
theorem okVs_is : ∀ (n : Nat) (vs : List EV), okVs n vs = true → ∃ ds, toPDs vs = some ds ∧ PyData.canLayAll0 ds = true ∧ PyData.depthAll ds ≤ n
  | n, [], h => ⟨[], rfl, rfl, by simp [PyData.depthAll]⟩
  | n, v :: vs, h => by
    have h : (match okV n v with
      | true => okVs n vs
      | false => false) = true := by cases n <;> (unfold okVs at h; exact h)
    split at h
    · rename_i h1
      obtain ⟨d, a1, a2, a3⟩ := okV_is n v h1
      obtain ⟨ds, b1, b2, b3⟩ := okVs_is n vs h
      refine ⟨d :: ds, by simp only [toPDs, a1, b1], ?_, ?_⟩
      · rw [PyData.canLayAll0, a2, b2]; rfl
      · rw [PyData.depthAll]; omega
    · cases h
end
theorem shaped_of {d : PyData} (h1 : d.canLay0 = true) (h2 : d.depth ≤ 64) : SeqAt.shaped d = true := by
  unfold SeqAt.shaped
  rw [h1, decide_eq_true h2]
  rfl
/-! ### equality of data, as Python has it -/
def b2i (b : Bool) : Int := match b with
  | true => 1
  | false => 0
mutual
def eqF : EV → EV → Bool
  | .non, w => isNon w
  | .bl a, w => match w with
    | .bl b => a == b
    | .int j => intEq (b2i a) j
    | _ => false
  | .int a, w => match w with
    | .int b => intEq a b
    | .bl b => intEq a (b2i b)
    | _ => false
  | .str a, w => match w with
    | .str b => natsEq a b
    | .tx t => natsEq a t.l
    | _ => false
  | .tx s, w => match w with
    | .str b => natsEq s.l b
    | .tx t => natsEq s.l t.l
    | _ => false
  | .tup a, w => match w with
    | .tup b => eqFs a b
    | .kt b => eqFs a b
    | _ => false
  | .kt a, w => match w with
    | .tup b => eqFs a b
    | .kt b => eqFs a b
    | _ => false
  | .lst a, w => match w with
    | .lst b => eqFs a b
    | _ => false
  | _, _ => false
def eqFs : List EV → List EV → Bool
  | [], ws => match ws with
    | [] => true
    | _ :: _ => false
  | x :: xs, ws => match ws with
    | [] => false
    | y :: ys => match eqF x y with
      | true => eqFs xs ys
      | false => false
end
theorem b2i_is (b : Bool) : (if b = true then (1 : Int) else 0) = b2i b := by cases b <;> rfl
theorem str_beq (a b : List Nat) : ((⟨a.toArray⟩ : Str) == ⟨b.toArray⟩) = natsEq a b := by
  rw [natsEq_dec]
  by_cases h : a = b
  · subst h
    rw [decide_eq_true rfl]
    exact beq_self_eq_true _
  · rw [decide_eq_false h]
    refine beq_eq_false_iff_ne.mpr fun e => h ?_
    exact List.toArray_inj (Str.mk.inj e)
theorem int_beq (a b : Int) : (a == b) = intEq a b := by
  rw [intEq_dec]
  by_cases h : a = b
  · rw [decide_eq_true h, h]; exact beq_self_eq_true _
  · rw [decide_eq_false h]; exact beq_eq_false_iff_ne.mpr h
mutual
theorem eqF_is : ∀ (v w : EV) (d e : PyData), toPD v = some d → toPD w = some e → eqF v w = PyData.eqv d e
  | .non, w, d, e, h1, h2 => by
    cases h1
    cases w <;> simp only [toPD, Option.some.injEq, reduceCtorEq, Option.map_eq_some_iff] at h2 <;> first | (subst h2; simp [eqF, isNon, PyData.eqv]; done) | (obtain ⟨ds, _, rfl⟩ := h2; simp [eqF, isNon, PyData.eqv])
  | .bl a, w, d, e, h1, h2 => by
    cases h1
    cases w <;> simp only [toPD, Option.some.injEq, reduceCtorEq, Option.map_eq_some_iff] at h2 <;> first | (subst h2; simp [eqF, PyData.eqv, b2i_is, int_beq]; done) | (obtain ⟨ds, _, rfl⟩ := h2; simp [eqF, PyData.eqv])
  | .int a, w, d, e, h1, h2 => by
    cases h1
    cases w <;> simp only [toPD, Option.some.injEq, reduceCtorEq, Option.map_eq_some_iff] at h2 <;> first | (subst h2; simp [eqF, PyData.eqv, b2i_is, int_beq]; done) | (obtain ⟨ds, _, rfl⟩ := h2; simp [eqF, PyData.eqv])
  | .str a, w, d, e, h1, h2 => by
    cases h1
    cases w <;> simp only [toPD, Option.some.injEq, reduceCtorEq, Option.map_eq_some_iff] at h2 <;> first | (subst h2; simp [eqF, PyData.eqv, str_beq]; done) | (obtain ⟨ds, _, rfl⟩ := h2; simp [eqF, PyData.eqv])
  | .tx a, w, d, e, h1, h2 => by
    cases h1
    cases w <;> simp only [toPD, Option.some.injEq, reduceCtorEq, Option.map_eq_some_iff] at h2 <;> first | (subst h2; simp [eqF, PyData.eqv, str_beq]; done) | (obtain ⟨ds, _, rfl⟩ := h2; simp [eqF, PyData.eqv])
  | .tup xs, w, d, e, h1, h2 => by
    simp only [toPD, Option.map_eq_some_iff] at h1
    obtain ⟨ds, h1, rfl⟩ := h1
    cases w <;> simp only [toPD, Option.some.injEq, reduceCtorEq, Option.map_eq_some_iff] at h2
    case tup ys =>
      obtain ⟨es, h2, rfl⟩ := h2
      rw [PyData.eqv, eqF]
      exact eqFs_is xs ys ds es h1 h2
    case kt ys =>
      obtain ⟨es, h2, rfl⟩ := h2
      rw [PyData.eqv, eqF]
      exact eqFs_is xs ys ds es h1 h2
    all_goals first | (subst h2; simp [eqF, PyData.eqv]; done) | (obtain ⟨es, _, rfl⟩ := h2; simp [eqF, PyData.eqv])
  | .kt xs, w, d, e, h1, h2 => by
    simp only [toPD, Option.map_eq_some_iff] at h1
    obtain ⟨ds, h1, rfl⟩ := h1
    cases w <;> simp only [toPD, Option.some.injEq, reduceCtorEq, Option.map_eq_some_iff] at h2
    case tup ys =>
      obtain ⟨es, h2, rfl⟩ := h2
      rw [PyData.eqv, eqF]
      exact eqFs_is xs ys ds es h1 h2
    case kt ys =>
      obtain ⟨es, h2, rfl⟩ := h2
      rw [PyData.eqv, eqF]
      exact eqFs_is xs ys ds es h1 h2
    all_goals first | (subst h2; simp [eqF, PyData.eqv]; done) | (obtain ⟨es, _, rfl⟩ := h2; simp [eqF, PyData.eqv])
  | .lst xs, w, d, e, h1, h2 => by
    simp only [toPD, Option.map_eq_some_iff] at h1
    obtain ⟨ds, h1, rfl⟩ := h1
    cases w <;> simp only [toPD, Option.some.injEq, reduceCtorEq, Option.map_eq_some_iff] at h2
    case lst ys =>
      obtain ⟨es, h2, rfl⟩ := h2
      rw [PyData.eqv, eqF]
      exact eqFs_is xs ys ds es h1 h2
    all_goals first | (subst h2; simp [eqF, PyData.eqv]; done) | (obtain ⟨es, _, rfl⟩ := h2; simp [eqF, PyData.eqv])
  | .dct _ _ _, w, d, e, h1, h2 => by simp [toPD] at h1
  | .rp _, w, d, e, h1, h2 => by simp [toPD] at h1
  | .ref _, w, d, e, h1, h2 => by simp [toPD] at h1
  | .scr, w, d, e, h1, h2 => by simp [toPD] at h1
theorem eqFs_is : ∀ (vs ws : List EV) (ds es : List PyData), toPDs vs = some ds → toPDs ws = some es → eqFs vs ws = PyData.eqvAll ds es
  | [], [], ds, es, h1, h2 => by
    simp only [toPDs, Option.some.injEq] at h1 h2
    subst h1 h2
    simp [eqFs, PyData.eqvAll]
  | [], y :: ys, ds, es, h1, h2 => by
    simp only [toPDs, Option.some.injEq] at h1
    subst h1
    simp only [toPDs] at h2
    split at h2
    · cases h2; simp [eqFs, PyData.eqvAll]
    · cases h2
  | x :: xs, [], ds, es, h1, h2 => by
    simp only [toPDs, Option.some.injEq] at h2
    subst h2
    simp only [toPDs] at h1
    split at h1
    · cases h1; simp [eqFs, PyData.eqvAll]
    · cases h1
  | x :: xs, y :: ys, ds, es, h1, h2 => by
    simp only [toPDs] at h1 h2
    split at h1
    · rename_i d ds' a1 a2
      split at h2
      · rename_i e es' b1 b2
        cases h1
        cases h2
        rw [PyData.eqvAll, eqFs, ← eqF_is x y d e a1 b1, ← eqFs_is xs ys ds' es' a2 b2]
        cases eqF x y <;> rfl
      · cases h2
    · cases h1
end
/-! ### the operator -/
/-- the items of a list, an object of the engine's or not -/
def lstOf (h : EH) : EV → Option (List EV)
  | .lst xs => some xs
  | .ref n => match getH h n with
    | some (.lst xs) => some xs
    | _ => none
  | _ => none
theorem lstOf_is {G : Cn} {ρ : Rho} {h : EH} {H : Hp} {v : EV} {x : V} {xs : List EV} {ds : List PyData} (S : Sim G ρ h H) (r : RV G ρ h.length H v x) (e : lstOf h v = some xs) (hd : toPDs xs = some ds) : Dp G.K H x (.list ds) := by
  cases v with
  | lst ys =>
    simp only [lstOf, Option.some.injEq] at e
    subst e
    exact dp_of (.lst ys) _ _ (by simp only [toPD, hd, Option.map_some]) r
  | ref n =>
    unfold RV at r
    obtain ⟨hn, rfl⟩ := r
    simp only [lstOf, getH_eq] at e
    split at e
    · rename_i ys e1
      simp only [Option.some.injEq] at e
      subst e
      obtain ⟨zs, e2, rr⟩ := S.obj n _ e1
      exact .lst (SqL.of e2) (dps_of _ ds zs hd rr)
    · cases e
  | _ => simp [lstOf] at e
def pEqF (n : Bool) : EV → EV → EH → (EV → EH → Bool) → Bool := fun v w h k => match v with
  | .int a => match w with
    | .int b => k (.bl (intEq a b != n)) h
    | _ => pEq n v w h k
  | .tup a => match okV 60 (.tup a) && okV 60 w with
    | true => k (.bl (eqF (.tup a) w != n)) h
    | false => pEq n v w h k
  | .tx a => match okV 60 w with
    | true => k (.bl (eqF (.tx a) w != n)) h
    | false => false
  | .str a => match w with
    | .tx b => k (.bl (natsEq a b.l != n)) h
    | w => pEq n (.str a) w h k
  | v => match lstOf h v with
    | some xs => match lstOf h w with
      | some ys => match okVs 60 xs && okVs 60 ys with
        | true => k (.bl (eqFs xs ys != n)) h
        | false => pEq n v w h k
      | none => pEq n v w h k
    | none => pEq n v w h k
section
variable {G : Cn}
theorem eq_dat {n : Bool} {x y : V} {d e : PyData} {H : Hp} {Q : VK} {b : Bool} (h1 : Dp G.K H x d) (h2 : Dp G.K H y e) (s1 : SeqAt.shaped d = true) (s2 : SeqAt.shaped e = true) (eb : b = PyData.eqv d e) (q : Q (.bl (b != n)) H) : rEqA G n x y H Q := by
  subst eb
  cases n with
  | false => exact .inr ⟨d, e, h1, h2, s1, s2, by simpa using q⟩
  | true => exact .inr ⟨d, e, h1, h2, s1, s2, by simpa using q⟩
theorem eq_okV {n : Bool} {ρ : Rho} {h : EH} {H : Hp} {v w : EV} {x y : V} {k : EV → EH → Bool} {Q : VK} (S : Sim G ρ h H) (rv : RV G ρ h.length H v x) (rw' : RV G ρ h.length H w y) (o1 : okV 60 v = true) (o2 : okV 60 w = true) (z : k (.bl (eqF v w != n)) h = true) (af : After G ρ h H k Q) : rEqA G n x y H Q := by
  obtain ⟨d, a1, a2, a3⟩ := okV_is 60 v o1
  obtain ⟨e, b1, b2, b3⟩ := okV_is 60 w o2
  exact eq_dat (dp_of v d x a1 rv) (dp_of w e y b1 rw') (shaped_of a2 (by omega)) (shaped_of b2 (by omega)) (eqF_is v w d e a1 b1) (af.here S z (by unfold RV; rfl))
theorem eq_lst {n : Bool} {ρ : Rho} {h : EH} {H : Hp} {v w : EV} {x y : V} {xs ys : List EV} {k : EV → EH → Bool} {Q : VK} (S : Sim G ρ h H) (rv : RV G ρ h.length H v x) (rw' : RV G ρ h.length H w y) (l1 : lstOf h v = some xs) (l2 : lstOf h w = some ys) (o1 : okVs 60 xs = true) (o2 : okVs 60 ys = true)
    (z : k (.bl (eqFs xs ys != n)) h = true) (af : After G ρ h H k Q) : rEqA G n x y H Q := by
  obtain ⟨ds, a1, a2, a3⟩ := okVs_is 60 xs o1
  obtain ⟨es, b1, b2, b3⟩ := okVs_is 60 ys o2
  refine eq_dat (lstOf_is S rv l1 a1) (lstOf_is S rw' l2 b1) (shaped_of (by rw [PyData.canLay0]; exact a2) (by rw [PyData.depth]; omega)) (shaped_of (by rw [PyData.canLay0]; exact b2) (by rw [PyData.depth]; omega)) ?_ (af.here S z (by unfold RV; rfl))
  rw [eqFs_is xs ys ds es a1 b1, PyData.eqv]
theorem s_eqF (n : Bool) : OpS G (pEqF n) (rEqA G n) := by
  intro ρ h H v w x y k Q S rv rw' z af
  have old : ∀ v w, RV G ρ h.length H v x → RV G ρ h.length H w y → pEq n v w h k = true → rEqA G n x y H Q := fun v w rv rw' z => s_eq n ρ h H v w x y k Q S rv rw' z af
  have lists : ∀ v, RV G ρ h.length H v x → (match lstOf h v with
    | some xs => match lstOf h w with
      | some ys => match okVs 60 xs && okVs 60 ys with
        | true => k (.bl (eqFs xs ys != n)) h
        | false => pEq n v w h k
      | none => pEq n v w h k
    | none => pEq n v w h k) = true → rEqA G n x y H Q := fun v rv z => by
    split at z
    · rename_i xs l1
      split at z
      · rename_i ys l2
        split at z
        · rename_i ok
          rw [Bool.and_eq_true] at ok
          exact eq_lst S rv rw' l1 l2 ok.1 ok.2 z af
        · exact old _ _ rv rw' z
      · exact old _ _ rv rw' z
    · exact old _ _ rv rw' z
  cases v with
  | int a =>
    cases w with
    | int b =>
      unfold RV at rv rw'
      subst rv rw'
      exact pEq_scal rfl (int_dec _ _) (af.here S z (by unfold RV; rfl))
    | _ => exact old _ _ rv rw' z
  | tup a =>
    have z : (match okV 60 (.tup a) && okV 60 w with
      | true => k (.bl (eqF (.tup a) w != n)) h
      | false => pEq n (.tup a) w h k) = true := z
    split at z
    · rename_i ok
      rw [Bool.and_eq_true] at ok
      exact eq_okV S rv rw' ok.1 ok.2 z af
    · exact old _ _ rv rw' z
  | tx a =>
    have z : (match okV 60 w with
      | true => k (.bl (eqF (.tx a) w != n)) h
      | false => false) = true := z
    split at z
    · rename_i ok
      exact eq_okV S rv rw' rfl ok z af
    · cases z
  | str a =>
    cases w with
    | tx b =>
      unfold RV at rv rw'
      subst rv rw'
      exact pEq_scal rfl (str_dec _ _) (af.here S z (by unfold RV; rfl))
    | _ => exact old _ _ rv rw' z
  | non => exact lists _ rv z
  | bl b => exact lists _ rv z
  | lst b => exact lists _ rv z
  | dct a b c => exact lists _ rv z
  | rp b => exact lists _ rv z
  | kt b => exact lists _ rv z
  | ref b => exact lists _ rv z
  | scr => exact lists _ rv z
  | clo _ _ => exact lists _ rv z
  | exc _ _ => exact lists _ rv z
end
end Eg

set_option autoImplicit false
set_option maxRecDepth 100000
set_option maxHeartbeats 1000000
/-! E36: a dict's keys walked, the dict locked while they are. -/
namespace Eg
open PySem PySem.Spec L2
section
variable {G : Cn} {X : Cx} {ρ ρ' : Rho} {h h' : EH} {H H' : Hp} {L : Nat} {d : Addr} {u : HO}
def isD (u : HO) : Prop := (∃ kvs, u = .dK kvs) ∨ (∃ kvs, u = .dT kvs) ∨ ∃ φ, u = .ext φ
theorem isD.mut (i : isD u) : Mut (some u) := by
  rcases i with ⟨_, rfl⟩ | ⟨_, rfl⟩ | ⟨_, rfl⟩ <;> exact True.intro
theorem isD.frz {o : Obj} (i : isD (.frz o u)) : False := by
  rcases i with ⟨_, e⟩ | ⟨_, e⟩ | ⟨_, e⟩ <;> cases e
/-- H' is H, but for the dict at d, which is locked in the one -/
structure Swp (H H' : Hp) (d : Addr) (u : HO) : Prop where
  other : ∀ b, b ≠ d → H' b = H b
  isd : isD u
  fst : Rd H d u
  snd : Rd H' d u
theorem Swp.ne {o : HO} {b : Addr} (w : Swp H H' d u) (e : H b = some o) (n1 : ¬ isD o) (n2 : ∀ ob v, o = .frz ob v → ¬ isD v) : H' b = some o := by
  have nb : b ≠ d := by
    rintro rfl
    rcases w.fst with q | ⟨ob, q⟩
    · rw [q] at e; cases e; exact n1 w.isd
    · rw [q] at e; cases e; exact n2 _ _ rfl w.isd
  rw [w.other b nb]; exact e
theorem Swp.rd {v : HO} {b : Addr} (w : Swp H H' d u) (hv : isD v) (r : Rd H b v) : Rd H' b v := by
  by_cases hb : b = d
  · subst hb
    have e : v = u := by
      rcases r with r | ⟨o, r⟩
      · rcases w.fst with q | ⟨o', q⟩
        · rw [q] at r; cases r; rfl
        · rw [q] at r; cases r; exact hv.frz.elim
      · rcases w.fst with q | ⟨o', q⟩
        · rw [q] at r; cases r; exact w.isd.frz.elim
        · rw [q] at r; cases r; rfl
    rw [e]; exact w.snd
  · rcases r with r | ⟨o, r⟩
    · exact .inl (by rw [w.other b hb]; exact r)
    · exact .inr ⟨o, by rw [w.other b hb]; exact r⟩
theorem Swp.tup {b : Addr} {xs : List V} (w : Swp H H' d u) (e : H b = some (.tup xs)) : H' b = some (.tup xs) := w.ne e (fun i => by rcases i with ⟨_, e⟩ | ⟨_, e⟩ | ⟨_, e⟩ <;> cases e) fun _ _ e => nomatch e
theorem Swp.lst {b : Addr} {xs : List V} (w : Swp H H' d u) (e : H b = some (.lst xs)) : H' b = some (.lst xs) := w.ne e (fun i => by rcases i with ⟨_, e⟩ | ⟨_, e⟩ | ⟨_, e⟩ <;> cases e) fun _ _ e => nomatch e
theorem Swp.frt {b : Addr} {o : Obj} {v : HO} (w : Swp H H' d u) (nv : ¬ isD v) (e : H b = some (.frz o v)) : H' b = some (.frz o v) := w.ne e (fun i => i.frz) fun _ _ e => by cases e; exact nv
theorem Swp.sqT {K : PySem.W.Frag} {b : Addr} {xs : List V} (w : Swp H H' d u) (q : SqT K H b xs) : SqT K H' b xs := by
  rcases q with (q | ⟨o, q⟩) | q
  · exact .inl (.inl (w.tup q))
  · exact .inl (.inr ⟨o, w.frt (fun i => by rcases i with ⟨_, e⟩ | ⟨_, e⟩ | ⟨_, e⟩ <;> cases e) q⟩)
  · exact .inr q
theorem Swp.sqS {K : PySem.W.Frag} {b : Addr} {xs : List V} (w : Swp H H' d u) (q : SqS K H b xs) : SqS K H' b xs := by
  rcases q with ⟨o, q⟩ | q
  · exact .inl ⟨o, w.frt (fun i => by rcases i with ⟨_, e⟩ | ⟨_, e⟩ | ⟨_, e⟩ <;> cases e) q⟩
  · exact .inr q
theorem Swp.drr {t : Bool} {ks : List EV} {a : Addr} {ys : List V} (w : Swp H H' d u) (r : DRr H t ks a ys) : DRr H' t ks a ys := by
  cases t with
  | false => obtain ⟨kk, e1, e2, q⟩ := r; exact ⟨kk, e1, e2, w.rd (.inl ⟨_, rfl⟩) q⟩
  | true => obtain ⟨kk, e1, e2, q⟩ := r; exact ⟨kk, e1, e2, w.rd (.inr (.inl ⟨_, rfl⟩)) q⟩
theorem Swp.own {b c : Addr} {o : Obj} (w : Swp H H' d u) (e : H b = some (.frz o (.own c))) : H' b = some (.frz o (.own c)) := w.frt (fun i => by rcases i with ⟨_, e⟩ | ⟨_, e⟩ | ⟨_, e⟩ <;> cases e) e
theorem Swp.code {c : Addr} {q : Str} (w : Swp H H' d u) (x : CodeAt H c q) : CodeAt H' c q := let ⟨oc, vs, t, e, r⟩ := x; ⟨oc, vs, t, w.own e, r⟩
theorem Swp.fun {a : Addr} {i : Nat} {cl : List (Str × Addr)} (w : Swp H H' d u) (x : FunAt G H a i cl) : FunAt G H' a i cl := let ⟨fo, pm, c', ctv, e, r, c⟩ := x; ⟨fo, pm, c', ctv, w.own e, r, w.code c⟩
theorem Swp.caps {cl : List (Str × Addr)} (w : Swp H H' d u) : ∀ {ns : List Str} {ys : List V}, CapsOk G H cl ns ys → CapsOk G H' cl ns ys
  | [], ys, x => by unfold CapsOk at x ⊢; exact x
  | nm :: ns, ys, x => by
    unfold CapsOk at x ⊢
    obtain ⟨z, zs, c, e, l, k, r⟩ := x
    exact ⟨z, zs, c, e, l, k.imp id fun ⟨oc, u, e, r⟩ => ⟨oc, u, w.own e, r⟩, Swp.caps w r⟩
mutual
theorem RV.sw (w : Swp H H' d u) : ∀ (v : EV) (x : V), RV G ρ L H v x → RV G ρ L H' v x
  | .non, x, r => by unfold RV at r ⊢; exact r
  | .bl b, x, r => by unfold RV at r ⊢; exact r
  | .int i, x, r => by unfold RV at r ⊢; exact r
  | .str c, x, r => by unfold RV at r ⊢; exact r
  | .tup xs, x, r => by
    unfold RV at r ⊢
    obtain ⟨a, ys, e, q, rr⟩ := r
    exact ⟨a, ys, e, w.tup q, RVs.sw w xs ys rr⟩
  | .kt xs, x, r => by
    unfold RV at r ⊢
    obtain ⟨a, ys, e, q, rr⟩ := r
    exact ⟨a, ys, e, w.sqT q, RVs.sw w xs ys rr⟩
  | .lst xs, x, r => by
    unfold RV at r ⊢
    obtain ⟨a, ys, e, q, n, rr⟩ := r
    exact ⟨a, ys, e, w.lst q, n, RVs.sw w xs ys rr⟩
  | .dct t ks vs, x, r => by
    unfold RV at r ⊢
    obtain ⟨a, ys, e, n, rr, q⟩ := r
    exact ⟨a, ys, e, n, RVs.sw w vs ys rr, w.drr q⟩
  | .rp v, x, r => by unfold RV at r ⊢; exact r
  | .ref n, x, r => by unfold RV at r ⊢; exact r
  | .scr, x, r => by
    unfold RV at r ⊢
    obtain ⟨a, ns, e, q, l⟩ := r
    exact ⟨a, ns, e, w.sqS q, l⟩
  | .tx t, x, r => by unfold RV at r ⊢; exact r
  | .clo i caps, x, r => by
    unfold RV at r ⊢
    obtain ⟨f, cl, ys, e, fa, co, rr⟩ := r
    exact ⟨f, cl, ys, e, w.fun fa, w.caps co, RVs.sw w caps ys rr⟩
  | .exc c v, x, r => by
    unfold RV at r ⊢
    obtain ⟨a, oe, vs, dd, od, y, e, ha, h1, h2, h3, h4, hd, rr⟩ := r
    exact ⟨a, oe, vs, dd, od, y, e, w.own ha, h1, h2, h3, h4, w.frt (fun i => by rcases i with ⟨_, e⟩ | ⟨_, e⟩ | ⟨_, e⟩ <;> cases e) hd, RV.sw w v y rr⟩
theorem RVs.sw (w : Swp H H' d u) : ∀ (vs : List EV) (xs : List V), RVs G ρ L H vs xs → RVs G ρ L H' vs xs
  | [], xs, r => by unfold RVs at r ⊢; exact r
  | v :: vs, xs, r => by
    unfold RVs at r ⊢
    obtain ⟨z, zs, e, r1, r2⟩ := r
    exact ⟨z, zs, e, RV.sw w v z r1, RVs.sw w vs zs r2⟩
end
theorem RF.sw (w : Swp H H' d u) : ∀ {fs : List (Nat × EV)} {ys : List (Str × V)}, RF G ρ L H fs ys → RF G ρ L H' fs ys
  | [], ys, r => by unfold RF at r ⊢; exact r
  | (n, v) :: fs, ys, r => by
    unfold RF at r ⊢
    obtain ⟨z, zs, e, hn, r1, r2⟩ := r
    exact ⟨z, zs, e, hn, RV.sw w v z r1, RF.sw w r2⟩
theorem RS.sw (w : Swp H H' d u) : ∀ {s : ES} {σ : St}, RS G ρ L H s σ → RS G ρ L H' s σ
  | [], σ, r => by unfold RS at r ⊢; exact r
  | v :: vs, xs, r => by
    unfold RS at r ⊢
    obtain ⟨z, zs, e, r1, r2⟩ := r
    exact ⟨z, zs, e, fun y hy => let ⟨x, e1, q⟩ := r1 y hy; ⟨x, e1, RV.sw w y x q⟩, RS.sw w r2⟩
theorem RO.sw (w : Swp H H' d u) {o : EO} {a : Addr} (ne : a ≠ d) (r : RO G ρ L H o a) : RO G ρ L H' o a := by
  have same := w.other a ne
  cases o with
  | lst xs =>
    obtain ⟨ys, e, rr⟩ := r
    exact ⟨ys, same.trans e, RVs.sw w xs ys rr⟩
  | dic t ks vs =>
    obtain ⟨ys, rr, r⟩ := r
    exact ⟨ys, RVs.sw w vs ys rr, r.stay fun o e => same.trans e⟩
  | ins c fs => obtain ⟨dx, ys, e, hc, rr⟩ := r; exact ⟨dx, ys, same.trans e, hc, RF.sw w rr⟩
  | pot z => obtain ⟨x, y, v, e, rr⟩ := r; exact ⟨x, y, v, same.trans e, rr⟩
  | fdic t ks vs =>
    obtain ⟨ys, rr, r⟩ := r
    exact ⟨ys, RVs.sw w vs ys rr, r.stay fun o e => same.trans e⟩
  | mix lk ks vs =>
    obtain ⟨nks, kys, ys, h1, h2, h3, h4, h5, e⟩ := r
    refine ⟨nks, kys, ys, h1, h2, RVs.sw w ks kys h3, RVs.sw w vs ys h4, h5, ?_⟩
    cases lk with
    | false => exact same.trans e
    | true => exact e.imp fun o e => same.trans e
  | tab i =>
    obtain ⟨ps, e, h1, h2⟩ := r
    exact ⟨ps, same.trans e, h1, fun pos cv hc => (h2 pos cv hc).imp fun c q => ⟨q.1, w.code q.2⟩⟩
  | junk =>
    obtain ⟨o, e, h1, h2⟩ := r
    exact ⟨o, same.trans e, h1, h2⟩
theorem Sim.sw (S : Sim G ρ h H) (w : Swp H H' d u) (un : ∀ n, n < h.length → ρ n ≠ d) : Sim G ρ h H' := by
  refine ⟨fun n o e => RO.sw w (un n (List.getElem?_eq_some_iff.mp e).1) (S.obj n o e), S.inj, fun b hb => ⟨?_, (S.ban b hb).2⟩⟩
  by_cases e : b = d
  · rw [e]; exact Rd.some w.snd
  · rw [w.other b e]; exact (S.ban b hb).1
theorem Swp.lock (e : H d = some u) (i : isD u) (od : Obj) : Swp H (upd H d (.frz od u)) d u := ⟨fun b hb => upd_ne hb, i, .inl e, .inr ⟨od, upd_same⟩⟩
/-- what came while it was locked, unlocked -/
theorem Post.unlk {od : Obj} (p : Post G ρ h (upd H d (.frz od u)) ρ' h' H') (e : H d = some u) (i : isD u) (un : ∀ n, n < h.length → ρ n ≠ d) :
    H' d = some (.frz od u) ∧ Post G ρ h H ρ' h' (upd H' d u) ∧ Swp H' (upd H' d u) d u := by
  have eF : H' d = some (.frz od u) := p.frzs d od u upd_same
  have sw : Swp H' (upd H' d u) d u := ⟨fun b hb => upd_ne hb, i, .inr ⟨od, eF⟩, .inl upd_same⟩
  have old : ∀ n, h.length ≤ n → n < h'.length → ρ' n ≠ d := fun n h1 h2 z => by
    have q := p.fresh n h1 h2
    rw [z, upd_same] at q; cases q
  have un' : ∀ n, n < h'.length → ρ' n ≠ d := fun n hn => by
    by_cases h1 : n < h.length
    · rw [p.ext n h1]; exact un n h1
    · exact old n (Nat.le_of_not_lt h1) hn
  have go : ∀ b o, b ≠ d → H b = some o → upd H d (.frz od u) b = some o := fun b o nb eb => by rw [upd_ne nb]; exact eb
  refine ⟨eF, ⟨p.sim.sw sw un', p.len, p.ext, fun b o eb ub => ?_, fun n h1 h2 => ?_, fun b xs eb => ?_, fun b o v eb => ?_, p.ban⟩, sw⟩
  · by_cases nb : b = d
    · rw [nb] at eb ⊢; rw [upd_same, ← e]; exact eb
    · rw [upd_ne nb]; exact p.frame b o (go b o nb eb) ub
  · have q := p.fresh n h1 h2
    rw [upd_ne (old n h1 h2)] at q; exact q
  · have nb : b ≠ d := fun z => by rw [z, e] at eb; cases eb; rcases i with ⟨_, q⟩ | ⟨_, q⟩ | ⟨_, q⟩ <;> cases q
    rw [upd_ne nb]; exact p.tups b xs (go b _ nb eb)
  · have nb : b ≠ d := fun z => by rw [z, e] at eb; cases eb; exact i.frz
    rw [upd_ne nb]; exact p.frzs b o v (go b _ nb eb)

/-! ### the keys -/
theorem ofs_at {κ : Type} [DecidableEq κ] {f : EV → Option κ} : ∀ {ks : List EV} {kk : List κ} {i : Nat} {v : EV}, ofs f ks = some kk → ks[i]? = some v → ∃ k, kk[i]? = some k ∧ f v = some k
  | [], kk, i, v, e, g => by simp at g
  | w :: ks, kk, i, v, e, g => by
    obtain ⟨a, l, rfl, e1, e2⟩ := ofs_cons e
    cases i with
    | zero => simp only [List.getElem?_cons_zero, Option.some.injEq] at g; subst g; exact ⟨a, by simp, e1⟩
    | succ i =>
      simp only [List.getElem?_cons_succ] at g ⊢
      exact ofs_at e2 g
theorem zip_at {κ : Type} {kk : List κ} {ys : List V} {i : Nat} {k : κ} (hl : kk.length = ys.length) (e : kk[i]? = some k) : ∃ y, (kk.zip ys)[i]? = some (k, y) := by
  have hi := (List.getElem?_eq_some_iff.mp e).1
  have hy : i < ys.length := by omega
  refine ⟨ys[i], ?_⟩
  rw [List.getElem?_zip_eq_some]
  exact ⟨e, List.getElem?_eq_getElem hy⟩
theorem walk_K {o : Obj} {ks : List EV} {kk : List L2.Key} {ys : List V} (e : H d = some (.frz o (.dK (kk.zip ys)))) (h1 : kOfs ks = some kk) (h2 : kk.length = ys.length) : WalkS G (Itk d o (kk.zip ys)) (.fix ks) ρ h H := by
  intro ρ' h' H' S c fz i r e1
  have e' := fz d o _ e
  simp only [nxt, nthE_eq, Option.some.injEq] at e1
  subst e1
  have hl := ofs_length h1
  have hz : (kk.zip ys).length = kk.length := by rw [List.length_zip]; omega
  cases ev : ks[i]? with
  | some v =>
    have hi := (List.getElem?_eq_some_iff.mp ev).1
    obtain ⟨k, ek, fk⟩ := ofs_at h1 ev
    obtain ⟨y, ey⟩ := zip_at h2 ek
    refine ⟨⟨e', by omega⟩, ?_⟩
    rintro x H'' ⟨rfl, k', w, ez, rfl⟩
    rw [ey] at ez
    cases ez
    refine ⟨Post.refl S, ?_⟩
    obtain ⟨x, ex, rx⟩ := (rvs_keys (G := G) (ρ := ρ') (L := h'.length) (H := H'') h1).get ev
    rw [List.getElem?_map, ek] at ex
    cases ex
    exact rx
  | none =>
    have := List.getElem?_eq_none_iff.mp ev
    exact ⟨e', by omega⟩
theorem walk_T {o : Obj} {ks : List EV} {kk : List (List L2.Key)} {ys : List V} (e : H d = some (.frz o (.dT (kk.zip ys)))) (h1 : tOfs ks = some kk) (h2 : kk.length = ys.length) : WalkS G (Itkt d o (kk.zip ys)) (.fix ks) ρ h H := by
  intro ρ' h' H' S c fz i r e1
  have e' := fz d o _ e
  simp only [nxt, nthE_eq, Option.some.injEq] at e1
  subst e1
  have hl := ofs_length h1
  have hz : (kk.zip ys).length = kk.length := by rw [List.length_zip]; omega
  cases ev : ks[i]? with
  | some v =>
    have hi := (List.getElem?_eq_some_iff.mp ev).1
    obtain ⟨k, ek, fk⟩ := ofs_at h1 ev
    obtain ⟨y, ey⟩ := zip_at h2 ek
    refine ⟨⟨e', by omega⟩, ?_⟩
    rintro x H'' ⟨rfl, k', w, q, ez, rfl, eq⟩
    rw [ey] at ez
    cases ez
    exact ⟨Post.refl S, key_rv fk eq⟩
  | none =>
    have := List.getElem?_eq_none_iff.mp ev
    exact ⟨e', by omega⟩
/-- what a dict holds; the walk over its keys while it is locked -/
theorem DRr.kinds {t : Bool} {ks : List EV} {a : Addr} {ys : List V} (G : Cn) (r : DRr H t ks a ys) : ∃ u, isD u ∧ Rd H a u ∧
    ∀ (H1 : Hp) (o : Obj) (ρ : Rho) (h : EH) (σ : St) (i : Nat) (R : It → Hp → Prop), H1 a = some (.frz o u) → σ[i]? = some (some (.ref a)) → (∀ J, WalkS G J (.fix ks) ρ h H1 → R J H1) → iKeys (tVar i) σ H1 R := by
  cases t with
  | false =>
    obtain ⟨kk, e1, e2, q⟩ := r
    exact ⟨_, .inl ⟨_, rfl⟩, q, fun H1 o ρ h σ i R e ex af => ⟨_, ex, a, o, rfl, .inl ⟨_, e, af _ (walk_K e e1 e2)⟩⟩⟩
  | true =>
    obtain ⟨kk, e1, e2, q⟩ := r
    exact ⟨_, .inr (.inl ⟨_, rfl⟩), q, fun H1 o ρ h σ i R e ex af => ⟨_, ex, a, o, rfl, .inr ⟨_, e, af _ (walk_T e e1 e2)⟩⟩⟩
theorem PS.or {st : Stmt} {t u : TS} (p : PS X st t) (q : PS X st u) : PS X st (fun D σ H => t D σ H ∨ u D σ H) := ⟨fun pins s σ H D I z => z.elim (p.run pins s σ H D I) (q.run pins s σ H D I)⟩
end

def kForK (i : Nat) (g : KG) (b : KS) : KS := fun s h nx rt bk ct => match getS s i with
  | some (.dct _ ks _) => kForF g b ks s h nx rt bk ct
  | _ => false
def kSetDcK (own t : Bool) (i j : Nat) (g : KG) (tt : KT) (tk tv : KE) (ns : List Nat) : KS := fun s h nx rt bk ct => match getS s i with
  | some (.dct _ ks _) => match okLen ks with
    | true => kDcF t g tt tk tv (wipeE s ns) ks h [] [] (dcEnd own t fun v h => gVar j v s h nx)
    | false => false
  | _ => false
section
variable {G : Cn} {X : Cx} {ρ ρ' : Rho} {h h' : EH} {H H' : Hp} {L : Nat}
variable {tg kx vx : Expr} {ifs : List Expr} {tk tv : KE} {tt : KT} {gg : KG} {pos p spos py pn : Pos} {sf : KS} {body : List Stmt} {is : List Nat}
theorem s_forK (i : Nat) {x : Str} (g : Gd G X) (hp : PassesOwn (model X.prog X.w) X.A X.env X.xe) (hg : XG G X tg gg is) (hb : XSs G X body sf) (hN : X.N[i]? = some x := by rfl) (hv : Vis X.env.scope x := by first | exact Or.inl rfl | exact Or.inr (Or.inl rfl) | exact Or.inr (Or.inr rfl))
    (hd : (x == ("__debug__" : Str)) = false := by decide) (hcd : (x == ("__classdict__" : Str)) = false := by decide) (hs : ∀ z, foldedSetIterable (.Name x pn) X.env z = pure z := by intro _; rfl) : XS G X (.For tg (.Name x pn) body [] pos) (kForK i gg sf) := by
  have P : PI X tg (.Name x pn) (iKeys (tVar i)) := pi_keys (pv i hN hv hd hcd)
  refine PS.imp (PS.or (ps_lock (ps_for hp g.c P hg hb hs)) (ps_for hp g.c P hg hb hs)) fun D σ H ⟨ρ, s, h, nx, rt, bk, ct, S, R, z, a1, a2, a3, a4⟩ => ?_
  unfold kForK at z
  split at z
  · rename_i t ks vs ev
    obtain ⟨y, ex, r⟩ := R.get ev
    unfold RV at r
    obtain ⟨a, ys, rfl, un, rr, dr⟩ := r
    rw [forF_eq gg sf ks ks [] rfl] at z
    obtain ⟨u, hu, ru, key⟩ := dr.kinds G
    rcases ru with q | ⟨o, q⟩
    · refine .inl ⟨a, u, q, hu.mut, fun od => ?_⟩
      have sw := Swp.lock q hu od
      refine key _ od ρ h σ i _ upd_same ex fun J w => ?_
      exact forS_ok (wi := fun _ _ _ => True) (tb := fun _ _ _ => True) (S.sw sw un.2) (R.sw sw) w z (fun s' h' ρ' H' σ' z' p' r' => let ⟨e1, p2, sw2⟩ := p'.unlk q hu un.2; ⟨e1, a1 _ _ _ _ _ z' p2 (r'.sw sw2)⟩)
        (fun v h' ρ' H' x' z' p' r' => let ⟨e1, p2, sw2⟩ := p'.unlk q hu un.2; ⟨e1, a2 _ _ _ _ _ z' p2 (RV.sw sw2 _ _ r')⟩)
    · exact .inr (key H o ρ h σ i _ q ex fun J w => forS_ok (wi := fun _ _ _ => True) (tb := fun _ _ _ => True) S R w z a1 a2)
  · cases z
theorem PS.lockd {st : Stmt} {t : TS} (p : PS X st t) : PS X st (fun D σ H => tLock t D σ H ∨ t D σ H) := PS.or (ps_lock p) p
theorem s_setDcK (own t : Bool) (i j : Nat) {x y : Str} {scope : Scope} {ow : List (Str × Nat)} (g : Gd G X) (ok : BlkOk X.N X.env.scope scope ow)
    (hg : ∀ (s : Shared) (H : Hp) (C : Addr) (cl : List (Str × Addr)) (fp : List Addr), XG G (X.blk s H scope (compEnvC scope cl C X.env) fp) tg gg is) (ht : ∀ (s : Shared) (H : Hp) (C : Addr) (cl : List (Str × Addr)) (fp : List Addr), XTs G (X.blk s H scope (compEnvC scope cl C X.env) fp) ifs tt)
    (hk : ∀ (s : Shared) (H : Hp) (C : Addr) (cl : List (Str × Addr)) (fp : List Addr), XE G (X.blk s H scope (compEnvC scope cl C X.env) fp) kx tk)
    (he : ∀ (s : Shared) (H : Hp) (C : Addr) (cl : List (Str × Addr)) (fp : List Addr), XE G (X.blk s H scope (compEnvC scope cl C X.env) fp) vx tv) (hvs : ∀ i ∈ is, i ∈ ow.map (·.2) := by decide)
    (hN : X.N[i]? = some x := by rfl) (hv : Vis X.env.scope x := by first | exact Or.inl rfl | exact Or.inr (Or.inl rfl) | exact Or.inr (Or.inr rfl)) (hd : (x == ("__debug__" : Str)) = false := by decide) (hcd : (x == ("__classdict__" : Str)) = false := by decide) (hs : ∀ z, foldedSetIterable (.Name x pn) X.env z = pure z := by intro _; rfl)
    (hy : X.N[j]? = some y := by rfl) (hyl : X.env.scope.names.lookup y = some .local := by rfl) (hsw : swapsWith (.DictComp kx vx [⟨tg, .Name x pn, ifs, 0⟩] scope pos) (some (.Name y py)) spos.line X.env = pure true := by rfl) :
    XS G X (.Assign [.Name y py] (.DictComp kx vx [⟨tg, .Name x pn, ifs, 0⟩] scope pos) spos) (kSetDcK own t i j gg tt tk tv (ow.map (·.2))) := by
  have P : PI X tg (.Name x pn) (iKeys (tVar i)) := pi_keys (pv i hN hv hd hcd)
  refine PS.imp (PS.lockd (ps_setDcA t g.c g.nd (by have := g.u; omega) hy hyl hsw P ok hg ht hk he hs)) fun Ds σ H ⟨ρ, s, h, nx, rt, bk, ct, S, R, z, a1, a2, a3, a4⟩ => ?_
  unfold kSetDcK at z
  split at z
  · rename_i t' ks vs ev
    split at z
    · rename_i ol
      obtain ⟨y, ex, r⟩ := R.get ev
      unfold RV at r
      obtain ⟨a, ys, rfl, un, rr, dr⟩ := r
      rw [dcF_eq t gg tt tk tv _ ks ks [] h _ _ _ rfl] at z
      have hlen := okLen_is ol
      obtain ⟨u, hu, ru, key⟩ := dr.kinds G
      rcases ru with q | ⟨o, q⟩
      · refine .inl ⟨a, u, q, hu.mut, fun od => ?_⟩
        have sw := Swp.lock q hu od
        show tDcA t (iKeys (tVar i)) (RG G gg is) (RT G tt) (RE G tk) (RE G tv) (ow.map (·.2)) σ _ _
        unfold tDcA
        refine key _ od ρ h σ i _ upd_same ex fun J w => ?_
        intro D hD
        exact dcS_ok (Q := fun x H1 => H1 a = some (.frz od u) ∧ Ds.nx (σ.set j (some x)) (upd H1 a u)) (S.sw sw un.2) (R.sw sw) w hvs z (by omega)
          (fun v h' ρ' H' x' z' p' r' => let ⟨e1, p2, sw2⟩ := p'.unlk q hu un.2; ⟨e1, a1 _ _ _ _ _ z' p2 (RS.set j (p2.rs R) (RV.sw sw2 _ _ r'))⟩) hD
      · refine .inr ?_
        show tDcA t (iKeys (tVar i)) (RG G gg is) (RT G tt) (RE G tk) (RE G tv) (ow.map (·.2)) σ _ _
        unfold tDcA
        refine key H o ρ h σ i _ q ex fun J w => ?_
        intro D hD
        exact dcS_ok (Q := fun x H1 => Ds.nx (σ.set j (some x)) H1) S R w hvs z (by omega) (fun v h' ρ' H' x' z' p' r' => a1 _ h' ρ' H' _ z' p' (RS.set j (p'.rs R) r')) hD
    · cases z
  · cases z
end
end Eg

set_option autoImplicit false
set_option maxRecDepth 100000
set_option maxHeartbeats 1000000
/-! E37: an own dict's values walked, the dict locked while they are. -/
namespace Eg
open PySem PySem.Spec L2
/-- where an object is found: nothing is written on the way -/
inductive Path where
  | var (i : Nat) | fld (k : Nat) (p : Path) | sub (p q : Path)
def evP : Path → ES → EH → Option EV
  | .var i, s, h => getS s i
  | .fld k p, s, h => match evP p s h with
    | some (.ref n) => match getH h n with
      | some (.ins _ fs) => getF fs k
      | _ => none
    | _ => none
  | .sub p q, s, h => match evP p s h with
    | some (.ref n) => match getH h n with
      | some (.dic t ks vs) => match evP q s h with
        | some w => match lookE ks vs w, keyOk t w with
          | some z, true => some z
          | _, _ => none
        | none => none
      | _ => none
    | _ => none
def kP (p : Path) : KE := fun s h k => match evP p s h with
  | some v => k v h
  | none => false
def unl (n : Nat) (h : EH) (K : EH → Bool) : Bool := match getH h n with
  | some (.fdic t ks vs) => K (setH h n (.dic t ks vs))
  | _ => false
def kVals (p : Path) (s : ES) (h : EH) (K : Nat → List EV → EH → Bool) : Bool := match evP p s h with
  | some (.ref n) => match getH h n with
    | some (.dic false ks vs) => match evP p s (setH h n (.fdic false ks vs)) with
      | some (.ref m) => match Nat.beq m n with
        | true => K n vs (setH h n (.fdic false ks vs))
        | false => false
      | _ => false
    | _ => false
  | _ => false
def kForV (p : Path) (g : KG) (b : KS) : KS := fun s h nx rt bk ct => kVals p s h fun n vs h => kForF g b vs s h (fun s h => unl n h fun h => nx s h) (fun v h => unl n h fun h => rt v h) (fun s h => unl n h fun h => bk s h) (fun s h => unl n h fun h => ct s h)
def kLcV (own : Bool) (p : Path) (g : KG) (tt : KT) (te : KE) (ns : List Nat) : KE := fun s h k => kVals p s h fun n vs h => match okLen vs with
  | true => kLcF g tt te (wipeE s ns) vs h (lcEnd own fun v h => unl n h fun h => k v h)
  | false => false

section
variable {G : Cn} {X : Cx} {ρ ρ' : Rho} {h h' : EH} {H H' : Hp} {L : Nat} {d : Addr} {u : HO}
variable {e a b tg : Expr} {pos : Pos} {p q : Path} {f f' : KE}
theorem XE.sub (he : XE G X e f) (i : ∀ s h k, f' s h k = true → f s h k = true) : XE G X e f' := PE.imp he fun σ H Q ⟨ρ, s, h, k, S, R, z, af⟩ => ⟨ρ, s, h, k, S, R, i _ _ _ z, af⟩
theorem x_pvar (i : Nat) {x : Str} (hN : X.N[i]? = some x := by rfl) (hv : Vis X.env.scope x := by first | exact Or.inl rfl | exact Or.inr (Or.inl rfl) | exact Or.inr (Or.inr rfl)) (hd : (x == ("__debug__" : Str)) = false := by decide)
    (hc : (x == ("__classdict__" : Str)) = false := by decide) : XE G X (.Name x pos) (kP (.var i)) := XE.sub (x_var i hN hv hd hc) fun s h k z => z
theorem x_pfld (i : Nat) {m : Str} (g : Gk G X) (he : XE G X e (kP p)) (hm : G.fld i = m := by rfl) (hi : i < G.nf := by exact Nat.le_of_ble_eq_true rfl) (hb : attributeBase e m X.env (eval e X.env) = eval e X.env := by rfl) : XE G X (.Attribute e m pos) (kP (.fld i p)) := by
  refine XE.sub (x_fld i g he hm hi hb) fun s h k z => ?_
  unfold kP evP at z
  unfold kFld kP
  cases ep : evP p s h with
  | none => rw [ep] at z; exact z
  | some v =>
    rw [ep] at z
    cases v with
    | ref n =>
      simp only at z ⊢
      cases eh : getH h n with
      | none => rw [eh] at z; exact z
      | some o =>
        rw [eh] at z
        cases o with
        | ins c fs =>
          simp only at z ⊢
          cases ef : getF fs i with
          | none => rw [ef] at z; exact z
          | some w => rw [ef] at z; exact z
        | _ => exact z
    | _ => exact z
theorem x_psub (g : Gd G X) (ha : XE G X a (kP p)) (hb : XE G X b (kP q)) (hs : PlainIx b := by intro _ _; rfl) : XE G X (.Subscript a b pos) (kP (.sub p q)) := by
  refine XE.sub (x_ix g ha hb hs) fun s h k z => ?_
  unfold kP evP at z
  unfold kBin kP
  cases ep : evP p s h with
  | none => rw [ep] at z; exact z
  | some v =>
    rw [ep] at z
    cases v with
    | ref n =>
      simp only at z
      cases eh : getH h n with
      | none => rw [eh] at z; exact absurd z (by simp)
      | some o =>
        rw [eh] at z
        cases o with
        | dic t ks vs =>
          simp only at z ⊢
          cases eq : evP q s h with
          | none => rw [eq] at z; exact absurd z (by simp)
          | some w =>
            rw [eq] at z
            simp only at z ⊢
            unfold pIx
            simp only [eh]
            cases el : lookE ks vs w with
            | none => rw [el] at z; exact absurd z (by simp)
            | some y =>
              rw [el] at z
              cases ek : keyOk t w with
              | false => rw [ek] at z; exact absurd z (by simp)
              | true => rw [ek] at z; exact z
        | _ => exact absurd z (by simp)
    | _ => exact absurd z (by simp)
/-- the dict is locked -/
theorem Sim.lockO (S : Sim G ρ h H) {n : Nat} {t : Bool} {ks vs : List EV} (e : h[n]? = some (.dic t ks vs)) (eu : H (ρ n) = some u) (i : isD u) (od : Obj) : Sim G ρ (setH h n (.fdic t ks vs)) (upd H (ρ n) (.frz od u)) ∧ (setH h n (.fdic t ks vs)).length = h.length := by
  have hn := (List.getElem?_eq_some_iff.mp e).1
  have w := Swp.lock eu i od
  rw [setH_eq]
  have hl : (h.set n (.fdic t ks vs)).length = h.length := by simp
  refine ⟨⟨fun m o em => ?_, fun a b ha hb q => S.inj a b (by rw [hl] at ha; exact ha) (by rw [hl] at hb; exact hb) q, fun b hb => ⟨?_, fun m hm => (S.ban b hb).2 m (by rw [hl] at hm; exact hm)⟩⟩, hl⟩
  · rw [hl]
    by_cases hm : m = n
    · subst hm
      rw [List.getElem?_set_self hn] at em
      cases em
      obtain ⟨ys, rr, dr⟩ := S.obj m _ e
      refine ⟨ys, RVs.sw w vs ys rr, ?_⟩
      cases t with
      | false => obtain ⟨kk, e1, e2, e3⟩ := dr; rw [eu] at e3; cases e3; exact ⟨kk, od, e1, e2, upd_same⟩
      | true => obtain ⟨kk, e1, e2, e3⟩ := dr; rw [eu] at e3; cases e3; exact ⟨kk, od, e1, e2, upd_same⟩
    · rw [List.getElem?_set_ne (Ne.symm hm)] at em
      have hm2 := (List.getElem?_eq_some_iff.mp em).1
      exact RO.sw w (fun q => hm (S.inj m n hm2 hn q)) (S.obj m o em)
  · by_cases eb : b = ρ n
    · exact absurd eb.symm ((S.ban b hb).2 n hn)
    · rw [upd_ne eb]; exact (S.ban b hb).1
/-- what came while it was locked, unlocked -/
theorem Post.unlkO {od : Obj} {hl : EH} {n : Nat} {K : EH → Bool} (p : Post G ρ hl (upd H (ρ n) (.frz od u)) ρ' h' H') (el : hl.length = h.length) (S : Sim G ρ h H) (hn : n < h.length) (e : H (ρ n) = some u) (i : isD u) (z : unl n h' K = true) :
    H' (ρ n) = some (.frz od u) ∧ Swp H' (upd H' (ρ n) u) (ρ n) u ∧ ∃ h2, K h2 = true ∧ h2.length = h'.length ∧ Post G ρ h H ρ' h2 (upd H' (ρ n) u) := by
  have eF : H' (ρ n) = some (.frz od u) := p.frzs (ρ n) od u upd_same
  have sw : Swp H' (upd H' (ρ n) u) (ρ n) u := ⟨fun b hb => upd_ne hb, i, .inr ⟨od, eF⟩, .inl upd_same⟩
  have hn' : n < h'.length := Nat.lt_of_lt_of_le (by rw [el]; exact hn) p.len
  have en : ρ' n = ρ n := p.ext n (by rw [el]; exact hn)
  refine ⟨eF, sw, ?_⟩
  unfold unl at z
  rw [getH_eq] at z
  split at z
  · rename_i t ks vs eo
    have h2l : (setH h' n (.dic t ks vs)).length = h'.length := by rw [setH_eq]; simp
    refine ⟨_, z, h2l, ?_⟩
    have go : ∀ b o, b ≠ ρ n → H b = some o → upd H (ρ n) (.frz od u) b = some o := fun b o nb eb => by rw [upd_ne nb]; exact eb
    have S2 : Sim G ρ' (setH h' n (.dic t ks vs)) (upd H' (ρ n) u) := by
      refine ⟨fun m o em => ?_, fun a b ha hb q => p.sim.inj a b (by rw [h2l] at ha; exact ha) (by rw [h2l] at hb; exact hb) q, fun b hb => ⟨?_, fun m hm => (p.sim.ban b hb).2 m (by rw [h2l] at hm; exact hm)⟩⟩
      · rw [h2l]
        rw [setH_eq] at em
        by_cases hm : m = n
        · subst hm
          rw [List.getElem?_set_self hn'] at em
          cases em
          obtain ⟨ys, rr, dr⟩ := p.sim.obj m _ eo
          rw [en] at dr ⊢
          refine ⟨ys, RVs.sw sw vs ys rr, ?_⟩
          cases t with
          | false => obtain ⟨kk, o1, e1, e2, e3⟩ := dr; rw [eF] at e3; cases e3; exact ⟨kk, e1, e2, upd_same⟩
          | true => obtain ⟨kk, o1, e1, e2, e3⟩ := dr; rw [eF] at e3; cases e3; exact ⟨kk, e1, e2, upd_same⟩
        · rw [List.getElem?_set_ne (Ne.symm hm)] at em
          have hm2 := (List.getElem?_eq_some_iff.mp em).1
          exact RO.sw sw (fun q => hm (p.sim.inj m n hm2 hn' (q.trans en.symm))) (p.sim.obj m o em)
      · by_cases eb : b = ρ n
        · exact ⟨_, by rw [eb]; exact upd_same⟩
        · rw [upd_ne eb]; exact (p.sim.ban b hb).1
    refine ⟨S2, by rw [h2l, ← el]; exact p.len, fun m hm => p.ext m (by rw [el]; exact hm), fun b o eb ub => ?_, fun m h1 h2 => ?_, fun b xs eb => ?_, fun b o v eb => ?_, p.ban⟩
    · have nb : b ≠ ρ n := fun q => ub n hn q.symm
      rw [upd_ne nb]
      exact p.frame b o (go b o nb eb) fun m hm => ub m (by rw [← el]; exact hm)
    · rw [h2l] at h2
      have q := p.fresh m (by rw [el]; exact h1) h2
      have nb : ρ' m ≠ ρ n := fun z => by rw [z, upd_same] at q; cases q
      rw [upd_ne nb] at q; exact q
    · have nb : b ≠ ρ n := fun z => by rw [z, e] at eb; cases eb; rcases i with ⟨_, q⟩ | ⟨_, q⟩ | ⟨_, q⟩ <;> cases q
      rw [upd_ne nb]; exact p.tups b xs (go b _ nb eb)
    · have nb : b ≠ ρ n := fun z => by rw [z, e] at eb; cases eb; exact i.frz
      rw [upd_ne nb]; exact p.frzs b o v (go b _ nb eb)
  · cases z
theorem walk_V {o : Obj} {kk : List L2.Key} {vs : List EV} {ys : List V} (e : H d = some (.frz o (.dK (kk.zip ys)))) (rr : RVs G ρ h.length H vs ys) (h2 : kk.length = ys.length) : WalkS G (Itd d o (kk.zip ys)) (.fix vs) ρ h H := by
  intro ρ' h' H' S c fz i r e1
  have e' := fz d o _ e
  have rr' := c vs ys rr
  simp only [nxt, nthE_eq, Option.some.injEq] at e1
  subst e1
  have hz : (kk.zip ys).length = ys.length := by rw [List.length_zip]; omega
  cases ev : vs[i]? with
  | some v =>
    obtain ⟨x, ex, rx⟩ := rr'.get ev
    have hi := (List.getElem?_eq_some_iff.mp ex).1
    have hk : i < kk.length := by omega
    refine ⟨⟨e', by omega⟩, ?_⟩
    rintro y H'' ⟨rfl, k, ez⟩
    rw [List.getElem?_zip_eq_some] at ez
    rw [ex] at ez
    cases ez.2
    exact ⟨Post.refl S, rx⟩
  | none =>
    have := List.getElem?_eq_none_iff.mp ev
    have := rr'.length
    exact ⟨e', by omega⟩
/-- what the code of the walk finds -/
theorem kVals_is {s : ES} {σ : St} {K : Nat → List EV → EH → Bool} (S : Sim G ρ h H) (R : RS G ρ h.length H s σ) (z : kVals p s h K = true) : ∃ (n : Nat) (ks vs : List EV) (kk : List L2.Key) (ys : List V), h[n]? = some (.dic false ks vs) ∧ K n vs (setH h n (.fdic false ks vs)) = true ∧
    evP p s (setH h n (.fdic false ks vs)) = some (.ref n) ∧ RVs G ρ h.length H vs ys ∧ kk.length = ys.length ∧ H (ρ n) = some (.dK (kk.zip ys)) := by
  unfold kVals at z
  split at z
  · rename_i n ev
    rw [getH_eq] at z
    split at z
    · rename_i ks vs e1
      split at z
      · rename_i m e2
        split at z
        · rename_i eb
          have em := Nat.eq_of_beq_eq_true eb
          subst em
          obtain ⟨ys, rr, kk, d1, d2, d3⟩ := S.obj m _ e1
          exact ⟨m, ks, vs, kk, ys, e1, z, e2, rr, d2, d3⟩
        · cases z
      · cases z
    · cases z
  · cases z
/-- the iterator of the locked dict -/
theorem vals_go {s : ES} {σ : St} {R : It → Hp → Prop} {n : Nat} {hl : EH} {H1 : Hp} {o : Obj} {kk : List L2.Key} {vs : List EV} {ys : List V} (S : Sim G ρ hl H1) (Rs : RS G ρ hl.length H1 s σ) (ev : evP p s hl = some (.ref n)) (e : H1 (ρ n) = some (.frz o (.dK (kk.zip ys)))) (rr : RVs G ρ hl.length H1 vs ys) (h2 : kk.length = ys.length)
    (af : ∀ H2 ρ2, Post G ρ hl H1 ρ2 hl H2 → WalkS G (Itd (ρ n) o (kk.zip ys)) (.fix vs) ρ2 hl H2 → R (Itd (ρ n) o (kk.zip ys)) H2) : iVals (RE G (kP p)) σ H1 R := by
  refine ⟨ρ, s, hl, fun v h' => @decide (v = .ref n ∧ h' = hl) (Classical.propDecidable _), S, Rs, ?_, fun v h2' ρ2 H2 x z2 p2 r2 => ?_⟩
  · unfold kP
    rw [ev]
    exact @decide_eq_true _ (Classical.propDecidable _) ⟨rfl, rfl⟩
  · obtain ⟨rfl, rfl⟩ := @of_decide_eq_true _ (Classical.propDecidable _) z2
    unfold RV at r2
    obtain ⟨hn, rfl⟩ := r2
    have en := p2.ext n hn
    rw [en]
    exact ⟨ρ n, o, _, rfl, p2.frzs _ _ _ e, af H2 ρ2 p2 (walk_V (p2.frzs _ _ _ e) (p2.rvs rr) h2)⟩
end

section
variable {G : Cn} {X : Cx} {ρ ρ' : Rho} {h h' : EH} {H H' : Hp}
variable {e tg elt : Expr} {ifs : List Expr} {te : KE} {tt : KT} {gg : KG} {pos spos py apos cpos : Pos} {sf : KS} {body : List Stmt} {is : List Nat} {p : Path}
theorem s_forV (g : Gd G X) (hp : PassesOwn (model X.prog X.w) X.A X.env X.xe) (he : XE G X e (kP p)) (hg : XG G X tg gg is) (hb : XSs G X body sf) (hbase : attributeBase e "values" X.env (eval e X.env) = eval e X.env := by rfl) (hline : (apos.endLine == cpos.line) = true := by rfl)
    (hs : ∀ z, foldedSetIterable (.Call (.Attribute e "values" apos) [] [] cpos) X.env z = pure z := by intro _; rfl) : XS G X (.For tg (.Call (.Attribute e "values" apos) [] [] cpos) body [] pos) (kForV p gg sf) := by
  refine PS.imp (ps_lock (ps_for hp g.c (pi_values he hbase hline) hg hb hs)) fun D σ H ⟨ρ, s, h, nx, rt, bk, ct, S, R, z, a1, a2, a3, a4⟩ => ?_
  obtain ⟨n, ks, vs, kk, ys, e1, z1, ev, rr, hl, eu⟩ := kVals_is S R z
  have hn := (List.getElem?_eq_some_iff.mp e1).1
  have hu : isD (.dK (kk.zip ys)) := .inl ⟨_, rfl⟩
  refine ⟨ρ n, _, eu, hu.mut, fun od => ?_⟩
  obtain ⟨S1, el⟩ := S.lockO e1 eu hu od
  have sw := Swp.lock eu hu od
  have R1 : RS G ρ (setH h n (.fdic false ks vs)).length (upd H (ρ n) (.frz od (.dK (kk.zip ys)))) s σ := by rw [el]; exact R.sw sw
  refine vals_go S1 R1 ev upd_same (by rw [el]; exact RVs.sw sw _ _ rr) hl fun H2 ρ2 p2 w => ?_
  rw [forF_eq gg sf vs vs [] rfl] at z1
  exact forS_ok (wi := fun _ _ _ => True) (tb := fun _ _ _ => True) p2.sim (p2.rs R1) w z1
    (fun s' h' ρ' H' σ' z' p' r' => let ⟨e1, sw2, h2, z2, l2, pp⟩ := (p2.trans p').unlkO el S hn eu hu z'; ⟨e1, a1 _ _ _ _ _ z2 pp (by rw [l2]; exact r'.sw sw2)⟩)
    (fun v h' ρ' H' x' z' p' r' => let ⟨e1, sw2, h2, z2, l2, pp⟩ := (p2.trans p').unlkO el S hn eu hu z'; ⟨e1, a2 _ _ _ _ _ z2 pp (by rw [l2]; exact RV.sw sw2 _ _ r')⟩)
theorem x_lcV (own : Bool) {scope : Scope} {ow : List (Str × Nat)} (g : Gd G X) (hv : XE G X e (kP p)) (ok : BlkOk X.N X.env.scope scope ow)
    (hg : ∀ (s : Shared) (H : Hp) (C : Addr) (cl : List (Str × Addr)) (fp : List Addr), XG G (X.blk s H scope (compEnvC scope cl C X.env) fp) tg gg is) (ht : ∀ (s : Shared) (H : Hp) (C : Addr) (cl : List (Str × Addr)) (fp : List Addr), XTs G (X.blk s H scope (compEnvC scope cl C X.env) fp) ifs tt)
    (he : ∀ (s : Shared) (H : Hp) (C : Addr) (cl : List (Str × Addr)) (fp : List Addr), XE G (X.blk s H scope (compEnvC scope cl C X.env) fp) elt te) (hvs : ∀ i ∈ is, i ∈ ow.map (·.2) := by decide)
    (hbase : attributeBase e "values" X.env (eval e X.env) = eval e X.env := by rfl) (hline : (apos.endLine == cpos.line) = true := by rfl) (hs : ∀ z, foldedSetIterable (.Call (.Attribute e "values" apos) [] [] cpos) X.env z = pure z := by intro _; rfl) :
    XE G X (.ListComp elt [⟨tg, .Call (.Attribute e "values" apos) [] [] cpos, ifs, 0⟩] scope pos) (kLcV own p gg tt te (ow.map (·.2))) := by
  refine PE.imp (pe_lock (pe_lc g.c g.nd (pi_values hv hbase hline) ok hg ht he hs)) fun σ H Q ⟨ρ, s, h, k, S, R, z, af⟩ => ?_
  obtain ⟨n, ks, vs, kk, ys, e1, z1, ev, rr, hl, eu⟩ := kVals_is S R z
  have hn := (List.getElem?_eq_some_iff.mp e1).1
  have hu : isD (.dK (kk.zip ys)) := .inl ⟨_, rfl⟩
  refine ⟨ρ n, _, eu, hu.mut, fun od => ?_⟩
  obtain ⟨S1, el⟩ := S.lockO e1 eu hu od
  have sw := Swp.lock eu hu od
  have R1 : RS G ρ (setH h n (.fdic false ks vs)).length (upd H (ρ n) (.frz od (.dK (kk.zip ys)))) s σ := by rw [el]; exact R.sw sw
  show tLc (iVals (RE G (kP p))) (RG G gg is) (RT G tt) (RE G te) (ow.map (·.2)) σ _ _
  unfold tLc
  refine vals_go S1 R1 ev upd_same (by rw [el]; exact RVs.sw sw _ _ rr) hl fun H2 ρ2 p2 w => ?_
  intro D hD
  split at z1
  · rename_i ol
    rw [lcF_eq gg tt te _ vs vs [] _ _ rfl] at z1
    have := okLen_is ol
    exact lcS_ok (Q := fun x H' => H' (ρ n) = some (.frz od (.dK (kk.zip ys))) ∧ Q x (upd H' (ρ n) (.dK (kk.zip ys)))) p2.sim (p2.rs R1) w hvs z1 (by omega)
      (fun v h' ρ' H' x' z' p' r' => let ⟨e1, sw2, h2, z2, l2, pp⟩ := (p2.trans p').unlkO el S hn eu hu z'; ⟨e1, af _ _ _ _ _ z2 pp (by rw [l2]; exact RV.sw sw2 _ _ r')⟩) hD
  · cases z1
theorem s_setLcV (own : Bool) (i : Nat) {y : Str} {scope : Scope} {ow : List (Str × Nat)} (g : Gd G X) (hv : XE G X e (kP p)) (ok : BlkOk X.N X.env.scope scope ow)
    (hg : ∀ (s : Shared) (H : Hp) (C : Addr) (cl : List (Str × Addr)) (fp : List Addr), XG G (X.blk s H scope (compEnvC scope cl C X.env) fp) tg gg is) (ht : ∀ (s : Shared) (H : Hp) (C : Addr) (cl : List (Str × Addr)) (fp : List Addr), XTs G (X.blk s H scope (compEnvC scope cl C X.env) fp) ifs tt)
    (he : ∀ (s : Shared) (H : Hp) (C : Addr) (cl : List (Str × Addr)) (fp : List Addr), XE G (X.blk s H scope (compEnvC scope cl C X.env) fp) elt te) (hvs : ∀ i ∈ is, i ∈ ow.map (·.2) := by decide)
    (hbase : attributeBase e "values" X.env (eval e X.env) = eval e X.env := by rfl) (hline : (apos.endLine == cpos.line) = true := by rfl) (hs : ∀ z, foldedSetIterable (.Call (.Attribute e "values" apos) [] [] cpos) X.env z = pure z := by intro _; rfl)
    (hy : X.N[i]? = some y := by rfl) (hyl : X.env.scope.names.lookup y = some .local := by rfl) (hsw : swapsWith (.ListComp elt [⟨tg, .Call (.Attribute e "values" apos) [] [] cpos, ifs, 0⟩] scope pos) (some (.Name y py)) spos.line X.env = pure true := by rfl) :
    XS G X (.Assign [.Name y py] (.ListComp elt [⟨tg, .Call (.Attribute e "values" apos) [] [] cpos, ifs, 0⟩] scope pos) spos) (kAsg (kLcV own p gg tt te (ow.map (·.2))) (gVar i)) := by
  refine PS.imp (ps_lock (ps_setLc g.c g.nd hy hyl hsw (pi_values hv hbase hline) ok hg ht he hs)) fun Ds σ H ⟨ρ, s, h, nx, rt, bk, ct, S, R, z, a1, a2, a3, a4⟩ => ?_
  have z : kLcV own p gg tt te (ow.map (·.2)) s h (fun v h => gVar i v s h nx) = true := z
  unfold kLcV at z
  obtain ⟨n, ks, vs, kk, ys, e1, z1, ev, rr, hl, eu⟩ := kVals_is S R z
  have hn := (List.getElem?_eq_some_iff.mp e1).1
  have hu : isD (.dK (kk.zip ys)) := .inl ⟨_, rfl⟩
  refine ⟨ρ n, _, eu, hu.mut, fun od => ?_⟩
  obtain ⟨S1, el⟩ := S.lockO e1 eu hu od
  have sw := Swp.lock eu hu od
  have R1 : RS G ρ (setH h n (.fdic false ks vs)).length (upd H (ρ n) (.frz od (.dK (kk.zip ys)))) s σ := by rw [el]; exact R.sw sw
  show tLc (iVals (RE G (kP p))) (RG G gg is) (RT G tt) (RE G te) (ow.map (·.2)) σ _ _
  unfold tLc
  refine vals_go S1 R1 ev upd_same (by rw [el]; exact RVs.sw sw _ _ rr) hl fun H2 ρ2 p2 w => ?_
  intro D hD
  split at z1
  · rename_i ol
    rw [lcF_eq gg tt te _ vs vs [] _ _ rfl] at z1
    have := okLen_is ol
    exact lcS_ok (Q := fun x H' => H' (ρ n) = some (.frz od (.dK (kk.zip ys))) ∧ Ds.nx (σ.set i (some x)) (upd H' (ρ n) (.dK (kk.zip ys)))) p2.sim (p2.rs R1) w hvs z1 (by omega)
      (fun v h' ρ' H' x' z' p' r' => let ⟨e1, sw2, h2, z2, l2, pp⟩ := (p2.trans p').unlkO el S hn eu hu z'; ⟨e1, a1 _ _ _ _ _ z2 pp (RS.set i (pp.rs R) (by rw [l2]; exact RV.sw sw2 _ _ r'))⟩) hD
  · cases z1
end
end Eg

set_option autoImplicit false
set_option maxRecDepth 100000
set_option maxHeartbeats 1000000
/-! E38: split, join, index of texts; a field's +=; {k: v}; for over a dict just made. -/
namespace Eg
open PySem PySem.Spec L2
section
variable {G : Cn} {X : Cx} {ρ ρ' : Rho} {h h' : EH} {H H' : Hp} {L : Nat} {d : Addr} {u : HO}
/-! ### texts -/
def strL : List (List Nat) → List EV
  | [] => []
  | x :: xs => .str x :: strL xs
theorem rvs_strs : ∀ (l : List (List Nat)), RVs G ρ L H (strL l) ((l.map SX.S).map V.str)
  | [] => RVs.nil
  | x :: l => RVs.cons (by unfold RV; rfl) (rvs_strs l)
def strOf : List EV → Option (List (List Nat))
  | [] => some []
  | .str x :: xs => match strOf xs with
    | some l => some (x :: l)
    | none => none
  | _ => none
theorem strOf_is : ∀ {xs : List EV} {l : List (List Nat)}, strOf xs = some l → xs = strL l
  | [], l, h => by simp only [strOf, Option.some.injEq] at h; subst h; rfl
  | .str x :: xs, l, h => by
    simp only [strOf] at h
    split at h
    · rename_i m e
      cases h
      rw [strOf_is e]; rfl
    · cases h
  | .non :: _, is, h => by simp [strOf] at h
  | .bl _ :: _, is, h => by simp [strOf] at h
  | .int _ :: _, is, h => by simp [strOf] at h
  | .tup _ :: _, is, h => by simp [strOf] at h
  | .lst _ :: _, is, h => by simp [strOf] at h
  | .dct _ _ _ :: _, is, h => by simp [strOf] at h
  | .rp _ :: _, is, h => by simp [strOf] at h
  | .kt _ :: _, is, h => by simp [strOf] at h
  | .ref _ :: _, is, h => by simp [strOf] at h
  | .scr :: _, is, h => by simp [strOf] at h
  | .tx _ :: _, is, h => by simp [strOf] at h
theorem strs_vals {l : List (List Nat)} {ys : List V} : RVs G ρ L H (strL l) ys → ys = (l.map SX.S).map V.str := by
  induction l generalizing ys with
  | nil => intro r; unfold strL RVs at r; exact r
  | cons x l ih =>
    intro r
    unfold strL RVs at r
    obtain ⟨z, zs, rfl, r1, r2⟩ := r
    unfold RV at r1
    rw [r1, ih r2]; rfl
def sumLen : List (List Nat) → Nat
  | [] => 0
  | x :: xs => x.length + sumLen xs
theorem sumLen_eq : ∀ l : List (List Nat), sumLen l = ((l.map SX.S).map (·.length)).sum
  | [] => rfl
  | x :: l => by rw [sumLen, sumLen_eq l, List.map_cons, List.map_cons, List.sum_cons, SX.S_len]
def mSplit : EV → List EV → EH → (EV → EH → Bool) → Bool := fun v vs h k => match v with
  | .str a => match vs with
    | [.str b] => match !b.isEmpty && b.all (· < 256) && Nat.ble a.length 16000000 with
      | true => k (.lst (strL (TL.spl b 0 [] a))) h
      | false => false
    | _ => false
  | _ => false
def rSplit : V → List V → Hp → VK → Prop := fun x xs H Q => ∃ a b, x = .str a ∧ xs = [.str b] ∧ (b.length == 0) = false ∧ a.length + 2 ≤ sizeLine ∧ rNewStrs (Txt.split a b) H Q
theorem s_split : MtS G mSplit "str" rSplit := by
  intro ρ h H v x vs xs k Q S rv rvs z af
  unfold mSplit at z
  split at z
  · rename_i a
    unfold RV at rv
    subst rv
    split at z
    · rename_i b
      obtain ⟨y, rfl, q⟩ := one rvs
      unfold RV at q
      subst q
      split at z
      · rename_i ok
        simp only [Bool.and_eq_true] at ok
        obtain ⟨⟨o1, o2⟩, o3⟩ := ok
        have o3 := Nat.le_of_ble_eq_true o3
        have hb : b ≠ [] := by intro q; subst q; simp at o1
        refine ⟨_, _, rfl, rfl, ?_, ?_, ?_⟩
        · have : (SX.S b).length = b.length := SX.S_len b
          rw [beq_eq_false_iff_ne]
          intro q
          rw [this] at q
          exact hb (List.length_eq_zero_iff.mp q)
        · have : (SX.S a).length = a.length := SX.S_len a
          rw [this, sizeLine_eq]; omega
        · intro p hp
          have e := SX.split_S (a := a) hb o2
          show Q (.ref p) (upd H p (.lst ((Txt.split (SX.S a) (SX.S b)).map V.str)))
          rw [e]
          exact af _ h ρ _ _ z (Post.temp S hp) (rv_lst S hp (rvs_strs _))
      · cases z
    · cases z
  · cases z
def mJoin : EV → List EV → EH → (EV → EH → Bool) → Bool := fun v vs h k => match v with
  | .str a => match vs with
    | [w] => match seqItems h w with
      | some xs => match strOf xs with
        | some l => match Nat.ble (sumLen l + l.length * a.length) 16777216 with
          | true => k (.str (TL.joinL a l)) h
          | false => false
        | none => false
      | none => false
    | _ => false
  | _ => false
def rJoinA (K : PySem.W.Frag) : V → List V → Hp → VK → Prop := fun x xs H Q => ∃ a p, ∃ ys : List Str, x = .str a ∧ xs = [.ref p] ∧ (SqL K H p (ys.map V.str) ∨ SqT K H p (ys.map V.str)) ∧
    (ys.map (·.length)).sum + ys.length * a.length ≤ 16777216 ∧ Q (.str (Txt.join a ys)) H
theorem mt_joinA (g : Gd G X) : MtR X "str.join" (rJoinA G.K) := g.k ▸ mt_join
theorem s_join : MtS G mJoin "str" (rJoinA G.K) := by
  intro ρ h H v x vs xs k Q S rv rvs z af
  unfold mJoin at z
  split at z
  · rename_i a
    unfold RV at rv
    subst rv
    split at z
    · rename_i w
      obtain ⟨y, rfl, q⟩ := one rvs
      split at z
      · rename_i xs e1
        obtain ⟨p, ys, rfl, sq, rr⟩ := seqItems_is S q e1
        split at z
        · rename_i l e2
          have e2 := strOf_is e2
          subst e2
          have ey := strs_vals rr
          subst ey
          split at z
          · rename_i e3
            have e3 := Nat.le_of_ble_eq_true e3
            refine ⟨_, p, l.map SX.S, rfl, rfl, sq, ?_, ?_⟩
            · rw [← sumLen_eq, List.length_map]
              have : (⟨a.toArray⟩ : Str).length = a.length := SX.S_len a
              rw [this]; exact e3
            · have e := SX.join_S a l
              refine af _ h ρ H _ z (Post.refl S) ?_
              unfold RV
              exact congrArg V.str e
          · cases z
        · cases z
      · cases z
    · cases z
  · cases z
def mIndexS : EV → List EV → EH → (EV → EH → Bool) → Bool := fun v vs h k => match v with
  | .str a => match vs with
    | [.str b] => match Builtin.Str.occurrences ⟨a.toArray⟩ ⟨b.toArray⟩ 0 (⟨a.toArray⟩ : Str).length 1 with
      | i :: _ => k (.int (Int.ofNat i)) h
      | [] => false
    | _ => false
  | _ => false
def rIndexS : V → List V → Hp → VK → Prop := fun x xs H Q => ∃ a b i rest, x = .str a ∧ xs = [.str b] ∧ Builtin.Str.occurrences a b 0 a.length 1 = i :: rest ∧ Q (.int (i : Nat)) H
theorem s_indexS : MtS G mIndexS "str" rIndexS := by
  intro ρ h H v x vs xs k Q S rv rvs z af
  unfold mIndexS at z
  split at z
  · rename_i a
    unfold RV at rv
    subst rv
    split at z
    · rename_i b
      obtain ⟨y, rfl, q⟩ := one rvs
      unfold RV at q
      subst q
      split at z
      · rename_i i rest e
        exact ⟨_, _, i, rest, rfl, rfl, e, af _ h ρ H _ z (Post.refl S) (by unfold RV; rfl)⟩
      · cases z
    · cases z
  · cases z
end

/-! ### o.f += a number -/
def kFldA (i : Nat) (fo f : KE) : KS := fun s h nx _ _ _ => fo s h fun o h => match o with
  | .ref n => match getH h n with
    | some (.ins c fs) => match getF fs i with
      | some (.int a) => f s h fun w h => match w with
        | .int b => match getH h n with
          | some (.ins c2 fs2) => match Nat.beq c2 c && Nat.ble (lenE fs2) 99 with
            | true => nx s (setH h n (.ins c2 (putFE fs2 i (.int (a + b)))))
            | false => false
          | _ => false
        | _ => false
      | _ => false
    | _ => false
  | _ => false
section
variable {G : Cn} {X : Cx} {ρ ρ' : Rho} {h h' : EH} {H H' : Hp} {L : Nat}
variable {o value : Expr} {fo f : KE} {pos tpos : Pos}
theorem s_fldA (i : Nat) {m : Str} (g : Gk G X) (ho : XE G X o fo) (he : XE G X value f) (hm : G.fld i = m := by rfl) (hi : i < G.nf := by exact Nat.le_of_ble_eq_true rfl) :
    XS G X (.AugAssign (.Attribute o m tpos) .Add value pos) (kFldA i fo f) := by
  subst hm
  refine PS.imp (ps_fldaug ho he in_add) fun D σ H ⟨ρ, s, h, nx, rt, bk, ct, S, R, z, a1, a2, a3, a4⟩ => ⟨ρ, s, h, _, S, R, z, fun v h1 ρ1 H1 x z1 p1 r1 => ?_⟩
  split at z1
  · rename_i n
    unfold RV at r1
    obtain ⟨hn, rfl⟩ := r1
    rw [getH_eq] at z1
    split at z1
    · rename_i c fs e1
      split at z1
      · rename_i a e2
        obtain ⟨dx, ys, e3, hc, rf⟩ := p1.sim.obj n _ e1
        obtain ⟨y, ey, ry⟩ := getF_is g.inj hi rf e2
        unfold RV at ry
        subst ry
        rw [g.k]
        refine ⟨_, _, dx, ys, _, rfl, e3, g.cl c hc, g.na c i hc hi, ey, ρ1, s, h1, _, p1.sim, p1.rs R, z1, fun w h2 ρ2 H2 y2 z2 p2 r2 => ?_⟩
        split at z2
        · rename_i b
          unfold RV at r2
          subst r2
          rw [getH_eq] at z2
          split at z2
          · rename_i c2 fs2 e4
            split at z2
            · rename_i ok
              rw [Bool.and_eq_true] at ok
              have ec := Nat.eq_of_beq_eq_true ok.1
              subst ec
              have e5 := ok.2
              rw [Nat.ble_eq, lenE_eq] at e5
              obtain ⟨dx2, ys2, e6, hc2, rf2⟩ := p2.sim.obj n _ e4
              have hn2 := (List.getElem?_eq_some_iff.mp e4).1
              rw [rf_length rf2] at e5
              have en : ρ2 n = ρ1 n := p2.ext n hn
              have rv : RV G ρ2 h2.length H2 (.int (a + b)) (.int (a + b)) := by unfold RV; rfl
              have p3 : Post G ρ2 h2 H2 ρ2 (setH h2 n (.ins c2 (putFE fs2 i (.int (a + b))))) (upd H2 (ρ2 n) (.ins (G.cls c2) dx2 (putF (G.fld i) (.int (a + b)) ys2))) :=
                Post.write p2.sim hn2 ⟨dx2, _, upd_same, hc2, putF_is g.inj hi (RV.write p2.sim hn2 rv) (RF.write p2.sim hn2 rf2)⟩
              rw [en] at e6 p3
              have pp := p1.trans (p2.trans p3)
              exact ⟨a, b, rfl, rfl, dx2, ys2, e6, by omega, a1 s _ ρ2 _ σ z2 pp (pp.rs R)⟩
            · cases z2
          · cases z2
        · cases z2
      · cases z1
    · cases z1
  · cases z1
end
end Eg

set_option autoImplicit false
set_option maxRecDepth 100000
set_option maxHeartbeats 1000000
/-! E39: {k: v}; for over a dict just made. -/
namespace Eg
open PySem PySem.Spec L2
def kDisp1 (fk fv : KE) : KE := fun s h k => fk s h fun w h => fv s h fun v h => match keyOk false w with
  | true => newH h (.dic false [w] [v]) k
  | false => false
def kDcIt (t : Bool) (it : KI) (g : KG) (tt : KT) (tk tv : KE) (ns : List Nat) : KI := fun s h k => it s h fun src h => match src with
  | .fix xs => match okLen xs with
    | true => kDcF t g tt tk tv (wipeE s ns) xs h [] [] (dcEnd false t fun v h => match v with
      | .dct _ ks _ => k (.fix ks) h
      | _ => false)
    | false => false
  | .own _ => false
section
variable {G : Cn} {X : Cx} {ρ ρ' : Rho} {h h' : EH} {H H' : Hp} {L : Nat} {d : Addr} {u : HO}
variable {a b tg e kx vx iter : Expr} {ifs : List Expr} {fk fv tk tv : KE} {tt : KT} {it : KI} {gg : KG} {pos : Pos} {is : List Nat}
theorem x_disp1 (ha : XE G X a fk) (hb : XE G X b fv) : XE G X (.Dict [some a] [b] pos) (kDisp1 fk fv) := by
  refine PE.imp (pe_disp (pps_cons ha hb pps_nil) rfl rfl (by simp) (by simp)) fun σ H Q ⟨ρ, s, h, k, S, R, z, af⟩ => fun p hp => ?_
  have d0 := During.start S hp (.dK [])
  have R0 : RS G (ρ.bar p) h.length (upd H p (.dK [])) s σ := rs_bar hp _ R
  refine ⟨ρ.bar p, s, h, _, d0.sim, R0, z, fun w h1 ρ1 H1 x z1 p1 r1 => ⟨ρ1, s, h1, _, p1.sim, p1.rs R0, z1, fun v h2 ρ2 H2 y z2 p2 r2 => ?_⟩⟩
  have d2 := (d0.step p1).step p2
  have eD : H2 p = some (.dK []) := (p1.trans p2).frame p _ upd_same (d0.sim.ban p (.inl rfl)).2
  split at z2
  · rename_i ek
    obtain ⟨key, ek⟩ := Option.isSome_iff_exists.mp ek
    have ex := key_k ek (p2.rv r1)
    subst ex
    have nt : ∀ xs, HO.dK [] ≠ .tup xs := fun _ q => nomatch q
    have nf : ∀ ob u, HO.dK [] ≠ .frz ob u := fun _ _ q => nomatch q
    refine ⟨eD, [(key, y)], rfl, by simp, ?_⟩
    have d3 := d2.write hp (o2 := .dK (mergeK [] [(key, y)])) eD nt nf
    have rr := d2.rvw (o2 := .dK (mergeK [] [(key, y)])) eD nt nf (RVs.cons r2 RVs.nil)
    refine af _ _ _ _ _ z2 (d3.own S hp fun ρ3 e1 e2 e3 => ⟨[y], RVs.move (ρ := ρ2) e1 (Nat.le_succ _) (fun b o eb un => ⟨eb, fun q => un.1 ((d2.ban b).mpr (.inr (e2 ▸ q))), fun n hn q => ?_⟩) (fun _ _ e => e) (fun _ _ _ e => e) _ _ rr, [key], by simp [ofs, ek], rfl, by rw [upd_same]; rfl⟩) rv_new'
    by_cases h9 : n < h2.length
    · rw [e1 n h9] at q; exact un.2 n h9 q
    · have e9 : n = h2.length := by omega
      rw [e9, e3] at q
      exact un.1 ((d2.ban b).mpr (.inl q.symm))
  · cases z2

/-! ### for over a dict just made -/
def GoK (d : Addr) (o : Obj) (u : HO) (R : It → Hp → Prop) (H : Hp) : Prop := (∃ kvs, u = .dK kvs ∧ R (Itk d o kvs) H) ∨ ∃ kvs, u = .dT kvs ∧ R (Itkt d o kvs) H
def iKeysN (td : TE) : TI := fun σ H R => td σ H fun x H1 => ∃ d u, x = .ref d ∧ ((∃ o, H1 d = some (.frz o u) ∧ GoK d o u R H1) ∨ (H1 d = some u ∧ Mut (some u) ∧ ∀ o, GoK d o u R (upd H1 d (.frz o u))))
theorem pi_keysN {td : TE} (he : PE X e td) : PI X tg e (iKeysN td) := by
  refine ⟨fun pins s σ H R I h => ?_⟩
  refine thn (he.run pins s σ H _ I h) fun u s1 ⟨x, H1, I1, rx, d, w, ex, q⟩ => ?_
  subst ex
  obtain rfl : u = Value.ref d := rx
  have main : ∀ (o : Obj) (H1 : Hp), L2.Inv X pins σ H1 s1 → H1 d = some (.frz o w) → GoK d o w R H1 → wpAny (model X.prog X.w) X.A (pyIter (.ref d)) (PIE X pins σ tg R) X.xe s1 := by
    intro o H1 I1 hd q0
    clear q
    rcases q0 with ⟨kvs, rfl, q⟩ | ⟨kvs, rfl, q⟩
    · obtain ⟨hs, hgd, hx, es, ep, vs, hdt, hsz, kv, hm⟩ := I1.frzK hd
      refine iter_keys hs hgd hx hdt (pi_one (tk := s1.toks) I1 _ (turn_keys _ hdt) ⟨_, Heap.get?_push_size _ rfl, rfl, ?_⟩ q)
      rw [hsz] <;> rfl
    · obtain ⟨hs, hgd, hx, es, ep, hdt, hsz, ent⟩ := I1.frzT hd
      refine iter_keys hs hgd hx hdt (pi_one (tk := s1.toks) I1 _ (turn_keysT _ hdt) ⟨_, Heap.get?_push_size _ rfl, rfl, ?_⟩ q)
      rw [hsz] <;> rfl
  rcases q with ⟨o, hd, q⟩ | ⟨hd, mu, q⟩
  · exact main o H1 I1 hd q
  · obtain ⟨od, I2⟩ := I1.lock hd mu
    exact main od _ I2 upd_same (q od)
theorem DcTurn.imp {J : It} {g : TG} {tt : TT} {tk tv : TE} {vs : List Nat} {σ : St} {D : Addr} {Q Q' : VK} {W : Nat → Nat → Hp → Prop} (t : DcTurn J g tt tk tv vs σ D Q W) (i : ∀ H, Q (.ref D) H → Q' (.ref D) H) : DcTurn J g tt tk tv vs σ D Q' W := by
  intro n m H w
  rcases t n m H w with ⟨x, y⟩ | x
  · exact .inl ⟨x, i _ y⟩
  · exact .inr x
/-- a new dict is locked for good -/
theorem Post.lockN {od : Obj} (p : Post G ρ h H ρ' h' H') (hn : H d = none) (e : H' d = some u) (i : isD u) (un : ∀ n, n < h'.length → ρ' n ≠ d) : Post G ρ h H ρ' h' (upd H' d (.frz od u)) := by
  have sw := Swp.lock e i od
  have ne : ∀ b o, H b = some o → b ≠ d := fun b o eb z => by rw [z, hn] at eb; cases eb
  exact ⟨p.sim.sw sw un, p.len, p.ext, fun b o eb ub => by rw [upd_ne (ne b o eb)]; exact p.frame b o eb ub, p.fresh, fun b xs eb => by rw [upd_ne (ne b _ eb)]; exact p.tups b xs eb, fun b o v eb => by rw [upd_ne (ne b _ eb)]; exact p.frzs b o v eb, p.ban⟩
theorem DRr.go {t : Bool} {ks : List EV} {ys : List V} (G : Cn) (r : DRr H t ks d ys) : ∃ u, isD u ∧ Rd H d u ∧ ∀ (H1 : Hp) (o : Obj) (ρ : Rho) (h : EH) (R : It → Hp → Prop), H1 d = some (.frz o u) → (∀ J, WalkS G J (.fix ks) ρ h H1 → R J H1) → GoK d o u R H1 := by
  cases t with
  | false =>
    obtain ⟨kk, e1, e2, q⟩ := r
    exact ⟨_, .inl ⟨_, rfl⟩, q, fun H1 o ρ h R e af => .inl ⟨_, rfl, af _ (walk_K e e1 e2)⟩⟩
  | true =>
    obtain ⟨kk, e1, e2, q⟩ := r
    exact ⟨_, .inr (.inl ⟨_, rfl⟩), q, fun H1 o ρ h R e af => .inr ⟨_, rfl, af _ (walk_T e e1 e2)⟩⟩
theorem i_dcK (t : Bool) {scope : Scope} {ow : List (Str × Nat)} (g : Gd G X) (hi : XI G X tg iter it) (ok : BlkOk X.N X.env.scope scope ow)
    (hg : ∀ (s : Shared) (H : Hp) (C : Addr) (cl : List (Str × Addr)) (fp : List Addr), XG G (X.blk s H scope (compEnvC scope cl C X.env) fp) tg gg is) (ht : ∀ (s : Shared) (H : Hp) (C : Addr) (cl : List (Str × Addr)) (fp : List Addr), XTs G (X.blk s H scope (compEnvC scope cl C X.env) fp) ifs tt)
    (hk : ∀ (s : Shared) (H : Hp) (C : Addr) (cl : List (Str × Addr)) (fp : List Addr), XE G (X.blk s H scope (compEnvC scope cl C X.env) fp) kx tk)
    (he : ∀ (s : Shared) (H : Hp) (C : Addr) (cl : List (Str × Addr)) (fp : List Addr), XE G (X.blk s H scope (compEnvC scope cl C X.env) fp) vx tv) {tg2 : Expr} (hvs : ∀ i ∈ is, i ∈ ow.map (·.2) := by decide) (hs : ∀ x, foldedSetIterable iter X.env x = pure x := by intro _; rfl) :
    XI G X tg2 (.DictComp kx vx [⟨tg, iter, ifs, 0⟩] scope pos) (kDcIt t it gg tt tk tv (ow.map (·.2))) := by
  refine PI.imp (pi_keysN (pe_dcA t g.c g.nd (by have := g.u; omega) hi ok hg ht hk he hs)) fun σ H R0 ⟨ρ, s, h, k, S, R, z, af⟩ => ⟨ρ, s, h, _, S, R, z, fun src h1 ρ1 H1 J z1 p1 w D hD => ?_⟩
  cases src with
  | fix xs =>
    have z1 : (match okLen xs with
      | true => kDcF t gg tt tk tv (wipeE s (ow.map (·.2))) xs h1 [] [] (dcEnd false t fun v h => match v with
        | .dct _ ks _ => k (.fix ks) h
        | _ => false)
      | false => false) = true := z1
    split at z1
    · rename_i ol
      rw [dcF_eq t gg tt tk tv _ xs xs [] h1 _ _ _ rfl] at z1
      have := okLen_is ol
      obtain ⟨W, w0, turn⟩ := dcS_ok (Q := fun x H' => x = .ref D → ∃ d u, x = .ref d ∧ ((∃ o, H' d = some (.frz o u) ∧ GoK d o u R0 H') ∨ (H' d = some u ∧ Mut (some u) ∧ ∀ o, GoK d o u R0 (upd H' d (.frz o u))))) p1.sim (p1.rs R) w hvs z1 (by omega) (fun v h' ρ' H' x z' p' r' ex => by
        split at z'
        · rename_i t' ks vs
          unfold RV at r'
          obtain ⟨a, ys, e, un, rr, dr⟩ := r'
          rw [e] at ex
          cases ex
          obtain ⟨u, hu, ru, go⟩ := dr.go G
          refine ⟨D, u, e, ?_⟩
          rcases ru with q | ⟨o, q⟩
          · exact .inr ⟨q, hu.mut, fun o => go _ o ρ' h' R0 upd_same fun J w => af _ _ _ _ J z' (p1.trans (p'.lockN hD q hu un.2)) w⟩
          · exact .inl ⟨o, q, go _ o ρ' h' R0 q fun J w => af _ _ _ _ J z' (p1.trans p') w⟩
        · cases z') hD
      exact ⟨W, w0, turn.imp fun H' q => q rfl⟩
    · cases z1
  | own n => exact nomatch z1
end
end Eg

set_option autoImplicit false
set_option maxRecDepth 100000
set_option maxHeartbeats 1000000
/-! E40: min of a list of data; list.remove of data. -/
namespace Eg
open PySem PySem.Spec L2 PySem.W PySem.Calls PyProof.Rows
/-- the items that equal m -/
def selE (m : PyData) : List (PyData × EV) → List EV
  | [] => []
  | p :: ps => match PyData.eqv p.1 m with
    | true => p.2 :: selE m ps
    | false => selE m ps
theorem selE_mem {m : PyData} : ∀ {ds : List (PyData × EV)} {p : PyData × EV}, p ∈ ds → PyData.eqv p.1 m = true → p.2 ∈ selE m ds
  | q :: ds, p, h, e => by
    rw [selE]
    rcases List.mem_cons.mp h with rfl | h
    · rw [e]; exact List.mem_cons_self
    · split
      · exact List.mem_cons_of_mem _ (selE_mem h e)
      · exact selE_mem h e
def fstD : List (PyData × EV) → List PyData
  | [] => []
  | p :: ps => p.1 :: fstD ps
theorem fstD_eq : ∀ l : List (PyData × EV), fstD l = l.map (·.1)
  | [] => rfl
  | p :: l => by rw [fstD, fstD_eq l]; rfl
def noNon : List PyData → Bool
  | [] => true
  | .none :: _ => false
  | _ :: l => noNon l
theorem noNon_is : ∀ {l : List PyData}, noNon l = true → ∀ x ∈ l, x ≠ .none
  | a :: l, h, x, hx => by
    have q : a ≠ .none ∧ noNon l = true := by
      cases a with
      | none => cases h
        | _ => exact ⟨(fun z => nomatch z), h⟩
    rcases List.mem_cons.mp hx with rfl | hx
    · exact q.1
    · exact noNon_is q.2 x hx
/-- an own list, or one that nobody changes -/
def listE (h : EH) (v : EV) : Option (List EV) := match v with
  | .lst xs => some xs
  | .ref n => match getH h n with
    | some (.lst xs) => some xs
    | _ => none
  | _ => none
def bMin : List EV → EH → (EV → EH → Bool) → Bool := fun vs h k => match vs with
  | [v] => match listE h v with
    | some xs => match zipD xs with
      | some (p :: ps) => match alikeP (fstD (p :: ps)) (fstD (p :: ps)) && noNon (fstD (p :: ps)) && depthsD (fstD (p :: ps)) && PyData.eqv (minD p.1 (fstD ps)) (minD p.1 (fstD ps)) with
        | true => match selE (minD p.1 (fstD ps)) (p :: ps) with
          | [e] => k e h
          | _ => false
        | false => false
      | _ => false
    | none => false
  | _ => false
section
variable {G : Cn} {X : Cx} {ρ : Rho} {h : EH} {H : Hp} {L : Nat}
theorem listE_is {v : EV} {x : V} {xs : List EV} (S : Sim G ρ h H) (r : RV G ρ h.length H v x) (e : listE h v = some xs) : ∃ a ys, x = .ref a ∧ SqL G.K H a ys ∧ RVs G ρ h.length H xs ys := by
  unfold listE at e
  split at e
  · cases e
    unfold RV at r
    obtain ⟨a, ys, rfl, q, _, rr⟩ := r
    exact ⟨a, ys, rfl, .inl (.inl q), rr⟩
  · rename_i n
    unfold RV at r
    obtain ⟨hn, rfl⟩ := r
    rw [getH_eq] at e
    split at e
    · rename_i l e1
      cases e
      obtain ⟨ys, q, rr⟩ := S.obj n _ e1
      exact ⟨_, ys, rfl, .inl (.inl q), rr⟩
    · cases e
  · cases e
/-- min(a list): the data, the values -/
def rMinD (K : PySem.W.Frag) : List V → Hp → VK → Prop := fun vs H Q => ∃ (a : Addr) (x : PyData × V) (ts : List (PyData × V)), vs = [.ref a] ∧ SqL K H a ((x :: ts).map (·.2)) ∧ (∀ t ∈ x :: ts, Dp K H t.2 t.1) ∧ (∀ t ∈ x :: ts, ∀ u ∈ x :: ts, alike t.1 u.1 = true) ∧ (∀ t ∈ x :: ts, t.1 ≠ .none) ∧ (∀ t ∈ x :: ts, t.1.depth ≤ 100) ∧
  ∀ t ∈ x :: ts, t.1 = minD x.1 (ts.map (·.1)) → Q t.2 H
theorem dpAll_of {K : PySem.W.Frag} : ∀ (ts : List (PyData × V)), (∀ t ∈ ts, Dp K H t.2 t.1) → DpAll K H (ts.map (·.2)) (ts.map (·.1))
  | [], _ => .nil
  | t :: ts, h => .cons (h t List.mem_cons_self) (dpAll_of ts fun u hu => h u (List.mem_cons_of_mem _ hu))
theorem depthAll_le : ∀ (ds : List PyData) (n : Nat), (∀ d ∈ ds, d.depth ≤ n) → PyData.depthAll ds ≤ n
  | [], n, _ => Nat.zero_le _
  | d :: ds, n, h => by
    have h1 := h d List.mem_cons_self
    have h2 := depthAll_le ds n fun e he => h e (List.mem_cons_of_mem _ he)
    simp only [PyData.depthAll]
    omega
theorem minD_mem : ∀ (xs : List PyData) (x : PyData), minD x xs ∈ x :: xs
  | [], x => by simp [minD]
  | y :: xs, x => by
    have e : minD x (y :: xs) = minD (if dataLt y x then y else x) xs := rfl
    rw [e]
    rcases List.mem_cons.mp (minD_mem xs (if dataLt y x then y else x)) with q | q
    · rw [q]
      split
      · exact List.mem_cons_of_mem _ List.mem_cons_self
      · exact List.mem_cons_self
    · exact List.mem_cons_of_mem _ (List.mem_cons_of_mem _ q)
theorem cr_minD (hc : X.calm = true) (hu : X.A.units + 150 < cLine) : CallR X (.builtin "min") (rMinD X.K) := by
  intro pins s σ H vs us Q I r hh
  obtain ⟨a, x, ts, rfl, hs, hdp, hal, hnn, hdd, q⟩ := hh
  obtain ⟨its, rv, hl, _⟩ := I.list hs
  rw [Vals.ref1 r]
  obtain ⟨as, ra⟩ := Dp.readsAll I _ _ _ (dpAll_of _ hdp) rv
  have hAA : AlikeAll ((x :: ts).map (·.1)) := by
    refine ⟨fun d hd e he => ?_, fun d hd => ?_⟩
    · obtain ⟨t, ht, rfl⟩ := List.mem_map.mp hd
      obtain ⟨u, hu, rfl⟩ := List.mem_map.mp he
      exact hal t ht u hu
    · obtain ⟨t, ht, rfl⟩ := List.mem_map.mp hd
      exact hnn t ht
  have hd100 : PyData.depthAll ((x :: ts).map (·.1)) ≤ 100 := depthAll_le _ _ fun d hd => by
    obtain ⟨t, ht, rfl⟩ := List.mem_map.mp hd
    exact hdd t ht
  refine min_list_data (x := x.1) (xs := ts.map fun (t : PyData × V) => t.1) (I.ok.hd hc) (vs := its.toArray) hl.isList (by simpa using ra) hAA (by simp only [List.map_cons] at hd100; omega) fun i v h' tk bs hv rm hk => ?_
  have hv' : its[i]? = some v := by simpa using hv
  have hi := (List.getElem?_eq_some_iff.mp hv').1
  have hlen := rv.length
  have hti : i < (x :: ts).length := by rw [List.length_map] at hlen; omega
  have et : (x :: ts)[i]? = some (x :: ts)[i] := List.getElem?_eq_getElem hti
  obtain ⟨u, hu', ru⟩ := rv.get (x := ((x :: ts)[i]).2) (i := i) (by rw [List.getElem?_map, et]; rfl)
  rw [hv'] at hu'
  cases hu'
  have tm : (x :: ts)[i] ∈ x :: ts := List.getElem_mem hti
  obtain ⟨cs, rd⟩ := Dp.reads I _ _ _ (hdp _ tm) ru
  have mm := minD_mem (ts.map (·.1)) x.1
  obtain ⟨t2, ht2, e2⟩ := List.mem_map.mp (show minD x.1 (ts.map (·.1)) ∈ (x :: ts).map (·.1) from mm)
  have ed : ((x :: ts)[i]).1 = minD x.1 (ts.map (·.1)) := alike_unique _ _ v _ _ (by rw [← e2]; exact hal _ tm _ ht2) (reads_keeps hk rd) rm
  exact ⟨_, H, I.kept (t' := tk) hk, ru, q _ tm ed⟩
theorem c_min (g : Gd G X) : CallR X (.builtin "min") (rMinD G.K) := g.k ▸ cr_minD g.c (by have := g.u; omega)
theorem b_min : CallS G bMin (rMinD G.K) := by
  intro ρ h H vs xs k Q S r z af
  unfold bMin at z
  split at z
  · rename_i v
    obtain ⟨x, rfl, rx⟩ := one r
    split at z
    · rename_i ls e1
      obtain ⟨a, ys, rfl, sq, rr⟩ := listE_is S rx e1
      split at z
      · rename_i p ps e2
        obtain ⟨ts, i1, i2, i3⟩ := zipD_is e2 rr
        split at z
        · rename_i ok
          simp only [Bool.and_eq_true] at ok
          obtain ⟨⟨⟨o1, o2⟩, o3⟩, o4⟩ := ok
          split at z
          · rename_i e es
            cases ts with
            | nil => simp at i1
            | cons t0 ts =>
              rw [fstD_eq, i1, List.map_map] at o1 o2 o3
              have ep : p = (t0.1, t0.2.1) ∧ ps = ts.map fun t => (t.1, t.2.1) := by simpa using i1
              have em : (ts.map fun t => (t.1, t.2.2)).map (·.1) = fstD ps := by rw [fstD_eq, ep.2, List.map_map, List.map_map]; rfl
              refine ⟨a, (t0.1, t0.2.2), ts.map fun t => (t.1, t.2.2), rfl, ?_, ?_, ?_, ?_, ?_, ?_⟩
              · have : ((t0.1, t0.2.2) :: ts.map fun t => (t.1, t.2.2)).map (·.2) = ys := by rw [i2]; simp
                rw [this]; exact sq
              · intro t ht
                obtain ⟨u, hu, rfl⟩ := List.mem_map.mp (show t ∈ (t0 :: ts).map fun t => (t.1, t.2.2) from ht)
                exact (i3 u hu).2
              · intro t ht u hu
                obtain ⟨t', ht', rfl⟩ := List.mem_map.mp (show t ∈ (t0 :: ts).map fun t => (t.1, t.2.2) from ht)
                obtain ⟨u', hu', rfl⟩ := List.mem_map.mp (show u ∈ (t0 :: ts).map fun t => (t.1, t.2.2) from hu)
                exact alikeP_is o1 _ (List.mem_map.mpr ⟨t', ht', rfl⟩) _ (List.mem_map.mpr ⟨u', hu', rfl⟩)
              · intro t ht
                obtain ⟨t', ht', rfl⟩ := List.mem_map.mp (show t ∈ (t0 :: ts).map fun t => (t.1, t.2.2) from ht)
                exact noNon_is o2 _ (List.mem_map.mpr ⟨t', ht', rfl⟩)
              · intro t ht
                obtain ⟨t', ht', rfl⟩ := List.mem_map.mp (show t ∈ (t0 :: ts).map fun t => (t.1, t.2.2) from ht)
                exact depthsD_is o3 _ (List.mem_map.mpr ⟨t', ht', rfl⟩)
              · intro t ht em2
                obtain ⟨t', ht', rfl⟩ := List.mem_map.mp (show t ∈ (t0 :: ts).map fun t => (t.1, t.2.2) from ht)
                have em3 : t'.1 = minD p.1 (fstD ps) := by
                  have := em2
                  rw [em] at this
                  rw [ep.1]; exact this
                have mem : t'.2.1 ∈ selE (minD p.1 (fstD ps)) (p :: ps) := selE_mem (p := (t'.1, t'.2.1)) (by rw [i1]; exact List.mem_map.mpr ⟨t', ht', rfl⟩) (by show PyData.eqv t'.1 _ = true; rw [em3]; exact o4)
                rw [es] at mem
                have ee : t'.2.1 = e := by simpa using mem
                exact af e h ρ H _ z (Post.refl S) (ee ▸ (i3 t' ht').1)
          · cases z
        · cases z
      · cases z
    · cases z
  · cases z
end
end Eg

set_option autoImplicit false
set_option maxRecDepth 100000
set_option maxHeartbeats 1000000
/-! E41: list.remove of data. -/
namespace Eg
open PySem PySem.Spec L2 PySem.W PySem.Calls PyProof.Rows PySem.SeqAt
/-- the place of the first item that equals d -/
def firstEq (d : PyData) : List PyData → Option Nat
  | [] => none
  | x :: xs => match PyData.eqv x d with
    | true => some 0
    | false => match firstEq d xs with
      | some i => some (i + 1)
      | none => none
def dropAt : List EV → Nat → List EV
  | [], _ => []
  | x :: xs, n => match n with
    | 0 => xs
    | n + 1 => x :: dropAt xs n
theorem dropAt_eq : ∀ (l : List EV) (n : Nat), dropAt l n = l.eraseIdx n
  | [], n => by cases n <;> rfl
  | x :: xs, 0 => rfl
  | x :: xs, n + 1 => by rw [dropAt, dropAt_eq xs n]; rfl
theorem firstEq_is : ∀ {ds : List PyData} {d : PyData} {j : Nat}, firstEq d ds = some j → (∃ x, ds[j]? = some x ∧ PyData.eqv x d = true) ∧ ∀ i x, i < j → ds[i]? = some x → PyData.eqv x d = false
  | y :: ds, d, j, h => by
    rw [firstEq] at h
    cases e : PyData.eqv y d with
    | true =>
      rw [e] at h
      cases h
      exact ⟨⟨y, rfl, e⟩, fun i x hi => absurd hi (Nat.not_lt_zero _)⟩
    | false =>
      rw [e] at h
      simp only at h
      cases e2 : firstEq d ds with
      | none => rw [e2] at h; cases h
      | some i =>
        rw [e2] at h
        cases h
        obtain ⟨⟨x, h1, h2⟩, h3⟩ := firstEq_is e2
        refine ⟨⟨x, by simpa using h1, h2⟩, fun k x hk hx => ?_⟩
        cases k with
        | zero => simp at hx; subst hx; exact e
        | succ k => exact h3 k x (Nat.lt_of_succ_lt_succ hk) (by simpa using hx)
def mRemove : EV → List EV → EH → (EV → EH → Bool) → Bool := fun v vs h k => match v with
  | .ref n => match getH h n with
    | some (.lst xs) => match vs with
      | [w] => match zipD xs, toPD w with
        | some ds, some d => match alikeP (d :: fstD ds) (d :: fstD ds) && depthsD (d :: fstD ds) && okLen xs with
          | true => match firstEq d (fstD ds) with
            | some j => k .non (setH h n (.lst (dropAt xs j)))
            | none => false
          | false => false
        | _, _ => false
      | _ => false
    | _ => false
  | _ => false
section
variable {G : Cn} {X : Cx} {ρ : Rho} {h : EH} {H : Hp} {L : Nat}
def rRemD (K : PySem.W.Frag) : V → List V → Hp → VK → Prop := fun x xs H Q => ∃ (a : Addr) (ts : List (PyData × V)) (y : V) (d : PyData) (j : Nat) (tj : PyData × V), x = .ref a ∧ xs = [y] ∧ H a = some (.lst (ts.map (·.2))) ∧ Dp K H y d ∧ (∀ t ∈ ts, Dp K H t.2 t.1) ∧ (∀ t ∈ ts, alike t.1 d = true) ∧
  (∀ t ∈ ts, ∀ u ∈ ts, alike t.1 u.1 = true) ∧ d.depth ≤ 100 ∧ ts[j]? = some tj ∧ PyData.eqv tj.1 d = true ∧ (∀ i t, i < j → ts[i]? = some t → PyData.eqv t.1 d = false) ∧ ts.length ≤ 16000000 ∧ Q .non (upd H a (.lst ((ts.map (·.2)).eraseIdx j)))
theorem mt_removeD (hc : X.calm = true) (hu : X.A.units + 150 < cLine) : MtR X "list.remove" (rRemD X.K) := by
  intro pins s σ H x xs v us Q I rx rxs hh
  obtain ⟨a, ts, y, d, j, tj, rfl, rfl, hH, hd, hdp, hal, haa, hdd, hj, hje, hjn, hlen, q⟩ := hh
  cases rx
  obtain ⟨u, rfl, ru⟩ := vals1 rxs
  obtain ⟨z, its, n, r, hl, e0⟩ := I.lstM hH
  obtain ⟨as, rd⟩ := Dp.reads I _ _ _ hd ru
  have hl : ts.length = its.length := by rw [← hl, List.length_map]
  have hjl := (List.getElem?_eq_some_iff.mp hj).1
  have at' : ∀ (i : Nat) (v : Value), its[i]? = some v → ∃ t bs, ts[i]? = some t ∧ t ∈ ts ∧ Reads s.heap v t.1 bs := by
    intro i v hv
    have hi := (List.getElem?_eq_some_iff.mp hv).1
    have hti : i < ts.length := by omega
    have et : ts[i]? = some ts[i] := List.getElem?_eq_getElem hti
    obtain ⟨u', hu', ru'⟩ := r.get (x := (ts[i]).2) (i := i) (by rw [List.getElem?_map, et]; rfl)
    rw [hv] at hu'
    cases hu'
    have tm : ts[i] ∈ ts := List.getElem_mem hti
    obtain ⟨cs, rd'⟩ := Dp.reads I _ _ _ (hdp _ tm) ru'
    exact ⟨_, cs, et, tm, rd'⟩

  let e : Value → Bool := fun v => @decide (∃ (t : PyData × V) (i : Nat), ts[i]? = some t ∧ its[i]? = some v ∧ PyData.eqv t.1 d = true) (Classical.propDecidable _)
  have ev : ∀ (i : Nat) (v : Value) (t : PyData × V), its[i]? = some v → ts[i]? = some t → e v = PyData.eqv t.1 d := by
    intro i v t hv ht
    cases eb : PyData.eqv t.1 d with
    | true => exact @decide_eq_true _ (Classical.propDecidable _) ⟨t, i, ht, hv, eb⟩
    | false =>
      refine @decide_eq_false _ (Classical.propDecidable _) ?_
      rintro ⟨t', i', ht', hv', eb'⟩
      obtain ⟨t1, b1, h1, m1, r1⟩ := at' i v hv
      obtain ⟨t2, b2, h2, m2, r2⟩ := at' i' v hv'
      rw [ht] at h1
      cases h1
      rw [ht'] at h2
      cases h2
      have := alike_unique _ _ _ _ _ (haa _ m2 _ m1) r2 r1
      rw [this, eb] at eb'
      cases eb'
  have hji : j < its.length := by omega
  have hsz : its.toArray.size ≤ sizeLine := by rw [List.size_toArray, ← hl, sizeLine_eq]; omega
  have ij : its[j]? = some its[j] := List.getElem?_eq_getElem hji
  refine call_meets PySem.F.slot_list_remove ⟨_, e0, rfl⟩ PySem.F.entry_list_remove (PySem.F.args_list_remove_2 _ _)
    (list_removeAt a its.toArray n none #[] u e j (by rw [List.size_toArray]; exact hji) ?hit (fun i hi2 hlt => ?hno) hsz) ⟨e0, fun v hv => ?he, ?fin⟩
  case hit =>
    show e its[j] = true
    rw [ev j _ tj ij hj]; exact hje
  case hno =>
    have hi3 : i < its.length := by rw [List.size_toArray] at hi2; exact hi2
    have hti : i < ts.length := by omega
    show e its[i] = false
    rw [ev i _ ts[i] (List.getElem?_eq_getElem hi3) (List.getElem?_eq_getElem hti)]
    exact hjn i _ hlt (List.getElem?_eq_getElem hti)
  case he =>
    have hv : v ∈ its := by simpa using hv
    obtain ⟨i, hi, rfl⟩ := List.mem_iff_getElem.mp hv
    have iv : its[i]? = some its[i] := List.getElem?_eq_getElem hi
    obtain ⟨t, bs, ht, tm, rv⟩ := at' i _ iv
    rw [ev i _ t iv ht]
    refine eqAt_alike t.1 d _ s _ _ bs as rv rd (hal t tm) ?_
    have := Nat.min_le_right t.1.depth d.depth
    show X.A.units + 1 + _ < cLine
    omega
  case fin =>
    refine ⟨.non, _, I.lset (its' := its.eraseIdx j) hH e0 ?_ (r.eraseIdx j) ?_, rfl, q⟩
    · show its.toArray.eraseIdxIfInBounds j = (its.eraseIdx j).toArray
      rw [List.eraseIdxIfInBounds_toArray]
    · have := List.length_eraseIdx_le (ts.map (·.2)) j
      rw [List.length_map] at this
      rw [sizeLine_eq]; omega
theorem mt_remove (g : Gd G X) : MtR X "list.remove" (rRemD G.K) := g.k ▸ mt_removeD g.c (by have := g.u; omega)
theorem s_remove : MtS G mRemove "list" (rRemD G.K) := by
  intro ρ h H v x vs xs k Q S rv rvs z af
  unfold mRemove at z
  split at z
  · rename_i n
    unfold RV at rv
    obtain ⟨hn, rfl⟩ := rv
    rw [getH_eq] at z
    split at z
    · rename_i l e1
      split at z
      · rename_i w
        obtain ⟨y, rfl, q⟩ := one rvs
        split at z
        · rename_i ds d e2 e3
          split at z
          · rename_i ok
            simp only [Bool.and_eq_true] at ok
            obtain ⟨⟨o1, o2⟩, o3⟩ := ok
            split at z
            · rename_i j e4
              obtain ⟨ys, e, rr⟩ := S.obj n _ e1
              obtain ⟨ts, i1, i2, i3⟩ := zipD_is e2 rr
              have ef : fstD ds = (ts.map fun t => (t.1, t.2.2)).map fun t => t.1 := by rw [fstD_eq, i1, List.map_map, List.map_map]; rfl
              have ey : ys = (ts.map fun t => (t.1, t.2.2)).map fun t => t.2 := by rw [i2, List.map_map]; rfl
              obtain ⟨⟨x0, f1, f2⟩, f3⟩ := firstEq_is e4
              rw [ef] at f1 f3 o1 o2
              rw [List.getElem?_map] at f1
              obtain ⟨tj, h1, h2⟩ := Option.map_eq_some_iff.mp f1
              have al : ∀ t ∈ (ts.map fun t => (t.1, t.2.2)), t.1 ∈ d :: (ts.map fun t => (t.1, t.2.2)).map fun t => t.1 := fun t ht => List.mem_cons_of_mem _ (List.mem_map.mpr ⟨t, ht, rfl⟩)
              have hl := okLen_is o3
              rw [rr.length, ey, List.length_map] at hl
              rw [dropAt_eq] at z
              have r1 : RVs G ρ h.length H (l.eraseIdx j) (ys.eraseIdx j) := rr.erase j
              have w1 : RO G ρ h.length (upd H (ρ n) (.lst (ys.eraseIdx j))) (.lst (l.eraseIdx j)) (ρ n) := ⟨_, upd_same, RVs.write S hn r1⟩
              refine ⟨ρ n, ts.map fun t => (t.1, t.2.2), y, d, j, tj, rfl, rfl, by rw [← ey]; exact e, dp_of _ _ _ e3 q, fun t ht => ?_, fun t ht => alikeP_is o1 _ (al t ht) _ List.mem_cons_self, fun t ht u hu => alikeP_is o1 _ (al t ht) _ (al u hu), depthsD_is o2 _ List.mem_cons_self, h1, by rw [h2]; exact f2,
                fun i t hi ht => f3 i _ hi (by rw [List.getElem?_map, ht]; rfl), by omega, ?_⟩
              · obtain ⟨u, hu, rfl⟩ := List.mem_map.mp ht
                exact (i3 u hu).2
              · rw [← ey]
                exact af _ _ ρ _ _ z (Post.write S hn w1) rv_non
            · cases z
          · cases z
        · cases z
      · cases z
    · cases z
  · cases z
end
end Eg

set_option autoImplicit false
set_option maxRecDepth 100000
set_option maxHeartbeats 2000000
/-! E42: tuples sorted by their first items, which are unlike texts. -/
namespace Eg
open PySem PySem.Spec L2 PySem.W PySem.Calls PyProof.Rows
/-- v is a tuple whose first item reads as d -/
def FirstD (h : Heap) (v : Value) (d : PyData) : Prop := ∃ (a : Addr) (o : Obj) (k : Value) (r : List Value) (its : Array Value) (n : Nat) (as : List Addr), v = .ref a ∧ h.get? a = some o ∧ o.cls = .type "tuple" ∧ o.data = .seq its n ∧ its.toList = k :: r ∧ Reads h k d as
theorem FirstD.keeps {h h' : Heap} {v : Value} {d : PyData} (k : ∀ b o, h.get? b = some o → h'.get? b = some o) (x : FirstD h v d) : FirstD h' v d := by
  obtain ⟨a, o, f, r, its, n, as, e1, h1, c1, d1, i1, r1⟩ := x
  exact ⟨a, o, f, r, its, n, as, e1, k _ _ h1, c1, d1, i1, PyProof.Rows.Reads.keeps k r1⟩
theorem FirstD.uniq {h : Heap} {v : Value} {d d' : PyData} (x : FirstD h v d) (y : FirstD h v d') (al : alike d d' = true) : d = d' := by
  obtain ⟨a, o, f, r, its, n, as, e1, h1, c1, d1, i1, r1⟩ := x
  obtain ⟨a', o', f', r', its', n', as', e2, h2, c2, d2, i2, r2⟩ := y
  rw [e1] at e2
  cases e2
  rw [h1] at h2
  cases h2
  rw [d1] at d2
  have z : its = its' := by injection d2
  subst z
  rw [i1] at i2
  cases i2
  exact alike_unique _ _ _ _ _ al r1 r2
section
variable {h : Heap} {bs : List (Value × PyData)}
theorem pairKind_some2 (uq : ∀ b ∈ bs, ∀ c ∈ bs, b.1 = c.1 → b.2 = c.2) {b : Value × PyData} (hb : b ∈ bs) : (pairKind bs).keyOf b.1 = some (keyToks b.2) := by
  have q : ∃ c, c ∈ bs ∧ c.1 = b.1 := ⟨b, hb, rfl⟩
  have e : (pairKind bs).keyOf b.1 = some (keyToks q.choose.2) := by
    show (open Classical in if q : ∃ c, c ∈ bs ∧ c.1 = b.1 then some (keyToks q.choose.2) else none) = _
    rw [dif_pos q]
  obtain ⟨h1, h2⟩ := q.choose_spec
  rw [e, uq _ h1 _ hb h2]
end
section
variable {prog : Program} {w : World} {A : Around} {s : Shared} {bs : List (Value × PyData)}
theorem katLex_same {b : Bool} {Q : Bool → Shared → Prop} : ∀ (r : List Value) (i : Nat), Q false s → KatLex prog w A b false Q (r.zip r) i s
  | [], i, q => kat_nil q
  | u :: r, i, q => by
    show KatLex prog w A b false Q ((u, u) :: r.zip r) i s
    refine kat_cons (SeqAt.EqAt.same u prog w _ _ ?_)
    exact kat_go (fun _ => kat_yes (katLex_same r (i + 1) q)) (fun z => nomatch z)
theorem firsts_tups {h : Heap} : ∀ bs : List (Value × PyData), (∀ b ∈ bs, FirstD h b.1 b.2) → ∃ fs : List Value, KatTups h (bs.map (·.1)) fs ∧ fs.length = bs.length ∧ ∀ f ∈ fs, ∃ b ∈ bs, ∃ as, Reads h f b.2 as
  | [], _ => ⟨[], KatTups.nil, rfl, fun f hf => nomatch hf⟩
  | b :: bs, x => by
    obtain ⟨fs, k, hl, hi⟩ := firsts_tups bs (fun u hu => x u (List.mem_cons_of_mem _ hu))
    obtain ⟨a, o, f, r, its, n, as, e, ho, hc, hdt, it, rd⟩ := x b List.mem_cons_self
    refine ⟨f :: fs, ?_, by rw [List.length_cons, List.length_cons, hl], fun g hg => ?_⟩
    · rw [List.map_cons, e]
      exact KatTups.cons ho hc hdt (by rw [← Array.getElem?_toList, it]; rfl) k
    · rcases List.mem_cons.mp hg with rfl | hg
      · exact ⟨b, List.mem_cons_self, as, rd⟩
      · obtain ⟨c, hc, q⟩ := hi g hg
        exact ⟨c, List.mem_cons_of_mem _ hc, q⟩
theorem sorts_firsts (hd : ∀ b ∈ bs, FirstD s.heap b.1 b.2) (hal : ∀ b ∈ bs, ∀ c ∈ bs, alike b.2 c.2 = true) (hne : ∀ b ∈ bs, ∀ c ∈ bs, PyData.eqv b.2 c.2 = true → b = c) (st : ∀ b ∈ bs, ∃ x, b.2 = .str x)
    (hu : ∀ b ∈ bs, A.units + 1 + b.2.depth < cLine) : SortsAt prog w A s (pairKind bs) (bs.map (·.1)) := by
  have uq : ∀ b ∈ bs, ∀ c ∈ bs, b.1 = c.1 → b.2 = c.2 := fun b hb c hc e => (hd b hb).uniq (e ▸ hd c hc) (hal b hb c hc)
  refine ⟨fun v hv => ?_, tuples' true, ?_, fun h2 E Q hq => ?_⟩
  · obtain ⟨b, hb, rfl⟩ := List.mem_map.mp hv
    exact ⟨_, pairKind_some2 uq hb⟩
  · intro E x y a b Q ha hb hq
    obtain ⟨p, hp, rfl, rfl⟩ := pairKind_inv ha
    obtain ⟨q, hq', rfl, rfl⟩ := pairKind_inv hb
    have hq2 : Q (PyProof.Rows.lexLt itemOrd (keyToks p.2) (keyToks q.2)) s := hq
    obtain ⟨a1, o1, k1, r1, its1, n1, as1, e1, h1, c1, d1, i1, rd1⟩ := hd p hp
    obtain ⟨a2, o2, k2, r2, its2, n2, as2, e2, h2, c2, d2, i2, rd2⟩ := hd q hq'
    have room : A.units + min p.2.depth q.2.depth < cLine := by
      have := hu p hp
      have := Nat.min_le_left p.2.depth q.2.depth
      omega
    have eq := eqAt_alike p.2 q.2 A s _ _ _ _ rd1 rd2 (hal p hp q hq') room
    rw [e1, e2]
    refine kat_lt h1 d1 h2 d2 ?_
    rw [i1, i2]
    show KatLex prog w A true _ Q ((k1, k2) :: r1.zip r2) 0 s
    refine kat_cons (eq prog w _ _ ?_)
    refine kat_go (fun e0 => ?_) (fun e0 => ?_)
    · have z := hne p hp q hq' e0
      subst z
      rw [e1] at e2
      cases e2
      rw [h1] at h2
      cases h2
      rw [d1] at d2
      have z : its1 = its2 := by injection d2
      subst z
      rw [i1] at i2
      cases i2
      rw [lex_irr] at hq2
      have ef : decide (its1.size < its1.size) = false := by simp
      rw [ef]
      exact kat_yes (katLex_same r1 1 hq2)
    · refine kat_no ?_
      show wpAny _ _ (oneLt' true _ _) _ _ _
      obtain ⟨x, ex⟩ := st p hp
      exact oneLt_alike (fun _ xs z => by rw [ex] at z; cases z) rd1 rd2 (hal p hp q hq') (by rw [ex]; exact fun z => nomatch z) room hq2
  · obtain ⟨fs, k, hl, hi⟩ := firsts_tups bs hd
    rw [List.length_map] at h2
    refine kat_kind (T := Value.type "str") k (by omega) (fun f hf => ?_) (beq_self_eq_true _) ?_
    · obtain ⟨b, hb, as, rd⟩ := hi f hf
      obtain ⟨x, ex⟩ := st b hb
      rw [ex] at rd
      exact looks_reads rd
    · have hb : (Value.type "str" != Value.type "tuple") = true := by first | rfl | decide | simp
      rw [hb]
      exact hq
end
/-- sorted(a list of tuples): their firsts are unlike texts -/
def rSortF (K : Frag) : List V → Hp → VK → Prop := fun vs H Q => ∃ (a : Addr) (ts : List (PyData × V)), vs = [.ref a] ∧ SqL K H a (ts.map (·.2)) ∧ (∀ t ∈ ts, ∃ (b : Addr) (x : Str) (ys : List V), t.2 = .ref b ∧ H b = some (.tup (.str x :: ys)) ∧ t.1 = .str x) ∧
  (∀ (i j : Nat) (t u : PyData × V), ts[i]? = some t → ts[j]? = some u → PyData.eqv t.1 u.1 = true → i = j) ∧ ∀ D, H D = none → Q (.ref D) (upd H D (.lst ((ts.mergeSort (dataLe false (·.1))).map (·.2))))
theorem alike_strs (x y : Str) : alike (.str x) (.str y) = true := by simp [alike]
theorem cr_sortF {X : Cx} (hc : X.calm = true) (hu : X.A.units + 150 < cLine) : CallR X (.builtin "sorted") (rSortF X.K) := by
  intro pins s σ H xs us Q I r h
  obtain ⟨a, ts, rfl, hs, hf, hne, q⟩ := h
  obtain rfl := Vals.ref1 r
  refine sorted_gen (PyProof.Rows.args_sorted1 _) (wpAny_mono (collect_its (x := V.ref a) (P := fun ys => ys = ts.map (·.2)) (I.ok.hd hc) I (show RelV (V.ref a) (Value.ref a) from rfl) (.inl ⟨a, _, rfl, .inl hs, rfl⟩)) (fun vs s1 ⟨hz, ys, h', tk, ey, rv, kp, e⟩ => ⟨hz, h', tk, e, ?_⟩) fun _ _ z => z)
  subst ey
  have I1 : Inv X pins σ H { s with heap := h', toks := tk } := I.kept kp
  have hD : H h'.objs.size = none := I1.hok.fresh (Nat.le_refl _)
  have at0 : (h'.push (PyProof.Rows.seqObj "list" vs.toArray 0)).get? h'.objs.size = some (PyProof.Rows.seqObj "list" vs.toArray 0) := Heap.get?_push_size _ rfl
  have I2 : Inv X pins σ (upd H h'.objs.size (.lst (ts.map (·.2)))) { s with heap := h'.push (PyProof.Rows.seqObj "list" vs.toArray 0), toks := tk } :=
    I1.laid (t' := tk) (fun b o e => Heap.get?_push_of_some _ e) (Nat.le_refl _) ⟨by rw [rv.length]; exact hz, vs, 0, rv, at0⟩
  have hlen : ts.length = vs.length := by have := rv.length; rw [List.length_map] at this; exact this
  -- the items with their data
  generalize hzs : ts.zip vs = zs
  have mz : ∀ zz ∈ zs, ∃ j : Nat, ts[j]? = some zz.1 ∧ vs[j]? = some zz.2 := by
    intro zz hzz
    rw [← hzs] at hzz
    obtain ⟨j, hj⟩ := List.mem_iff_getElem?.mp hzz
    exact ⟨j, List.getElem?_zip_eq_some.mp hj⟩
  have m1 : zs.map (·.1) = ts := by rw [← hzs]; exact List.map_fst_zip (by omega)
  have m2 : zs.map (·.2) = vs := by rw [← hzs]; exact List.map_snd_zip (by omega)
  have rel : ∀ zz ∈ zs, RelV zz.1.2 zz.2 := by
    intro zz hzz
    obtain ⟨j, j1, j2⟩ := mz zz hzz
    obtain ⟨u, hu, ru⟩ := rv.get (x := zz.1.2) (i := j) (by rw [List.getElem?_map, j1]; rfl)
    rw [j2] at hu
    cases hu
    exact ru
  have ne0 : ∀ b o, h'.get? b = some o → b ≠ h'.objs.size := fun b o e => Nat.ne_of_lt (Heap.lt_size e)
  generalize hh2 : h'.push (PyProof.Rows.seqObj "list" vs.toArray 0) = h2 at at0 I2 ⊢
  have ka : ∀ b o, h'.get? b = some o → h2.get? b = some o := fun b o e => by rw [← hh2]; exact Heap.get?_push_of_some _ e
  have kso : ∀ b o, h'.get? b = some o → (sortingHeap h2 h'.objs.size vs).get? b = some o := fun b o e => sortingHeap_old (ne0 b o e) (ka b o e)
  generalize hbs : zs.map (fun zz => (zz.2, zz.1.1)) = bs
  have hvs : bs.map (·.1) = vs := by rw [← hbs, List.map_map, ← m2]; rfl
  have mb : ∀ b ∈ bs, ∃ zz ∈ zs, b = (zz.2, zz.1.1) := fun b hb => by
    rw [← hbs] at hb
    obtain ⟨zz, h1, h2⟩ := List.mem_map.mp hb
    exact ⟨zz, h1, h2.symm⟩
  have mt : ∀ zz ∈ zs, zz.1 ∈ ts := fun zz hzz => by rw [← m1]; exact List.mem_map.mpr ⟨zz, hzz, rfl⟩
  have fd : ∀ b ∈ bs, FirstD h' b.1 b.2 := by
    intro b hb
    obtain ⟨zz, hzz, rfl⟩ := mb b hb
    obtain ⟨ad, x, ys, e1, e2, e3⟩ := hf _ (mt zz hzz)
    have ru := rel zz hzz
    rw [e1] at ru
    have eu : zz.2 = Value.ref ad := ru
    obtain ⟨_, its, rvs, o, ho, hcl, n, hdt⟩ := (show ObjOk X.prog X.w H h' ad (.tup (.str x :: ys)) from I1.hok ad _ e2)
    cases rvs with
    | @cons _ k _ r rk rr =>
      obtain ⟨t, rfl⟩ := (show ∃ t, k = Value.str x t from rk)
      refine ⟨ad, o, .str x t, r, _, n, [], eu, ho, hcl, hdt, by simp, ?_⟩
      show Reads h' (.str x t) zz.1.1 []
      rw [e3]
      exact Reads.str x t
  have st : ∀ b ∈ bs, ∃ x, b.2 = .str x := by
    intro b hb
    obtain ⟨zz, hzz, rfl⟩ := mb b hb
    obtain ⟨ad, x, ys, e1, e2, e3⟩ := hf _ (mt zz hzz)
    exact ⟨x, e3⟩
  have al : ∀ b ∈ bs, ∀ c ∈ bs, alike b.2 c.2 = true := by
    intro b hb c hc
    obtain ⟨x, ex⟩ := st b hb
    obtain ⟨y, ey⟩ := st c hc
    rw [ex, ey]
    exact alike_strs x y
  have sA : SortsAt X.prog X.w X.A.in1.in1 { s with heap := sortingHeap h2 h'.objs.size (bs.map (·.1)), toks := tk } (pairKind bs) (bs.map (·.1)) := by
    refine sorts_firsts (fun b hb => (fd b hb).keeps (by rw [hvs]; exact kso)) al (fun b hb c hc e => ?_) st fun b hb => ?_
    · obtain ⟨y, hy, rfl⟩ := mb b hb
      obtain ⟨y2, hy2, rfl⟩ := mb c hc
      obtain ⟨j, j1, j2⟩ := mz y hy
      obtain ⟨i, i1, i2⟩ := mz y2 hy2
      have eij := hne j i _ _ j1 i1 e
      subst eij
      rw [Option.some.inj (j2.symm.trans i2), Option.some.inj (j1.symm.trans i1)]
    · obtain ⟨x, ex⟩ := st b hb
      rw [ex]
      show X.A.units + 1 + 1 + 1 + PyData.depth (.str x) < cLine
      have : PyData.depth (.str x) ≤ 1 := by simp [PyData.depth]
      omega
  rw [← hvs] at at0
  refine wpAny_call_entry PyProof.Rows.slot_list_sort ⟨_, at0, rfl⟩ PyProof.Rows.entry_list_sort
    (list_sort_vals (s := { s with heap := h2, toks := tk }) (κ := pairKind bs) at0 sA (by rw [hvs]; exact hz) ⟨.none, rfl, ?_⟩) (PyProof.Rows.args_list_sort _)
  generalize hZ : zs.mergeSort (dataLe false fun zz => zz.1.1) = ZS
  have mZ : ∀ zz ∈ ZS, zz ∈ zs := fun zz h => by rw [← hZ] at h; exact List.mem_mergeSort.mp h
  have bS : bs.mergeSort (dataLe false fun b => b.2) = ZS.map fun zz => (zz.2, zz.1.1) := by
    rw [← hZ, ← hbs]
    exact (List.map_mergeSort (f := fun zz : (PyData × V) × Value => (zz.2, zz.1.1)) (r := dataLe false fun zz : (PyData × V) × Value => zz.1.1) (s := dataLe false fun b : Value × PyData => b.2) fun _ _ _ _ => rfl).symm
  have tS : ts.mergeSort (dataLe false fun t => t.1) = ZS.map fun zz => zz.1 := by
    rw [← hZ]
    conv => lhs; rw [← m1]
    exact (List.map_mergeSort (f := fun zz : (PyData × V) × Value => zz.1) (r := dataLe false fun zz : (PyData × V) × Value => zz.1.1) (s := dataLe false fun t : PyData × V => t.1) fun _ _ _ _ => rfl).symm
  have hout : sortVals (pairKind bs) false (bs.map (·.1)) (bs.map (·.1)) = ZS.map fun zz => zz.2 := by
    have uq : ∀ b ∈ bs, ∀ c ∈ bs, b.1 = c.1 → b.2 = c.2 := fun b hb c hc e => (fd b hb).uniq (e ▸ fd c hc) (al b hb c hc)
    have e1 := sortVals_each (κ := pairKind bs) (rev := false) (fun b => keyToks b.2) (each_fst bs) (each_keyd bs fun b hb => pairKind_some2 uq hb)
    have e2 := each_out e1
    rw [e2]
    have e3 : bs.mergeSort (sortLe (pairKind bs).toKeyOrd false fun b => keyToks b.2) = ZS.map fun zz => (zz.2, zz.1.1) := bS
    rw [e3, List.map_map]
    rfl
  rw [hout]
  have vZ : Vals ((ZS.map fun zz => zz.1).map (·.2)) (ZS.map fun zz => zz.2) := by
    rw [List.map_map]
    exact paired_maps _ _ ZS fun zz hzz => rel zz (mZ zz hzz)
  rw [← tS] at vZ
  obtain ⟨c, atD⟩ := PyProof.Rows.sortedHeap_at (h := h2) (out := (ZS.map fun zz => zz.2).toArray) at0
  refine ⟨.ref h'.objs.size, _, relist I2 (fun b o hb e => ?_) atD vZ (by rw [List.length_map, List.length_mergeSort, hlen]; exact hz), rfl, q _ hD⟩
  exact (PyProof.Rows.sortedHeap_old hb (Heap.lt_size e)).trans e
end Eg

set_option autoImplicit false
set_option maxRecDepth 100000
set_option maxHeartbeats 1000000
/-! E43: sorted of tuples with unlike firsts, coded; isinstance of an own class. -/
namespace Eg
open PySem PySem.Spec L2
def firstE : List EV → Option (List (PyData × EV))
  | [] => some []
  | v :: xs => match v with
    | .tup (.str x :: r) => match firstE xs with
      | some l => some ((.str ⟨x.toArray⟩, .tup (.str x :: r)) :: l)
      | none => none
    | _ => none
def outOf (x : PyData) : List PyData → Bool
  | [] => true
  | y :: ys => !(PyData.eqv x y) && !(PyData.eqv y x) && outOf x ys
def unlikeF : List PyData → Bool
  | [] => true
  | x :: xs => outOf x xs && unlikeF xs
theorem outOf_is {x : PyData} : ∀ {ys : List PyData}, outOf x ys = true → ∀ y ∈ ys, PyData.eqv x y = false ∧ PyData.eqv y x = false
  | z :: ys, h, y, hy => by
    simp only [outOf, Bool.and_eq_true, Bool.not_eq_true'] at h
    rcases List.mem_cons.mp hy with rfl | hy
    · exact h.1
    · exact outOf_is h.2 y hy
theorem unlikeF_is : ∀ {ds : List PyData}, unlikeF ds = true → ∀ (i j : Nat) (x y : PyData), ds[i]? = some x → ds[j]? = some y → PyData.eqv x y = true → i = j
  | [], h, i, j, x, y, hi, hj, e => by simp at hi
  | z :: ds, h, i, j, x, y, hi, hj, e => by
    simp only [unlikeF, Bool.and_eq_true] at h
    cases i with
    | zero =>
      cases j with
      | zero => rfl
      | succ j =>
        simp only [List.getElem?_cons_zero, Option.some.injEq, List.getElem?_cons_succ] at hi hj
        subst hi
        have := (outOf_is h.1 y (List.mem_of_getElem? hj)).1
        rw [this] at e; cases e
    | succ i =>
      cases j with
      | zero =>
        simp only [List.getElem?_cons_zero, Option.some.injEq, List.getElem?_cons_succ] at hi hj
        subst hj
        have := (outOf_is h.1 x (List.mem_of_getElem? hi)).2
        rw [this] at e; cases e
      | succ j =>
        simp only [List.getElem?_cons_succ] at hi hj
        rw [unlikeF_is h.2 i j x y hi hj e]
def bSortF (own : Bool) : List EV → EH → (EV → EH → Bool) → Bool := fun vs h k => match vs with
  | [v] => match listE h v with
    | some xs => match firstE xs with
      | some ds => match unlikeF (fstD ds) with
        | true => match own with
          | true => newH h (.lst (mapD (·.2) (sortD ds))) k
          | false => k (.lst (mapD (·.2) (sortD ds))) h
        | false => false
      | none => false
    | none => false
  | _ => false
section
variable {G : Cn} {X : Cx} {ρ : Rho} {h : EH} {H : Hp} {L : Nat}
theorem firstE_is : ∀ {xs : List EV} {ds : List (PyData × EV)} {ys : List V}, firstE xs = some ds → RVs G ρ L H xs ys → ∃ ts : List (PyData × EV × V), ds = ts.map (fun t => (t.1, t.2.1)) ∧ ys = ts.map (fun t => t.2.2) ∧
    ∀ t ∈ ts, RV G ρ L H t.2.1 t.2.2 ∧ ∃ (b : Addr) (x : Str) (zs : List V), t.2.2 = .ref b ∧ H b = some (.tup (.str x :: zs)) ∧ t.1 = .str x
  | [], ds, ys, e, r => by
    simp only [firstE, Option.some.injEq] at e
    subst e
    unfold RVs at r
    subst r
    exact ⟨[], rfl, rfl, fun t ht => nomatch ht⟩
  | v :: xs, ds, ys, e, r => by
    unfold RVs at r
    obtain ⟨z, zs, rfl, r1, r2⟩ := r
    simp only [firstE] at e
    split at e
    · rename_i x rr
      split at e
      · rename_i l e2
        cases e
        obtain ⟨ts, h1, h2, h3⟩ := firstE_is e2 r2
        refine ⟨(.str ⟨x.toArray⟩, .tup (.str x :: rr), z) :: ts, by rw [h1]; rfl, by rw [h2]; rfl, fun t ht => ?_⟩
        rcases List.mem_cons.mp ht with rfl | ht
        · refine ⟨r1, ?_⟩
          unfold RV at r1
          obtain ⟨a, ys, rfl, q, q2⟩ := r1
          unfold RVs at q2
          obtain ⟨z0, zs0, rfl, q3, q4⟩ := q2
          unfold RV at q3
          subst q3
          exact ⟨a, _, zs0, rfl, q, rfl⟩
        · exact h3 t ht
      · cases e
    · cases e
theorem c_sortF (g : Gd G X) : CallR X (.builtin "sorted") (rSortF G.K) := g.k ▸ cr_sortF g.c (by have := g.u; omega)
theorem b_sortF (own : Bool) : CallS G (bSortF own) (rSortF G.K) := by
  intro ρ h H vs xs k Q S r z af
  unfold bSortF at z
  split at z
  · rename_i v
    obtain ⟨x, rfl, rx⟩ := one r
    split at z
    · rename_i ls e1
      obtain ⟨a, ys, rfl, sq, rr⟩ := listE_is S rx e1
      split at z
      · rename_i ds e2
        obtain ⟨ts, i1, i2, i3⟩ := firstE_is e2 rr
        split at z
        · rename_i e3
          have ey : ys = (ts.map fun t => (t.1, t.2.2)).map fun t => t.2 := by rw [i2, List.map_map]; rfl
          have ef : fstD ds = (ts.map fun t => (t.1, t.2.2)).map fun t => t.1 := by rw [fstD_eq, i1, List.map_map, List.map_map]; rfl
          have s1 := W.sort_maps (r := W.dataLe false (fun t : PyData × EV × V => t.1)) (s := leD) (fun t : PyData × EV × V => (t.1, t.2.1)) (l := ts) (fun _ _ _ _ => rfl)
          have s2 := W.sort_maps (r := W.dataLe false (fun t : PyData × EV × V => t.1)) (s := W.dataLe false (fun b : PyData × V => b.1)) (fun t : PyData × EV × V => (t.1, t.2.2)) (l := ts) (fun _ _ _ _ => rfl)
          have r2 : RVs G ρ h.length H (mapD (·.2) (sortD ds)) (((ts.map fun t => (t.1, t.2.2)).mergeSort (W.dataLe false (·.1))).map (·.2)) := by
            rw [mapD_eq, sortD_eq, i1, ← s1, ← s2, List.map_map, List.map_map]
            exact rvs_of fun t hm => (i3 t ((List.mergeSort_perm ts _).mem_iff.mp hm)).1
          refine ⟨a, ts.map fun t => (t.1, t.2.2), rfl, by rw [← ey]; exact sq, fun t ht => ?_, fun i j t u ht hu e => ?_, fun D hD => ?_⟩
          · obtain ⟨t', ht', rfl⟩ := List.mem_map.mp ht
            exact (i3 t' ht').2
          · rw [ef] at e3
            exact unlikeF_is e3 i j _ _ (by rw [List.getElem?_map, ht]; rfl) (by rw [List.getElem?_map, hu]; rfl) e
          · cases own with
            | true => exact af _ _ _ _ _ z (new_lst S hD r2) rv_new'
            | false => exact af _ h ρ _ _ z (Post.temp S hD) (rv_lst S hD r2)
        · cases z
      · cases z
    · cases z
  · cases z
end

/-! ### isinstance(x, C), C an own class -/
structure IsiF (K : PySem.W.Frag) (C : Addr) : Prop where
  ha : PySem.W.findIn K (.ref C) "__class__" = some (some (.builtin "object.__class__"))
  hn : PySem.W.specialIn K (.builtin "object.__class__") "__get__" = some (some (.builtin "getset_descriptor.__get__"))
  ht : PySem.W.takesIn K (.builtin "object.__class__") = some true
  hm : PySem.W.mroIn K C (.type "object") = some true
  kit : PySem.W.kitOne K (.ref C) (.ref C) = some true
def kIsiO (c : Nat) (f : KE) : KE := fun s h k => f s h fun v h => match v with
  | .ref n => match getH h n with
    | some (.ins c2 _) => match Nat.beq c2 c with
      | true => k (.bl true) h
      | false => false
    | _ => false
  | _ => false
section
variable {G : Cn} {X : Cx} {ρ : Rho} {h : EH} {H : Hp} {L : Nat}
variable {a : Expr} {f : KE} {p1 p2 pos : Pos}
theorem x_isiO (c : Nat) {T x : Str} (g : Gk G X) (F : IsiF G.K (G.cls c)) (hg : Gl X x) (hm : X.mg x = none) (hgT : Gl X T) (hmT : X.mg T = some (.ref (G.cls c))) (ha : XE G X a f) (hx : x = "isinstance" := by rfl)
    (hdb : (T == ("__debug__" : Str)) = false := by decide)
    (hs : starEach [a, .Name T p2] X.env = (false, eval a X.env) :: starEach [.Name T p2] X.env := by rfl) :
    XE G X (.Call (.Name x p1) [a, .Name T p2] [] pos) (kIsiO c f) := by
  subst hx
  refine PE.imp (pe_callB call_isi hg hm (by decide +kernel) (pa_cons ha (pa_cons (pe_glob (v := .ref (G.cls c)) hgT hmT rfl hdb) pa_nil) hs) (by decide) (by decide) hs (by rfl)) fun σ H Q ⟨ρ, s, h, k, S, R, z, af⟩ => ⟨ρ, s, h, _, S, R, z, fun v h1 ρ1 H1 x z1 q1 r1 => ?_⟩
  split at z1
  · rename_i n
    unfold RV at r1
    obtain ⟨hn, rfl⟩ := r1
    rw [getH_eq] at z1
    split at z1
    · rename_i c2 fs e1
      split at z1
      · rename_i ec
        have ec := Nat.eq_of_beq_eq_true ec
        subst ec
        obtain ⟨dx, ys, e3, hc, rf⟩ := q1.sim.obj n _ e1
        refine ⟨_, .ref (G.cls c2), .ref (G.cls c2), .ref (G.cls c2), true, rfl, .own _, .base (.ins e3 (g.k ▸ g.cl c2 hc) (g.k ▸ F.ha) (g.k ▸ F.hn) (g.k ▸ F.ht) (g.k ▸ F.hm)), g.k ▸ F.kit, (af.next q1).here q1.sim z1 (by unfold RV; rfl)⟩
      · cases z1
    · cases z1
  · cases z1
end
end Eg

set_option autoImplicit false
set_option maxRecDepth 100000
set_option maxHeartbeats 1000000
/-! E44: a list times a number. -/
namespace Eg
open PySem PySem.Spec L2
def repL : Nat → List EV → List EV
  | 0, _ => []
  | n + 1, xs => appE xs (repL n xs)
def pMulL : EV → EV → EH → (EV → EH → Bool) → Bool := fun v w h k => match items h v with
  | some xs => match w with
    | .int (.ofNat n) => match Nat.ble n 1000 && Nat.ble (lenE xs) 1000 with
      | true => k (.lst (repL n xs)) h
      | false => false
    | _ => false
  | none => pMulA v w h k
def rMulL : R2 := fun x y H Q => rMulA x y H Q ∨ rRep x y H Q
section
variable {G : Cn} {X : Cx} {ρ : Rho} {h : EH} {H : Hp} {L : Nat}
theorem o_mulL : OpR X (binaryOp .Mult) rMulL := OpR.or o_mulA op_rep
theorem repL_is {xs : List EV} {ys : List V} (r : RVs G ρ L H xs ys) : ∀ n : Nat, RVs G ρ L H (repL n xs) (List.replicate n ys).flatten
  | 0 => RVs.nil
  | n + 1 => by
    rw [repL, appE_eq, List.replicate_succ, List.flatten_cons]
    exact r.append (repL_is r n)
theorem s_mulL : OpS G pMulL rMulL := by
  intro ρ h H v w x y k Q S rv rw' z af
  unfold pMulL at z
  split at z
  · rename_i xs e1
    obtain ⟨a, ys, rfl, e2, rr⟩ := items_is S rv e1
    split at z
    · rename_i n
      unfold RV at rw'
      subst rw'
      split at z
      · rename_i ok
        simp only [Bool.and_eq_true, Nat.ble_eq, lenE_eq] at ok
        rw [rr.length] at ok
        have en : (Int.ofNat n).toNat = n := rfl
        refine .inr ⟨a, Int.ofNat n, ys, rfl, rfl, e2, ?_, ?_, ?_, fun p hp => ?_⟩
        · have : (0 : Int) ≤ Int.ofNat n := Int.natCast_nonneg n
          omega
        · have : Int.ofNat n = (n : Int) := rfl
          rw [this]; omega
        · rw [en, sizeLine_eq]
          have := Nat.mul_le_mul ok.2 ok.1
          omega
        · rw [en]
          exact af _ h ρ _ _ z (Post.temp S hp) (rv_lst S hp (repL_is rr n))
      · cases z
    · cases z
  · exact .inl (s_mulA ρ h H v w x y k Q S rv rw' z af)
end
end Eg

set_option autoImplicit false
set_option maxRecDepth 100000
set_option maxHeartbeats 1000000
/-! E45: repr of None. -/
namespace Eg
open PySem PySem.Spec L2
def bReprN : List EV → EH → (EV → EH → Bool) → Bool := fun vs h k => match vs with
  | [.non] => k (.rp .non) h
  | vs => bRepr vs h k
def rReprN (K : PySem.W.Frag) : List V → Hp → VK → Prop := fun xs H Q => rRepr K xs H Q ∨ (xs = [.non] ∧ Q (.str PyData.none.shown) H)
section
variable {G : Cn} {X : Cx} {ρ : Rho} {h : EH} {H : Hp} {L : Nat}
theorem c_reprN (g : Gd G X) : CallR X (.builtin "repr") (rReprN G.K) := by
  intro pins s σ H xs us Q I r h
  rcases h with h | ⟨rfl, q⟩
  · exact c_repr g pins s σ H xs us Q I r h
  · obtain ⟨u, rfl, ru⟩ := r.one
    cases (show u = Value.none from ru)
    exact PySem.P.repr_of_none ⟨.str PyData.none.shown, H, I.tok _, ⟨_, by rfl⟩, q⟩
theorem b_reprN : CallS G bReprN (rReprN G.K) := by
  intro ρ h H vs xs k Q S r z af
  unfold bReprN at z
  split at z
  · obtain ⟨x, rfl, rx⟩ := one r
    unfold RV at rx
    subst rx
    exact .inr ⟨rfl, af _ h ρ H _ z (Post.refl S) (by unfold RV; exact ⟨_, rfl, rfl⟩)⟩
  · exact .inl (b_repr ρ h H _ _ k Q S r z af)
end
end Eg

set_option autoImplicit false
/-! E46: the rest of a body, behind a name that is not looked through. -/
namespace Eg
open PySem PySem.Spec L2
section
variable {G : Cn} {X : Cx} {ss : List Stmt} {f f' : KS}
theorem ss_mark (d : XSs G X ss f') (e : f = f') : XSs G X ss f := by rw [e]; exact d
end
end Eg

set_option autoImplicit false
set_option maxRecDepth 100000
set_option maxHeartbeats 1000000
/-! E47: str of a small number, of a text. -/
namespace Eg
open PySem PySem.Spec L2
def digs (n : Nat) : List Nat := match Nat.blt n 10 with
  | true => [48 + n]
  | false => match Nat.blt n 100 with
    | true => [48 + n / 10, 48 + n % 10]
    | false => [48 + n / 100, 48 + n / 10 % 10, 48 + n % 10]
theorem digs_is : ∀ n, n < 1000 → (Str.ofString (toString (Int.ofNat n)) == (⟨(digs n).toArray⟩ : Str)) = true := by decide +kernel
theorem bt_str : bootBuiltins "str" = some (.type "str") := by decide +kernel
def bStr : List EV → EH → (EV → EH → Bool) → Bool := fun vs h k => match vs with
  | [.int (.ofNat n)] => match Nat.blt n 1000 with
    | true => k (.str (digs n)) h
    | false => false
  | [.str x] => k (.str x) h
  | _ => false
def rStr : List V → Hp → VK → Prop := fun xs H Q => (∃ i : Int, xs = [.int i] ∧ i.natAbs.log2 < 1920 ∧ Q (.str (toString i)) H) ∨ ∃ a, xs = [.str a] ∧ Q (.str a) H
section
variable {G : Cn} {X : Cx} {ρ : Rho} {h : EH} {H : Hp} {L : Nat}
theorem c_str : CallR X (.type "str") rStr := by
  intro pins s σ H xs us Q I r h
  rcases h with h | h
  · exact call_str_int pins s σ H xs us Q I r h
  · exact SkE.call_str_str pins s σ H xs us Q I r h
theorem b_str : CallS G bStr rStr := by
  intro ρ h H vs xs k Q S r z af
  unfold bStr at z
  split at z
  · rename_i n
    obtain ⟨x, rfl, rx⟩ := one r
    unfold RV at rx
    subst rx
    split at z
    · rename_i e
      rw [Nat.blt_eq] at e
      refine .inl ⟨Int.ofNat n, rfl, ?_, af _ h ρ H _ z (Post.refl S) ?_⟩
      · have : (Int.ofNat n).natAbs = n := rfl
        rw [this]
        have h2 := Nat.log2_self_le (n := n)
        by_cases h0 : n = 0
        · subst h0; decide
        · have := h2 h0
          by_cases h3 : n.log2 < 1920
          · exact h3
          · exfalso
            have : 2 ^ 10 ≤ 2 ^ n.log2 := Nat.pow_le_pow_right (by decide) (by omega)
            omega
      · unfold RV
        exact congrArg V.str (eq_of_beq (digs_is n e))
    · cases z
  · obtain ⟨x, rfl, rx⟩ := one r
    unfold RV at rx
    subst rx
    exact .inr ⟨_, rfl, af _ h ρ H _ z (Post.refl S) (by unfold RV; rfl)⟩
  · cases z
end
end Eg

set_option autoImplicit false
set_option maxRecDepth 100000
set_option maxHeartbeats 1000000
/-! E50: dicts read with keys of any data: d[k], k in d, d.get; dicts of any keys written. -/
namespace Eg
open PySem PySem.Spec L2
mutual
/-- data that may be a key, n levels of tuples deep -/
def nkOk : Nat → EV → Bool
  | _, .non => true
  | _, .int _ => true
  | _, .str _ => true
  | n, .tup xs => match n with
    | 0 => false
    | n + 1 => nkOks n xs
  | n, .kt xs => match n with
    | 0 => false
    | n + 1 => nkOks n xs
  | _, _ => false
def nkOks : Nat → List EV → Bool
  | _, [] => true
  | n, x :: xs => match nkOk n x with
    | true => nkOks n xs
    | false => false
end
mutual
def kEqv : EV → EV → Bool
  | .non, w => match w with
    | .non => true
    | _ => false
  | .int i, w => match w with
    | .int j => intEq i j
    | _ => false
  | .str a, w => match w with
    | .str b => natsEq a b
    | _ => false
  | .tup a, w => match w with
    | .tup b => kEqvs a b
    | .kt b => kEqvs a b
    | _ => false
  | .kt a, w => match w with
    | .tup b => kEqvs a b
    | .kt b => kEqvs a b
    | _ => false
  | _, _ => false
def kEqvs : List EV → List EV → Bool
  | [], w => match w with
    | [] => true
    | _ :: _ => false
  | x :: xs, w => match w with
    | [] => false
    | y :: ys => match kEqv x y with
      | true => kEqvs xs ys
      | false => false
end
def findM : List EV → List EV → EV → Option EV
  | k :: ks, vs, w => match vs with
    | v :: vs => match kEqv k w with
      | true => some v
      | false => findM ks vs w
    | [] => none
  | [], _, _ => none
mutual
theorem nkOk_is : ∀ (n : Nat) (v : EV), nkOk n v = true → ∃ k, nkey v = some k ∧ k.depth ≤ n
  | n, .non, e => ⟨.none, by simp [nkey], Nat.zero_le _⟩
  | n, .int i, e => ⟨.num i, by simp [nkey], Nat.zero_le _⟩
  | n, .str x, e => ⟨.text ⟨x.toArray⟩, by simp only [nkey], Nat.zero_le _⟩
  | 0, .tup xs, e => by simp [nkOk] at e
  | n + 1, .tup xs, e => by
    simp only [nkOk] at e
    obtain ⟨ks, e1, e2⟩ := nkOks_is n xs e
    exact ⟨.tup ks, by simp [nkey, e1], by show NestedKey.depthAll ks + 1 ≤ n + 1; omega⟩
  | 0, .kt xs, e => by simp [nkOk] at e
  | n + 1, .kt xs, e => by
    simp only [nkOk] at e
    obtain ⟨ks, e1, e2⟩ := nkOks_is n xs e
    exact ⟨.tup ks, by simp [nkey, e1], by show NestedKey.depthAll ks + 1 ≤ n + 1; omega⟩
  | n, .bl _, e => by simp [nkOk] at e
  | n, .lst _, e => by simp [nkOk] at e
  | n, .dct _ _ _, e => by simp [nkOk] at e
  | n, .rp _, e => by simp [nkOk] at e
  | n, .ref _, e => by simp [nkOk] at e
  | n, .scr, e => by simp [nkOk] at e
  | n, .tx _, e => by simp [nkOk] at e
  | n, .clo _ _, e => by simp [nkOk] at e
  | n, .exc _ _, e => by simp [nkOk] at e
theorem nkOks_is : ∀ (n : Nat) (vs : List EV), nkOks n vs = true → ∃ ks, nkeys vs = some ks ∧ NestedKey.depthAll ks ≤ n
  | n, [], e => ⟨[], by simp [nkeys], Nat.zero_le _⟩
  | n, v :: vs, e => by
    simp only [nkOks] at e
    split at e
    · rename_i e1
      obtain ⟨k, h1, h2⟩ := nkOk_is n v e1
      obtain ⟨ks, h3, h4⟩ := nkOks_is n vs e
      exact ⟨k :: ks, by simp [nkeys, h1, h3], by show max k.depth (NestedKey.depthAll ks) ≤ n; omega⟩
    · cases e
end
theorem nkeys_cons {v : EV} {vs : List EV} {ks : List NK} (h : nkeys (v :: vs) = some ks) : ∃ k l, ks = k :: l ∧ nkey v = some k ∧ nkeys vs = some l := by
  simp only [nkeys] at h
  split at h
  · rename_i d ds e1 e2
    cases h
    exact ⟨d, ds, rfl, e1, e2⟩
  · cases h
theorem dec_none {k : NK} {b : Bool} (h : b = decide (NestedKey.none = k)) : b = decide (NestedKey.none = k) := h
mutual
theorem kEqv_is : ∀ (v w : EV) (a b : NK), nkey v = some a → nkey w = some b → kEqv v w = decide (a = b)
  | .non, w, a, b, h1, h2 => by
    simp only [nkey, Option.some.injEq] at h1; subst h1
    cases w <;> simp only [nkey, Option.some.injEq, Option.map_eq_some_iff, reduceCtorEq] at h2 <;> first | (subst h2; simp [kEqv]) | (obtain ⟨ks, _, rfl⟩ := h2; simp [kEqv])
  | .int i, w, a, b, h1, h2 => by
    simp only [nkey, Option.some.injEq] at h1; subst h1
    cases w <;> simp only [nkey, Option.some.injEq, Option.map_eq_some_iff, reduceCtorEq] at h2 <;> first | (subst h2; simp [kEqv, intEq_dec]) | (obtain ⟨ks, _, rfl⟩ := h2; simp [kEqv])
  | .str x, w, a, b, h1, h2 => by
    simp only [nkey, Option.some.injEq] at h1; subst h1
    cases w <;> simp only [nkey, Option.some.injEq, Option.map_eq_some_iff, reduceCtorEq] at h2 <;> first | (subst h2; simp [kEqv, natsEq_dec]) | (obtain ⟨ks, _, rfl⟩ := h2; simp [kEqv])
  | .tup xs, w, a, b, h1, h2 => by
    simp only [nkey, Option.map_eq_some_iff] at h1
    obtain ⟨ks, h1, rfl⟩ := h1
    cases w <;> simp only [nkey, Option.some.injEq, Option.map_eq_some_iff, reduceCtorEq] at h2 <;> first | (subst h2; simp [kEqv]; done) | (obtain ⟨ls, h2, rfl⟩ := h2; simp only [kEqv, kEqvs_is xs _ ks ls h1 h2, NestedKey.tup.injEq])
  | .kt xs, w, a, b, h1, h2 => by
    simp only [nkey, Option.map_eq_some_iff] at h1
    obtain ⟨ks, h1, rfl⟩ := h1
    cases w <;> simp only [nkey, Option.some.injEq, Option.map_eq_some_iff, reduceCtorEq] at h2 <;> first | (subst h2; simp [kEqv]; done) | (obtain ⟨ls, h2, rfl⟩ := h2; simp only [kEqv, kEqvs_is xs _ ks ls h1 h2, NestedKey.tup.injEq])
  | .bl _, w, a, b, h1, h2 => by simp [nkey] at h1
  | .lst _, w, a, b, h1, h2 => by simp [nkey] at h1
  | .dct _ _ _, w, a, b, h1, h2 => by simp [nkey] at h1
  | .rp _, w, a, b, h1, h2 => by simp [nkey] at h1
  | .ref _, w, a, b, h1, h2 => by simp [nkey] at h1
  | .scr, w, a, b, h1, h2 => by simp [nkey] at h1
  | .tx _, w, a, b, h1, h2 => by simp [nkey] at h1
  | .clo _ _, w, a, b, h1, h2 => by simp [nkey] at h1
  | .exc _ _, w, a, b, h1, h2 => by simp [nkey] at h1
theorem kEqvs_is : ∀ (vs ws : List EV) (a b : List NK), nkeys vs = some a → nkeys ws = some b → kEqvs vs ws = decide (a = b)
  | [], [], a, b, h1, h2 => by simp only [nkeys, Option.some.injEq] at h1 h2; subst h1 h2; simp [kEqvs]
  | [], w :: ws, a, b, h1, h2 => by
    simp only [nkeys, Option.some.injEq] at h1; subst h1
    obtain ⟨k, l, rfl, _, _⟩ := nkeys_cons h2
    simp [kEqvs]
  | v :: vs, [], a, b, h1, h2 => by
    simp only [nkeys, Option.some.injEq] at h2; subst h2
    obtain ⟨k, l, rfl, _, _⟩ := nkeys_cons h1
    simp [kEqvs]
  | v :: vs, w :: ws, a, b, h1, h2 => by
    obtain ⟨k, l, rfl, e1, e2⟩ := nkeys_cons h1
    obtain ⟨k', l', rfl, e3, e4⟩ := nkeys_cons h2
    simp only [kEqvs, kEqv_is v w k k' e1 e3, kEqvs_is vs ws l l' e2 e4, List.cons.injEq]
    by_cases q : k = k' <;> simp [q]
end
section
variable {G : Cn} {X : Cx} {ρ : Rho} {h : EH} {H : Hp} {L : Nat}
theorem find_is : ∀ {ks vs : List EV} {nks : List NK} {ys : List V} {w : EV} {k : NK}, nkeys ks = some nks → RVs G ρ L H vs ys → nkey w = some k →
    (∀ r, findM ks vs w = some r → ∃ y, pGet (nks.zip ys) k = some y ∧ RV G ρ L H r y) ∧ (findM ks vs w = none → pGet (nks.zip ys) k = none)
  | [], vs, nks, ys, w, k, h1, h2, h3 => by
    simp only [nkeys, Option.some.injEq] at h1
    subst h1
    exact ⟨fun r h => by simp [findM] at h, fun _ => by simp [pGet]⟩
  | x :: ks, [], nks, ys, w, k, h1, h2, h3 => by
    unfold RVs at h2
    subst h2
    exact ⟨fun r h => by simp [findM] at h, fun _ => by simp [pGet]⟩
  | x :: ks, v :: vs, nks, ys, w, k, h1, h2, h3 => by
    obtain ⟨a, l, rfl, e1, e2⟩ := nkeys_cons h1
    unfold RVs at h2
    obtain ⟨z, zs, rfl, r1, r2⟩ := h2
    obtain ⟨i1, i2⟩ := find_is e2 r2 h3
    have q := kEqv_is x w a k e1 h3
    by_cases hk : a = k
    · rw [decide_eq_true hk] at q
      exact ⟨fun r h => by simp only [findM, q, Option.some.injEq] at h; subst h; exact ⟨z, by simp [pGet, hk], r1⟩, fun h => by simp [findM, q] at h⟩
    · rw [decide_eq_false hk] at q
      have e : pGet ((a :: l).zip (z :: zs)) k = pGet (l.zip zs) k := by simp [pGet, List.find?_cons, hk]
      rw [e]
      simp only [findM, q]
      exact ⟨i1, i2⟩
theorem nkey_kOf {v : EV} {k : Key} (h : kOf v = some k) : nkey v = some (kN k) := by
  cases v <;> simp only [kOf, Option.some.injEq, reduceCtorEq] at h <;> (subst h; simp [nkey, kN])
theorem nkeys_kOf : ∀ {vs : List EV} {kk : List Key}, ofs kOf vs = some kk → nkeys vs = some (kk.map kN)
  | [], kk, h => by simp only [ofs, Option.some.injEq] at h; subst h; simp [nkeys]
  | v :: vs, kk, h => by
    obtain ⟨k, l, rfl, e1, e2⟩ := ofs_cons h
    simp [nkeys, nkey_kOf e1, nkeys_kOf e2]
theorem nkey_tOf {v : EV} {k : List Key} (h : tOf v = some k) : nkey v = some (.tup (k.map kN)) := by
  cases v <;> simp only [tOf, reduceCtorEq] at h
  simp [nkey, nkeys_kOf h]
theorem nkeys_tOf : ∀ {vs : List EV} {kk : List (List Key)}, ofs tOf vs = some kk → nkeys vs = some (kk.map fun k => .tup (k.map kN))
  | [], kk, h => by simp only [ofs, Option.some.injEq] at h; subst h; simp [nkeys]
  | v :: vs, kk, h => by
    obtain ⟨k, l, rfl, e1, e2⟩ := ofs_cons h
    simp [nkeys, nkey_tOf e1, nkeys_tOf e2]
theorem nkeys_len : ∀ {vs : List EV} {kk : List NK}, nkeys vs = some kk → vs.length = kk.length
  | [], kk, h => by simp only [nkeys, Option.some.injEq] at h; subst h; rfl
  | v :: vs, kk, h => by
    obtain ⟨k, l, rfl, e1, e2⟩ := nkeys_cons h
    simp [nkeys_len e2]
/-- the dict that a value is, of whichever kind -/
def dictU (h : EH) : EV → Option (List EV × List EV)
  | .dct _ ks vs => some (ks, vs)
  | .ref n => match getH h n with
    | some (.dic _ ks vs) => some (ks, vs)
    | some (.fdic _ ks vs) => some (ks, vs)
    | some (.mix _ ks vs) => some (ks, vs)
    | _ => none
  | _ => none
theorem zip_map_l {α β γ : Type} (f : α → γ) : ∀ (as : List α) (bs : List β), (as.map f).zip bs = (as.zip bs).map fun p => (f p.1, p.2)
  | [], bs => by simp
  | a :: as, [] => by simp
  | a :: as, b :: bs => by simp [zip_map_l f as bs]
theorem zip3_map : ∀ (as : List NK) (bs cs : List V), bs.length = cs.length → (as.zip (bs.zip cs)).map (fun p : NV => (p.1, p.2.2)) = as.zip cs
  | [], bs, cs, _ => by simp
  | a :: as, [], [], _ => by simp
  | a :: as, [], c :: cs, h => by simp at h
  | a :: as, b :: bs, [], h => by simp at h
  | a :: as, b :: bs, c :: cs, h => by simp [zip3_map as bs cs (by simpa using h)]
theorem DRr.nat {t : Bool} {ks : List EV} {a : Addr} {ys : List V} {K : PySem.W.Frag} {w : World} (d : DRr H t ks a ys) : ∃ nks, nkeys ks = some nks ∧ nks.length = ys.length ∧ NAt K w H a (nks.zip ys) := by
  cases t with
  | false =>
    obtain ⟨kk, h1, h2, q⟩ := d
    exact ⟨_, nkeys_kOf h1, by simpa using h2, .inr (.inr ⟨_, q, by rw [zip_map_l]⟩)⟩
  | true =>
    obtain ⟨kk, h1, h2, q⟩ := d
    exact ⟨_, nkeys_tOf h1, by simpa using h2, .inr (.inl ⟨_, q, by rw [zip_map_l]⟩)⟩
theorem kns_at : ∀ {nks : List NK} {kys ys : List V}, (∀ k ∈ nks, k.depth ≤ 8) → KNs G.K H nks kys → KNk G.K H (nks.zip (kys.zip ys))
  | [], kys, ys, _, _ => fun p hp => by simp at hp
  | k :: nks, kys, ys, hd, r => by
    unfold KNs at r
    obtain ⟨z, zs, rfl, r1, r2⟩ := r
    cases ys with
    | nil => intro p hp; simp at hp
    | cons y ys =>
      intro p hp
      simp only [List.zip_cons_cons, List.mem_cons] at hp
      rcases hp with rfl | hp
      · exact ⟨r1, hd k List.mem_cons_self⟩
      · exact kns_at (fun k hk => hd k (List.mem_cons_of_mem _ hk)) r2 p hp
theorem mix_at {lk : Bool} {ks vs : List EV} {a : Addr} (r : RO G ρ L H (.mix lk ks vs) a) : ∃ nks kys ys, nkeys ks = some nks ∧ (∀ k ∈ nks, k.depth ≤ 8) ∧ RVs G ρ L H ks kys ∧ RVs G ρ L H vs ys ∧ nks.length = ys.length ∧ kys.length = ys.length ∧ Rd H a (nO G.w a (nks.zip (kys.zip ys))) ∧ KNk G.K H (nks.zip (kys.zip ys)) := by
  obtain ⟨nks, kys, ys, h1, h2, h3, h4, h5, e⟩ := r
  refine ⟨nks, kys, ys, h1, h2, h3, h4, by rw [← nkeys_len h1, ← h4.length, h5], by rw [← h3.length, ← h4.length, h5], ?_, kns_at h2 (kns_of ks kys nks h1 h3)⟩
  cases lk with
  | false => exact .inl e
  | true => exact .inr e
theorem dictU_is {v : EV} {x : V} {ks vs : List EV} (S : Sim G ρ h H) (r : RV G ρ h.length H v x) (e : dictU h v = some (ks, vs)) : ∃ a nks ys, x = .ref a ∧ nkeys ks = some nks ∧ RVs G ρ h.length H vs ys ∧ nks.length = ys.length ∧ NAt G.K G.w H a (nks.zip ys) := by
  unfold dictU at e
  split at e
  · cases e
    unfold RV at r
    obtain ⟨a, ys, rfl, _, rr, d⟩ := r
    obtain ⟨nks, h1, h2, h3⟩ := d.nat (K := G.K) (w := G.w)
    exact ⟨a, nks, ys, rfl, h1, rr, h2, h3⟩
  · rename_i n
    unfold RV at r
    obtain ⟨hn, rfl⟩ := r
    rw [getH_eq] at e
    split at e
    · rename_i t' l l' e1
      cases e
      obtain ⟨ys, rr, d⟩ := S.obj n _ e1
      obtain ⟨nks, h1, h2, h3⟩ := d.rd.nat (K := G.K) (w := G.w)
      exact ⟨_, nks, ys, rfl, h1, rr, h2, h3⟩
    · rename_i t' l l' e1
      cases e
      obtain ⟨ys, rr, d⟩ := S.obj n _ e1
      obtain ⟨nks, h1, h2, h3⟩ := d.rd.nat (K := G.K) (w := G.w)
      exact ⟨_, nks, ys, rfl, h1, rr, h2, h3⟩
    · rename_i lk l l' e1
      cases e
      obtain ⟨nks, kys, ys, h1, h2, h3, h4, h5, h6, h7, h8⟩ := mix_at (S.obj n _ e1)
      exact ⟨_, nks, ys, rfl, h1, h4, h5, .inl ⟨_, h7, h8, (zip3_map nks kys ys h6).symm⟩⟩
    · cases e
  · cases e
/-- a look into a dict, by values -/
theorem nget_of {v w : EV} {x y : V} {ks vs : List EV} (S : Sim G ρ h H) (rv : RV G ρ h.length H v x) (rw' : RV G ρ h.length H w y) (e : dictU h v = some (ks, vs)) (ok : nkOk 8 w = true) :
    ∃ a, x = .ref a ∧ (∀ r, findM ks vs w = some r → ∃ z, NGet G.K G.w H a y (some z) ∧ RV G ρ h.length H r z) ∧ (findM ks vs w = none → NGet G.K G.w H a y none) ∧ ∃ ps, NAt G.K G.w H a ps := by
  obtain ⟨a, nks, ys, rfl, h1, h2, h3, h4⟩ := dictU_is S rv e
  obtain ⟨k, k1, k2⟩ := nkOk_is 8 w ok
  obtain ⟨f1, f2⟩ := find_is h1 h2 k1
  have kn := kn_of w y k k1 rw'
  exact ⟨a, rfl, fun r hr => let ⟨z, z1, z2⟩ := f1 r hr; ⟨z, ⟨_, k, h4, kn, k2, z1⟩, z2⟩, fun hn => ⟨_, k, h4, kn, k2, f2 hn⟩, _, h4⟩
/-! ### d[k] -/
def pIxU : EV → EV → EH → (EV → EH → Bool) → Bool := fun v w h k => match dictU h v with
  | some (ks, vs) => match nkOk 8 w with
    | true => match findM ks vs w with
      | some z => k z h
      | none => false
    | false => false
  | none => pIx v w h k
def rIxU (G : Cn) : R2 := fun x y H Q => rIxA G x y H Q ∨ (∃ a v, x = .ref a ∧ NGet G.K G.w H a y (some v) ∧ Q v H)
theorem i_ixU (g : Gd G X) : IxR X (rIxU G) := by
  refine IxR.or (i_ix g) ?_
  intro value slice pins s σ H x y v u Q I rx ry q hs
  obtain ⟨a, z, rfl, d, q⟩ := q
  obtain rfl : v = Value.ref a := rx
  rw [← g.k, ← g.w] at d
  exact PyProof.Rows.tail_any (n_typeIs I d) PySem.F.slot_dict_getitem.lookup (d_itemN (by have := g.u; omega) I d ry fun w' s' I' r => ⟨z, H, I', r, q⟩) hs
theorem s_ixU : OpS G pIxU (rIxU G) := by
  intro ρ h H v w x y k Q S rv rw' z af
  unfold pIxU at z
  split at z
  · rename_i ks vs e
    split at z
    · rename_i ok
      split at z
      · rename_i r er
        obtain ⟨a, rfl, f1, _, _⟩ := nget_of S rv rw' e ok
        obtain ⟨y', n1, n2⟩ := f1 r er
        exact .inr ⟨a, y', rfl, n1, af.here S z n2⟩
      · cases z
    · cases z
  · exact .inl (s_ix ρ h H v w x y k Q S rv rw' z af)
variable {a b e o : Expr} {es : List Expr} {f g' : KE} {fa : KA} {pos apos cpos : Pos}
theorem x_ixU (g : Gd G X) (ha : XE G X a f) (hb : XE G X b g') (hs : PlainIx b := by intro _ _; rfl) : XE G X (.Subscript a b pos) (kBin pIxU f g') :=
  PE.imp (pe_ix (i_ixU g) ha hb hs) fun σ H Q ⟨ρ, s, h, k, S, R, z, af⟩ => two (k := fun v w h => pIxU v w h k) S R z fun v w h' ρ' H' x y z' p' rx ry => s_ixU ρ' h' H' v w x y k Q p'.sim rx ry z' (af.next p')
/-! ### k in d -/
def pInU (n : Bool) : EV → EV → EH → (EV → EH → Bool) → Bool := fun v w h k => match dictU h w with
  | some (ks, vs) => match nkOk 8 v with
    | true => match findM ks vs v with
      | some _ => k (.bl (!n)) h
      | none => k (.bl n) h
    | false => false
  | none => pIn n v w h k
def rInU (G : Cn) (n : Bool) : R2 := fun x y H Q => rInA G n x y H Q ∨ (∃ a o, y = .ref a ∧ NGet G.K G.w H a x o ∧ Q (.bl (o.isSome != n)) H)
theorem o_inU (g : Gd G X) : OpR X (compareOp .In) (rInU G false) := by
  refine OpR.or (o_in g) ?_
  intro pins s σ H x y v u Q I rx ry q
  obtain ⟨a, o, rfl, d, q⟩ := q
  obtain rfl : u = Value.ref a := ry
  rw [← g.k, ← g.w] at d
  exact d_inN (by have := g.u; omega) I d rx fun s' I' => ⟨.bl _, H, I', by simp [RelV], q⟩
theorem o_notinU (g : Gd G X) : OpR X (compareOp .NotIn) (rInU G true) := by
  refine OpR.or (o_notin g) ?_
  intro pins s σ H x y v u Q I rx ry q
  obtain ⟨a, o, rfl, d, q⟩ := q
  obtain rfl : u = Value.ref a := ry
  rw [← g.k, ← g.w] at d
  exact d_notInN (by have := g.u; omega) I d rx fun s' I' => ⟨.bl _, H, I', by cases o <;> rfl, q⟩
theorem s_inU (n : Bool) : OpS G (pInU n) (rInU G n) := by
  intro ρ h H v w x y k Q S rv rw' z af
  unfold pInU at z
  split at z
  · rename_i ks vs e
    split at z
    · rename_i ok
      obtain ⟨a, rfl, f1, f2, _⟩ := nget_of S rw' rv e ok
      split at z
      · rename_i r er
        obtain ⟨y', n1, n2⟩ := f1 r er
        exact .inr ⟨a, _, rfl, n1, af.here S (v := .bl (!n)) z (by unfold RV; cases n <;> rfl)⟩
      · rename_i er
        exact .inr ⟨a, _, rfl, f2 er, af.here S (v := .bl n) z (by unfold RV; cases n <;> rfl)⟩
    · cases z
  · exact .inl (s_in n ρ h H v w x y k Q S rv rw' z af)
/-! ### methods of dicts of every kind -/
def recvU (t : Ty) (v : EV) (h : EH) : Bool := match recv t v h with
  | true => true
  | false => match t with
    | .dict => match dictU h v with
      | some _ => true
      | none => false
    | _ => false
theorem recvU_is {t : Ty} {v : EV} {x : V} (S : Sim G ρ h H) (r : RV G ρ h.length H v x) (e : recvU t v h = true) : tyVA G.K G.w t.name x H := by
  unfold recvU at e
  split at e
  · rename_i e1
    exact .inl (recv_is S r e1)
  · split at e
    · split at e
      · rename_i p e1
        obtain ⟨ks, vs⟩ := p
        obtain ⟨a, nks, ys, rfl, _, _, _, h4⟩ := dictU_is S r e1
        exact .inr ⟨rfl, a, _, rfl, h4⟩
      · cases e
    · cases e
def kMtU (t : Ty) (p : EV → List EV → EH → (EV → EH → Bool) → Bool) (f : KE) (fa : KA) : KE := fun s h k => f s h fun v h => match recvU t v h with
  | true => fa s h fun vs h => p v vs h k
  | false => false
variable {name : Str} {id : String} {r : V → List V → Hp → VK → Prop} {p : EV → List EV → EH → (EV → EH → Bool) → Bool}
theorem x_mtU (t : Ty) (g : Gd G X) (pa : PlainAttrs t.name) (slot : Slot t.name name id) (hty : typeOf (.builtin id) = pure (.type "method_descriptor")) (hm : MtR X id r) (hp : MtS G p t.name r) (ho : XE G X o f) (ha : XA G X (e :: es) fa)
    (hbase : attributeBase o name X.env (eval o X.env) = eval o X.env := by rfl)
    (hfew : ((backTo cpos (starEach (e :: es) X.env)).all (fun x => !x.1) && (backToKw cpos (keywordEach [] X.env)).all (fun x => x.1.isSome)
      && decide ((e :: es).length + ([] : List Keyword).length + (if ([] : List Keyword).isEmpty then 0 else 1) < 30)) = true := by rfl)
    (hline : (apos.endLine == cpos.line) = true := by rfl) (hs : starEach (e :: es) X.env = (false, eval e X.env) :: starEach es X.env := by rfl) (hplain : (backTo cpos (starEach es X.env)).any (·.1) = false := by rfl) :
    XE G X (.Call (.Attribute o name apos) (e :: es) [] cpos) (kMtU t p f fa) := by
  refine PE.imp (pe_bmA pa slot hty hm ho ha hbase hfew hline hs hplain) fun σ H Q ⟨ρ, s, h, k, S, R, z, af⟩ => ⟨ρ, s, h, _, S, R, z, fun v h1 ρ1 H1 x z1 q1 r1 => ?_⟩
  split at z1
  · rename_i ev
    exact ⟨g.k ▸ g.w ▸ recvU_is q1.sim r1 ev, ρ1, s, h1, _, q1.sim, q1.rs R, z1, fun vs h2 ρ2 H2 xs z2 q2 r2 => hp ρ2 h2 H2 v x vs xs k Q q2.sim (q2.rv r1) r2 z2 ((af.next q1).next q2)⟩
  · cases z1
def mGetU : EV → List EV → EH → (EV → EH → Bool) → Bool := fun v vs h k => match vs with
  | w :: r => match dictU h v with
    | some (ks, zs) => match nkOk 8 w with
      | true => match findM ks zs w with
        | some z => match r with
          | [] => k z h
          | [_] => k z h
          | _ => false
        | none => match r with
          | [] => k .non h
          | [d] => k d h
          | _ => false
      | false => false
    | none => false
  | _ => false
theorem mt_getU (g : Gd G X) : MtR X "dict.get" (rGetN G.K G.w) := by
  rw [← g.k, ← g.w]; exact mt_getN (by have := g.u; omega)
theorem s_getU : MtS G mGetU "dict" (rGetN G.K G.w) := by
  intro ρ h H v x vs xs k Q S rv rvs z af
  unfold mGetU at z
  split at z
  · rename_i w r
    split at z
    · rename_i ks zs e
      split at z
      · rename_i ok
        unfold RVs at rvs
        obtain ⟨y, ys, rfl, r1, r2⟩ := rvs
        obtain ⟨a, rfl, f1, f2, _⟩ := nget_of S rv r1 e ok
        split at z
        · rename_i u eu
          obtain ⟨y', n1, n2⟩ := f1 u eu
          split at z
          · unfold RVs at r2
            subst r2
            exact ⟨a, y, .non, _, rfl, .inr ⟨rfl, rfl⟩, n1, af.here S z n2⟩
          · unfold RVs at r2
            obtain ⟨d, ds, rfl, r3, r4⟩ := r2
            unfold RVs at r4
            subst r4
            exact ⟨a, y, d, _, rfl, .inl rfl, n1, af.here S z n2⟩
          · cases z
        · rename_i eu
          split at z
          · unfold RVs at r2
            subst r2
            exact ⟨a, y, .non, _, rfl, .inr ⟨rfl, rfl⟩, f2 eu, af.here S z (by unfold RV; rfl)⟩
          · unfold RVs at r2
            obtain ⟨d, ds, rfl, r3, r4⟩ := r2
            unfold RVs at r4
            subst r4
            exact ⟨a, y, d, _, rfl, .inl rfl, f2 eu, af.here S z r3⟩
          · cases z
      · cases z
    · cases z
  · cases z
end
end Eg

set_option autoImplicit false
set_option maxRecDepth 100000
set_option maxHeartbeats 1000000
/-! E51: dicts of any keys: {}, d[k] = v, d.setdefault(k, v). -/
namespace Eg
open PySem PySem.Spec L2
def valsM : List EV → List EV → EV → EV → List EV
  | k :: ks, vs, w, z => match vs with
    | v :: vs => match kEqv k w with
      | true => z :: valsM ks vs w z
      | false => v :: valsM ks vs w z
    | [] => []
  | [], vs, _, _ => vs
section
variable {G : Cn} {X : Cx} {ρ : Rho} {h : EH} {H : Hp} {L : Nat}
theorem valsM_len : ∀ (ks vs : List EV) (w z : EV), ks.length = vs.length → (valsM ks vs w z).length = vs.length
  | [], vs, w, z, _ => rfl
  | k :: ks, [], w, z, h => by simp at h
  | k :: ks, v :: vs, w, z, h => by
    have := valsM_len ks vs w z (by simpa using h)
    simp only [valsM]
    split <;> simp [this]
theorem vals_is : ∀ {ks vs : List EV} {nks : List NK} {kys ys : List V} {w z : EV} {k : NK} {y : V}, nkeys ks = some nks → RVs G ρ L H vs ys → ks.length = vs.length → kys.length = ys.length → nkey w = some k → RV G ρ L H z y →
    ∃ ys', RVs G ρ L H (valsM ks vs w z) ys' ∧ nks.zip (kys.zip ys') = (nks.zip (kys.zip ys)).map (fun p => if p.1 = k then (p.1, p.2.1, y) else p)
  | [], [], nks, kys, ys, w, z, k, y, h1, h2, h3, h4, h5, h6 => by
    simp only [nkeys, Option.some.injEq] at h1
    subst h1
    exact ⟨ys, by simpa [valsM] using h2, by simp⟩
  | [], v :: vs, nks, kys, ys, w, z, k, y, h1, h2, h3, h4, h5, h6 => by simp at h3
  | x :: ks, [], nks, kys, ys, w, z, k, y, h1, h2, h3, h4, h5, h6 => by simp at h3
  | x :: ks, v :: vs, nks, kys, ys, w, z, k, y, h1, h2, h3, h4, h5, h6 => by
    obtain ⟨a, l, rfl, e1, e2⟩ := nkeys_cons h1
    unfold RVs at h2
    obtain ⟨u, us, rfl, r1, r2⟩ := h2
    cases kys with
    | nil => simp at h4
    | cons c cs =>
      obtain ⟨ys', i1, i2⟩ := vals_is (kys := cs) e2 r2 (by simpa using h3) (by simpa using h4) h5 h6
      have q := kEqv_is x w a k e1 h5
      by_cases hk : a = k
      · rw [decide_eq_true hk] at q
        refine ⟨y :: ys', by simp only [valsM, q]; exact RVs.cons h6 i1, ?_⟩
        simp only [List.zip_cons_cons, List.map_cons, i2, if_pos hk]
      · rw [decide_eq_false hk] at q
        refine ⟨u :: ys', by simp only [valsM, q]; exact RVs.cons r1 i1, ?_⟩
        simp only [List.zip_cons_cons, List.map_cons, i2, if_neg hk]
def putM (ks vs : List EV) (w z : EV) : List EV × List EV := match findM ks vs w with
  | some _ => (ks, valsM ks vs w z)
  | none => (appE ks [w], appE vs [z])
theorem vGet_p (kvs : List NV) (k : NK) : vGet kvs k = pGet (kvs.map fun p => (p.1, p.2.2)) k := by
  induction kvs with
  | nil => rfl
  | cons p l ih =>
    by_cases hk : p.1 = k
    · simp [vGet, pGet, hk]
    · simpa [vGet, pGet, List.find?_cons, hk] using ih
theorem nkeys_app : ∀ {ks : List EV} {nks : List NK} {w : EV} {k : NK}, nkeys ks = some nks → nkey w = some k → nkeys (ks ++ [w]) = some (nks ++ [k])
  | [], nks, w, k, h1, h2 => by
    simp only [nkeys, Option.some.injEq] at h1
    subst h1
    simp [nkeys, h2]
  | x :: ks, nks, w, k, h1, h2 => by
    obtain ⟨a, l, rfl, e1, e2⟩ := nkeys_cons h1
    simp [nkeys, e1, nkeys_app e2 h2]
theorem zip3_app (nks : List NK) (kys ys : List V) (k : NK) (a b : V) (h1 : nks.length = ys.length) (h2 : kys.length = ys.length) : (nks ++ [k]).zip ((kys ++ [a]).zip (ys ++ [b])) = nks.zip (kys.zip ys) ++ [(k, a, b)] := by
  rw [List.zip_append (by omega), List.zip_append (by rw [List.length_zip]; omega)]
  rfl
/-- what a store makes of the dict -/
theorem put_isM {ks vs : List EV} {nks : List NK} {kys ys : List V} {w z : EV} {k : NK} {x y : V} (h1 : nkeys ks = some nks) (h2 : ∀ k ∈ nks, k.depth ≤ 8) (h3 : RVs G ρ L H ks kys) (h4 : RVs G ρ L H vs ys) (h5 : vs.length = ks.length)
    (hk : nkey w = some k) (hd : k.depth ≤ 8) (rw' : RV G ρ L H w x) (rz : RV G ρ L H z y) :
    ∃ nks' kys' ys', nkeys (putM ks vs w z).1 = some nks' ∧ (∀ k ∈ nks', k.depth ≤ 8) ∧ RVs G ρ L H (putM ks vs w z).1 kys' ∧ RVs G ρ L H (putM ks vs w z).2 ys' ∧ (putM ks vs w z).2.length = (putM ks vs w z).1.length ∧
      nks'.zip (kys'.zip ys') = vPut (nks.zip (kys.zip ys)) k x y := by
  have l1 : nks.length = ys.length := by rw [← nkeys_len h1, ← h4.length, h5]
  have l2 : kys.length = ys.length := by rw [← h3.length, ← h4.length, h5]
  obtain ⟨f1, f2⟩ := find_is h1 h4 hk
  have eg : vGet (nks.zip (kys.zip ys)) k = pGet (nks.zip ys) k := by rw [vGet_p, zip3_map _ _ _ l2]
  unfold putM vPut
  rw [eg]
  cases ef : findM ks vs w with
  | some r =>
    obtain ⟨y', e1, _⟩ := f1 r ef
    obtain ⟨ys', i1, i2⟩ := vals_is (kys := kys) h1 h4 h5.symm l2 hk rz
    refine ⟨nks, kys, ys', h1, h2, h3, i1, ?_, ?_⟩
    · show (valsM ks vs w z).length = ks.length
      rw [valsM_len _ _ _ _ h5.symm, h5]
    · rw [e1]
      exact i2
  | none =>
    rw [f2 ef]
    refine ⟨nks ++ [k], kys ++ [x], ys ++ [y], ?_, fun k' hk' => ?_, ?_, ?_, ?_, ?_⟩
    · show nkeys (appE ks [w]) = _
      rw [appE_eq]; exact nkeys_app h1 hk
    · rcases List.mem_append.mp hk' with q | q
      · exact h2 k' q
      · rw [List.mem_singleton.mp q]; exact hd
    · show RVs G ρ L H (appE ks [w]) _
      rw [appE_eq]; exact h3.append (RVs.cons rw' RVs.nil)
    · show RVs G ρ L H (appE vs [z]) _
      rw [appE_eq]; exact h4.append (RVs.cons rz RVs.nil)
    · show (appE vs [z]).length = (appE ks [w]).length
      rw [appE_eq, appE_eq]; simp [h5]
    · exact zip3_app nks kys ys k x y l1 l2
/-- {} -/
def kNewM : KE := fun _ h k => newH h (.mix false [] []) k
variable {a b e o : Expr} {es : List Expr} {f g' : KE} {fa : KA} {pos apos cpos : Pos}
theorem x_newM (g : Gd G X) : XE G X (.Dict [] [] pos) kNewM := by
  refine PE.imp pe_dnewN fun σ H Q ⟨ρ, s, h, k, S, R, z, af⟩ => fun p hp => ?_
  refine af _ _ _ _ _ z (Post.new S hp ⟨[], [], [], by simp [nkeys], fun _ h => (by simp at h), RVs.nil, RVs.nil, rfl, ?_⟩) rv_new'
  show upd H p (nO X.w p []) p = some (nO G.w p [])
  rw [upd_same, g.w]
/-! ### d[k] = v -/
def gSubDU (o v i : EV) (h : EH) (nx : EH → Bool) : Bool := match o with
  | .ref n => match getH h n with
    | some (.mix lk ks vs) => match lk with
      | true => false
      | false => match nkOk 8 i with
        | true => match okLen ks with
          | true => match putM ks vs i v with
            | (ks, vs) => nx (setH h n (.mix false ks vs))
          | false => false
        | false => false
    | _ => gSubD o v i h nx
  | _ => false
def gSubU (f g : KE) : KG := fun v s h nx => f s h fun o h => g s h fun i h => gSubDU o v i h fun h => nx s h
def tSetU (G : Cn) : TSet := fun o i v H Q => tSetA o i v H Q ∨ ∃ a H', o = .ref a ∧ NPut G.K G.w H a i v H' ∧ Q H'
theorem p_setU (g : Gd G X) : PSet X (tSetU G) := fun pins s σ H o i v ov iv u Q I r1 r2 r3 q => q.elim (p_setA g pins s σ H o i v ov iv u Q I r1 r2 r3) fun ⟨a, H', eo, np, qq⟩ => by
  subst eo
  cases (show ov = Value.ref a from r1)
  rw [← g.k, ← g.w] at np
  exact d_setN (by have := g.u; omega) I np r2 r3 fun s' I' => ⟨H', I', qq⟩
theorem set_isU {o v i : EV} {x y z : V} {k : EH → Bool} {Q : Hp → Prop} (S : Sim G ρ h H) (ro : RV G ρ h.length H o x) (rv : RV G ρ h.length H v y) (ri : RV G ρ h.length H i z) (zz : gSubDU o v i h k = true)
    (af : ∀ h' ρ' H', k h' = true → Post G ρ h H ρ' h' H' → Q H') : tSetU G x z y H Q := by
  unfold gSubDU at zz
  split at zz
  · rename_i n
    have old : ∀ z0 : gSubD (.ref n) v i h k = true, tSetU G x z y H Q := fun z0 => .inl (set_is S ro rv ri z0 af)
    unfold RV at ro
    obtain ⟨hn, rfl⟩ := ro
    rw [getH_eq] at zz
    split at zz
    · rename_i lk ks vs e1
      split at zz
      · cases zz
      · split at zz
        · rename_i ok
          split at zz
          · rename_i ol
            obtain ⟨nks, kys, ys, h1, h2, h3, h4, h5, e⟩ := S.obj n _ e1
            have e : H (ρ n) = some (nO G.w (ρ n) (nks.zip (kys.zip ys))) := e
            obtain ⟨kk, k1, k2⟩ := nkOk_is 8 i ok
            obtain ⟨nks', kys', ys', p1, p2, p3, p4, p5, p6⟩ := put_isM h1 h2 h3 h4 h5 k1 k2 ri rv
            have ol := okLen_is ol
            have l1 := nkeys_len h1
            refine .inr ⟨ρ n, _, rfl, ⟨_, kk, e, kns_at h2 (kns_of ks kys nks h1 h3), kn_of i z kk k1 ri, k2, by rw [sizeLine_eq, List.length_zip]; omega, rfl⟩, af _ ρ _ zz (Post.write S hn ⟨nks', kys', ys', p1, p2, RVs.write S hn p3, RVs.write S hn p4, p5, ?_⟩)⟩
            show upd H (ρ n) _ (ρ n) = _
            rw [upd_same, p6]
          · cases zz
        · cases zz
    · exact old zz
  · cases zz
theorem g_subU {i : Expr} {fi : KE} (g : Gd G X) (ho : XE G X o f) (hi : XE G X i fi)
    (ha : ∀ v, assign (.Subscript o i pos) X.env v = (do
      let ov ← holding [v] (eval o X.env)
      let iv ← holding [v, ov] (eval i X.env)
      standAt pos
      holding [v, ov, iv] (setItem ov iv v)
      release [v, ov, iv] []) := by intro _; rfl) : XG G X (.Subscript o i pos) (gSubU f fi) [] := by
  refine PG.imp (pg_sub ho hi (p_setU g) ha) fun y σ H Q ⟨ρ, s, h, v, k, S, R, r, z, af⟩ => ?_
  refine two S R z fun ov iv h1 ρ1 H1 xo xi z1 p1 ro ri => set_isU p1.sim ro (p1.rv r) ri z1 fun h2 ρ2 H2 z2 p2 => ?_
  exact af s h2 ρ2 H2 σ z2 (p1.trans p2) ((p1.trans p2).rs R) rfl fun _ _ => rfl
/-! ### d.setdefault(k, v) -/
def mSetdU : EV → List EV → EH → (EV → EH → Bool) → Bool := fun v us h k => match v with
  | .ref n => match getH h n with
    | some (.mix lk ks vs) => match lk with
      | true => false
      | false => match us with
        | [i, d] => match nkOk 8 i with
          | true => match okLen ks with
            | true => match findM ks vs i with
              | some z => k z h
              | none => k d (setH h n (.mix false (appE ks [i]) (appE vs [d])))
            | false => false
          | false => false
        | _ => false
    | _ => false
  | _ => false
theorem mt_setdU (g : Gd G X) : MtR X "dict.setdefault" (rSetdN G.K G.w) := by
  rw [← g.k, ← g.w]; exact mt_setdN (by have := g.u; omega)
theorem s_setdU : MtS G mSetdU "dict" (rSetdN G.K G.w) := by
  intro ρ h H v x us xs k Q S rv rvs z af
  unfold mSetdU at z
  split at z
  · rename_i n
    unfold RV at rv
    obtain ⟨hn, rfl⟩ := rv
    rw [getH_eq] at z
    split at z
    · rename_i lk ks vs e1
      split at z
      · cases z
      · split at z
        · rename_i i d
          split at z
          · rename_i ok
            split at z
            · rename_i ol
              obtain ⟨nks, kys, ys, h1, h2, h3, h4, h5, e⟩ := S.obj n _ e1
              have e : H (ρ n) = some (nO G.w (ρ n) (nks.zip (kys.zip ys))) := e
              obtain ⟨kk, k1, k2⟩ := nkOk_is 8 i ok
              have ol := okLen_is ol
              have l1 : nks.length = ys.length := by rw [← nkeys_len h1, ← h4.length, h5]
              have l2 : kys.length = ys.length := by rw [← h3.length, ← h4.length, h5]
              have l3 := nkeys_len h1
              unfold RVs at rvs
              obtain ⟨iy, r, rfl, ri, rvs⟩ := rvs
              unfold RVs at rvs
              obtain ⟨dy, r, rfl, rd, rvs⟩ := rvs
              unfold RVs at rvs
              subst rvs
              obtain ⟨f1, f2⟩ := find_is h1 h4 k1
              have eg : vGet (nks.zip (kys.zip ys)) kk = pGet (nks.zip ys) kk := by rw [vGet_p, zip3_map _ _ _ l2]
              refine ⟨ρ n, _, kk, iy, dy, rfl, rfl, e, kns_at h2 (kns_of ks kys nks h1 h3), kn_of i iy kk k1 ri, k2, by rw [sizeLine_eq, List.length_zip]; omega, ?_⟩
              rw [eg]
              split at z
              · rename_i u eu
                obtain ⟨y', n1, n2⟩ := f1 u eu
                rw [n1]
                exact af.here S z n2
              · rename_i eu
                rw [f2 eu]
                rw [appE_eq, appE_eq] at z
                have W : RO G ρ h.length (upd H (ρ n) (nO G.w (ρ n) (nks.zip (kys.zip ys) ++ [(kk, iy, dy)]))) (.mix false (ks ++ [i]) (vs ++ [d])) (ρ n) := by
                  refine ⟨nks ++ [kk], kys ++ [iy], ys ++ [dy], nkeys_app h1 k1, fun k' hk' => ?_, RVs.write S hn (h3.append (RVs.cons ri RVs.nil)), RVs.write S hn (h4.append (RVs.cons rd RVs.nil)), by simp [h5], ?_⟩
                  · rcases List.mem_append.mp hk' with q | q
                    · exact h2 k' q
                    · rw [List.mem_singleton.mp q]; exact k2
                  · show upd H (ρ n) _ (ρ n) = _
                    rw [upd_same, zip3_app _ _ _ _ _ _ l1 l2]
                have p := Post.write S hn W
                exact af _ _ ρ _ _ z p (p.rv rd)
            · cases z
          · cases z
        · cases z
    · cases z
  · cases z
end
end Eg

set_option autoImplicit false
set_option maxRecDepth 100000
set_option maxHeartbeats 1000000
/-! E52: list(d.items()) of dicts of any keys. -/
namespace Eg
open PySem PySem.Spec L2 L2.DX PySem.W PyProof.Rows
section
variable {prog : Program} {w : World} {A : Around} {E : Value → Shared → Prop} {s : Shared} {r d : Addr} {es : Array DictEntry} {ep : Nat}
theorem initI {R : Result → Shared → Prop} (hh : A.handled = none) (hv : s.heap.IsItemsView r d) (hm : DT.Raw s.heap d es ep) (S : Addr) (hSr : S ≠ r) (hSd : d ≠ S) (hS : s.heap.get? S = some { cls := .type "list", data := .seq #[] })
    (hR : ∀ h' tk acc c as, (∀ b o, b ≠ S → s.heap.get? b = some o → h'.get? b = some o) → h'.get? S = some { cls := .type "list", dict := none, data := .seq acc c, slots := #[] } → as.length = es.size → DT.Made es S h' as →
      acc.toList = as.map Value.ref → R (.ok (.ret .none)) { s with heap := h', toks := tk }) (hn : es.size ≤ sizeLine) :
    wpAny (model prog w) A.in1 (Builtin.«list.__init__» ⟨[.ref S, .ref r], []⟩)
      (fun fin s' => match fin with | .done f => R (.ok f) s' | .again c' => c'.quiet = true ∧ codeAny (model prog w) A c' R s') (fun e s' => R (.error e) s') s := by
  show wpAny _ _ (do let old ← Builtin.List.listItems (.ref S); Builtin.List.listUpdate (.ref S) (fun _ => #[]); letGo old.toList.reverse; Builtin.List.listExtendWith (.ref S) (.ref r) .none) _ _ s
  refine wpAny_bind ?_
  unfold Builtin.List.listItems
  refine wpAny_bind (wpAny_seqItems hS rfl (wpAny_pure ?_))
  show wpAny _ _ (updateSeq S (fun _ => #[]) >>= fun _ => letGo (#[] : Array Value).toList.reverse >>= fun _ => Builtin.List.listExtendWith (.ref S) (.ref r) .none) _ _ s
  refine wpAny_bind (wpAny_updateSeq hS rfl ?_)
  have hS₂ := Heap.get?_update_self (Obj.mapSeq (fun _ => (#[] : Array Value))) hS rfl
  have oth : ∀ b o, b ≠ S → s.heap.get? b = some o → (s.heap.update S (Obj.mapSeq (fun _ => (#[] : Array Value)))).get? b = some o :=
    fun b o hb e => (Heap.get?_update_other _ _ (Ne.symm hb)).trans e
  refine wpAny_bind (wpAny_letGo ?_)
  refine DT.extI (es := es) (ep := ep) hh (let ⟨o, ho, x⟩ := hv; ⟨o, oth r o hSr.symm ho, x⟩) (hm.at' fun o e => oth d o hSd e) S hSr hSd .none _ hS₂ (fun h' tk acc c as hk hS' hl hG hacc => ?_) hn
  exact hR h' tk acc c as (fun b o hb e => hk b o hb (oth b o hb e)) hS' hl (hG.low (Nat.le_of_lt (Heap.lt_size hS₂))) hacc
theorem listI {Q : Value → Shared → Prop} (hh : A.handled = none) (hv : s.heap.IsItemsView r d) (hm : DT.Raw s.heap d es ep) (hn : es.size ≤ sizeLine)
    (hQ : ∀ h' tk acc c as, (∀ b o, s.heap.get? b = some o → h'.get? b = some o) → h'.get? s.heap.objs.size = some { cls := .type "list", dict := none, data := .seq acc c, slots := #[] } → as.length = es.size → DT.Made es s.heap.objs.size h' as →
      acc.toList = as.map Value.ref → Q (.ref s.heap.objs.size) { s with heap := h', toks := tk }) :
    wpAny (model prog w) A (call (.type "list") [.ref r]) Q E s := by
  refine callType_codes (Q₁ := fun obj s₁ => obj = .ref s.heap.objs.size ∧ s₁ = { s with heap := s.heap.push { cls := .type "list", data := .seq #[] } }) PySem.F.called_list (PySem.F.typeCall_list_1 _) PySem.F.entry_list_init
    (code_list_new _ ⟨rfl, rfl⟩) fun obj s₁ h₁ => ?_
  obtain ⟨rfl, rfl⟩ := h₁
  have hS : (s.heap.push { cls := .type "list", data := .seq #[] }).get? s.heap.objs.size = some { cls := .type "list", data := .seq #[] } := Heap.get?_push_size _ rfl
  have hr : r < s.heap.objs.size := let ⟨_, ho, _⟩ := hv; Heap.lt_size ho
  have hd : d < s.heap.objs.size := hm.lt
  refine ⟨⟨_, hS, rfl⟩, PySem.F.args_list_init_2 _ _, initI (es := es) (ep := ep) (A := A.in1) hh (let ⟨o, ho, x⟩ := hv; ⟨o, Heap.get?_push_of_some _ ho, x⟩) (hm.push _) _ (Nat.ne_of_gt hr) (Nat.ne_of_lt hd) hS (fun h' tk acc c as hk hS' hl hG hacc => ?_) hn⟩
  exact ⟨rfl, hQ h' tk acc c as (fun b o e => hk b o (Nat.ne_of_lt (Heap.lt_size e)) (Heap.get?_push_of_some _ e)) hS' hl hG hacc⟩
end
/-- list(v), v the items of a dict of any keys -/
def rListItN (w : World) : List V → Hp → VK → Prop := fun xs H Q => ∃ (p a : Addr) (kvs : List NV), xs = [.ref p] ∧ H p = some (itemsO p a) ∧ Rd H a (nO w a kvs) ∧
  ∀ (H' : Hp) (l : Addr) (as : List Addr), (∀ b o, H b = some o → H' b = some o) → H l = none → H' l = some (.lst (as.map V.ref)) → Paired (fun b (p : NV) => H' b = some (.tup [p.2.1, p.2.2])) as kvs → Q (.ref l) H'
theorem vals_refs : ∀ as : List Addr, Vals (as.map V.ref) (as.map Value.ref)
  | [] => .nil
  | a :: as => .cons rfl (vals_refs as)
theorem cr_listItN {X : Cx} (hc : X.calm = true) : CallR X (.type "list") (rListItN X.w) := by
  intro pins s σ H xs us Q I r h
  obtain ⟨p, a, kvs, rfl, hp, ha, q⟩ := h
  obtain rfl := Vals.ref1 r
  have view : s.heap.IsItemsView p a := (show ObjOk X.prog X.w H s.heap p (itemsO p a) from I.hok p _ hp).1
  obtain ⟨o, es, ep, ho, hx, hd, pr, nd, hl, lo⟩ := nO_at (ha.ok I.hok)
  have hh : X.A.handled = none := I.ok.hd hc
  have hsz : es.size = kvs.length := by rw [← Array.length_toList]; exact (Paired.length pr).symm
  refine listI (es := es) (ep := ep) hh view ⟨o, ho, hx, hd⟩ (by rw [hsz]; exact hl) fun h' tk acc c as hk hS hlen hG hacc => ?_
  have fr : ∀ b, s.heap.objs.size ≤ b → H b = none := fun b hb => I.hok.fresh hb
  have nS : H s.heap.objs.size = none := fr _ (Nat.le_refl _)
  have I1 : Inv X pins σ (upd H s.heap.objs.size (.lst (as.map V.ref))) { s with heap := h', toks := tk } := by
    refine I.take (h' := h') (t' := tk) (fun b ob _ e => hk b ob e) (I.fpOk (Nat.le_refl _) nS) ⟨by rw [List.length_map, hlen, hsz]; exact hl, as.map Value.ref, c, vals_refs as, ?_⟩
    rw [hS, ← hacc]
  have al : ∀ b ∈ as, s.heap.objs.size < b := hG.above
  obtain ⟨H2, I2, k2, t2⟩ := takeT (P := fun b vs => ∃ (j : Nat) (z : NV), as[j]? = some b ∧ kvs[j]? = some z ∧ vs = [z.2.1, z.2.2]) I as _ I1 (List.Pairwise.imp (fun h => Nat.ne_of_lt h) hG.rise) fun b hb => by
    obtain ⟨j, hj⟩ := List.mem_iff_getElem?.mp hb
    obtain ⟨e, he, hg⟩ := hG.pairs j b hj
    have he' : es.toList[j]? = some e := by rw [Array.getElem?_toList]; exact he
    obtain ⟨z, hz, h1, h2, h3⟩ := pget pr he'
    have nb := al b hb
    refine ⟨Nat.le_of_lt nb, by rw [upd_ne (Nat.ne_of_gt nb)]; exact fr b (Nat.le_of_lt nb), [z.2.1, z.2.2], ⟨j, z, hj, hz, rfl⟩, fun H3 => ⟨by show 2 ≤ sizeLine; decide, [e.key, e.val], .cons h2 (.cons h3 .nil), ⟨_, hg, rfl, _, rfl⟩⟩⟩
  have keep : ∀ b o, H b = some o → H2 b = some o := fun b o e => k2 b o (by rw [upd_ne (ne_of_none e nS)]; exact e)
  refine ⟨.ref s.heap.objs.size, H2, I2, rfl, q H2 _ as keep nS (k2 _ _ upd_same) ?_⟩
  have lak : as.length = kvs.length := by omega
  have all : ∀ (as0 : List Addr) (kv0 : List NV) (n : Nat), as0.length = kv0.length → (∀ j, as0[j]? = as[n + j]?) → (∀ j, kv0[j]? = kvs[n + j]?) → Paired (fun b (p : NV) => H2 b = some (.tup [p.2.1, p.2.2])) as0 kv0 := by
    intro as0
    induction as0 with
    | nil =>
      intro kv0 n hl _ _
      cases kv0 with
      | nil => exact .nil
      | cons _ _ => simp at hl
    | cons b r ih =>
      intro kv0 n hl e1 e2
      cases kv0 with
      | nil => simp at hl
      | cons z zs =>
        refine .cons ?_ (ih zs (n + 1) (by simpa using hl) (fun j => ?_) fun j => ?_)
        · have b1 := e1 0
          have z1 := e2 0
          simp only [List.getElem?_cons_zero, Nat.add_zero] at b1 z1
          obtain ⟨vs, ⟨j, z', hj, hz, rfl⟩, ht⟩ := t2 b (List.mem_of_getElem? b1.symm)
          have ej : j = n := by
            have nd : as.Nodup := List.Pairwise.imp (fun h => Nat.ne_of_lt h) hG.rise
            exact (List.getElem?_inj (List.getElem?_eq_some_iff.mp hj).1 nd).mp (hj.trans b1)
          subst ej
          rw [hz] at z1
          cases z1
          exact ht
        · have := e1 (j + 1); simp only [List.getElem?_cons_succ] at this; rw [this]; congr 1; omega
        · have := e2 (j + 1); simp only [List.getElem?_cons_succ] at this; rw [this]; congr 1; omega
  exact all as kvs 0 lak (fun j => by rw [Nat.zero_add]) fun j => by rw [Nat.zero_add]
def tItemsN (w : World) (te : TE) : TE := fun σ H Q => te σ H fun x H1 => ∃ (a : Addr) (kvs : List NV), x = .ref a ∧ Rd H1 a (nO w a kvs) ∧ ∀ p, H1 p = none → Q (.ref p) (upd H1 p (itemsO p a))
section
variable {X : Cx} {e : Expr} {p pos apos cpos : Pos}
theorem pe_itemsN {te : TE} (he : PE X e te) (hbase : attributeBase e "items" X.env (eval e X.env) = eval e X.env) (hline : (apos.endLine == cpos.line) = true) : PE X (.Call (.Attribute e "items" apos) [] [] cpos) (tItemsN X.w te) := by
  refine ⟨fun pins s σ H Q I hq => ?_⟩
  refine wpAny_Call_method (T := "dict") (id := "dict.items") hbase rfl hline PySem.F.plainAttrs_dict PySem.F.slot_dict_items PySem.F.type_dict_items (thn (he.run pins s σ H _ I hq) fun u s1 ⟨x, H1, I1, rx, a, kvs, ex, hd, q⟩ => ?_)
  subst ex
  obtain rfl : u = Value.ref a := rx
  obtain ⟨o, es, ep, ho, hx, hdat, pr, nd, hl, lo⟩ := nO_at (hd.ok I1.hok)
  refine ⟨⟨o, ho, hx.1⟩, fun b eb => by cases eb; exact ⟨o, ho, hx.2.1⟩, ?_⟩
  refine Calls.callWith_builtin rfl (PySem.evalArgs_none ?_)
  refine DT.callItems (es := es) (ep := ep) lo ⟨o, ho, hx, hdat⟩ ?_
  have hf : H1 s1.heap.objs.size = none := I1.hok.fresh (Nat.le_refl _)
  exact ⟨.ref s1.heap.objs.size, upd H1 s1.heap.objs.size (itemsO s1.heap.objs.size a), I1.laid (t' := s1.toks) (fun b u e => Heap.get?_push_of_some _ e) (Nat.le_refl _) (itemsO_ok (Heap.get?_push_size _ rfl)), rfl, q _ hf⟩
end
end Eg
namespace Eg
open PySem PySem.Spec L2 L2.DX
def zipT : List EV → List EV → List EV
  | k :: ks, vs => match vs with
    | v :: vs => .tup [k, v] :: zipT ks vs
    | [] => []
  | [], _ => []
/-- list(d.items()) -/
def kItemsL (own : Bool) (f : KE) : KE := fun s h k => f s h fun v h => match v with
  | .ref n => match getH h n with
    | some (.mix _ ks vs) => match own with
      | true => newH h (.lst (zipT ks vs)) k
      | false => k (.lst (zipT ks vs)) h
    | _ => false
  | _ => false
section
variable {G : Cn} {X : Cx} {ρ : Rho} {h : EH} {H H' : Hp} {L : Nat}
theorem zipT_rv : ∀ {ks vs : List EV} {nks : List NK} {kys ys : List V} {as : List Addr}, nkeys ks = some nks → RVs G ρ L H' ks kys → RVs G ρ L H' vs ys → vs.length = ks.length → Paired (fun b (p : NV) => H' b = some (.tup [p.2.1, p.2.2])) as (nks.zip (kys.zip ys)) → RVs G ρ L H' (zipT ks vs) (as.map V.ref)
  | [], vs, nks, kys, ys, as, h1, h2, h3, h4, h5 => by
    simp only [nkeys, Option.some.injEq] at h1
    subst h1
    simp only [List.zip_nil_left] at h5
    cases h5
    exact RVs.nil
  | k :: ks, [], nks, kys, ys, as, h1, h2, h3, h4, h5 => by simp at h4
  | k :: ks, v :: vs, nks, kys, ys, as, h1, h2, h3, h4, h5 => by
    obtain ⟨a, l, rfl, e1, e2⟩ := nkeys_cons h1
    unfold RVs at h2 h3
    obtain ⟨z, zs, rfl, r1, r2⟩ := h2
    obtain ⟨y, ys', rfl, r3, r4⟩ := h3
    simp only [List.zip_cons_cons] at h5
    cases h5 with
    | cons p1 p2 =>
      refine RVs.cons ?_ (zipT_rv e2 r2 r4 (by simpa using h4) p2)
      unfold RV
      exact ⟨_, _, rfl, p1, RVs.cons r1 (RVs.cons r3 RVs.nil)⟩
variable {e : Expr} {f : KE} {p pos apos cpos : Pos}
theorem x_itemsL (own : Bool) (g : Gd G X) (he : XE G X e f) (hg : Gl X "list") (hm : X.mg "list" = none)
    (hbase : attributeBase e "items" X.env (eval e X.env) = eval e X.env := by rfl) (hline : (apos.endLine == cpos.line) = true := by rfl)
    (hs : starEach [.Call (.Attribute e "items" apos) [] [] cpos] X.env = (false, eval (.Call (.Attribute e "items" apos) [] [] cpos) X.env) :: starEach [] X.env := by rfl) :
    XE G X (.Call (.Name "list" p) [.Call (.Attribute e "items" apos) [] [] cpos] [] pos) (kItemsL own f) := by
  refine PE.imp (pe_callTy (cr_listItN g.c) hg hm (by decide +kernel) (pa_cons (pe_itemsN he hbase hline) pa_nil hs) (by decide) (by decide) hs) fun σ H Q ⟨ρ, s, h, k, S, R, z, af⟩ => ?_
  refine ⟨ρ, s, h, _, S, R, z, fun v h1 ρ1 H1 x z1 p1 r1 => ?_⟩
  split at z1
  · rename_i n
    unfold RV at r1
    obtain ⟨hn, rfl⟩ := r1
    rw [getH_eq] at z1
    split at z1
    · rename_i lk ks vs e1
      obtain ⟨nks, kys, ys, h1', h2', h3', h4', h5', h6', h7', h8'⟩ := mix_at (p1.sim.obj n _ e1)
      have hlen : vs.length = ks.length := by rw [h4'.length, nkeys_len h1', h5']
      refine ⟨ρ1 n, nks.zip (kys.zip ys), rfl, by rw [g.w]; exact h7', fun q hq => ⟨q, ρ1 n, nks.zip (kys.zip ys), rfl, upd_same, ?_, fun H' l as keep nl hl pr => ?_⟩⟩
      · rw [g.w]
        rcases h7' with q' | ⟨o, q'⟩
        · exact .inl (by rw [upd_ne (ne_of_none q' hq)]; exact q')
        · exact .inr ⟨o, by rw [upd_ne (ne_of_none q' hq)]; exact q'⟩
      · have keep1 : ∀ b o, H1 b = some o → H' b = some o := fun b o e => keep b o (by rw [upd_ne (ne_of_none e hq)]; exact e)
        have pm : Post G ρ1 h1 H1 ρ1 h1 H' := Post.more p1.sim keep1
        have hl1 : H1 l = none := by
          cases q1 : H1 l with
          | none => rfl
          | some o => rw [upd_ne (ne_of_none q1 hq), q1] at nl; cases nl
        have rr := zipT_rv h1' (pm.rvs h3') (pm.rvs h4') hlen pr
        cases own with
        | false =>
          refine af _ h1 ρ1 H' _ z1 (p1.trans pm) ?_
          unfold RV
          exact ⟨l, _, rfl, hl, p1.sim.un hl1, rr⟩
        | true =>
          have ob : ∀ b u, (fun b => if b = l then none else H' b) b = some u → H' b = some u := fun b u e => by
            by_cases hb : b = l
            · simp [hb] at e
            · simpa [hb] using e
          -- the heap without the new list, then the list as the engine's
          have pm2 : Post G ρ1 h1 H1 ρ1 h1 (fun b => if b = l then none else H' b) := Post.more p1.sim fun b o e => by
            rw [if_neg (ne_of_none e hl1)]; exact keep1 b o e
          have hback : upd (fun b => if b = l then none else H' b) l (.lst (as.map V.ref)) = H' := by
            funext b
            by_cases hb : b = l
            · subst hb; rw [upd_same, hl]
            · rw [upd_ne hb]; simp [hb]
          have rr2 : RVs G ρ1 h1.length (fun b => if b = l then none else H' b) (zipT ks vs) (as.map V.ref) := by
            refine zipT_rv h1' (pm2.rvs h3') (pm2.rvs h4') hlen ?_
            have go : ∀ {as : List Addr} {kv : List NV}, Paired (fun b (p : NV) => H' b = some (.tup [p.2.1, p.2.2])) as kv → Paired (fun b (p : NV) => (fun b => if b = l then none else H' b) b = some (.tup [p.2.1, p.2.2])) as kv := by
              intro as kv pr
              induction pr with
              | nil => exact .nil
              | @cons b q _ _ h t ih =>
                refine .cons ?_ ih
                have nb : b ≠ l := fun z => by rw [z, hl] at h; cases h
                show (if b = l then none else H' b) = _
                rw [if_neg nb]; exact h
            exact go pr
          have pn := new_lst pm2.sim (p := l) (by show (if l = l then none else H' l) = none; rw [if_pos rfl]) rr2
          rw [hback] at pn
          exact af _ _ _ H' _ z1 (p1.trans (pm2.trans pn)) (by exact rv_new')
    · cases z1
  · cases z1
end
end Eg

set_option autoImplicit false
set_option maxRecDepth 100000
set_option maxHeartbeats 1000000
/-! E53: the keys of a dict of any keys walked, the dict locked while they are. -/
namespace Eg
open PySem PySem.Spec L2 PyProof.Rows
/-- the keys of the locked dict at d, in their order -/
def Itkn (w : World) (d : Addr) (o : Obj) (kvs : List NV) : It :=
  ⟨fun i H => H d = some (.frz o (nO w d kvs)) ∧ i < kvs.length, fun i H x H' => H' = H ∧ ∃ z, kvs[i]? = some z ∧ x = z.2.1, fun i H => H d = some (.frz o (nO w d kvs)) ∧ kvs.length ≤ i⟩
theorem frzN {X : Cx} {pins : List (Addr × Obj)} {σ : L2.St} {H : Hp} {s : Shared} {d : Addr} {o : Obj} {kvs : List NV} (I : Inv X pins σ H s) (e : H d = some (.frz o (nO X.w d kvs))) :
    (d == sysModules) = false ∧ s.heap.get? d = some o ∧ o.ExactDict ∧ ∃ es ep, o.data = .dict es ep ∧ es.size = kvs.length ∧ ∀ (i : Nat) (z : NV), kvs[i]? = some z → ∃ en : DictEntry, es[i]? = some en ∧ RelV z.2.1 en.key := by
  obtain ⟨e1, q⟩ := (show ObjOk X.prog X.w H s.heap d (.frz o (nO X.w d kvs)) from I.hok d _ e)
  obtain ⟨o', es, ep, ho, hx, hd, pr, nd, hl, lo⟩ := nO_at q
  rw [e1] at ho
  cases ho
  refine ⟨lo, e1, hx, es, ep, hd, by rw [← Array.length_toList]; exact (Paired.length pr).symm, fun i z hz => ?_⟩
  have : ∀ {kv : List NV} {l : List DictEntry} {i : Nat} {z : NV}, Paired (NPr X.w) kv l → kv[i]? = some z → ∃ en : DictEntry, l[i]? = some en ∧ NPr X.w z en := by
    intro kv l i z p
    induction p generalizing i with
    | nil => intro h; simp at h
    | cons h t ih =>
      intro hz
      cases i with
      | zero => simp only [List.getElem?_cons_zero, Option.some.injEq] at hz; subst hz; exact ⟨_, rfl, h⟩
      | succ i => simp only [List.getElem?_cons_succ] at hz ⊢; exact ih hz
  obtain ⟨en, h1, h2⟩ := this pr hz
  rw [Array.getElem?_toList] at h1
  exact ⟨en, h1, h2.2.1⟩
section
variable {P : Program} {w : World} {K : PySem.W.Frag} {tg : Expr} {d : Addr} {o : Obj} {es : Array DictEntry} {ep : Nat}
theorem turn_keysN {kvs : List NV} (it : Addr) (hod : o.data = .dict es ep) : Turn P w K tg (Itkn w d o kvs) [it] it (fun i h => h.IsKeyIter it d i kvs.length ep) where
  mem := by simp
  obj := fun i h st b hb => by
    have e : b = it := by simpa using hb
    subst e
    obtain ⟨oi, e, c, dd⟩ := st
    exact ⟨oi, e, fun v z => by rw [dd] at z; cases z⟩
  keep := fun i h h' st k => st.at fun oi e => k it (by simp) oi e
  item := by
    intro X hP hw hK hc i pins s σ H E I hf st hg
    subst hP hw hK
    obtain ⟨hd, hi⟩ := hg
    obtain ⟨f0, f1, f2, f3, f4, f5⟩ := hf it (by simp)
    obtain ⟨hs, hgd, hx, es', ep', hdt, hsz, ent⟩ := frzN I hd
    obtain ⟨rfl, rfl⟩ := dict_ep hod hdt
    obtain ⟨z, hkv⟩ : ∃ p, kvs[i]? = some p := ⟨kvs[i], List.getElem?_eq_getElem hi⟩
    obtain ⟨en, hen, hkey⟩ := ent i z hkv
    refine next_key_item st hgd hdt hsz hen fun h' st' sb => ?_
    have I1 : Inv X pins σ H { s with heap := h' } := I.turned (t' := s.toks) (fun b ob hb e => (sb.2 b hb).trans e) f0 f1 f3 f4 f5
    obtain ⟨oi, e, c, dd⟩ := id st'
    exact ⟨en.key, rfl, go_of (s := { s with heap := h' }) e c dd (by decide) ⟨z.2.1, H, I1, hkey, ⟨rfl, z, hkv, rfl⟩, st', fun b hb => (hf b hb).1⟩⟩
  done := by
    intro X hP hw hK hc i pins s σ H E I hf st hg
    subst hP hw hK
    obtain ⟨hd, hi⟩ := hg
    obtain ⟨f0, f1, f2, f3, f4, f5⟩ := hf it (by simp)
    obtain ⟨hs, hgd, hx, es', ep', hdt, hsz, ent⟩ := frzN I hd
    obtain ⟨rfl, rfl⟩ := dict_ep hod hdt
    exact next_key_end (I.ok.hd hc) st hgd hdt hsz hi fun h' eb => ⟨rfl, I.turned (t' := s.toks) (fun b ob hb e => eb b ob hb e) f0 f1 f3 f4 f5⟩
  self := fun A i s Q E st h => by
    refine wpAny_pyIter_slot st.typeIs PySem.F.slot_dict_keyiterator_iter (wpAny_call_entry PySem.F.slot_dict_keyiterator_iter st.typeIs PySem.F.entry_dict_keyiterator_iter ?_ (PySem.F.args_dict_keyiterator_iter_1 _))
    show wpAny _ _ (ret (.ref it)) _ _ s
    exact wpAny_pure ⟨_, rfl, "dict_keyiterator", _, st.typeIs, PySem.F.slot_dict_keyiterator_next.lookup, h⟩
end
def iKeysU (w : World) (td : TE) : TI := fun σ H R => td σ H fun x H1 => ∃ d o kvs, x = .ref d ∧ H1 d = some (.frz o (nO w d kvs)) ∧ R (Itkn w d o kvs) H1
theorem pi_keysU {X : Cx} {tg e : Expr} {td : TE} (he : PE X e td) : PI X tg e (iKeysU X.w td) := by
  refine ⟨fun pins s σ H R I h => ?_⟩
  refine thn (he.run pins s σ H _ I h) fun u s1 ⟨x, H1, I1, rx, d, o, kvs, ex, hd, q⟩ => ?_
  subst ex
  obtain rfl : u = Value.ref d := rx
  obtain ⟨hs, hgd, hx, es, ep, hdt, hsz, ent⟩ := frzN I1 hd
  refine iter_keys hs hgd hx hdt (pi_one (tk := s1.toks) I1 _ (turn_keysN _ hdt) ⟨_, Heap.get?_push_size _ rfl, rfl, ?_⟩ q)
  rw [hsz] <;> rfl
end Eg
namespace Eg
open PySem PySem.Spec L2
/-- unlocked again -/
def unlM (n : Nat) (h : EH) (K : EH → Bool) : Bool := match getH h n with
  | some (.mix lk ks vs) => match lk with
    | true => K (setH h n (.mix false ks vs))
    | false => false
  | _ => false
def kKeysM (p : Path) (s : ES) (h : EH) (K : Nat → List EV → EH → Bool) : Bool := match evP p s h with
  | some (.ref n) => match getH h n with
    | some (.mix lk ks vs) => match lk with
      | false => match evP p s (setH h n (.mix true ks vs)) with
        | some (.ref m) => match Nat.beq m n with
          | true => K n ks (setH h n (.mix true ks vs))
          | false => false
        | _ => false
      | true => false
    | _ => false
  | _ => false
def kForKM (p : Path) (g : KG) (b : KS) : KS := fun s h nx rt bk ct => kKeysM p s h fun n vs h => kForF g b vs s h (fun s h => unlM n h fun h => nx s h) (fun v h => unlM n h fun h => rt v h) (fun s h => unlM n h fun h => bk s h) (fun s h => unlM n h fun h => ct s h)
def kLcKM (own : Bool) (p : Path) (g : KG) (tt : KT) (te : KE) (ns : List Nat) : KE := fun s h k => kKeysM p s h fun n vs h => match okLen vs with
  | true => kLcF g tt te (wipeE s ns) vs h (lcEnd own fun v h => unlM n h fun h => k v h)
  | false => false
section
variable {G : Cn} {X : Cx} {ρ ρ' : Rho} {h h' : EH} {H H' : Hp} {L : Nat} {u : HO} {p : Path}
theorem Sim.lockM (S : Sim G ρ h H) {n : Nat} {ks vs : List EV} (e : h[n]? = some (.mix false ks vs)) (eu : H (ρ n) = some u) (i : isD u) (od : Obj) :
    Sim G ρ (setH h n (.mix true ks vs)) (upd H (ρ n) (.frz od u)) ∧ (setH h n (.mix true ks vs)).length = h.length := by
  have sw := Swp.lock eu i od
  have hn := (List.getElem?_eq_some_iff.mp e).1
  rw [setH_eq]
  have hl : (h.set n (.mix true ks vs)).length = h.length := by simp
  refine ⟨⟨fun m y em => ?_, fun a b ha hb q => S.inj a b (by rw [hl] at ha; exact ha) (by rw [hl] at hb; exact hb) q, fun b hb => ⟨?_, fun m hm => (S.ban b hb).2 m (by rw [hl] at hm; exact hm)⟩⟩, hl⟩
  · rw [hl]
    by_cases hm : m = n
    · subst hm
      rw [List.getElem?_set_self hn] at em
      cases em
      obtain ⟨nks, kys, ys, h1, h2, h3, h4, h5, q⟩ := S.obj m _ e
      have q : H (ρ m) = some (nO G.w (ρ m) (nks.zip (kys.zip ys))) := q
      rw [eu] at q
      cases q
      exact ⟨nks, kys, ys, h1, h2, RVs.sw sw _ _ h3, RVs.sw sw _ _ h4, h5, od, upd_same⟩
    · rw [List.getElem?_set_ne (Ne.symm hm)] at em
      have hm2 := (List.getElem?_eq_some_iff.mp em).1
      exact RO.sw sw (fun q => hm (S.inj m n hm2 hn q)) (S.obj m y em)
  · obtain ⟨o, eo⟩ := (S.ban b hb).1
    by_cases q : b = ρ n
    · rw [q]; exact ⟨_, upd_same⟩
    · rw [upd_ne q]; exact ⟨o, eo⟩
theorem Post.unlkM {od : Obj} {hl : EH} {n : Nat} {K : EH → Bool} (p : Post G ρ hl (upd H (ρ n) (.frz od u)) ρ' h' H') (el : hl.length = h.length) (S : Sim G ρ h H) (hn : n < h.length) (e : H (ρ n) = some u) (i : isD u) (z : unlM n h' K = true) :
    H' (ρ n) = some (.frz od u) ∧ Swp H' (upd H' (ρ n) u) (ρ n) u ∧ ∃ h2, K h2 = true ∧ h2.length = h'.length ∧ Post G ρ h H ρ' h2 (upd H' (ρ n) u) := by
  have eF : H' (ρ n) = some (.frz od u) := p.frzs _ od u upd_same
  have sw : Swp H' (upd H' (ρ n) u) (ρ n) u := ⟨fun b hb => upd_ne hb, i, .inr ⟨od, eF⟩, .inl upd_same⟩
  unfold unlM at z
  rw [getH_eq] at z
  split at z
  · rename_i lk ks vs eo
    split at z
    · refine ⟨eF, sw, _, z, by rw [setH_eq]; simp, ?_⟩
      have hn' : n < h'.length := (List.getElem?_eq_some_iff.mp eo).1
      have en : ρ' n = ρ n := p.ext n (by rw [el]; exact hn)
      have h2l : (setH h' n (.mix false ks vs)).length = h'.length := by rw [setH_eq]; simp
      have S2 : Sim G ρ' (setH h' n (.mix false ks vs)) (upd H' (ρ n) u) := by
        refine ⟨fun m y em => ?_, fun a b ha hb q => p.sim.inj a b (by rw [h2l] at ha; exact ha) (by rw [h2l] at hb; exact hb) q, fun b hb => ⟨?_, fun m hm => (p.sim.ban b hb).2 m (by rw [h2l] at hm; exact hm)⟩⟩
        · rw [h2l]
          rw [setH_eq] at em
          by_cases hm : m = n
          · subst hm
            rw [List.getElem?_set_self hn'] at em
            cases em
            obtain ⟨nks, kys, ys, h1, h2, h3, h4, h5, q⟩ := p.sim.obj m _ eo
            obtain ⟨o2, q⟩ := q
            rw [en, eF] at q
            cases q
            exact ⟨nks, kys, ys, h1, h2, RVs.sw sw _ _ h3, RVs.sw sw _ _ h4, h5, by show upd H' (ρ m) _ (ρ' m) = _; rw [en, upd_same]⟩
          · rw [List.getElem?_set_ne (Ne.symm hm)] at em
            have hm2 := (List.getElem?_eq_some_iff.mp em).1
            exact RO.sw sw (fun q => hm (p.sim.inj m n hm2 hn' (q.trans en.symm))) (p.sim.obj m y em)
        · obtain ⟨o, eo⟩ := (p.sim.ban b hb).1
          by_cases q : b = ρ n
          · rw [q]; exact ⟨_, upd_same⟩
          · rw [upd_ne q]; exact ⟨o, eo⟩
      have go : ∀ b o, b ≠ ρ n → H b = some o → upd H (ρ n) (.frz od u) b = some o := fun b o hb eb => by rw [upd_ne hb]; exact eb
      refine ⟨S2, by rw [h2l]; have := p.len; omega, fun m hm => p.ext m (by rw [el]; exact hm), fun b o eb ub => ?_, fun m h1 h2 => ?_, fun b xs eb => ?_, fun b ob v eb => ?_, p.ban⟩
      · have nb : b ≠ ρ n := fun z => ub n hn z.symm
        rw [upd_ne nb]
        exact p.frame b o (go b o nb eb) fun m hm => ub m (by rw [← el]; exact hm)
      · have f := p.fresh m (by rw [el]; exact h1) (by rw [h2l] at h2; exact h2)
        by_cases q : ρ' m = ρ n
        · rw [q, upd_same] at f; cases f
        · rw [upd_ne q] at f; exact f
      · have nb : b ≠ ρ n := by
          intro z; rw [z, e] at eb; cases eb; rcases i with ⟨_, q⟩ | ⟨_, q⟩ | ⟨_, q⟩ <;> cases q
        rw [upd_ne nb]
        exact p.tups b xs (go b _ nb eb)
      · have nb : b ≠ ρ n := by
          intro z; rw [z, e] at eb; cases eb; exact i.frz
        rw [upd_ne nb]
        exact p.frzs b ob v (go b _ nb eb)
    · cases z
  · cases z
theorem kKeysM_is {s : ES} {σ : St} {K : Nat → List EV → EH → Bool} (S : Sim G ρ h H) (R : RS G ρ h.length H s σ) (z : kKeysM p s h K = true) : ∃ (n : Nat) (ks vs : List EV) (nks : List NK) (kys ys : List V), h[n]? = some (.mix false ks vs) ∧ K n ks (setH h n (.mix true ks vs)) = true ∧
    evP p s (setH h n (.mix true ks vs)) = some (.ref n) ∧ RVs G ρ h.length H ks kys ∧ nks.length = kys.length ∧ kys.length = ys.length ∧ H (ρ n) = some (nO G.w (ρ n) (nks.zip (kys.zip ys))) := by
  unfold kKeysM at z
  split at z
  · rename_i n ev
    rw [getH_eq] at z
    split at z
    · rename_i lk ks vs e1
      split at z
      · split at z
        · rename_i m e2
          split at z
          · rename_i eb
            have em := Nat.eq_of_beq_eq_true eb
            subst em
            obtain ⟨nks, kys, ys, h1, h2, h3, h4, h5, q⟩ := S.obj m _ e1
            exact ⟨m, ks, vs, nks, kys, ys, e1, z, e2, h3, by rw [← nkeys_len h1, ← h3.length], by rw [← h3.length, ← h4.length, h5], q⟩
          · cases z
        · cases z
      · cases z
    · cases z
  · cases z
theorem walk_N {o : Obj} {d : Addr} {ks : List EV} {nks : List NK} {kys ys : List V} (e : H d = some (.frz o (nO G.w d (nks.zip (kys.zip ys))))) (rr : RVs G ρ h.length H ks kys) (l1 : nks.length = kys.length) (l2 : kys.length = ys.length) : WalkS G (Itkn G.w d o (nks.zip (kys.zip ys))) (.fix ks) ρ h H := by
  intro ρ' h' H' S c fz i r e1
  have e' := fz d o _ e
  simp only [nxt, nthE_eq, Option.some.injEq] at e1
  subst e1
  have rr' := c ks kys rr
  have hz : (nks.zip (kys.zip ys)).length = kys.length := by rw [List.length_zip, List.length_zip]; omega
  cases ev : ks[i]? with
  | some v =>
    obtain ⟨x, ex, rx⟩ := rr'.get ev
    have hi := (List.getElem?_eq_some_iff.mp ex).1
    refine ⟨⟨e', by omega⟩, ?_⟩
    rintro y H'' ⟨rfl, z, ez, rfl⟩
    rw [List.getElem?_zip_eq_some, List.getElem?_zip_eq_some] at ez
    rw [ex] at ez
    cases ez.2.1
    exact ⟨Post.refl S, rx⟩
  | none =>
    have := List.getElem?_eq_none_iff.mp ev
    have := rr'.length
    exact ⟨e', by omega⟩
theorem keysM_go {s : ES} {σ : St} {R : It → Hp → Prop} {n : Nat} {hl : EH} {H1 : Hp} {o : Obj} {ks : List EV} {nks : List NK} {kys ys : List V} (S : Sim G ρ hl H1) (Rs : RS G ρ hl.length H1 s σ) (ev : evP p s hl = some (.ref n)) (e : H1 (ρ n) = some (.frz o (nO G.w (ρ n) (nks.zip (kys.zip ys))))) (rr : RVs G ρ hl.length H1 ks kys) (l1 : nks.length = kys.length) (l2 : kys.length = ys.length)
    (af : ∀ H2 ρ2, Post G ρ hl H1 ρ2 hl H2 → WalkS G (Itkn G.w (ρ n) o (nks.zip (kys.zip ys))) (.fix ks) ρ2 hl H2 → R (Itkn G.w (ρ n) o (nks.zip (kys.zip ys))) H2) : iKeysU G.w (RE G (kP p)) σ H1 R := by
  refine ⟨ρ, s, hl, fun v h' => @decide (v = .ref n ∧ h' = hl) (Classical.propDecidable _), S, Rs, ?_, fun v h2' ρ2 H2 x z2 p2 r2 => ?_⟩
  · unfold kP
    rw [ev]
    exact @decide_eq_true _ (Classical.propDecidable _) ⟨rfl, rfl⟩
  · obtain ⟨rfl, rfl⟩ := @of_decide_eq_true _ (Classical.propDecidable _) z2
    unfold RV at r2
    obtain ⟨hn, rfl⟩ := r2
    have en := p2.ext n hn
    rw [en]
    exact ⟨ρ n, o, _, rfl, p2.frzs _ _ _ e, af H2 ρ2 p2 (walk_N (p2.frzs _ _ _ e) (p2.rvs rr) l1 l2)⟩
end
section
variable {G : Cn} {X : Cx} {ρ ρ' : Rho} {h h' : EH} {H H' : Hp}
variable {e tg elt : Expr} {ifs : List Expr} {te : KE} {tt : KT} {gg : KG} {pos spos py : Pos} {sf : KS} {body : List Stmt} {is : List Nat} {p : Path}
theorem s_forKM (g : Gd G X) (hp : PassesOwn (model X.prog X.w) X.A X.env X.xe) (he : XE G X e (kP p)) (hg : XG G X tg gg is) (hb : XSs G X body sf)
    (hs : ∀ z, foldedSetIterable e X.env z = pure z := by intro _; rfl) : XS G X (.For tg e body [] pos) (kForKM p gg sf) := by
  refine PS.imp (ps_lock (ps_for hp g.c (pi_keysU he) hg hb hs)) fun D σ H ⟨ρ, s, h, nx, rt, bk, ct, S, R, z, a1, a2, a3, a4⟩ => ?_
  obtain ⟨n, ks, vs, nks, kys, ys, e1, z1, ev, rr, l1, l2, eu⟩ := kKeysM_is S R z
  have hn := (List.getElem?_eq_some_iff.mp e1).1
  have hu : isD (nO G.w (ρ n) (nks.zip (kys.zip ys))) := .inr (.inr ⟨_, rfl⟩)
  refine ⟨ρ n, _, eu, hu.mut, fun od => ?_⟩
  obtain ⟨S1, el⟩ := S.lockM e1 eu hu od
  have sw := Swp.lock eu hu od
  have R1 : RS G ρ (setH h n (.mix true ks vs)).length (upd H (ρ n) (.frz od (nO G.w (ρ n) (nks.zip (kys.zip ys))))) s σ := by rw [el]; exact R.sw sw
  rw [g.w]
  refine keysM_go S1 R1 ev upd_same (by rw [el]; exact RVs.sw sw _ _ rr) l1 l2 fun H2 ρ2 p2 w => ?_
  rw [forF_eq gg sf ks ks [] rfl] at z1
  exact forS_ok (wi := fun _ _ _ => True) (tb := fun _ _ _ => True) p2.sim (p2.rs R1) w z1
    (fun s' h' ρ' H' σ' z' p' r' => let ⟨e1, sw2, h2, z2, l2, pp⟩ := (p2.trans p').unlkM el S hn eu hu z'; ⟨e1, a1 _ _ _ _ _ z2 pp (by rw [l2]; exact r'.sw sw2)⟩)
    (fun v h' ρ' H' x' z' p' r' => let ⟨e1, sw2, h2, z2, l2, pp⟩ := (p2.trans p').unlkM el S hn eu hu z'; ⟨e1, a2 _ _ _ _ _ z2 pp (by rw [l2]; exact RV.sw sw2 _ _ r')⟩)
theorem x_lcKM (own : Bool) {scope : Scope} {ow : List (Str × Nat)} (g : Gd G X) (hv : XE G X e (kP p)) (ok : BlkOk X.N X.env.scope scope ow)
    (hg : ∀ (s : Shared) (H : Hp) (C : Addr) (cl : List (Str × Addr)) (fp : List Addr), XG G (X.blk s H scope (compEnvC scope cl C X.env) fp) tg gg is) (ht : ∀ (s : Shared) (H : Hp) (C : Addr) (cl : List (Str × Addr)) (fp : List Addr), XTs G (X.blk s H scope (compEnvC scope cl C X.env) fp) ifs tt)
    (he : ∀ (s : Shared) (H : Hp) (C : Addr) (cl : List (Str × Addr)) (fp : List Addr), XE G (X.blk s H scope (compEnvC scope cl C X.env) fp) elt te) (hvs : ∀ i ∈ is, i ∈ ow.map (·.2) := by decide)
    (hs : ∀ z, foldedSetIterable e X.env z = pure z := by intro _; rfl) :
    XE G X (.ListComp elt [⟨tg, e, ifs, 0⟩] scope pos) (kLcKM own p gg tt te (ow.map (·.2))) := by
  refine PE.imp (pe_lock (pe_lc g.c g.nd (pi_keysU hv) ok hg ht he hs)) fun σ H Q ⟨ρ, s, h, k, S, R, z, af⟩ => ?_
  obtain ⟨n, ks, vs, nks, kys, ys, e1, z1, ev, rr, l1, l2, eu⟩ := kKeysM_is S R z
  have hn := (List.getElem?_eq_some_iff.mp e1).1
  have hu : isD (nO G.w (ρ n) (nks.zip (kys.zip ys))) := .inr (.inr ⟨_, rfl⟩)
  refine ⟨ρ n, _, eu, hu.mut, fun od => ?_⟩
  obtain ⟨S1, el⟩ := S.lockM e1 eu hu od
  have sw := Swp.lock eu hu od
  have R1 : RS G ρ (setH h n (.mix true ks vs)).length (upd H (ρ n) (.frz od (nO G.w (ρ n) (nks.zip (kys.zip ys))))) s σ := by rw [el]; exact R.sw sw
  show tLc (iKeysU X.w (RE G (kP p))) (RG G gg is) (RT G tt) (RE G te) (ow.map (·.2)) σ _ _
  unfold tLc
  rw [g.w]
  refine keysM_go S1 R1 ev upd_same (by rw [el]; exact RVs.sw sw _ _ rr) l1 l2 fun H2 ρ2 p2 w => ?_
  intro D hD
  split at z1
  · rename_i ol
    rw [lcF_eq gg tt te _ ks ks [] _ _ rfl] at z1
    have := okLen_is ol
    exact lcS_ok (Q := fun x H' => H' (ρ n) = some (.frz od (nO G.w (ρ n) (nks.zip (kys.zip ys)))) ∧ Q x (upd H' (ρ n) (nO G.w (ρ n) (nks.zip (kys.zip ys))))) p2.sim (p2.rs R1) w hvs z1 (by omega)
      (fun v h' ρ' H' x' z' p' r' => let ⟨e1, sw2, h2, z2, l2, pp⟩ := (p2.trans p').unlkM el S hn eu hu z'; ⟨e1, af _ _ _ _ _ z2 pp (by rw [l2]; exact RV.sw sw2 _ _ r')⟩) hD
  · cases z1
end
end Eg

set_option autoImplicit false
set_option maxRecDepth 100000
set_option maxHeartbeats 1000000
/-! E54: calls of defs with keywords, in the parameters' sequence. -/
namespace Eg
open PySem PySem.Spec L2 PyProof.Rows
def gAp {α : Type} (n m : Nat) (us ws : List α) : List α := if us.length = n ∧ ws.length = m then us ++ ws else []
theorem kb_of {K : PySem.W.Frag} {fd : FuncData} {ps ks : List Str} {n m : Nat} (hp : ps.length = n + m) (hm : 0 < m)
    (h : ∀ us ws : List Value, us.length = n → ws.length = m → bindArgs fd ⟨us, ks.zip ws⟩ = pure (ps.zip (us ++ ws))) : KBinds K fd ps ks (gAp n m) (gAp n m) where
  to := fun s us ws _ hl => by
    by_cases e : us.length = n ∧ ws.length = m
    · rw [gAp, if_pos e]
      exact .of_eq (h us ws e.1 e.2)
    · rw [gAp, if_neg e] at hl
      simp at hl
      omega
  rel := fun {vs us zs ws} r rz => by
    have e1 := r.length
    have e2 := rz.length
    unfold gAp
    rw [e1, e2]
    split
    · exact Vals.append r rz
    · exact .nil
theorem Fun.kbinds {K : PySem.W.Frag} {x qual : Str} {st : Stmt} {f : Addr} {fd : FuncData} {ps ks : List Str} {n m : Nat} (F : Fun K x qual st f fd) (hp : ps.length = n + m) (hm : 0 < m)
    (h : ∀ (kV doc pm : Value) (an : Option Addr) (cdv ct : Value) (us ws : List Value), us.length = n → ws.length = m → bindArgs (PySem.W.fnOf x qual (defArgs st) (defBody st) (defScope st) .none kV doc pm an cdv ct) ⟨us, ks.zip ws⟩ = pure (ps.zip (us ++ ws))) : KBinds K fd ps ks (gAp n m) (gAp n m) := by
  obtain ⟨oc, od, kV, doc, pm, an, cdv, ct, osl, rfl, lk, hcd⟩ := F.ex
  exact kb_of hp hm (h kV doc pm an cdv ct)
section
variable {X : Cx} {k : Nat} {f : Addr} {fd : FuncData} {ps ks : List Str} {sp : Sp} {x : Str} {p pos kpos : Pos} {e : Expr} {es : List Expr} {kws : List Keyword} {t tk : TA} {g : List Value → List Value → List Value} {gV : List V → List V → List V}
theorem pe_callKG (F : FnG X.prog X.w X.K X.mg X.base k f fd ps sp) (gd : X.A.guards = some []) (room : Room k X.A) (hg : Gl X x) (hm : X.mg x = some (.ref f)) (hk : PySem.W.keepIn X.K (.ref f) = true) (hb : KBinds X.K fd ps ks g gV)
    (ha : PA X (e :: es) t) (hkw : PK X kws tk) (hall : (backToKw pos (keywordEach kws X.env)).all (·.1.isSome) = true) (hks : (backToKw pos (keywordEach kws X.env)).filterMap (·.1) = ks)
    (hdb : (x == ("__debug__" : Str)) = false) (he : starEach (e :: es) X.env = (false, eval e X.env) :: starEach es X.env)
    (hpl : ((backTo pos (starEach (e :: es) X.env)).any (·.1) || (backToKw pos (keywordEach kws X.env)).any (·.1.isNone)) = false) :
    PE X (.Call (.Name x p) (e :: es) kws pos) (tCallKG sp gV t tk) := by
  refine ⟨fun pins s σ H Q I h => ?_⟩
  refine wpAny_Call_Name_kw (ld_glob I hg hm ?_ hdb)
  refine PySem.W.callWith_KW (h₀ := X.base) I.ok.mod.kin hk hall (thn (ha.run pos pins s σ H _ I h) fun us s1 ⟨vs, H1, I1, r, q⟩ => ?_) hpl he
  refine thn (hkw.run pos pins s1 σ H1 _ I1 q) fun ws s2 ⟨zs, H2, I2, rz, q2⟩ => ⟨I2.kIn, ?_⟩
  rw [hks]
  exact run_gk F gd room hb I2 r rz q2
theorem pe_callKG0 (F : FnG X.prog X.w X.K X.mg X.base k f fd ps sp) (gd : X.A.guards = some []) (room : Room k X.A) (hg : Gl X x) (hm : X.mg x = some (.ref f)) (hk : PySem.W.keepIn X.K (.ref f) = true) (hb : KBinds X.K fd ps ks g gV)
    (hkw : PK X kws tk) (hall : (backToKw pos (keywordEach kws X.env)).all (·.1.isSome) = true) (hks : (backToKw pos (keywordEach kws X.env)).filterMap (·.1) = ks)
    (hdb : (x == ("__debug__" : Str)) = false) (hpl : ((backTo pos (starEach [] X.env)).any (·.1) || (backToKw pos (keywordEach kws X.env)).any (·.1.isNone)) = false) :
    PE X (.Call (.Name x p) [] kws pos) (tCallKG sp gV tNil tk) := by
  refine ⟨fun pins s σ H Q I h => ?_⟩
  refine wpAny_Call_Name_kw (ld_glob I hg hm ?_ hdb)
  refine PySem.W.callWith_KW0 (h₀ := X.base) I.ok.mod.kin hk hall ?_ hpl
  refine thn (hkw.run pos pins s σ H _ I h) fun ws s2 ⟨zs, H2, I2, rz, q2⟩ => ⟨I2.kIn, ?_⟩
  rw [hks]
  exact run_gk (us := []) (vs := []) F gd room hb I2 .nil rz q2
end
/-- a keywords' code -/
def XK' (G : Cn) (X : Cx) (kws : List Keyword) (f : KA) : Prop := PK X kws (RA G f)
section
variable {G : Cn} {X : Cx} {e : Expr} {es : List Expr} {kws : List Keyword} {f : KE} {fa fk : KA} {p pos kpos : Pos} {nm : Option Str}
theorem PK.imp {t u : TA} (p : PK X kws t) (i : ∀ σ H Q, u σ H Q → t σ H Q) : PK X kws u := ⟨fun pos pins s σ H Q I q => p.run pos pins s σ H Q I (i σ H Q q)⟩
theorem k_nil : XK' G X [] kNil := PK.imp pk_nil fun σ H Q ⟨ρ, s, h, k, S, R, z, af⟩ => af _ h ρ H _ z (Post.refl S) RVs.nil
theorem k_cons (he : XE G X e f) (hr : XK' G X kws fk) : XK' G X (⟨nm, e, kpos⟩ :: kws) (kCons f fk) :=
  PK.imp (pk_cons he hr) fun σ H Q ⟨ρ, s, h, k, S, R, z, af⟩ => ⟨ρ, s, h, _, S, R, z, fun v h1 ρ1 H1 x z1 p1 r1 => ⟨ρ1, s, h1, _, p1.sim, p1.rs R, z1, fun vs h2 ρ2 H2 xs z2 p2 r2 => af _ h2 ρ2 H2 _ z2 (p1.trans p2) (RVs.cons (p2.rv r1) r2)⟩⟩
/-- f(e, .., k = v, ..) -/
def kCallK (n m : Nat) (F : KF) (fa fk : KA) : KE := fun s h k => fa s h fun vs h => fk s h fun ws h => match Nat.beq (lenE vs) n && Nat.beq (lenE ws) m with
  | true => F (appE vs ws) h k
  | false => false
def DfOkK (P : Program) (w : World) (mg : Str → Option Value) (base : Heap) (G : Cn) (j : Nat) (x : Str) (ps ks : List Str) (n m : Nat) (F : KF) : Prop :=
  ps.length = n + m ∧ ∃ fn fd, mg x = some (.ref fn) ∧ PySem.W.keepIn G.K (.ref fn) = true ∧ KBinds G.K fd ps ks (gAp n m) (gAp n m) ∧ FnG P w G.K mg base j fn fd ps (SpF G ps.length F)
variable {j k n m : Nat} {ps ks : List Str} {F : KF} {x : Str}
theorem callK_sp {ρ : Rho} {h : EH} {H : Hp} {vs ws : List EV} {xs zs : List V} {kk : EV → EH → Bool} {Q : VK} (hl : ps.length = n + m) (S : Sim G ρ h H) (r1 : RVs G ρ h.length H vs xs) (r2 : RVs G ρ h.length H ws zs)
    (z : (match Nat.beq (lenE vs) n && Nat.beq (lenE ws) m with
      | true => F (appE vs ws) h kk
      | false => false) = true) (af : After G ρ h H kk Q) (E : XK) : SpF G ps.length F (gAp n m xs zs) H Q E := by
  split at z
  · rename_i e
    rw [Bool.and_eq_true] at e
    have e1 := Nat.eq_of_beq_eq_true e.1
    have e2 := Nat.eq_of_beq_eq_true e.2
    rw [lenE_eq] at e1 e2
    rw [r1.length] at e1
    rw [r2.length] at e2
    rw [appE_eq] at z
    rw [gAp, if_pos ⟨e1, e2⟩]
    exact ⟨by rw [List.length_append]; omega, ρ, h, _, kk, S, r1.append r2, z, af⟩
  · cases z
theorem x_callK (g : Gd G X) (hF : DfOkK X.prog X.w X.mg X.base G j x ps ks n m F) (hr : Room k X.A) (hg : Gl X x) (ha : XA G X (e :: es) fa) (hkw : XK' G X kws fk) (hjk : j ≤ k := by exact Nat.le_of_ble_eq_true rfl)
    (hall : (backToKw pos (keywordEach kws X.env)).all (·.1.isSome) = true := by rfl) (hks : (backToKw pos (keywordEach kws X.env)).filterMap (·.1) = ks := by rfl)
    (hdb : (x == ("__debug__" : Str)) = false := by decide) (he : starEach (e :: es) X.env = (false, eval e X.env) :: starEach es X.env := by rfl)
    (hpl : ((backTo pos (starEach (e :: es) X.env)).any (·.1) || (backToKw pos (keywordEach kws X.env)).any (·.1.isNone)) = false := by rfl) :
    XE G X (.Call (.Name x p) (e :: es) kws pos) (kCallK n m F fa fk) := by
  obtain ⟨hl, fn, fd, hm, hk, hb, hF⟩ := hF
  rw [← g.k] at hk hb hF
  refine PE.imp (pe_callKG hF g.gd (hr.mono hjk) hg hm hk hb ha hkw hall hks hdb he hpl) fun σ H Q ⟨ρ, s, h, kk, S, R, z, af⟩ => ⟨ρ, s, h, _, S, R, z, fun vs h1 ρ1 H1 xs z1 p1 r1 => ⟨ρ1, s, h1, _, p1.sim, p1.rs R, z1, fun ws h2 ρ2 H2 zs z2 p2 r2 => ?_⟩⟩
  exact callK_sp hl p2.sim (p2.rvs r1) r2 z2 ((af.next p1).next p2) _
theorem x_callK0 (g : Gd G X) (hF : DfOkK X.prog X.w X.mg X.base G j x ps ks 0 m F) (hr : Room k X.A) (hg : Gl X x) (hkw : XK' G X kws fk) (hjk : j ≤ k := by exact Nat.le_of_ble_eq_true rfl)
    (hall : (backToKw pos (keywordEach kws X.env)).all (·.1.isSome) = true := by rfl) (hks : (backToKw pos (keywordEach kws X.env)).filterMap (·.1) = ks := by rfl)
    (hdb : (x == ("__debug__" : Str)) = false := by decide)
    (hpl : ((backTo pos (starEach [] X.env)).any (·.1) || (backToKw pos (keywordEach kws X.env)).any (·.1.isNone)) = false := by rfl) :
    XE G X (.Call (.Name x p) [] kws pos) (kCallK 0 m F kNil fk) := by
  obtain ⟨hl, fn, fd, hm, hk, hb, hF⟩ := hF
  rw [← g.k] at hk hb hF
  refine PE.imp (pe_callKG0 hF g.gd (hr.mono hjk) hg hm hk hb hkw hall hks hdb hpl) fun σ H Q ⟨ρ, s, h, kk, S, R, z, af⟩ => ?_
  refine (fun q => q : (RA G fk) σ H (fun zs H2 => SpF G ps.length F (gAp 0 m [] zs) H2 Q XN) → tCallKG (SpF G ps.length F) (gAp 0 m) tNil (RA G fk) σ H Q) ?_
  exact ⟨ρ, s, h, _, S, R, z, fun ws h2 ρ2 H2 zs z2 p2 r2 => callK_sp (vs := []) hl p2.sim RVs.nil r2 z2 (af.next p2) _⟩
end
end Eg
namespace Eg
open PySem
/-- no lambdas -/
def lamNo : Nat → LamI := fun _ => ⟨"", ⟨[], [], none, [], [], none, []⟩, .Constant .none 0 ⟨0, 0, 0, 0⟩, ⟨.function, [], false, false, []⟩, []⟩
end Eg

set_option autoImplicit false
set_option maxRecDepth 100000
set_option maxHeartbeats 4000000
namespace Q24
open PySem PySem.Spec L2 Eg
def top (i : Nat) : Stmt := PySem.Challenge.pw_allonetree_k24_clashes_by_hand.main.body.getD i (.Pass ⟨0, 0, 0, 0⟩)
abbrev s__law_pot : Stmt := top 86
abbrev s__law_take : Stmt := top 87
abbrev s__law_born : Stmt := top 89
abbrev s__law_heard : Stmt := top 88
abbrev s_is_whole : Stmt := top 18
abbrev s_is_integer : Stmt := top 19
abbrev s_is_life : Stmt := top 26
abbrev s_is_tuple : Stmt := top 20
abbrev s_is_dot : Stmt := top 27
abbrev s_is_ascending : Stmt := top 28
abbrev s_is_covers : Stmt := top 29
abbrev s_is_name : Stmt := top 22
abbrev s_is_parent : Stmt := top 38
abbrev s_is_said : Stmt := top 21
abbrev s_is_text : Stmt := top 25
abbrev s_is_rest : Stmt := top 39
abbrev s_is_deed : Stmt := top 40
abbrev s_dot_of : Stmt := top 41
abbrev s_is_next : Stmt := top 46
abbrev s_is_heard : Stmt := top 47
abbrev s_check_heard : Stmt := top 48
abbrev s_borns_of : Stmt := top 66
abbrev s_folders_in : Stmt := top 59
abbrev s_is_move : Stmt := top 55
abbrev s_item_of : Stmt := top 42
abbrev s_can_bear : Stmt := top 57
abbrev s_is_within : Stmt := top 56
abbrev s_place_by : Stmt := top 58
abbrev s_sequence : Stmt := top 43
abbrev s_gone_through : Stmt := top 60
abbrev s_placed_items : Stmt := top 61
abbrev s_covered_of : Stmt := top 67
abbrev s_live_of : Stmt := top 68
abbrev s_standing_items : Stmt := top 69
abbrev s_in_folders : Stmt := top 78
abbrev s_Names___init__ : Stmt := inClass (top 77) 0
abbrev s_folded : Stmt := top 23
abbrev s_Names_give : Stmt := inClass (top 77) 2
abbrev s_Names_is_free : Stmt := inClass (top 77) 1
abbrev s_Names_made : Stmt := inClass (top 77) 3
abbrev s_named : Stmt := top 79
abbrev s_entries_of : Stmt := top 80
abbrev s_path_under : Stmt := top 24
abbrev s_rows_of : Stmt := top 83
abbrev s_picture : Stmt := top 84
abbrev s__law_shown : Stmt := top 90
abbrev s__law_names : Stmt := top 91
abbrev s_key_order : Stmt := top 81
abbrev s_entries : Stmt := top 82
abbrev s__law_right : Stmt := top 92
abbrev s_law : Stmt := top 93
def fldOf : Nat → Str
  | 0 => "own_taken"
  | 1 => "own_made"
  | _ => ""
def clsOf (C0 d : Addr) : Nat → Addr
  | 0 => C0
  | _ => d
abbrev Gc (K : PySem.W.Frag) (w : World) (C0 : Addr) : Cn := ⟨K, clsOf C0 0, fldOf, 1, 2, w, lamNo, fun _ => none⟩
def tbl_PARTS : List (List Nat × EV) := [([98, 111, 114, 110], (.int 7)), ([112, 117, 116], (.int 6)), ([119, 114, 105, 116, 101], (.int 6)), ([103, 111, 110, 101], (.int 5))]
noncomputable abbrev F__law_pot : KF := potF
noncomputable abbrev F__law_take : KF := takeX
noncomputable def B__law_born : KS := (kRet (kTupD (kCons (kC (.str [98, 111, 114, 110])) (kCons (kTupD (kCons (kVar 0) (kCons (kVar 1) kNil))) (kCons (kVar 2) (kCons (kVar 3) (kCons (kVar 4) (kCons (kVar 5) (kCons (kIf (kTv (kBin (pEqF false) (kVar 3) (kC (.str [108, 105, 110, 107])))) (kC (.str [116, 111])) (kC (.str []))) kNil)))))))))
noncomputable def F__law_born : KF := mkF 6 B__law_born
noncomputable def B__law_heard : KS := (kSeq (kAsg (kCall (bDict false true) (kCons (kLc false (kIt (kVar 0)) (gVar 2) kYes (kTupD (kCons (kBin pIxU (kVar 2) (kC (.int 1))) (kCons (kVar 2) kNil))) [2]) kNil)) (gVar 1)) (kRet (kCall bTuple (kCons (kLc false (kIt (kCall (bSorted false) (kCons (kVar 1) kNil))) (gVar 3) kYes (kBin pIxU (kVar 1) (kVar 3)) [3]) kNil))))
noncomputable def F__law_heard : KF := mkF 4 B__law_heard
noncomputable def B_is_whole : KS := (kRet (kAnd (kIsi .int (kVar 0)) (kNot (kIsi .bool (kVar 0)))))
noncomputable def F_is_whole : KF := mkF 1 B_is_whole
noncomputable def B_is_integer : KS := (kRet (kAnd (kCall (chkN 1 F_is_whole) (kCons (kVar 0) kNil)) (kAnd (kBin (pLt .le) (kVar 1) (kVar 0)) (kOr (kBin (pIs false) (kVar 2) (kC .non)) (kBin (pLt .le) (kVar 0) (kVar 2))))))
noncomputable def F_is_integer : KF := mkF 3 B_is_integer
noncomputable def B_is_life : KS := (kRet (kCall (chkN 3 F_is_integer) (kCons (kVar 0) (kCons (kC (.int 1)) (kCons (kC (.int 1000000)) kNil)))))
noncomputable def F_is_life : KF := memoB (mkF 1 B_is_life)
noncomputable def B_is_tuple : KS := (kRet (kAnd (kIsi .tuple (kVar 0)) (kAnd (kBin (pLt .le) (kVar 1) (kCall bLen (kCons (kVar 0) kNil))) (kOr (kBin (pIs false) (kVar 2) (kC .non)) (kBin (pLt .le) (kCall bLen (kCons (kVar 0) kNil)) (kVar 2))))))
noncomputable def F_is_tuple : KF := mkF 3 B_is_tuple
noncomputable def B_is_dot : KS := (kRet (kAnd (kCall (chkN 3 F_is_tuple) (kCons (kVar 0) (kCons (kC (.int 2)) (kCons (kC (.int 2)) kNil)))) (kAnd (kCall (chkN 1 F_is_life) (kCons (kBin pIxU (kVar 0) (kC (.int 0))) kNil)) (kCall (chkN 3 F_is_integer) (kCons (kBin pIxU (kVar 0) (kC (.int 1))) (kCons (kC (.int 0)) (kCons (kC .non) kNil)))))))
noncomputable def F_is_dot : KF := memoB (mkF 1 B_is_dot)
noncomputable def B_is_ascending : KS := (kRet (kCall (bAll false) (kCons (kLc false (kZip (kCons (kVar 0) (kCons (kSl (kVar 0) (kSome (kC (.int 1))) kNo) kNil))) (gTup 2 (gsCons (gVar 1) (gsCons (gVar 2) gsNil))) kYes (kBin (pLt .lt) (kVar 1) (kVar 2)) [1, 2]) kNil)))
noncomputable def F_is_ascending : KF := mkF 3 B_is_ascending
noncomputable def B_is_covers : KS := (kRet (kAnd (kIsi .tuple (kVar 0)) (kAnd (kCall (bAll false) (kCons (kLc false (kIt (kVar 0)) (gVar 1) kYes (kCall (chkN 1 F_is_dot) (kCons (kVar 1) kNil)) [1]) kNil)) (kCall (chkN 1 F_is_ascending) (kCons (kVar 0) kNil)))))
noncomputable def F_is_covers : KF := memoB (mkF 2 B_is_covers)
noncomputable def B_is_name : KS := (kRet (kAnd (kIsi .str (kVar 0)) (kAnd (kBin (pEqF true) (kVar 0) (kC (.str []))) (kAnd (kBin (pInU true) (kVar 0) (kC (.kt [(.str [46]), (.str [46, 46])]))) (kCall (bAll false) (kCons (kLc false (kSgn (kVar 0)) (gVar 1) kYes (kBin (pInU false) (kVar 1) (kC (.str [97, 98, 99, 100, 101, 102, 103, 104, 105, 106, 107, 108, 109, 110, 111, 112, 113, 114, 115, 116, 117, 118, 119, 120, 121, 122, 65, 66, 67, 68, 69, 70, 71, 72, 73, 74, 75, 76, 77, 78, 79, 80, 81, 82, 83, 84, 85, 86, 87, 88, 89, 90, 48, 49, 50, 51, 52, 53, 54, 55, 56, 57, 46, 45, 95]))) [1]) kNil))))))
noncomputable def F_is_name : KF := memoB (mkF 2 B_is_name)
noncomputable def B_is_parent : KS := (kRet (kOr (kBin (pIs false) (kVar 0) (kC .non)) (kCall (chkN 1 F_is_dot) (kCons (kVar 0) kNil))))
noncomputable def F_is_parent : KF := memoB (mkF 1 B_is_parent)
noncomputable def B_is_said : KS := (kRet (kAnd (kIsi .str (kVar 0)) (kBin (pInU false) (kVar 0) (kVar 1))))
noncomputable def F_is_said : KF := mkF 2 B_is_said
noncomputable def B_is_text : KS := (kSeq (kIfS (kTor (kTnot (kTv (kIsi .str (kVar 0)))) (kTv (kBin (pLt .gt) (kCall bLen (kCons (kVar 0) kNil)) (kC (.int 400))))) (kRet (kC (.bl false))) kPass) (kRet (kCall (bAll false) (kCons (kLc false (kSgn (kVar 0)) (gVar 1) kYes (kChain (pLt .le) (pLt .le) (kC (.str [32])) (kVar 1) (kC (.str [126]))) [1]) kNil))))
noncomputable def F_is_text : KF := memoB (mkF 2 B_is_text)
noncomputable def B_is_rest : KS := (kSeq (kAsg (kSl (kVar 0) (kSome (kC (.int 3))) kNo) (gVar 1)) (kSeq (kIfS (kTv (kBin (pEqF false) (kBin pIxU (kVar 0) (kC (.int 0))) (kC (.str [98, 111, 114, 110])))) (kSeq (kAsg (kVar 1) (gTup 4 (gsCons (gVar 2) (gsCons (gVar 3) (gsCons (gVar 4) (gsCons (gVar 5) gsNil)))))) (kSeq (kIfS (kTor (kTnot (kTv (kCall (chkN 2 F_is_said) (kCons (kVar 2) (kCons (kC (.kt [(.str [102, 111, 108, 100, 101, 114]), (.str [102, 105, 108, 101]), (.str [108, 105, 110, 107])])) kNil))))) (kTor (kTnot (kTv (kCall (chkN 1 F_is_parent) (kCons (kVar 3) kNil)))) (kTnot (kTv (kCall (chkN 1 F_is_name) (kCons (kVar 4) kNil)))))) (kRet (kC (.bl false))) kPass) (kRet (kAnd (kCall (chkN 1 F_is_text) (kCons (kVar 5) kNil)) (kOr (kBin (pEqF false) (kVar 2) (kC (.str [108, 105, 110, 107]))) (kBin (pEqF false) (kVar 5) (kC (.str [])))))))) kPass) (kSeq (kIfS (kTnot (kTv (kCall (chkN 1 F_is_dot) (kCons (kBin pIxU (kVar 1) (kC (.int 0))) kNil)))) (kRet (kC (.bl false))) kPass) (kSeq (kIfS (kTv (kBin (pEqF false) (kBin pIxU (kVar 0) (kC (.int 0))) (kC (.str [112, 117, 116])))) (kRet (kAnd (kCall (chkN 1 F_is_parent) (kCons (kBin pIxU (kVar 1) (kC (.int 1))) kNil)) (kCall (chkN 1 F_is_name) (kCons (kBin pIxU (kVar 1) (kC (.int 2))) kNil)))) kPass) (kRet (kAnd (kCall (chkN 1 F_is_covers) (kCons (kBin pIxU (kVar 1) (kUn pNeg (kC (.int 1)))) kNil)) (kOr (kBin (pEqF false) (kBin pIxU (kVar 0) (kC (.int 0))) (kC (.str [103, 111, 110, 101]))) (kCall (chkN 1 F_is_text) (kCons (kBin pIxU (kVar 1) (kC (.int 1))) kNil)))))))))
noncomputable def F_is_rest : KF := memoB (mkF 6 B_is_rest)
noncomputable def B_is_deed : KS := (kSeq (kIfS (kTor (kTnot (kTv (kIsi .tuple (kVar 0)))) (kTor (kTv (kBin (pEqF false) (kVar 0) (kTupD kNil))) (kTnot (kTv (kCall (chkN 2 F_is_said) (kCons (kBin pIxU (kVar 0) (kC (.int 0))) (kCons (kC (.tup (strsE tbl_PARTS))) kNil))))))) (kRet (kC (.bl false))) kPass) (kSeq (kIfS (kTor (kTv (kBin (pEqF true) (kCall bLen (kCons (kVar 0) kNil)) (kTabIx tbl_PARTS (kBin pIxU (kVar 0) (kC (.int 0)))))) (kTnot (kTv (kCall (chkN 1 F_is_dot) (kCons (kBin pIxU (kVar 0) (kC (.int 1))) kNil))))) (kRet (kC (.bl false))) kPass) (kRet (kAnd (kCall (chkN 1 F_is_whole) (kCons (kBin pIxU (kVar 0) (kC (.int 2))) kNil)) (kAnd (kBin (pLt .ge) (kBin pIxU (kVar 0) (kC (.int 2))) (kC (.int 1))) (kCall (chkN 1 F_is_rest) (kCons (kVar 0) kNil)))))))
noncomputable def F_is_deed : KF := memoB (mkF 1 B_is_deed)
noncomputable def B_dot_of : KS := (kRet (kBin pIxU (kVar 0) (kC (.int 1))))
noncomputable def F_dot_of : KF := mkF 1 B_dot_of
noncomputable def B_is_next : KS := (kSeq (kAsg (kCall (chkN 1 F_dot_of) (kCons (kVar 1) kNil)) (gTup 2 (gsCons (gVar 2) (gsCons (gVar 3) gsNil)))) (kSeq (kIfS (kTor (kTv (kBin (pIs false) (kVar 0) (kC .non))) (kTv (kBin (pLt .lt) (kBin pIxU (kCall (chkN 1 F_dot_of) (kCons (kVar 0) kNil)) (kC (.int 0))) (kVar 2)))) (kRet (kBin (pEqF false) (kVar 3) (kC (.int 0)))) kPass) (kRet (kAnd (kBin (pEqF false) (kCall (chkN 1 F_dot_of) (kCons (kVar 0) kNil)) (kTupD (kCons (kVar 2) (kCons (kBin pSub (kVar 3) (kC (.int 1))) kNil)))) (kBin (pLt .lt) (kBin pIxU (kVar 0) (kC (.int 2))) (kBin pIxU (kVar 1) (kC (.int 2))))))))
noncomputable def F_is_next : KF := mkF 4 B_is_next
noncomputable def B_is_heard : KS := (kSeq (kIfS (kTor (kTnot (kTv (kIsi .tuple (kVar 0)))) (kTnot (kTv (kCall (bAll false) (kCons (kLc false (kIt (kVar 0)) (gVar 3) kYes (kCall (chkN 1 F_is_deed) (kCons (kVar 3) kNil)) [3]) kNil))))) (kRet (kC (.bl false))) kPass) (kRet (kCall (bAll false) (kCons (kLc false (kEnumT (kCons (kVar 0) kNil)) (gTup 2 (gsCons (gVar 1) (gsCons (gVar 2) gsNil))) kYes (kCall (chkN 2 F_is_next) (kCons (kIf (kTv (kBin (pLt .gt) (kVar 1) (kC (.int 0)))) (kBin pIxU (kVar 0) (kBin pSub (kVar 1) (kC (.int 1)))) (kC .non)) (kCons (kVar 2) kNil))) [1, 2]) kNil))))
noncomputable def F_is_heard : KF := memoB (mkF 4 B_is_heard)
noncomputable def B_check_heard : KS := (kIfS (kTnot (kTv (kCall (chkN 1 F_is_heard) (kCons (kVar 0) kNil)))) kNever kPass)
noncomputable def F_check_heard : KF := mkF 1 B_check_heard
noncomputable def B_borns_of : KS := (kRet (kDc false true (kIt (kVar 0)) (gVar 1) (kTv (kBin (pEqF false) (kBin pIxU (kVar 1) (kC (.int 0))) (kC (.str [98, 111, 114, 110])))) (kBin pIxU (kVar 1) (kC (.int 1))) (kVar 1) [1]))
noncomputable def F_borns_of : KF := mkF 2 B_borns_of
noncomputable def B_folders_in : KS := (kRet (kDc false true (kIt (kVar 0)) (gVar 1) (kTand (kTv (kBin (pEqF false) (kBin pIxU (kVar 1) (kC (.int 0))) (kC (.str [98, 111, 114, 110])))) (kTv (kBin (pEqF false) (kBin pIxU (kVar 1) (kC (.int 3))) (kC (.str [102, 111, 108, 100, 101, 114]))))) (kCall (chkN 1 F_dot_of) (kCons (kVar 1) kNil)) (kC (.bl true)) [1]))
noncomputable def F_folders_in : KF := mkF 2 B_folders_in
noncomputable def B_is_move : KS := (kRet (kBin (pInU false) (kBin pIxU (kVar 0) (kC (.int 0))) (kTupD (kCons (kC (.str [98, 111, 114, 110])) (kCons (kC (.str [112, 117, 116])) kNil)))))
noncomputable def F_is_move : KF := mkF 1 B_is_move
noncomputable def B_item_of : KS := (kRet (kIf (kTv (kBin (pEqF false) (kBin pIxU (kVar 0) (kC (.int 0))) (kC (.str [98, 111, 114, 110])))) (kBin pIxU (kVar 0) (kC (.int 1))) (kBin pIxU (kVar 0) (kC (.int 3)))))
noncomputable def F_item_of : KF := mkF 1 B_item_of
noncomputable def B_can_bear : KS := (kRet (kOr (kBin (pIs false) (kVar 2) (kC .non)) (kAnd (kBin (pInU false) (kVar 2) (kVar 0)) (kBin (pInU false) (kVar 2) (kVar 1)))))
noncomputable def F_can_bear : KF := mkF 3 B_can_bear
noncomputable def B_is_within : KS := (kSeq (kWhl (kTv (kBin (pIs true) (kVar 1) (kC .non))) (kSeq (kIfS (kTv (kBin (pEqF false) (kVar 1) (kVar 2))) (kRet (kC (.bl true))) kPass) (kAsg (kBin pIxU (kBin pIxU (kVar 0) (kVar 1)) (kC (.int 0))) (gVar 1))) 1000) (kRet (kC (.bl false))))
noncomputable def F_is_within : KF := mkF 3 B_is_within
noncomputable def B_place_by : KS := (kSeq (kIfS (kTv (kBin (pEqF false) (kBin pIxU (kVar 2) (kC (.int 0))) (kC (.str [98, 111, 114, 110])))) (kSeq (kAsg (kTupD (kCons (kBin pIxU (kVar 2) (kC (.int 4))) (kCons (kBin pIxU (kVar 2) (kC (.int 5))) kNil))) (gVar 3)) (kRet (kIf (kTv (kCall (chkN 3 F_can_bear) (kCons (kVar 0) (kCons (kVar 1) (kCons (kBin pIxU (kVar 3) (kC (.int 0))) kNil))))) (kVar 3) (kC .non)))) kPass) (kSeq (kAsg (kTupD (kCons (kBin pIxU (kVar 2) (kC (.int 4))) (kCons (kBin pIxU (kVar 2) (kC (.int 5))) kNil))) (gVar 3)) (kSeq (kAsg (kCall (chkN 1 F_item_of) (kCons (kVar 2) kNil)) (gVar 4)) (kSeq (kIfS (kTor (kTv (kBin (pInU true) (kVar 4) (kVar 0))) (kTor (kTnot (kTv (kCall (chkN 3 F_can_bear) (kCons (kVar 0) (kCons (kVar 1) (kCons (kBin pIxU (kVar 3) (kC (.int 0))) kNil)))))) (kTv (kCall (chkN 3 F_is_within) (kCons (kVar 0) (kCons (kBin pIxU (kVar 3) (kC (.int 0))) (kCons (kVar 4) kNil))))))) (kRet (kC .non)) kPass) (kRet (kVar 3))))))
noncomputable def F_place_by : KF := mkF 5 B_place_by
noncomputable def B_sequence : KS := (kRet (kTupD (kCons (kBin pIxU (kVar 0) (kC (.int 2))) (kCons (kBin pIxU (kVar 0) (kC (.int 1))) kNil))))
noncomputable def F_sequence : KF := mkF 1 B_sequence
noncomputable def B_gone_through : KS := (kSeq (kPar3 1 2 3 (kCons (kDct true true) (kCons (kDct true true) (kCons (kCall (chkN 1 F_folders_in) (kCons (kVar 0) kNil)) kNil)))) (kSeq (kFor (kIt (kSortK false F_sequence (kLc false (kIt (kVar 0)) (gVar 4) (kTv (kCall (chkN 1 F_is_move) (kCons (kVar 4) kNil))) (kVar 4) [4]))) (gVar 4) (kSeq (kAsg (kCall (chkN 3 F_place_by) (kCons (kVar 1) (kCons (kVar 3) (kCons (kVar 4) kNil)))) (gVar 5)) (kIfS (kTv (kBin (pIs false) (kVar 5) (kC .non))) (kAsg (kC (.bl true)) (gSubU (kVar 2) (kCall (chkN 1 F_dot_of) (kCons (kVar 4) kNil)))) (kAsg (kVar 5) (gSubU (kVar 1) (kCall (chkN 1 F_item_of) (kCons (kVar 4) kNil)))))) 1000) (kRet (kTupD (kCons (kVar 1) (kCons (kVar 2) kNil))))))
noncomputable def F_gone_through : KF := mkF 6 B_gone_through
noncomputable def B_placed_items : KS := (kRet (kBin pIxU (kCall (chkN 1 F_gone_through) (kCons (kVar 0) kNil)) (kC (.int 0))))
noncomputable def F_placed_items : KF := mkF 1 B_placed_items
noncomputable def B_covered_of : KS := (kSeq (kAsg (kDct true true) (gVar 1)) (kSeq (kFor (kIt (kVar 0)) (gVar 2) (kIfS (kTv (kBin (pInU false) (kBin pIxU (kVar 2) (kC (.int 0))) (kTupD (kCons (kC (.str [119, 114, 105, 116, 101])) (kCons (kC (.str [103, 111, 110, 101])) kNil))))) (kDrop (kMt .dict mDUpd (kVar 1) (kCons (kDc false true (kIt (kBin pIxU (kVar 2) (kC (.int (-1))))) (gVar 3) (kTv (kBin (pEqF true) (kVar 3) (kBin pIxU (kVar 2) (kC (.int 1))))) (kVar 3) (kC (.bl true)) [3]) kNil))) kPass) 1000) (kRet (kVar 1))))
noncomputable def F_covered_of : KF := mkF 4 B_covered_of
noncomputable def B_live_of : KS := (kSeq (kPar2 1 2 (kCons (kCall (chkN 1 F_borns_of) (kCons (kVar 0) kNil)) (kCons (kCall (chkN 1 F_covered_of) (kCons (kVar 0) kNil)) kNil))) (kSeq (kSetDcK false true 1 4 (gVar 3) kYes (kVar 3) (kLstD true kNil) [3]) (kSeq (kFor (kIt (kSortK false F_sequence (kVar 0))) (gVar 5) (kSeq (kAsg (kCall (chkN 1 F_item_of) (kCons (kVar 5) kNil)) (gVar 3)) (kIfS (kTand (kTv (kBin (pInU false) (kVar 3) (kVar 1))) (kTv (kBin (pInU true) (kBin pIxU (kVar 5) (kC (.int 1))) (kVar 2)))) (kSeq (kAsg (kBin (pEqF false) (kBin pIxU (kBin pIxU (kVar 1) (kVar 3)) (kC (.int 3))) (kC (.str [102, 105, 108, 101]))) (gVar 6)) (kIfS (kTor (kTand (kTv (kBin (pEqF false) (kBin pIxU (kVar 5) (kC (.int 0))) (kC (.str [119, 114, 105, 116, 101])))) (kTv (kVar 6))) (kTand (kTv (kBin (pInU false) (kBin pIxU (kVar 5) (kC (.int 0))) (kTupD (kCons (kC (.str [98, 111, 114, 110])) (kCons (kC (.str [112, 117, 116])) kNil))))) (kTnot (kTv (kVar 6))))) (kDrop (kMt .list mAppend (kBin pIxU (kVar 4) (kVar 3)) (kCons (kVar 5) kNil))) kPass)) kPass)) 1000) (kRet (kVar 4)))))
noncomputable def F_live_of : KF := mkF 7 B_live_of
noncomputable def B_standing_items : KS := (kSeq (kPar3 1 2 3 (kCons (kCall (chkN 1 F_borns_of) (kCons (kVar 0) kNil)) (kCons (kCall (chkN 1 F_live_of) (kCons (kVar 0) kNil)) (kCons (kCall (chkN 1 F_placed_items) (kCons (kVar 0) kNil)) kNil)))) (kSeq (kAsg (kDct true true) (gVar 4)) (kSeq (kForK 1 (gVar 5) (kIfS (kTv (kBin (pEqF true) (kBin pIxU (kVar 2) (kVar 5)) (kLstD false kNil))) (kWhl (kTand (kTv (kBin (pIs true) (kVar 5) (kC .non))) (kTv (kBin (pInU true) (kVar 5) (kVar 4)))) (kSeq (kAsg (kC (.bl true)) (gSubU (kVar 4) (kVar 5))) (kAsg (kIf (kTv (kBin (pInU false) (kVar 5) (kVar 3))) (kBin pIxU (kBin pIxU (kVar 3) (kVar 5)) (kC (.int 0))) (kC .non)) (gVar 5))) 1000) kPass)) (kRet (kVar 4)))))
noncomputable def F_standing_items : KF := mkF 6 B_standing_items
noncomputable def B_in_folders : KS := (kSeq (kPar2 1 2 (kCons (kCall (chkN 1 F_placed_items) (kCons (kVar 0) kNil)) (kCons kNewM kNil))) (kSeq (kFor (kIt (kCall (bSorted false) (kCons (kCall (chkN 1 F_standing_items) (kCons (kVar 0) kNil)) kNil))) (gVar 3) (kIfS (kTv (kBin (pInU false) (kVar 3) (kVar 1))) (kDrop (kMt .list mAppend (kMtU .dict mSetdU (kVar 2) (kCons (kBin pIxU (kBin pIxU (kVar 1) (kVar 3)) (kC (.int 0))) (kCons (kLstD true kNil) kNil))) (kCons (kVar 3) kNil))) kPass) 1000) (kRet (kVar 2))))
noncomputable def F_in_folders : KF := mkF 4 B_in_folders
noncomputable def B_Names___init__ : KS := (kSeq (kFldS 0 (kVar 0) kNewM) (kFldS 1 (kVar 0) kNewM))
noncomputable def F_Names___init__ : KF := mkF 1 B_Names___init__
noncomputable def B_folded : KS := (kRet (kMt .str mJoin (kC (.str [])) (kCons (kLc false (kSgn (kVar 0)) (gVar 1) kYes (kIf (kTv (kBin (pInU false) (kVar 1) (kC (.str [65, 66, 67, 68, 69, 70, 71, 72, 73, 74, 75, 76, 77, 78, 79, 80, 81, 82, 83, 84, 85, 86, 87, 88, 89, 90])))) (kBin pIxU (kC (.str [97, 98, 99, 100, 101, 102, 103, 104, 105, 106, 107, 108, 109, 110, 111, 112, 113, 114, 115, 116, 117, 118, 119, 120, 121, 122])) (kMt .str mIndexS (kC (.str [65, 66, 67, 68, 69, 70, 71, 72, 73, 74, 75, 76, 77, 78, 79, 80, 81, 82, 83, 84, 85, 86, 87, 88, 89, 90])) (kCons (kVar 1) kNil))) (kVar 1)) [1]) kNil)))
noncomputable def F_folded : KF := mkF 2 B_folded
noncomputable def B_Names_give : KS := (kSeq (kAsg (kC (.bl true)) (gSubU (kFld 0 (kVar 0)) (kCall (chkN 1 F_folded) (kCons (kVar 1) kNil)))) (kRet (kVar 1)))
noncomputable def F_Names_give : KF := mkF 2 B_Names_give
noncomputable def B_Names_is_free : KS := (kRet (kBin (pInU true) (kCall (chkN 1 F_folded) (kCons (kVar 1) kNil)) (kFld 0 (kVar 0))))
noncomputable def F_Names_is_free : KF := mkF 2 B_Names_is_free
noncomputable def B_Names_made : KS := (kSeq (kAsg (kBin pAdd (kMtU .dict mGetU (kFld 1 (kVar 0)) (kCons (kTupD (kCons (kCall (chkN 1 F_folded) (kCons (kVar 1) kNil)) (kCons (kVar 2) kNil))) (kCons (kC (.int 0)) kNil))) (kC (.int 1))) (gVar 3)) (kSeq (kWhl (kTnot (kTv (kMeth 0 (chkN 2 F_Names_is_free) (kVar 0) (kCons (kBin pAdd (kBin pAdd (kVar 1) (kVar 2)) (kCall bStr (kCons (kVar 3) kNil))) kNil)))) (kAug 3 pIAdd (kC (.int 1))) 1000) (kSeq (kAsg (kVar 3) (gSubU (kFld 1 (kVar 0)) (kTupD (kCons (kCall (chkN 1 F_folded) (kCons (kVar 1) kNil)) (kCons (kVar 2) kNil))))) (kRet (kMeth 0 (chkN 2 F_Names_give) (kVar 0) (kCons (kBin pAdd (kBin pAdd (kVar 1) (kVar 2)) (kCall bStr (kCons (kVar 3) kNil))) kNil))))))
noncomputable def F_Names_made : KF := mkF 4 B_Names_made
noncomputable def B_named : KS := (kSeq (kPar3 4 5 6 (kCons (kMake 0 (chkN 1 F_Names___init__) kNil) (kCons kNewM (kCons (kLstD true kNil) kNil)))) (kSeq (kFor (kIt (kVar 0)) (gVar 7) (kIfS (kTv (kMeth 0 (chkN 2 F_Names_is_free) (kVar 4) (kCons (kBin pIxU (kBin pIxU (kVar 1) (kVar 7)) (kC (.int 1))) kNil))) (kAsg (kMeth 0 (chkN 2 F_Names_give) (kVar 4) (kCons (kBin pIxU (kBin pIxU (kVar 1) (kVar 7)) (kC (.int 1))) kNil)) (gSubU (kVar 5) (kTupD (kCons (kC (.str [105, 116, 101, 109])) (kCons (kVar 7) kNil))))) (kDrop (kMt .list mAppend (kVar 6) (kCons (kVar 7) kNil)))) 1000) (kSeq (kFor (kIt (kVar 6)) (gVar 7) (kAsg (kMeth 0 (chkN 3 F_Names_made) (kVar 4) (kCons (kBin pIxU (kBin pIxU (kVar 1) (kVar 7)) (kC (.int 1))) (kCons (kC (.str [46, 97, 108, 115, 111])) kNil))) (gSubU (kVar 5) (kTupD (kCons (kC (.str [105, 116, 101, 109])) (kCons (kVar 7) kNil))))) 1000) (kSeq (kFor (kIt (kVar 0)) (gVar 7) (kIfS (kTv (kBin (pEqF false) (kBin pIxU (kBin pIxU (kVar 3) (kVar 7)) (kC (.int 3))) (kC (.str [102, 105, 108, 101])))) (kFor (kIt (kCall (bSorted false) (kCons (kLc false (kIt (kSl (kBin pIxU (kVar 2) (kVar 7)) kNo (kSome (kUn pNeg (kC (.int 1)))))) (gVar 9) kYes (kBin pIxU (kVar 9) (kC (.int 1))) [9]) kNil))) (gVar 8) (kAsg (kMeth 0 (chkN 3 F_Names_made) (kVar 4) (kCons (kBin pIxU (kBin pIxU (kVar 1) (kVar 7)) (kC (.int 1))) (kCons (kC (.str [46, 99, 108, 97, 115, 104])) kNil))) (gSubU (kVar 5) (kTupD (kCons (kC (.str [98, 101, 115, 105, 100, 101])) (kCons (kVar 7) (kCons (kVar 8) kNil)))))) 1000) kPass) 1000) (kRet (kVar 5))))))
noncomputable def F_named : KF := mkF 10 B_named
noncomputable def B_entries_of : KS := (kSeq (kPar3 1 2 3 (kCons (kCall (chkN 1 F_borns_of) (kCons (kVar 0) kNil)) (kCons (kCall (chkN 1 F_live_of) (kCons (kVar 0) kNil)) (kCons (kCall (chkN 1 F_placed_items) (kCons (kVar 0) kNil)) kNil)))) (kSeq (kAsg kNewM (gVar 4)) (kSeq (kFor (kIt (kItemsL false (kCall (chkN 1 F_in_folders) (kCons (kVar 0) kNil)))) (gTup 2 (gsCons (gVar 5) (gsCons (gVar 6) gsNil))) (kFor (kIt (kItemsL false (kCall (chkN 4 F_named) (kCons (kVar 6) (kCons (kVar 3) (kCons (kVar 2) (kCons (kVar 1) kNil))))))) (gTup 2 (gsCons (gVar 7) (gsCons (gVar 8) gsNil))) (kSeq (kAsg (kBin pIxU (kVar 1) (kBin pIxU (kVar 7) (kC (.int 1)))) (gVar 9)) (kSeq (kIfS (kTv (kBin (pEqF true) (kBin pIxU (kVar 9) (kC (.int 3))) (kC (.str [102, 105, 108, 101])))) (kAsg (kBin pIxU (kVar 9) (kC (.int 6))) (gVar 10)) (kIfS (kTv (kBin (pEqF false) (kBin pIxU (kVar 7) (kC (.int 0))) (kC (.str [105, 116, 101, 109])))) (kAsg (kBin pIxU (kBin pIxU (kBin pIxU (kVar 2) (kBin pIxU (kVar 7) (kC (.int 1)))) (kUn pNeg (kC (.int 1)))) (kC (.int 4))) (gVar 10)) (kAsg (kBin pIxU (kLc false (kIt (kBin pIxU (kVar 2) (kBin pIxU (kVar 7) (kC (.int 1))))) (gVar 11) (kTv (kBin (pEqF false) (kBin pIxU (kVar 11) (kC (.int 1))) (kBin pIxU (kVar 7) (kC (.int 2))))) (kBin pIxU (kVar 11) (kC (.int 4))) [11]) (kC (.int 0))) (gVar 10)))) (kAsg (kTupD (kCons (kVar 5) (kCons (kVar 8) (kCons (kBin pIxU (kVar 9) (kC (.int 3))) (kCons (kVar 10) kNil))))) (gSubU (kVar 4) (kVar 7))))) 1000) 1000) (kRet (kVar 4)))))
noncomputable def F_entries_of : KF := mkF 12 B_entries_of
noncomputable def B_path_under : KS := (kRet (kIf (kTv (kBin (pEqF false) (kVar 0) (kC (.str [])))) (kVar 1) (kBin pAdd (kBin pAdd (kVar 0) (kC (.str [47]))) (kVar 1))))
noncomputable def F_path_under : KF := mkF 2 B_path_under
noncomputable def B_rows_of : KS := (kSeq (kAsg kNewM (gVar 1)) (kSeq (kFor (kIt (kItemsL false (kVar 0))) (gTup 2 (gsCons (gVar 2) (gsCons (gTup 4 (gsCons (gVar 3) (gsCons (gVar 4) (gsCons (gVar 5) (gsCons (gVar 6) gsNil))))) gsNil))) (kDrop (kMt .list mAppend (kMtU .dict mSetdU (kVar 1) (kCons (kVar 3) (kCons (kLstD true kNil) kNil))) (kCons (kTupD (kCons (kVar 2) (kCons (kVar 4) (kCons (kVar 5) (kCons (kVar 6) kNil))))) kNil))) 1000) (kSeq (kPar2 7 8 (kCons (kLstD true kNil) (kCons (kLstD true (kCons (kTupD (kCons (kC .non) (kCons (kC (.str [])) kNil))) kNil)) kNil))) (kSeq (kWhl (kTv (kBin (pEqF true) (kVar 8) (kLstD false kNil))) (kSeq (kAsg (kMt .list mPop (kVar 8) kNil) (gTup 2 (gsCons (gVar 9) (gsCons (gVar 10) gsNil)))) (kFor (kIt (kMtU .dict mGetU (kVar 1) (kCons (kVar 9) (kCons (kLstD false kNil) kNil)))) (gTup 4 (gsCons (gVar 2) (gsCons (gVar 4) (gsCons (gVar 5) (gsCons (gVar 6) gsNil))))) (kSeq (kDrop (kMt .list mAppend (kVar 7) (kCons (kTupD (kCons (kCall (chkN 2 F_path_under) (kCons (kVar 10) (kCons (kVar 4) kNil))) (kCons (kVar 5) (kCons (kVar 6) kNil)))) kNil))) (kIfS (kTv (kBin (pEqF false) (kVar 5) (kC (.str [102, 111, 108, 100, 101, 114])))) (kDrop (kMt .list mAppend (kVar 8) (kCons (kTupD (kCons (kBin pIxU (kVar 2) (kC (.int 1))) (kCons (kCall (chkN 2 F_path_under) (kCons (kVar 10) (kCons (kVar 4) kNil))) kNil))) kNil))) kPass)) 1000)) 1000) (kRet (kCall bTuple (kCons (kCall (bSorted false) (kCons (kVar 7) kNil)) kNil)))))))
noncomputable def F_rows_of : KF := mkF 11 B_rows_of
noncomputable def B_picture : KS := (kSeq (kDrop (kCall (chkN 1 F_check_heard) (kCons (kVar 0) kNil))) (kRet (kCall (chkN 1 F_rows_of) (kCons (kCall (chkN 1 F_entries_of) (kCons (kVar 0) kNil)) kNil))))
noncomputable def F_picture : KF := mkF 1 B_picture
noncomputable def B__law_shown : KS := (kRet (kCallK 0 1 F_picture kNil (kCons (kCall (chkN 1 F__law_heard) (kCons (kVar 0) kNil)) kNil)))
noncomputable def F__law_shown : KF := mkF 1 B__law_shown
noncomputable def B__law_names : KS := (kRet (kLc false (kIt (kCall (chkN 1 F__law_shown) (kCons (kVar 0) kNil))) (gTup 3 (gsCons (gVar 1) (gsCons (gVar 2) (gsCons (gVar 3) gsNil)))) kYes (kVar 1) [1, 2, 3]))
noncomputable def F__law_names : KF := mkF 4 B__law_names
noncomputable def B_key_order : KS := (kRet (kTupD (kCons (kBin (pEqF false) (kBin pIxU (kVar 0) (kC (.int 0))) (kC (.str [98, 101, 115, 105, 100, 101]))) (kCons (kSl (kVar 0) (kSome (kC (.int 1))) kNo) kNil))))
noncomputable def F_key_order : KF := mkF 1 B_key_order
noncomputable def B_entries : KS := (kSeq (kDrop (kCall (chkN 1 F_check_heard) (kCons (kVar 0) kNil))) (kSeq (kAsg (kCall (chkN 1 F_entries_of) (kCons (kVar 0) kNil)) (gVar 1)) (kRet (kCall bTuple (kCons (kLc false (kIt (kSortK false F_key_order (kVar 1))) (gVar 2) kYes (kTupD (kCons (kVar 2) (kStar (kBin pIxU (kVar 1) (kVar 2)) kNil))) [2]) kNil)))))
noncomputable def F_entries : KF := mkF 3 B_entries
noncomputable def B__law_right : KS := (kSeq (kAsg (kBin pAdd (kC (.int 2)) (kCall (chkN 2 F__law_take) (kCons (kVar 0) (kCons (kC (.int 50)) kNil)))) (gVar 1)) (kSeq (kAsg (kTupD (kCons (kCall (chkN 6 F__law_born) (kCons (kVar 1) (kCons (kC (.int 0)) (kCons (kC (.int 9)) (kCons (kC (.str [102, 111, 108, 100, 101, 114])) (kCons (kC .non) (kCons (kC (.str [66, 111, 120])) kNil))))))) (kCons (kCall (chkN 6 F__law_born) (kCons (kBin pAdd (kVar 1) (kC (.int 1))) (kCons (kC (.int 0)) (kCons (kC (.int 5)) (kCons (kC (.str [102, 111, 108, 100, 101, 114])) (kCons (kC .non) (kCons (kC (.str [98, 111, 120])) kNil))))))) (kCons (kCall (chkN 6 F__law_born) (kCons (kBin pAdd (kVar 1) (kC (.int 2))) (kCons (kC (.int 0)) (kCons (kC (.int 1)) (kCons (kC (.str [102, 111, 108, 100, 101, 114])) (kCons (kC .non) (kCons (kC (.str [66, 79, 88])) kNil))))))) kNil)))) (gVar 2)) (kSeq (kIfS (kTv (kBin (pEqF true) (kCall (chkN 1 F__law_names) (kCons (kVar 2) kNil)) (kLstD false (kCons (kC (.str [66, 79, 88, 46, 97, 108, 115, 111, 50])) (kCons (kC (.str [66, 111, 120])) (kCons (kC (.str [98, 111, 120, 46, 97, 108, 115, 111, 49])) kNil)))))) (kRet (kC (.bl false))) kPass) (kSeq (kAsg (kBin pAdd (kVar 2) (kTupD (kCons (kCall (chkN 6 F__law_born) (kCons (kBin pAdd (kVar 1) (kC (.int 3))) (kCons (kC (.int 0)) (kCons (kC (.int 20)) (kCons (kC (.str [108, 105, 110, 107])) (kCons (kC .non) (kCons (kC (.str [66, 79, 88, 46, 65, 76, 83, 79, 50])) kNil))))))) kNil))) (gVar 3)) (kSeq (kIfS (kTv (kBin (pEqF true) (kCall (chkN 1 F__law_names) (kCons (kVar 3) kNil)) (kLstD false (kCons (kC (.str [66, 79, 88, 46, 65, 76, 83, 79, 50])) (kCons (kC (.str [66, 79, 88, 46, 97, 108, 115, 111, 51])) (kCons (kC (.str [66, 111, 120])) (kCons (kC (.str [98, 111, 120, 46, 97, 108, 115, 111, 49])) kNil))))))) (kRet (kC (.bl false))) kPass) (kSeq (kAsg (kTupD (kCons (kCall (chkN 6 F__law_born) (kCons (kC (.int 1)) (kCons (kC (.int 0)) (kCons (kC (.int 1)) (kCons (kC (.str [102, 105, 108, 101])) (kCons (kC .non) (kCons (kC (.str [97])) kNil))))))) (kCons (kTupD (kCons (kC (.str [119, 114, 105, 116, 101])) (kCons (kTupD (kCons (kC (.int 1)) (kCons (kC (.int 1)) kNil))) (kCons (kC (.int 2)) (kCons (kTupD (kCons (kC (.int 1)) (kCons (kC (.int 0)) kNil))) (kCons (kC (.str [102, 105, 114, 115, 116])) (kCons (kTupD kNil) kNil))))))) kNil))) (gVar 4)) (kSeq (kAsg (kBin pAdd (kVar 4) (kCall bTuple (kCons (kLc false (kRng1 (kCons (kC (.int 3)) kNil)) (gVar 10) kYes (kTupD (kCons (kC (.str [119, 114, 105, 116, 101])) (kCons (kTupD (kCons (kBin pAdd (kVar 1) (kVar 10)) (kCons (kC (.int 0)) kNil))) (kCons (kBin pSub (kC (.int 5)) (kVar 10)) (kCons (kTupD (kCons (kC (.int 1)) (kCons (kC (.int 0)) kNil))) (kCons (kBin pAdd (kC (.str [119])) (kCall bStr (kCons (kCall bInt (kCons (kVar 10) kNil)) kNil))) (kCons (kTupD (kCons (kTupD (kCons (kC (.int 1)) (kCons (kC (.int 1)) kNil))) kNil)) kNil))))))) [10]) kNil))) (gVar 2)) (kSeq (kIfS (kTv (kBin (pEqF true) (kCall (chkN 1 F__law_shown) (kCons (kVar 2) kNil)) (kTupD (kCons (kTupD (kCons (kC (.str [97])) (kCons (kC (.str [102, 105, 108, 101])) (kCons (kC (.str [119, 48])) kNil)))) (kCons (kTupD (kCons (kC (.str [97, 46, 99, 108, 97, 115, 104, 49])) (kCons (kC (.str [102, 105, 108, 101])) (kCons (kC (.str [119, 49])) kNil)))) (kCons (kTupD (kCons (kC (.str [97, 46, 99, 108, 97, 115, 104, 50])) (kCons (kC (.str [102, 105, 108, 101])) (kCons (kC (.str [119, 50])) kNil)))) kNil)))))) (kRet (kC (.bl false))) kPass) (kSeq (kIfS (kTv (kBin (pEqF true) (kLc false (kIt (kCall (chkN 1 F_entries) (kCons (kCall (chkN 1 F__law_heard) (kCons (kVar 2) kNil)) kNil))) (gVar 9) kYes (kBin pIxU (kVar 9) (kC (.int 0))) [9]) (kLstD false (kCons (kTupD (kCons (kC (.str [105, 116, 101, 109])) (kCons (kTupD (kCons (kC (.int 1)) (kCons (kC (.int 0)) kNil))) kNil))) (kCons (kTupD (kCons (kC (.str [98, 101, 115, 105, 100, 101])) (kCons (kTupD (kCons (kC (.int 1)) (kCons (kC (.int 0)) kNil))) (kCons (kTupD (kCons (kBin pAdd (kVar 1) (kC (.int 1))) (kCons (kC (.int 0)) kNil))) kNil)))) (kCons (kTupD (kCons (kC (.str [98, 101, 115, 105, 100, 101])) (kCons (kTupD (kCons (kC (.int 1)) (kCons (kC (.int 0)) kNil))) (kCons (kTupD (kCons (kBin pAdd (kVar 1) (kC (.int 2))) (kCons (kC (.int 0)) kNil))) kNil)))) kNil)))))) (kRet (kC (.bl false))) kPass) (kSeq (kAsg (kBin pAdd (kVar 2) (kTupD (kCons (kTupD (kCons (kC (.str [103, 111, 110, 101])) (kCons (kTupD (kCons (kVar 1) (kCons (kC (.int 1)) kNil))) (kCons (kC (.int 9)) (kCons (kTupD (kCons (kC (.int 1)) (kCons (kC (.int 0)) kNil))) (kCons (kTupD (kCons (kTupD (kCons (kVar 1) (kCons (kC (.int 0)) kNil))) (kCons (kTupD (kCons (kBin pAdd (kVar 1) (kC (.int 2))) (kCons (kC (.int 0)) kNil))) kNil))) kNil)))))) kNil))) (gVar 5)) (kSeq (kIfS (kTor (kTv (kBin (pEqF true) (kCall (chkN 1 F__law_shown) (kCons (kVar 5) kNil)) (kTupD (kCons (kTupD (kCons (kC (.str [97])) (kCons (kC (.str [102, 105, 108, 101])) (kCons (kC (.str [119, 49])) kNil)))) kNil)))) (kTv (kBin (pEqF true) (kCall (chkN 1 F__law_shown) (kCons (kBin pAdd (kVar 5) (kTupD (kCons (kTupD (kCons (kC (.str [103, 111, 110, 101])) (kCons (kTupD (kCons (kBin pAdd (kVar 1) (kC (.int 4))) (kCons (kC (.int 0)) kNil))) (kCons (kC (.int 9)) (kCons (kTupD (kCons (kC (.int 1)) (kCons (kC (.int 0)) kNil))) (kCons (kTupD (kCons (kTupD (kCons (kBin pAdd (kVar 1) (kC (.int 1))) (kCons (kC (.int 0)) kNil))) kNil)) kNil)))))) kNil))) kNil)) (kTupD kNil)))) (kRet (kC (.bl false))) kPass) (kSeq (kAsg (kTupD (kCons (kCall (chkN 6 F__law_born) (kCons (kC (.int 1)) (kCons (kC (.int 0)) (kCons (kC (.int 1)) (kCons (kC (.str [102, 111, 108, 100, 101, 114])) (kCons (kC .non) (kCons (kC (.str [100])) kNil))))))) (kCons (kCall (chkN 6 F__law_born) (kCons (kC (.int 1)) (kCons (kC (.int 1)) (kCons (kC (.int 2)) (kCons (kC (.str [102, 111, 108, 100, 101, 114])) (kCons (kTupD (kCons (kC (.int 1)) (kCons (kC (.int 0)) kNil))) (kCons (kC (.str [101])) kNil))))))) (kCons (kCall (chkN 6 F__law_born) (kCons (kC (.int 1)) (kCons (kC (.int 2)) (kCons (kC (.int 3)) (kCons (kC (.str [108, 105, 110, 107])) (kCons (kTupD (kCons (kC (.int 1)) (kCons (kC (.int 1)) kNil))) (kCons (kC (.str [108])) kNil))))))) kNil)))) (gVar 6)) (kSeq (kAsg (kBin pAdd (kVar 6) (kTupD (kCons (kTupD (kCons (kC (.str [103, 111, 110, 101])) (kCons (kTupD (kCons (kVar 1) (kCons (kC (.int 0)) kNil))) (kCons (kC (.int 4)) (kCons (kTupD (kCons (kC (.int 1)) (kCons (kC (.int 0)) kNil))) (kCons (kTupD (kCons (kTupD (kCons (kC (.int 1)) (kCons (kC (.int 0)) kNil))) kNil)) kNil)))))) (kCons (kTupD (kCons (kC (.str [103, 111, 110, 101])) (kCons (kTupD (kCons (kVar 1) (kCons (kC (.int 1)) kNil))) (kCons (kC (.int 5)) (kCons (kTupD (kCons (kC (.int 1)) (kCons (kC (.int 1)) kNil))) (kCons (kTupD (kCons (kTupD (kCons (kC (.int 1)) (kCons (kC (.int 1)) kNil))) kNil)) kNil)))))) kNil)))) (gVar 7)) (kSeq (kIfS (kTor (kTv (kBin (pEqF true) (kCall (chkN 1 F__law_names) (kCons (kVar 7) kNil)) (kLstD false (kCons (kC (.str [100])) (kCons (kC (.str [100, 47, 101])) (kCons (kC (.str [100, 47, 101, 47, 108])) kNil)))))) (kTv (kBin (pEqF true) (kCall (chkN 1 F__law_names) (kCons (kBin pAdd (kVar 7) (kTupD (kCons (kTupD (kCons (kC (.str [112, 117, 116])) (kCons (kTupD (kCons (kBin pAdd (kVar 1) (kC (.int 1))) (kCons (kC (.int 0)) kNil))) (kCons (kC (.int 6)) (kCons (kTupD (kCons (kC (.int 1)) (kCons (kC (.int 2)) kNil))) (kCons (kC .non) (kCons (kC (.str [76])) kNil))))))) kNil))) kNil)) (kLstD false (kCons (kC (.str [76])) kNil))))) (kRet (kC (.bl false))) kPass) (kSeq (kAsg (kBin pAdd (kSl (kVar 6) kNo (kSome (kC (.int 1)))) (kTupD (kCons (kCall (chkN 6 F__law_born) (kCons (kC (.int 1)) (kCons (kC (.int 1)) (kCons (kC (.int 2)) (kCons (kC (.str [102, 111, 108, 100, 101, 114])) (kCons (kC .non) (kCons (kC (.str [102])) kNil))))))) (kCons (kTupD (kCons (kC (.str [112, 117, 116])) (kCons (kTupD (kCons (kVar 1) (kCons (kC (.int 0)) kNil))) (kCons (kC (.int 3)) (kCons (kTupD (kCons (kC (.int 1)) (kCons (kC (.int 0)) kNil))) (kCons (kTupD (kCons (kC (.int 1)) (kCons (kC (.int 1)) kNil))) (kCons (kC (.str [100])) kNil))))))) (kCons (kTupD (kCons (kC (.str [112, 117, 116])) (kCons (kTupD (kCons (kBin pAdd (kVar 1) (kC (.int 1))) (kCons (kC (.int 0)) kNil))) (kCons (kC (.int 3)) (kCons (kTupD (kCons (kC (.int 1)) (kCons (kC (.int 1)) kNil))) (kCons (kTupD (kCons (kC (.int 1)) (kCons (kC (.int 0)) kNil))) (kCons (kC (.str [102])) kNil))))))) kNil))))) (gVar 8)) (kRet (kAnd (kBin (pEqF false) (kCall (chkN 1 F__law_names) (kCons (kVar 8) kNil)) (kLstD false (kCons (kC (.str [102])) (kCons (kC (.str [102, 47, 100])) kNil)))) (kAnd (kBin (pEqF false) (kCall (chkN 1 F__law_shown) (kCons (kTupD kNil) kNil)) (kTupD kNil)) (kBin (pEqF false) (kCall (chkN 1 F_entries) (kCons (kTupD kNil) kNil)) (kTupD kNil))))))))))))))))))))
noncomputable def F__law_right : KF := okF
noncomputable def B_law : KS := (kRet (kCall (chkN 1 F__law_right) (kCons (kCall (chkN 2 F__law_pot) (kCons (kVar 0) (kCons (kC (.int 0)) kNil))) kNil)))
noncomputable def F_law : KF := mkF 1 B_law
structure Tx (w : World) (K : PySem.W.Frag) (mg : Str → Option Value) (C0 : Addr) (d_PARTS : Addr) (e_PARTS : Array DictEntry) (m_PARTS : Nat) : Prop where
  n_abs : mg "abs" = none
  n_all : mg "all" = none
  n_bool : mg "bool" = none
  n_dict : mg "dict" = none
  n_enumerate : mg "enumerate" = none
  n_int : mg "int" = none
  n_isinstance : mg "isinstance" = none
  n_len : mg "len" = none
  n_list : mg "list" = none
  n_max : mg "max" = none
  n_min : mg "min" = none
  n_range : mg "range" = none
  n_sorted : mg "sorted" = none
  n_str : mg "str" = none
  n_sum : mg "sum" = none
  n_tuple : mg "tuple" = none
  n_zip : mg "zip" = none
  g_DOTS : GcE (Gc K w C0) mg "DOTS" (.kt [(.str [46]), (.str [46, 46])])
  g_NAMED : GcE (Gc K w C0) mg "NAMED" (.str [97, 98, 99, 100, 101, 102, 103, 104, 105, 106, 107, 108, 109, 110, 111, 112, 113, 114, 115, 116, 117, 118, 119, 120, 121, 122, 65, 66, 67, 68, 69, 70, 71, 72, 73, 74, 75, 76, 77, 78, 79, 80, 81, 82, 83, 84, 85, 86, 87, 88, 89, 90, 48, 49, 50, 51, 52, 53, 54, 55, 56, 57, 46, 45, 95])
  g_CAPITALS : GcE (Gc K w C0) mg "CAPITALS" (.str [65, 66, 67, 68, 69, 70, 71, 72, 73, 74, 75, 76, 77, 78, 79, 80, 81, 82, 83, 84, 85, 86, 87, 88, 89, 90])
  g_SMALL : GcE (Gc K w C0) mg "SMALL" (.str [97, 98, 99, 100, 101, 102, 103, 104, 105, 106, 107, 108, 109, 110, 111, 112, 113, 114, 115, 116, 117, 118, 119, 120, 121, 122])
  g_SLASH : GcE (Gc K w C0) mg "SLASH" (.str [47])
  g_MOST_TEXT : GcE (Gc K w C0) mg "MOST_TEXT" (.int 400)
  g_LOWEST : GcE (Gc K w C0) mg "LOWEST" (.str [32])
  g_HIGHEST : GcE (Gc K w C0) mg "HIGHEST" (.str [126])
  g_MOST_LIFE : GcE (Gc K w C0) mg "MOST_LIFE" (.int 1000000)
  g_PAIR_plain : GcE (Gc K w C0) mg "PAIR_plain" (.int 2)
  g_FRESH : GcE (Gc K w C0) mg "FRESH" (.int 3)
  g_BORN : GcE (Gc K w C0) mg "BORN" (.str [98, 111, 114, 110])
  g_KINDS : GcE (Gc K w C0) mg "KINDS" (.kt [(.str [102, 111, 108, 100, 101, 114]), (.str [102, 105, 108, 101]), (.str [108, 105, 110, 107])])
  g_LINK : GcE (Gc K w C0) mg "LINK" (.str [108, 105, 110, 107])
  g_PUT : GcE (Gc K w C0) mg "PUT" (.str [112, 117, 116])
  g_PAIR_deeds : GcE (Gc K w C0) mg "PAIR_deeds" (.int 2)
  g_GONE : GcE (Gc K w C0) mg "GONE" (.str [103, 111, 110, 101])
  g_STAMP : GcE (Gc K w C0) mg "STAMP" (.int 2)
  g_NAME_OF_BORN : GcE (Gc K w C0) mg "NAME_OF_BORN" (.int 5)
  g_PARENT_OF_BORN : GcE (Gc K w C0) mg "PARENT_OF_BORN" (.int 4)
  g_NAME_OF_PUT : GcE (Gc K w C0) mg "NAME_OF_PUT" (.int 5)
  g_PARENT_OF_PUT : GcE (Gc K w C0) mg "PARENT_OF_PUT" (.int 4)
  g_KIND : GcE (Gc K w C0) mg "KIND" (.int 3)
  g_FOLDER : GcE (Gc K w C0) mg "FOLDER" (.str [102, 111, 108, 100, 101, 114])
  g_DOT_AT : GcE (Gc K w C0) mg "DOT_AT" (.int 1)
  g_WRITE : GcE (Gc K w C0) mg "WRITE" (.str [119, 114, 105, 116, 101])
  g_COVERS_AT : GcE (Gc K w C0) mg "COVERS_AT" (.int (-1))
  g_KIND_AT : GcE (Gc K w C0) mg "KIND_AT" (.int 3)
  g_FILE : GcE (Gc K w C0) mg "FILE" (.str [102, 105, 108, 101])
  g_ITEM : GcE (Gc K w C0) mg "ITEM" (.str [105, 116, 101, 109])
  g_ALSO : GcE (Gc K w C0) mg "ALSO" (.str [46, 97, 108, 115, 111])
  g_CLASH : GcE (Gc K w C0) mg "CLASH" (.str [46, 99, 108, 97, 115, 104])
  g_BESIDE : GcE (Gc K w C0) mg "BESIDE" (.str [98, 101, 115, 105, 100, 101])
  g_TEXT_AT : GcE (Gc K w C0) mg "TEXT_AT" (.int 6)
  g_WRITTEN_AT : GcE (Gc K w C0) mg "WRITTEN_AT" (.int 4)
  kd_PARTS : KdOk (Gc K w C0) w mg "PARTS" tbl_PARTS d_PARTS e_PARTS m_PARTS
  cf : ClsF (Gc K w C0)
section
variable {P : Program} {w : World} {K : PySem.W.Frag} {mg : Str → Option Value} {base : Heap} {C0 : Addr} {d_PARTS : Addr} {e_PARTS : Array DictEntry} {m_PARTS : Nat}
theorem b__law_born (T : Tx w K mg C0 d_PARTS e_PARTS m_PARTS) : Body P w mg base (Gc K w C0) 0 (["life", "number", "stamp", "kind", "parent", "name"] : List Str) "_law_born" (defScope s__law_born) (defBody s__law_born) B__law_born := by
  intro f cdv A outer s H E g room
  exact (ss_one (s_ret (x_tup (a_cons (x_str (el := by decide +kernel)) (a_cons (x_tup (a_cons (x_var 0) (a_cons (x_var 1) a_nil))) (a_cons (x_var 2) (a_cons (x_var 3) (a_cons (x_var 4) (a_cons (x_var 5) (a_cons (x_if (t_cmp (o_eq g) (s_eqF false) (x_var 3) (x_str (el := by decide +kernel))) (x_str (el := by decide +kernel)) x_str) a_nil))))))))))
theorem b__law_heard (T : Tx w K mg C0 d_PARTS e_PARTS m_PARTS) : Body P w mg base (Gc K w C0) 0 (["deeds", "gained", "deed", "dot"] : List Str) "_law_heard" (defScope s__law_heard) (defBody s__law_heard) B__law_heard := by
  intro f cdv A outer s H E g room
  exact (ss_cons (s_set 1 g (x_callTy (c_dict g) (b_dict false true) (by rfl) T.n_dict bt_dict (a_cons (x_lc false g (i_seq g (x_var 0)) (blkOk_by (own := [("deed", 2)]) (by kernel_rfl)) (fun s1 H1 C1 cl1 fp1 => (g_var 2 (g.blk s1 H1 _ _ fp1))) (fun s1 H1 C1 cl1 fp1 => ts_nil) (fun s1 H1 C1 cl1 fp1 => (x_tup (a_cons (x_ixU (g.blk s1 H1 _ _ fp1) (x_var 2) x_int) (a_cons (x_var 2) a_nil))))) a_nil))) (ss_one (s_ret (x_callTy (c_tuple g) b_tuple (by rfl) T.n_tuple bt_tuple (a_cons (x_lc false g (i_seq g (by exact (x_callB (c_sorted g) (b_sorted false) (by rfl) T.n_sorted bt_sorted (a_cons (x_var 1) a_nil)))) (blkOk_by (own := [("dot", 3)]) (by kernel_rfl)) (fun s1 H1 C1 cl1 fp1 => (g_var 3 (g.blk s1 H1 _ _ fp1))) (fun s1 H1 C1 cl1 fp1 => ts_nil) (fun s1 H1 C1 cl1 fp1 => (x_ixU (g.blk s1 H1 _ _ fp1) (x_var 1) (x_var 3)))) a_nil)))))
theorem b_is_whole (T : Tx w K mg C0 d_PARTS e_PARTS m_PARTS) : Body P w mg base (Gc K w C0) 0 (["value"] : List Str) "is_whole" (defScope s_is_whole) (defBody s_is_whole) B_is_whole := by
  intro f cdv A outer s H E g room
  exact (ss_one (s_ret (x_and (x_isi .int g (by rfl) T.n_isinstance (by rfl) T.n_int (x_var 0) (ht := by intro q; cases q)) (x_one (x_not (x_isi .bool g (by rfl) T.n_isinstance (by rfl) T.n_bool (x_var 0) (ht := by intro q; cases q)))))))
theorem b_is_integer (T : Tx w K mg C0 d_PARTS e_PARTS m_PARTS) (d_is_whole : DfOk P w mg base (Gc K w C0) 1 "is_whole" (["value"] : List Str) F_is_whole) : Body P w mg base (Gc K w C0) 1 (["value", "low", "high"] : List Str) "is_integer" (defScope s_is_integer) (defBody s_is_integer) B_is_integer := by
  intro f cdv A outer s H E g room
  exact (ss_one (s_ret (x_and (x_call g d_is_whole room (by rfl) (a_cons (x_var 0) a_nil)) (x_and (x_cmp (o_lt g .le) (s_lt .le) (x_var 1) (x_var 0)) (x_one (x_or (x_cmp o_is (s_is false) (x_var 2) x_non) (x_one (x_cmp (o_lt g .le) (s_lt .le) (x_var 0) (x_var 2)))))))))
theorem b_is_life (T : Tx w K mg C0 d_PARTS e_PARTS m_PARTS) (d_is_integer : DfOk P w mg base (Gc K w C0) 2 "is_integer" (["value", "low", "high"] : List Str) F_is_integer) : Body P w mg base (Gc K w C0) 2 (["value"] : List Str) "is_life" (defScope s_is_life) (defBody s_is_life) B_is_life := by
  intro f cdv A outer s H E g room
  exact (ss_one (s_ret (x_call g d_is_integer room (by rfl) (a_cons (x_var 0) (a_cons x_int (a_cons (x_globE (by rfl) T.g_MOST_LIFE) a_nil))))))
theorem b_is_tuple (T : Tx w K mg C0 d_PARTS e_PARTS m_PARTS) : Body P w mg base (Gc K w C0) 0 (["value", "least", "most"] : List Str) "is_tuple" (defScope s_is_tuple) (defBody s_is_tuple) B_is_tuple := by
  intro f cdv A outer s H E g room
  exact (ss_one (s_ret (x_and (x_isi .tuple g (by rfl) T.n_isinstance (by rfl) T.n_tuple (x_var 0) (ht := by intro q; cases q)) (x_and (x_cmp (o_lt g .le) (s_lt .le) (x_var 1) (x_callB (c_len g) b_len (by rfl) T.n_len bt_len (a_cons (x_var 0) a_nil))) (x_one (x_or (x_cmp o_is (s_is false) (x_var 2) x_non) (x_one (x_cmp (o_lt g .le) (s_lt .le) (x_callB (c_len g) b_len (by rfl) T.n_len bt_len (a_cons (x_var 0) a_nil)) (x_var 2)))))))))
theorem b_is_dot (T : Tx w K mg C0 d_PARTS e_PARTS m_PARTS) (d_is_integer : DfOk P w mg base (Gc K w C0) 2 "is_integer" (["value", "low", "high"] : List Str) F_is_integer) (d_is_life : DfOk P w mg base (Gc K w C0) 3 "is_life" (["value"] : List Str) F_is_life) (d_is_tuple : DfOk P w mg base (Gc K w C0) 1 "is_tuple" (["value", "least", "most"] : List Str) F_is_tuple) : Body P w mg base (Gc K w C0) 3 (["value"] : List Str) "is_dot" (defScope s_is_dot) (defBody s_is_dot) B_is_dot := by
  intro f cdv A outer s H E g room
  exact (ss_one (s_ret (x_and (x_call g d_is_tuple room (by rfl) (a_cons (x_var 0) (a_cons (x_globE (by rfl) T.g_PAIR_plain) (a_cons (x_globE (by rfl) T.g_PAIR_plain) a_nil)))) (x_and (x_call g d_is_life room (by rfl) (a_cons (x_ixU g (x_var 0) x_int) a_nil)) (x_one (x_call g d_is_integer room (by rfl) (a_cons (x_ixU g (x_var 0) x_int) (a_cons x_int (a_cons x_non a_nil)))))))))
theorem b_is_ascending (T : Tx w K mg C0 d_PARTS e_PARTS m_PARTS) : Body P w mg base (Gc K w C0) 0 (["value", "one", "other"] : List Str) "is_ascending" (defScope s_is_ascending) (defBody s_is_ascending) B_is_ascending := by
  intro f cdv A outer s H E g room
  exact (ss_one (s_ret (x_callB (c_all g) b_all (by rfl) T.n_all bt_all (a_cons (x_lc false g (i_zip g (by rfl) T.n_zip (a_cons (x_var 0) (a_cons (x_sl g (x_var 0) (p_some x_int) p_none) a_nil))) (blkOk_by (own := [("one", 1), ("other", 2)]) (by kernel_rfl)) (fun s1 H1 C1 cl1 fp1 => (g_tup 2 (g.blk s1 H1 _ _ fp1) (gs_cons (g_var 1 (g.blk s1 H1 _ _ fp1)) (gs_cons (g_var 2 (g.blk s1 H1 _ _ fp1)) gs_nil)))) (fun s1 H1 C1 cl1 fp1 => ts_nil) (fun s1 H1 C1 cl1 fp1 => (x_cmp (o_lt (g.blk s1 H1 _ _ fp1) .lt) (s_lt .lt) (x_var 1) (x_var 2)))) a_nil))))
theorem b_is_covers (T : Tx w K mg C0 d_PARTS e_PARTS m_PARTS) (d_is_ascending : DfOk P w mg base (Gc K w C0) 1 "is_ascending" (["value"] : List Str) F_is_ascending) (d_is_dot : DfOk P w mg base (Gc K w C0) 4 "is_dot" (["value"] : List Str) F_is_dot) : Body P w mg base (Gc K w C0) 4 (["value", "one"] : List Str) "is_covers" (defScope s_is_covers) (defBody s_is_covers) B_is_covers := by
  intro f cdv A outer s H E g room
  exact (ss_one (s_ret (x_and (x_isi .tuple g (by rfl) T.n_isinstance (by rfl) T.n_tuple (x_var 0) (ht := by intro q; cases q)) (x_and (x_callB (c_all g) b_all (by rfl) T.n_all bt_all (a_cons (x_lc false g (i_seq g (x_var 0)) (blkOk_by (own := [("one", 1)]) (by kernel_rfl)) (fun s1 H1 C1 cl1 fp1 => (g_var 1 (g.blk s1 H1 _ _ fp1))) (fun s1 H1 C1 cl1 fp1 => ts_nil) (fun s1 H1 C1 cl1 fp1 => (x_call (g.blk s1 H1 _ _ fp1) d_is_dot room (by rfl) (a_cons (x_var 1) a_nil)))) a_nil)) (x_one (x_call g d_is_ascending room (by rfl) (a_cons (x_var 0) a_nil)))))))
theorem b_is_name (T : Tx w K mg C0 d_PARTS e_PARTS m_PARTS) : Body P w mg base (Gc K w C0) 0 (["value", "sign"] : List Str) "is_name" (defScope s_is_name) (defBody s_is_name) B_is_name := by
  intro f cdv A outer s H E g room
  exact (ss_one (s_ret (x_and (x_isi .str g (by rfl) T.n_isinstance (by rfl) T.n_str (x_var 0) (ht := by intro q; cases q)) (x_and (x_cmp (o_ne g) (s_eqF true) (x_var 0) x_str) (x_and (x_cmp (o_notinU g) (s_inU true) (x_var 0) (x_globE (by rfl) T.g_DOTS)) (x_one (x_callB (c_all g) b_all (by rfl) T.n_all bt_all (a_cons (x_lc false g (i_str (x_var 0)) (blkOk_by (own := [("sign", 1)]) (by kernel_rfl)) (fun s1 H1 C1 cl1 fp1 => (g_var 1 (g.blk s1 H1 _ _ fp1))) (fun s1 H1 C1 cl1 fp1 => ts_nil) (fun s1 H1 C1 cl1 fp1 => (x_cmp (o_inU (g.blk s1 H1 _ _ fp1)) (s_inU false) (x_var 1) (x_globE (by rfl) T.g_NAMED)))) a_nil))))))))
theorem b_is_parent (T : Tx w K mg C0 d_PARTS e_PARTS m_PARTS) (d_is_dot : DfOk P w mg base (Gc K w C0) 4 "is_dot" (["value"] : List Str) F_is_dot) : Body P w mg base (Gc K w C0) 4 (["value"] : List Str) "is_parent" (defScope s_is_parent) (defBody s_is_parent) B_is_parent := by
  intro f cdv A outer s H E g room
  exact (ss_one (s_ret (x_or (x_cmp o_is (s_is false) (x_var 0) x_non) (x_one (x_call g d_is_dot room (by rfl) (a_cons (x_var 0) a_nil))))))
theorem b_is_said (T : Tx w K mg C0 d_PARTS e_PARTS m_PARTS) : Body P w mg base (Gc K w C0) 0 (["value", "words"] : List Str) "is_said" (defScope s_is_said) (defBody s_is_said) B_is_said := by
  intro f cdv A outer s H E g room
  exact (ss_one (s_ret (x_and (x_isi .str g (by rfl) T.n_isinstance (by rfl) T.n_str (x_var 0) (ht := by intro q; cases q)) (x_one (x_cmp (o_inU g) (s_inU false) (x_var 0) (x_var 1))))))
theorem b_is_text (T : Tx w K mg C0 d_PARTS e_PARTS m_PARTS) : Body P w mg base (Gc K w C0) 0 (["value", "sign"] : List Str) "is_text" (defScope s_is_text) (defBody s_is_text) B_is_text := by
  intro f cdv A outer s H E g room
  exact (ss_cons (s_if (t_bool (w_or (t_not (t_val (x_isi .str g (by rfl) T.n_isinstance (by rfl) T.n_str (x_var 0) (ht := by intro q; cases q)))) (w_or1 (t_cmp (o_lt g .gt) (s_lt .gt) (x_callB (c_len g) b_len (by rfl) T.n_len bt_len (a_cons (x_var 0) a_nil)) (x_globE (by rfl) T.g_MOST_TEXT))))) (ss_one (s_ret x_bl)) ss_nil) (ss_one (s_ret (x_callB (c_all g) b_all (by rfl) T.n_all bt_all (a_cons (x_lc false g (i_str (x_var 0)) (blkOk_by (own := [("sign", 1)]) (by kernel_rfl)) (fun s1 H1 C1 cl1 fp1 => (g_var 1 (g.blk s1 H1 _ _ fp1))) (fun s1 H1 C1 cl1 fp1 => ts_nil) (fun s1 H1 C1 cl1 fp1 => (x_chain (o_lt (g.blk s1 H1 _ _ fp1) .le) (s_lt .le) (o_lt (g.blk s1 H1 _ _ fp1) .le) (s_lt .le) (x_globE (by rfl) T.g_LOWEST) (x_var 1) (x_globE (by rfl) T.g_HIGHEST)))) a_nil)))))
theorem b_is_rest (T : Tx w K mg C0 d_PARTS e_PARTS m_PARTS) (d_is_covers : DfOk P w mg base (Gc K w C0) 5 "is_covers" (["value"] : List Str) F_is_covers) (d_is_dot : DfOk P w mg base (Gc K w C0) 4 "is_dot" (["value"] : List Str) F_is_dot) (d_is_name : DfOk P w mg base (Gc K w C0) 1 "is_name" (["value"] : List Str) F_is_name) (d_is_parent : DfOk P w mg base (Gc K w C0) 5 "is_parent" (["value"] : List Str) F_is_parent) (d_is_said : DfOk P w mg base (Gc K w C0) 1 "is_said" (["value", "words"] : List Str) F_is_said) (d_is_text : DfOk P w mg base (Gc K w C0) 1 "is_text" (["value"] : List Str) F_is_text) : Body P w mg base (Gc K w C0) 5 (["deed", "rest", "kind", "parent", "name", "text"] : List Str) "is_rest" (defScope s_is_rest) (defBody s_is_rest) B_is_rest := by
  intro f cdv A outer s H E g room
  exact (ss_cons (s_set 1 g (x_sl g (x_var 0) (p_some (x_globE (by rfl) T.g_FRESH)) p_none)) (ss_cons (s_if (t_cmp (o_eq g) (s_eqF false) (x_ixU g (x_var 0) x_int) (x_globE (by rfl) T.g_BORN)) (ss_cons (s_asg (x_var 1) (g_tup 4 g (gs_cons (g_var 2 g) (gs_cons (g_var 3 g) (gs_cons (g_var 4 g) (gs_cons (g_var 5 g) gs_nil)))))) (ss_cons (s_if (t_bool (w_or (t_not (t_val (x_call g d_is_said room (by rfl) (a_cons (x_var 2) (a_cons (x_globE (by rfl) T.g_KINDS) a_nil))))) (w_or (t_not (t_val (x_call g d_is_parent room (by rfl) (a_cons (x_var 3) a_nil)))) (w_or1 (t_not (t_val (x_call g d_is_name room (by rfl) (a_cons (x_var 4) a_nil)))))))) (ss_one (s_ret x_bl)) ss_nil) (ss_one (s_ret (x_and (x_call g d_is_text room (by rfl) (a_cons (x_var 5) a_nil)) (x_one (x_or (x_cmp (o_eq g) (s_eqF false) (x_var 2) (x_globE (by rfl) T.g_LINK)) (x_one (x_cmp (o_eq g) (s_eqF false) (x_var 5) x_str))))))))) ss_nil) (ss_cons (s_if (t_not (t_val (x_call g d_is_dot room (by rfl) (a_cons (x_ixU g (x_var 1) x_int) a_nil)))) (ss_one (s_ret x_bl)) ss_nil) (ss_cons (s_if (t_cmp (o_eq g) (s_eqF false) (x_ixU g (x_var 0) x_int) (x_globE (by rfl) T.g_PUT)) (ss_one (s_ret (x_and (x_call g d_is_parent room (by rfl) (a_cons (x_ixU g (x_var 1) x_int) a_nil)) (x_one (x_call g d_is_name room (by rfl) (a_cons (x_ixU g (x_var 1) (x_globE (by rfl) T.g_PAIR_deeds)) a_nil)))))) ss_nil) (ss_one (s_ret (x_and (x_call g d_is_covers room (by rfl) (a_cons (x_ixU g (x_var 1) (x_un un_neg s_neg x_int)) a_nil)) (x_one (x_or (x_cmp (o_eq g) (s_eqF false) (x_ixU g (x_var 0) x_int) (x_globE (by rfl) T.g_GONE)) (x_one (x_call g d_is_text room (by rfl) (a_cons (x_ixU g (x_var 1) x_int) a_nil))))))))))))
theorem b_is_deed (T : Tx w K mg C0 d_PARTS e_PARTS m_PARTS) (d_is_dot : DfOk P w mg base (Gc K w C0) 4 "is_dot" (["value"] : List Str) F_is_dot) (d_is_rest : DfOk P w mg base (Gc K w C0) 6 "is_rest" (["deed"] : List Str) F_is_rest) (d_is_said : DfOk P w mg base (Gc K w C0) 1 "is_said" (["value", "words"] : List Str) F_is_said) (d_is_whole : DfOk P w mg base (Gc K w C0) 1 "is_whole" (["value"] : List Str) F_is_whole) : Body P w mg base (Gc K w C0) 6 (["value"] : List Str) "is_deed" (defScope s_is_deed) (defBody s_is_deed) B_is_deed := by
  intro f cdv A outer s H E g room
  exact (ss_cons (s_if (t_bool (w_or (t_not (t_val (x_isi .tuple g (by rfl) T.n_isinstance (by rfl) T.n_tuple (x_var 0) (ht := by intro q; cases q)))) (w_or (t_cmp (o_eq g) (s_eqF false) (x_var 0) (x_tup a_nil)) (w_or1 (t_not (t_val (x_call g d_is_said room (by rfl) (a_cons (x_ixU g (x_var 0) x_int) (a_cons (x_tabTup g T.kd_PARTS (by rfl) T.n_tuple (by rfl)) a_nil))))))))) (ss_one (s_ret x_bl)) ss_nil) (ss_cons (s_if (t_bool (w_or (t_cmp (o_ne g) (s_eqF true) (x_callB (c_len g) b_len (by rfl) T.n_len bt_len (a_cons (x_var 0) a_nil)) (x_tabIx g T.kd_PARTS (by rfl) (x_ixU g (x_var 0) x_int))) (w_or1 (t_not (t_val (x_call g d_is_dot room (by rfl) (a_cons (x_ixU g (x_var 0) x_int) a_nil))))))) (ss_one (s_ret x_bl)) ss_nil) (ss_one (s_ret (x_and (x_call g d_is_whole room (by rfl) (a_cons (x_ixU g (x_var 0) (x_globE (by rfl) T.g_PAIR_deeds)) a_nil)) (x_and (x_cmp (o_lt g .ge) (s_lt .ge) (x_ixU g (x_var 0) (x_globE (by rfl) T.g_PAIR_deeds)) x_int) (x_one (x_call g d_is_rest room (by rfl) (a_cons (x_var 0) a_nil)))))))))
theorem b_dot_of (T : Tx w K mg C0 d_PARTS e_PARTS m_PARTS) : Body P w mg base (Gc K w C0) 0 (["deed"] : List Str) "dot_of" (defScope s_dot_of) (defBody s_dot_of) B_dot_of := by
  intro f cdv A outer s H E g room
  exact (ss_one (s_ret (x_ixU g (x_var 0) x_int)))
theorem b_is_next (T : Tx w K mg C0 d_PARTS e_PARTS m_PARTS) (d_dot_of : DfOk P w mg base (Gc K w C0) 1 "dot_of" (["deed"] : List Str) F_dot_of) : Body P w mg base (Gc K w C0) 1 (["ahead", "deed", "life", "number"] : List Str) "is_next" (defScope s_is_next) (defBody s_is_next) B_is_next := by
  intro f cdv A outer s H E g room
  exact (ss_cons (s_asg (x_call g d_dot_of room (by rfl) (a_cons (x_var 1) a_nil)) (g_tup 2 g (gs_cons (g_var 2 g) (gs_cons (g_var 3 g) gs_nil)))) (ss_cons (s_if (t_bool (w_or (t_cmp o_is (s_is false) (x_var 0) x_non) (w_or1 (t_cmp (o_lt g .lt) (s_lt .lt) (x_ixU g (x_call g d_dot_of room (by rfl) (a_cons (x_var 0) a_nil)) x_int) (x_var 2))))) (ss_one (s_ret (x_cmp (o_eq g) (s_eqF false) (x_var 3) x_int))) ss_nil) (ss_one (s_ret (x_and (x_cmp (o_eq g) (s_eqF false) (x_call g d_dot_of room (by rfl) (a_cons (x_var 0) a_nil)) (x_tup (a_cons (x_var 2) (a_cons (x_bin op_sub s_sub (x_var 3) x_int) a_nil)))) (x_one (x_cmp (o_lt g .lt) (s_lt .lt) (x_ixU g (x_var 0) (x_globE (by rfl) T.g_STAMP)) (x_ixU g (x_var 1) (x_globE (by rfl) T.g_STAMP)))))))))
theorem b_is_heard (T : Tx w K mg C0 d_PARTS e_PARTS m_PARTS) (d_is_deed : DfOk P w mg base (Gc K w C0) 7 "is_deed" (["value"] : List Str) F_is_deed) (d_is_next : DfOk P w mg base (Gc K w C0) 2 "is_next" (["ahead", "deed"] : List Str) F_is_next) : Body P w mg base (Gc K w C0) 7 (["value", "at", "deed", "one"] : List Str) "is_heard" (defScope s_is_heard) (defBody s_is_heard) B_is_heard := by
  intro f cdv A outer s H E g room
  exact (ss_cons (s_if (t_bool (w_or (t_not (t_val (x_isi .tuple g (by rfl) T.n_isinstance (by rfl) T.n_tuple (x_var 0) (ht := by intro q; cases q)))) (w_or1 (t_not (t_val (x_callB (c_all g) b_all (by rfl) T.n_all bt_all (a_cons (x_lc false g (i_seq g (x_var 0)) (blkOk_by (own := [("one", 3)]) (by kernel_rfl)) (fun s1 H1 C1 cl1 fp1 => (g_var 3 (g.blk s1 H1 _ _ fp1))) (fun s1 H1 C1 cl1 fp1 => ts_nil) (fun s1 H1 C1 cl1 fp1 => (x_call (g.blk s1 H1 _ _ fp1) d_is_deed room (by rfl) (a_cons (x_var 3) a_nil)))) a_nil))))))) (ss_one (s_ret x_bl)) ss_nil) (ss_one (s_ret (x_callB (c_all g) b_all (by rfl) T.n_all bt_all (a_cons (x_lc false g (i_enumT g (by rfl) T.n_enumerate (a_cons (x_var 0) a_nil)) (blkOk_by (own := [("at", 1), ("deed", 2)]) (by kernel_rfl)) (fun s1 H1 C1 cl1 fp1 => (g_tup 2 (g.blk s1 H1 _ _ fp1) (gs_cons (g_var 1 (g.blk s1 H1 _ _ fp1)) (gs_cons (g_var 2 (g.blk s1 H1 _ _ fp1)) gs_nil)))) (fun s1 H1 C1 cl1 fp1 => ts_nil) (fun s1 H1 C1 cl1 fp1 => (x_call (g.blk s1 H1 _ _ fp1) d_is_next room (by rfl) (a_cons (x_if (t_cmp (o_lt (g.blk s1 H1 _ _ fp1) .gt) (s_lt .gt) (x_var 1) x_int) (x_ixU (g.blk s1 H1 _ _ fp1) (x_var 0) (x_bin op_sub s_sub (x_var 1) x_int)) x_non) (a_cons (x_var 2) a_nil))))) a_nil)))))
theorem b_check_heard (T : Tx w K mg C0 d_PARTS e_PARTS m_PARTS) (d_is_heard : DfOk P w mg base (Gc K w C0) 8 "is_heard" (["value"] : List Str) F_is_heard) : Body P w mg base (Gc K w C0) 8 (["value"] : List Str) "check_heard" (defScope s_check_heard) (defBody s_check_heard) B_check_heard := by
  intro f cdv A outer s H E g room
  exact (ss_one (s_if (t_not (t_val (x_call g d_is_heard room (by rfl) (a_cons (x_var 0) a_nil)))) (ss_one s_never) ss_nil))
theorem b_borns_of (T : Tx w K mg C0 d_PARTS e_PARTS m_PARTS) : Body P w mg base (Gc K w C0) 0 (["deeds", "deed"] : List Str) "borns_of" (defScope s_borns_of) (defBody s_borns_of) B_borns_of := by
  intro f cdv A outer s H E g room
  exact (ss_one (s_ret (x_dc false true g (i_seq g (x_var 0)) (blkOk_by (own := [("deed", 1)]) (by kernel_rfl)) (fun s1 H1 C1 cl1 fp1 => (g_var 1 (g.blk s1 H1 _ _ fp1))) (fun s1 H1 C1 cl1 fp1 => (ts_one (t_cmp (o_eq (g.blk s1 H1 _ _ fp1)) (s_eqF false) (x_ixU (g.blk s1 H1 _ _ fp1) (x_var 1) x_int) (x_globE (by rfl) T.g_BORN)))) (fun s1 H1 C1 cl1 fp1 => (x_ixU (g.blk s1 H1 _ _ fp1) (x_var 1) (x_globE (by rfl) T.g_DOT_AT))) (fun s1 H1 C1 cl1 fp1 => (x_var 1)))))
theorem b_folders_in (T : Tx w K mg C0 d_PARTS e_PARTS m_PARTS) (d_dot_of : DfOk P w mg base (Gc K w C0) 1 "dot_of" (["deed"] : List Str) F_dot_of) : Body P w mg base (Gc K w C0) 1 (["deeds", "deed"] : List Str) "folders_in" (defScope s_folders_in) (defBody s_folders_in) B_folders_in := by
  intro f cdv A outer s H E g room
  exact (ss_one (s_ret (x_dc false true g (i_seq g (x_var 0)) (blkOk_by (own := [("deed", 1)]) (by kernel_rfl)) (fun s1 H1 C1 cl1 fp1 => (g_var 1 (g.blk s1 H1 _ _ fp1))) (fun s1 H1 C1 cl1 fp1 => (ts_one (t_bool (w_and (t_cmp (o_eq (g.blk s1 H1 _ _ fp1)) (s_eqF false) (x_ixU (g.blk s1 H1 _ _ fp1) (x_var 1) x_int) (x_globE (by rfl) T.g_BORN)) (w_and1 (t_cmp (o_eq (g.blk s1 H1 _ _ fp1)) (s_eqF false) (x_ixU (g.blk s1 H1 _ _ fp1) (x_var 1) (x_globE (by rfl) T.g_KIND)) (x_globE (by rfl) T.g_FOLDER))))))) (fun s1 H1 C1 cl1 fp1 => (x_call (g.blk s1 H1 _ _ fp1) d_dot_of room (by rfl) (a_cons (x_var 1) a_nil))) (fun s1 H1 C1 cl1 fp1 => x_bl))))
theorem b_is_move (T : Tx w K mg C0 d_PARTS e_PARTS m_PARTS) : Body P w mg base (Gc K w C0) 0 (["deed"] : List Str) "is_move" (defScope s_is_move) (defBody s_is_move) B_is_move := by
  intro f cdv A outer s H E g room
  exact (ss_one (s_ret (x_cmp (o_inU g) (s_inU false) (x_ixU g (x_var 0) x_int) (x_tup (a_cons (x_globE (by rfl) T.g_BORN) (a_cons (x_globE (by rfl) T.g_PUT) a_nil))))))
theorem b_item_of (T : Tx w K mg C0 d_PARTS e_PARTS m_PARTS) : Body P w mg base (Gc K w C0) 0 (["deed"] : List Str) "item_of" (defScope s_item_of) (defBody s_item_of) B_item_of := by
  intro f cdv A outer s H E g room
  exact (ss_one (s_ret (x_if (t_cmp (o_eq g) (s_eqF false) (x_ixU g (x_var 0) x_int) (x_globE (by rfl) T.g_BORN)) (x_ixU g (x_var 0) x_int) (x_ixU g (x_var 0) (x_globE (by rfl) T.g_FRESH)))))
theorem b_can_bear (T : Tx w K mg C0 d_PARTS e_PARTS m_PARTS) : Body P w mg base (Gc K w C0) 0 (["placed", "folders", "parent"] : List Str) "can_bear" (defScope s_can_bear) (defBody s_can_bear) B_can_bear := by
  intro f cdv A outer s H E g room
  exact (ss_one (s_ret (x_or (x_cmp o_is (s_is false) (x_var 2) x_non) (x_one (x_and (x_cmp (o_inU g) (s_inU false) (x_var 2) (x_var 0)) (x_one (x_cmp (o_inU g) (s_inU false) (x_var 2) (x_var 1))))))))
theorem b_is_within (T : Tx w K mg C0 d_PARTS e_PARTS m_PARTS) : Body P w mg base (Gc K w C0) 0 (["placed", "item", "other"] : List Str) "is_within" (defScope s_is_within) (defBody s_is_within) B_is_within := by
  intro f cdv A outer s H E g room
  exact (ss_cons (s_whl 1000 PassesOwn.never (t_cmp o_isnot (s_is true) (x_var 1) x_non) (ss_cons (s_if (t_cmp (o_eq g) (s_eqF false) (x_var 1) (x_var 2)) (ss_one (s_ret x_bl)) ss_nil) (ss_one (s_set 1 g (x_ixU g (x_ixU g (x_var 0) (x_var 1)) x_int))))) (ss_one (s_ret x_bl)))
theorem b_place_by (T : Tx w K mg C0 d_PARTS e_PARTS m_PARTS) (d_can_bear : DfOk P w mg base (Gc K w C0) 1 "can_bear" (["placed", "folders", "parent"] : List Str) F_can_bear) (d_is_within : DfOk P w mg base (Gc K w C0) 1 "is_within" (["placed", "item", "other"] : List Str) F_is_within) (d_item_of : DfOk P w mg base (Gc K w C0) 1 "item_of" (["deed"] : List Str) F_item_of) : Body P w mg base (Gc K w C0) 1 (["placed", "folders", "deed", "place", "item"] : List Str) "place_by" (defScope s_place_by) (defBody s_place_by) B_place_by := by
  intro f cdv A outer s H E g room
  exact (ss_cons (s_if (t_cmp (o_eq g) (s_eqF false) (x_ixU g (x_var 2) x_int) (x_globE (by rfl) T.g_BORN)) (ss_cons (s_set 3 g (x_tup (a_cons (x_ixU g (x_var 2) (x_globE (by rfl) T.g_PARENT_OF_BORN)) (a_cons (x_ixU g (x_var 2) (x_globE (by rfl) T.g_NAME_OF_BORN)) a_nil)))) (ss_one (s_ret (x_if (t_val (x_call g d_can_bear room (by rfl) (a_cons (x_var 0) (a_cons (x_var 1) (a_cons (x_ixU g (x_var 3) x_int) a_nil))))) (x_var 3) x_non)))) ss_nil) (ss_cons (s_set 3 g (x_tup (a_cons (x_ixU g (x_var 2) (x_globE (by rfl) T.g_PARENT_OF_PUT)) (a_cons (x_ixU g (x_var 2) (x_globE (by rfl) T.g_NAME_OF_PUT)) a_nil)))) (ss_cons (s_set 4 g (x_call g d_item_of room (by rfl) (a_cons (x_var 2) a_nil))) (ss_cons (s_if (t_bool (w_or (t_cmp (o_notinU g) (s_inU true) (x_var 4) (x_var 0)) (w_or (t_not (t_val (x_call g d_can_bear room (by rfl) (a_cons (x_var 0) (a_cons (x_var 1) (a_cons (x_ixU g (x_var 3) x_int) a_nil)))))) (w_or1 (t_val (x_call g d_is_within room (by rfl) (a_cons (x_var 0) (a_cons (x_ixU g (x_var 3) x_int) (a_cons (x_var 4) a_nil))))))))) (ss_one (s_ret x_non)) ss_nil) (ss_one (s_ret (x_var 3)))))))
theorem b_sequence (T : Tx w K mg C0 d_PARTS e_PARTS m_PARTS) : Body P w mg base (Gc K w C0) 0 (["deed"] : List Str) "sequence" (defScope s_sequence) (defBody s_sequence) B_sequence := by
  intro f cdv A outer s H E g room
  exact (ss_one (s_ret (x_tup (a_cons (x_ixU g (x_var 0) (x_globE (by rfl) T.g_PAIR_deeds)) (a_cons (x_ixU g (x_var 0) x_int) a_nil)))))
theorem b_gone_through (T : Tx w K mg C0 d_PARTS e_PARTS m_PARTS) (d_dot_of : DfOk P w mg base (Gc K w C0) 1 "dot_of" (["deed"] : List Str) F_dot_of) (d_folders_in : DfOk P w mg base (Gc K w C0) 2 "folders_in" (["deeds"] : List Str) F_folders_in) (d_is_move : DfOk P w mg base (Gc K w C0) 1 "is_move" (["deed"] : List Str) F_is_move) (d_item_of : DfOk P w mg base (Gc K w C0) 1 "item_of" (["deed"] : List Str) F_item_of) (d_place_by : DfOk P w mg base (Gc K w C0) 2 "place_by" (["placed", "folders", "deed"] : List Str) F_place_by) (d_sequence : DfOk P w mg base (Gc K w C0) 1 "sequence" (["deed"] : List Str) F_sequence) : Body P w mg base (Gc K w C0) 3 (["deeds", "placed", "out", "folders", "deed", "place"] : List Str) "gone_through" (defScope s_gone_through) (defBody s_gone_through) B_gone_through := by
  intro f cdv A outer s H E g room
  exact (ss_cons (s_par3 1 2 3 g (a_cons (x_dct true true) (a_cons (x_dct true true) (a_cons (x_call g d_folders_in room (by rfl) (a_cons (x_var 0) a_nil)) a_nil)))) (ss_cons (s_for 1000 g PassesOwn.never (i_seq g (by exact (x_sortK false g d_sequence room (by rfl) T.n_sorted (by rfl) (x_lc false g (i_seq g (x_var 0)) (blkOk_by (own := [("deed", 4)]) (by kernel_rfl)) (fun s1 H1 C1 cl1 fp1 => (g_var 4 (g.blk s1 H1 _ _ fp1))) (fun s1 H1 C1 cl1 fp1 => (ts_one (t_val (x_call (g.blk s1 H1 _ _ fp1) d_is_move room (by rfl) (a_cons (x_var 4) a_nil))))) (fun s1 H1 C1 cl1 fp1 => (x_var 4)))))) (g_var 4 g) (ss_cons (s_set 5 g (x_call g d_place_by room (by rfl) (a_cons (x_var 1) (a_cons (x_var 3) (a_cons (x_var 4) a_nil))))) (ss_one (s_if (t_cmp o_is (s_is false) (x_var 5) x_non) (ss_one (s_asg x_bl (g_subU g (x_var 2) (x_call g d_dot_of room (by rfl) (a_cons (x_var 4) a_nil))))) (ss_one (s_asg (x_var 5) (g_subU g (x_var 1) (x_call g d_item_of room (by rfl) (a_cons (x_var 4) a_nil))))))))) (ss_one (s_ret (x_tup (a_cons (x_var 1) (a_cons (x_var 2) a_nil)))))))
theorem b_placed_items (T : Tx w K mg C0 d_PARTS e_PARTS m_PARTS) (d_gone_through : DfOk P w mg base (Gc K w C0) 4 "gone_through" (["deeds"] : List Str) F_gone_through) : Body P w mg base (Gc K w C0) 4 (["deeds"] : List Str) "placed_items" (defScope s_placed_items) (defBody s_placed_items) B_placed_items := by
  intro f cdv A outer s H E g room
  exact (ss_one (s_ret (x_ixU g (x_call g d_gone_through room (by rfl) (a_cons (x_var 0) a_nil)) x_int)))
theorem b_covered_of (T : Tx w K mg C0 d_PARTS e_PARTS m_PARTS) : Body P w mg base (Gc K w C0) 0 (["deeds", "found", "deed", "dot"] : List Str) "covered_of" (defScope s_covered_of) (defBody s_covered_of) B_covered_of := by
  intro f cdv A outer s H E g room
  exact (ss_cons (s_set 1 g (x_dct true true)) (ss_cons (s_for 1000 g PassesOwn.never (i_seq g (x_var 0)) (g_var 2 g) (ss_one (s_if (t_cmp (o_inU g) (s_inU false) (x_ixU g (x_var 2) x_int) (x_tup (a_cons (x_globE (by rfl) T.g_WRITE) (a_cons (x_globE (by rfl) T.g_GONE) a_nil)))) (ss_one (s_drop (x_mt .dict g PySem.F.plainAttrs_dict PySem.F.slot_dict_update PySem.F.type_dict_update (mt_dupd g) s_dupd (x_var 1) (a_cons (x_dc false true g (i_seq g (x_ixU g (x_var 2) (x_globE (by rfl) T.g_COVERS_AT))) (blkOk_by (own := [("dot", 3)]) (by kernel_rfl)) (fun s1 H1 C1 cl1 fp1 => (g_var 3 (g.blk s1 H1 _ _ fp1))) (fun s1 H1 C1 cl1 fp1 => (ts_one (t_cmp (o_ne (g.blk s1 H1 _ _ fp1)) (s_eqF true) (x_var 3) (x_ixU (g.blk s1 H1 _ _ fp1) (x_var 2) (x_globE (by rfl) T.g_DOT_AT))))) (fun s1 H1 C1 cl1 fp1 => (x_var 3)) (fun s1 H1 C1 cl1 fp1 => x_bl)) a_nil)))) ss_nil))) (ss_one (s_ret (x_var 1)))))
theorem b_live_of (T : Tx w K mg C0 d_PARTS e_PARTS m_PARTS) (d_borns_of : DfOk P w mg base (Gc K w C0) 1 "borns_of" (["deeds"] : List Str) F_borns_of) (d_covered_of : DfOk P w mg base (Gc K w C0) 1 "covered_of" (["deeds"] : List Str) F_covered_of) (d_item_of : DfOk P w mg base (Gc K w C0) 1 "item_of" (["deed"] : List Str) F_item_of) (d_sequence : DfOk P w mg base (Gc K w C0) 1 "sequence" (["deed"] : List Str) F_sequence) : Body P w mg base (Gc K w C0) 3 (["deeds", "borns", "covered", "item", "found", "deed", "is_file"] : List Str) "live_of" (defScope s_live_of) (defBody s_live_of) B_live_of := by
  intro f cdv A outer s H E g room
  exact (ss_cons (s_par 1 2 g (a_cons (x_call g d_borns_of room (by rfl) (a_cons (x_var 0) a_nil)) (a_cons (x_call g d_covered_of room (by rfl) (a_cons (x_var 0) a_nil)) a_nil))) (ss_cons (s_setDcK false true 1 4 g (blkOk_by (own := [("item", 3)]) (by kernel_rfl)) (fun s1 H1 C1 cl1 fp1 => (g_var 3 (g.blk s1 H1 _ _ fp1))) (fun s1 H1 C1 cl1 fp1 => ts_nil) (fun s1 H1 C1 cl1 fp1 => (x_var 3)) (fun s1 H1 C1 cl1 fp1 => (x_lst true a_nil))) (ss_cons (s_for 1000 g PassesOwn.never (i_seq g (by exact (x_sortK false g d_sequence room (by rfl) T.n_sorted (by rfl) (x_var 0)))) (g_var 5 g) (ss_cons (s_set 3 g (x_call g d_item_of room (by rfl) (a_cons (x_var 5) a_nil))) (ss_one (s_if (t_bool (w_and (t_cmp (o_inU g) (s_inU false) (x_var 3) (x_var 1)) (w_and1 (t_cmp (o_notinU g) (s_inU true) (x_ixU g (x_var 5) (x_globE (by rfl) T.g_DOT_AT)) (x_var 2))))) (ss_cons (s_set 6 g (x_cmp (o_eq g) (s_eqF false) (x_ixU g (x_ixU g (x_var 1) (x_var 3)) (x_globE (by rfl) T.g_KIND_AT)) (x_globE (by rfl) T.g_FILE))) (ss_one (s_if (t_bool (w_or (t_bool (w_and (t_cmp (o_eq g) (s_eqF false) (x_ixU g (x_var 5) x_int) (x_globE (by rfl) T.g_WRITE)) (w_and1 (t_val (x_var 6))))) (w_or1 (t_bool (w_and (t_cmp (o_inU g) (s_inU false) (x_ixU g (x_var 5) x_int) (x_tup (a_cons (x_globE (by rfl) T.g_BORN) (a_cons (x_globE (by rfl) T.g_PUT) a_nil)))) (w_and1 (t_not (t_val (x_var 6))))))))) (ss_one (s_drop (x_mt .list g PySem.F.plainAttrs_list PySem.F.slot_list_append PySem.F.type_list_append mt_append s_append (x_ixU g (x_var 4) (x_var 3)) (a_cons (x_var 5) a_nil)))) ss_nil))) ss_nil)))) (ss_one (s_ret (x_var 4))))))
theorem b_standing_items (T : Tx w K mg C0 d_PARTS e_PARTS m_PARTS) (d_borns_of : DfOk P w mg base (Gc K w C0) 1 "borns_of" (["deeds"] : List Str) F_borns_of) (d_live_of : DfOk P w mg base (Gc K w C0) 4 "live_of" (["deeds"] : List Str) F_live_of) (d_placed_items : DfOk P w mg base (Gc K w C0) 5 "placed_items" (["deeds"] : List Str) F_placed_items) : Body P w mg base (Gc K w C0) 5 (["deeds", "borns", "lives", "placed", "found", "item"] : List Str) "standing_items" (defScope s_standing_items) (defBody s_standing_items) B_standing_items := by
  intro f cdv A outer s H E g room
  exact (ss_cons (s_par3 1 2 3 g (a_cons (x_call g d_borns_of room (by rfl) (a_cons (x_var 0) a_nil)) (a_cons (x_call g d_live_of room (by rfl) (a_cons (x_var 0) a_nil)) (a_cons (x_call g d_placed_items room (by rfl) (a_cons (x_var 0) a_nil)) a_nil)))) (ss_cons (s_set 4 g (x_dct true true)) (ss_cons (s_forK 1 g PassesOwn.never (g_var 5 g) (ss_one (s_if (t_cmp (o_ne g) (s_eqF true) (x_ixU g (x_var 2) (x_var 5)) (x_lst false a_nil)) (ss_one (s_whl 1000 PassesOwn.never (t_bool (w_and (t_cmp o_isnot (s_is true) (x_var 5) x_non) (w_and1 (t_cmp (o_notinU g) (s_inU true) (x_var 5) (x_var 4))))) (ss_cons (s_asg x_bl (g_subU g (x_var 4) (x_var 5))) (ss_one (s_set 5 g (x_if (t_cmp (o_inU g) (s_inU false) (x_var 5) (x_var 3)) (x_ixU g (x_ixU g (x_var 3) (x_var 5)) x_int) x_non)))))) ss_nil))) (ss_one (s_ret (x_var 4))))))
theorem b_in_folders (T : Tx w K mg C0 d_PARTS e_PARTS m_PARTS) (d_placed_items : DfOk P w mg base (Gc K w C0) 5 "placed_items" (["deeds"] : List Str) F_placed_items) (d_standing_items : DfOk P w mg base (Gc K w C0) 6 "standing_items" (["deeds"] : List Str) F_standing_items) : Body P w mg base (Gc K w C0) 6 (["deeds", "placed", "found", "item"] : List Str) "in_folders" (defScope s_in_folders) (defBody s_in_folders) B_in_folders := by
  intro f cdv A outer s H E g room
  exact (ss_cons (s_par 1 2 g (a_cons (x_call g d_placed_items room (by rfl) (a_cons (x_var 0) a_nil)) (a_cons (x_newM g) a_nil))) (ss_cons (s_for 1000 g PassesOwn.never (i_seq g (by exact (x_callB (c_sorted g) (b_sorted false) (by rfl) T.n_sorted bt_sorted (a_cons (x_call g d_standing_items room (by rfl) (a_cons (x_var 0) a_nil)) a_nil)))) (g_var 3 g) (ss_one (s_if (t_cmp (o_inU g) (s_inU false) (x_var 3) (x_var 1)) (ss_one (s_drop (x_mt .list g PySem.F.plainAttrs_list PySem.F.slot_list_append PySem.F.type_list_append mt_append s_append (x_mtU .dict g PySem.F.plainAttrs_dict PySem.F.slot_dict_setdefault PySem.F.type_dict_setdefault (mt_setdU g) s_setdU (x_var 2) (a_cons (x_ixU g (x_ixU g (x_var 1) (x_var 3)) x_int) (a_cons (x_lst true a_nil) a_nil))) (a_cons (x_var 3) a_nil)))) ss_nil))) (ss_one (s_ret (x_var 2)))))
theorem b_Names___init__ (T : Tx w K mg C0 d_PARTS e_PARTS m_PARTS) : Body P w mg base (Gc K w C0) 0 (["self"] : List Str) "Names.__init__" (defScope s_Names___init__) (defBody s_Names___init__) B_Names___init__ := by
  intro f cdv A outer s H E g room
  exact (ss_cons (s_fld 0 (g.gk T.cf) (x_var 0) (x_newM g)) (ss_one (s_fld 1 (g.gk T.cf) (x_var 0) (x_newM g))))
theorem b_folded (T : Tx w K mg C0 d_PARTS e_PARTS m_PARTS) : Body P w mg base (Gc K w C0) 0 (["name", "sign"] : List Str) "folded" (defScope s_folded) (defBody s_folded) B_folded := by
  intro f cdv A outer s H E g room
  exact (ss_one (s_ret (x_mt .str g PySem.F.plainAttrs_str PySem.F.slot_str_join PySem.F.type_str_join (mt_joinA g) s_join x_str (a_cons (x_lc false g (i_str (x_var 0)) (blkOk_by (own := [("sign", 1)]) (by kernel_rfl)) (fun s1 H1 C1 cl1 fp1 => (g_var 1 (g.blk s1 H1 _ _ fp1))) (fun s1 H1 C1 cl1 fp1 => ts_nil) (fun s1 H1 C1 cl1 fp1 => (x_if (t_cmp (o_inU (g.blk s1 H1 _ _ fp1)) (s_inU false) (x_var 1) (x_globE (by rfl) T.g_CAPITALS)) (x_ixU (g.blk s1 H1 _ _ fp1) (x_globE (by rfl) T.g_SMALL) (x_mt .str (g.blk s1 H1 _ _ fp1) PySem.F.plainAttrs_str PySem.F.slot_str_index PySem.F.type_str_index mt_sindex s_indexS (x_globE (by rfl) T.g_CAPITALS) (a_cons (x_var 1) a_nil))) (x_var 1)))) a_nil))))
theorem b_Names_give (T : Tx w K mg C0 d_PARTS e_PARTS m_PARTS) (d_folded : DfOk P w mg base (Gc K w C0) 1 "folded" (["name"] : List Str) F_folded) : Body P w mg base (Gc K w C0) 1 (["self", "name"] : List Str) "Names.give" (defScope s_Names_give) (defBody s_Names_give) B_Names_give := by
  intro f cdv A outer s H E g room
  exact (ss_cons (s_asg x_bl (g_subU g (x_fld 0 (g.gk T.cf) (x_var 0)) (x_call g d_folded room (by rfl) (a_cons (x_var 1) a_nil)))) (ss_one (s_ret (x_var 1))))
theorem b_Names_is_free (T : Tx w K mg C0 d_PARTS e_PARTS m_PARTS) (d_folded : DfOk P w mg base (Gc K w C0) 1 "folded" (["name"] : List Str) F_folded) : Body P w mg base (Gc K w C0) 1 (["self", "name"] : List Str) "Names.is_free" (defScope s_Names_is_free) (defBody s_Names_is_free) B_Names_is_free := by
  intro f cdv A outer s H E g room
  exact (ss_one (s_ret (x_cmp (o_notinU g) (s_inU true) (x_call g d_folded room (by rfl) (a_cons (x_var 1) a_nil)) (x_fld 0 (g.gk T.cf) (x_var 0)))))
theorem b_Names_made (T : Tx w K mg C0 d_PARTS e_PARTS m_PARTS) (d_folded : DfOk P w mg base (Gc K w C0) 1 "folded" (["name"] : List Str) F_folded) (d_Names_give : MtOk P w mg base (Gc K w C0) 2 0 "give" (["self", "name"] : List Str) F_Names_give) (d_Names_is_free : MtOk P w mg base (Gc K w C0) 2 0 "is_free" (["self", "name"] : List Str) F_Names_is_free) : Body P w mg base (Gc K w C0) 2 (["self", "name", "word", "number"] : List Str) "Names.made" (defScope s_Names_made) (defBody s_Names_made) B_Names_made := by
  intro f cdv A outer s H E g room
  exact (ss_cons (s_set 3 g (x_bin (o_add g) s_add (x_mtU .dict g PySem.F.plainAttrs_dict PySem.F.slot_dict_get PySem.F.type_dict_get (mt_getU g) s_getU (x_fld 1 (g.gk T.cf) (x_var 0)) (a_cons (x_tup (a_cons (x_call g d_folded room (by rfl) (a_cons (x_var 1) a_nil)) (a_cons (x_var 2) a_nil))) (a_cons x_int a_nil))) x_int)) (ss_cons (s_whl 1000 PassesOwn.never (t_not (t_val (x_meth 0 (g.gk T.cf) (x_var 0) d_Names_is_free room (a_cons (x_bin (o_add g) s_add (x_bin (o_add g) s_add (x_var 1) (x_var 2)) (x_callTy c_str b_str (by rfl) T.n_str bt_str (a_cons (x_var 3) a_nil))) a_nil)))) (ss_one (s_aug 3 g ip_add s_iadd x_int))) (ss_cons (s_asg (x_var 3) (g_subU g (x_fld 1 (g.gk T.cf) (x_var 0)) (x_tup (a_cons (x_call g d_folded room (by rfl) (a_cons (x_var 1) a_nil)) (a_cons (x_var 2) a_nil))))) (ss_one (s_ret (x_meth 0 (g.gk T.cf) (x_var 0) d_Names_give room (a_cons (x_bin (o_add g) s_add (x_bin (o_add g) s_add (x_var 1) (x_var 2)) (x_callTy c_str b_str (by rfl) T.n_str bt_str (a_cons (x_var 3) a_nil))) a_nil)))))))
theorem b_named (T : Tx w K mg C0 d_PARTS e_PARTS m_PARTS) (m_Names : ClOk P w mg base (Gc K w C0) 1 0 "Names" (["self"] : List Str) F_Names___init__) (d_Names_give : MtOk P w mg base (Gc K w C0) 2 0 "give" (["self", "name"] : List Str) F_Names_give) (d_Names_is_free : MtOk P w mg base (Gc K w C0) 2 0 "is_free" (["self", "name"] : List Str) F_Names_is_free) (d_Names_made : MtOk P w mg base (Gc K w C0) 3 0 "made" (["self", "name", "word"] : List Str) F_Names_made) : Body P w mg base (Gc K w C0) 3 (["items", "placed", "lives", "borns", "names", "found", "late", "item", "dot", "deed"] : List Str) "named" (defScope s_named) (defBody s_named) B_named := by
  intro f cdv A outer s H E g room
  exact (ss_cons (s_par3 4 5 6 g (a_cons (x_make0 0 g m_Names room (by rfl)) (a_cons (x_newM g) (a_cons (x_lst true a_nil) a_nil)))) (ss_cons (s_for 1000 g PassesOwn.never (i_seq g (x_var 0)) (g_var 7 g) (ss_one (s_if (t_val (x_meth 0 (g.gk T.cf) (x_var 4) d_Names_is_free room (a_cons (x_ixU g (x_ixU g (x_var 1) (x_var 7)) x_int) a_nil))) (ss_one (s_asg (x_meth 0 (g.gk T.cf) (x_var 4) d_Names_give room (a_cons (x_ixU g (x_ixU g (x_var 1) (x_var 7)) x_int) a_nil)) (g_subU g (x_var 5) (x_tup (a_cons (x_globE (by rfl) T.g_ITEM) (a_cons (x_var 7) a_nil)))))) (ss_one (s_drop (x_mt .list g PySem.F.plainAttrs_list PySem.F.slot_list_append PySem.F.type_list_append mt_append s_append (x_var 6) (a_cons (x_var 7) a_nil))))))) (ss_cons (s_for 1000 g PassesOwn.never (i_seq g (x_var 6)) (g_var 7 g) (ss_one (s_asg (x_meth 0 (g.gk T.cf) (x_var 4) d_Names_made room (a_cons (x_ixU g (x_ixU g (x_var 1) (x_var 7)) x_int) (a_cons (x_globE (by rfl) T.g_ALSO) a_nil))) (g_subU g (x_var 5) (x_tup (a_cons (x_globE (by rfl) T.g_ITEM) (a_cons (x_var 7) a_nil))))))) (ss_cons (s_for 1000 g PassesOwn.never (i_seq g (x_var 0)) (g_var 7 g) (ss_one (s_if (t_cmp (o_eq g) (s_eqF false) (x_ixU g (x_ixU g (x_var 3) (x_var 7)) (x_globE (by rfl) T.g_KIND_AT)) (x_globE (by rfl) T.g_FILE)) (ss_one (s_for 1000 g PassesOwn.never (i_seq g (by exact (x_callB (c_sorted g) (b_sorted false) (by rfl) T.n_sorted bt_sorted (a_cons (x_lc false g (i_seq g (x_sl g (x_ixU g (x_var 2) (x_var 7)) p_none (p_some (x_un un_neg s_neg x_int)))) (blkOk_by (own := [("deed", 9)]) (by kernel_rfl)) (fun s1 H1 C1 cl1 fp1 => (g_var 9 (g.blk s1 H1 _ _ fp1))) (fun s1 H1 C1 cl1 fp1 => ts_nil) (fun s1 H1 C1 cl1 fp1 => (x_ixU (g.blk s1 H1 _ _ fp1) (x_var 9) (x_globE (by rfl) T.g_DOT_AT)))) a_nil)))) (g_var 8 g) (ss_one (s_asg (x_meth 0 (g.gk T.cf) (x_var 4) d_Names_made room (a_cons (x_ixU g (x_ixU g (x_var 1) (x_var 7)) x_int) (a_cons (x_globE (by rfl) T.g_CLASH) a_nil))) (g_subU g (x_var 5) (x_tup (a_cons (x_globE (by rfl) T.g_BESIDE) (a_cons (x_var 7) (a_cons (x_var 8) a_nil))))))))) ss_nil))) (ss_one (s_ret (x_var 5)))))))
theorem b_entries_of (T : Tx w K mg C0 d_PARTS e_PARTS m_PARTS) (d_borns_of : DfOk P w mg base (Gc K w C0) 1 "borns_of" (["deeds"] : List Str) F_borns_of) (d_in_folders : DfOk P w mg base (Gc K w C0) 7 "in_folders" (["deeds"] : List Str) F_in_folders) (d_live_of : DfOk P w mg base (Gc K w C0) 4 "live_of" (["deeds"] : List Str) F_live_of) (d_named : DfOk P w mg base (Gc K w C0) 4 "named" (["items", "placed", "lives", "borns"] : List Str) F_named) (d_placed_items : DfOk P w mg base (Gc K w C0) 5 "placed_items" (["deeds"] : List Str) F_placed_items) : Body P w mg base (Gc K w C0) 7 (["deeds", "borns", "lives", "placed", "found", "parent", "items", "key", "name", "born", "text", "deed"] : List Str) "entries_of" (defScope s_entries_of) (defBody s_entries_of) B_entries_of := by
  intro f cdv A outer s H E g room
  exact (ss_cons (s_par3 1 2 3 g (a_cons (x_call g d_borns_of room (by rfl) (a_cons (x_var 0) a_nil)) (a_cons (x_call g d_live_of room (by rfl) (a_cons (x_var 0) a_nil)) (a_cons (x_call g d_placed_items room (by rfl) (a_cons (x_var 0) a_nil)) a_nil)))) (ss_cons (s_set 4 g (x_newM g)) (ss_cons (s_for 1000 g PassesOwn.never (i_seq g (by exact (x_itemsL false g (x_call g d_in_folders room (by rfl) (a_cons (x_var 0) a_nil)) (by rfl) T.n_list))) (g_tup 2 g (gs_cons (g_var 5 g) (gs_cons (g_var 6 g) gs_nil))) (ss_one (s_for 1000 g PassesOwn.never (i_seq g (by exact (x_itemsL false g (x_call g d_named room (by rfl) (a_cons (x_var 6) (a_cons (x_var 3) (a_cons (x_var 2) (a_cons (x_var 1) a_nil))))) (by rfl) T.n_list))) (g_tup 2 g (gs_cons (g_var 7 g) (gs_cons (g_var 8 g) gs_nil))) (ss_cons (s_set 9 g (x_ixU g (x_var 1) (x_ixU g (x_var 7) x_int))) (ss_cons (s_if (t_cmp (o_ne g) (s_eqF true) (x_ixU g (x_var 9) (x_globE (by rfl) T.g_KIND_AT)) (x_globE (by rfl) T.g_FILE)) (ss_one (s_set 10 g (x_ixU g (x_var 9) (x_globE (by rfl) T.g_TEXT_AT)))) (ss_one (s_if (t_cmp (o_eq g) (s_eqF false) (x_ixU g (x_var 7) x_int) (x_globE (by rfl) T.g_ITEM)) (ss_one (s_set 10 g (x_ixU g (x_ixU g (x_ixU g (x_var 2) (x_ixU g (x_var 7) x_int)) (x_un un_neg s_neg x_int)) (x_globE (by rfl) T.g_WRITTEN_AT)))) (ss_one (s_set 10 g (x_ixU g (x_lc false g (i_seq g (x_ixU g (x_var 2) (x_ixU g (x_var 7) x_int))) (blkOk_by (own := [("deed", 11)]) (by kernel_rfl)) (fun s1 H1 C1 cl1 fp1 => (g_var 11 (g.blk s1 H1 _ _ fp1))) (fun s1 H1 C1 cl1 fp1 => (ts_one (t_cmp (o_eq (g.blk s1 H1 _ _ fp1)) (s_eqF false) (x_ixU (g.blk s1 H1 _ _ fp1) (x_var 11) (x_globE (by rfl) T.g_DOT_AT)) (x_ixU (g.blk s1 H1 _ _ fp1) (x_var 7) x_int)))) (fun s1 H1 C1 cl1 fp1 => (x_ixU (g.blk s1 H1 _ _ fp1) (x_var 11) (x_globE (by rfl) T.g_WRITTEN_AT)))) x_int)))))) (ss_one (s_asg (x_tup (a_cons (x_var 5) (a_cons (x_var 8) (a_cons (x_ixU g (x_var 9) (x_globE (by rfl) T.g_KIND_AT)) (a_cons (x_var 10) a_nil))))) (g_subU g (x_var 4) (x_var 7))))))))) (ss_one (s_ret (x_var 4))))))
theorem b_path_under (T : Tx w K mg C0 d_PARTS e_PARTS m_PARTS) : Body P w mg base (Gc K w C0) 0 (["path", "name"] : List Str) "path_under" (defScope s_path_under) (defBody s_path_under) B_path_under := by
  intro f cdv A outer s H E g room
  exact (ss_one (s_ret (x_if (t_cmp (o_eq g) (s_eqF false) (x_var 0) x_str) (x_var 1) (x_bin (o_add g) s_add (x_bin (o_add g) s_add (x_var 0) (x_globE (by rfl) T.g_SLASH)) (x_var 1)))))
theorem b_rows_of (T : Tx w K mg C0 d_PARTS e_PARTS m_PARTS) (d_path_under : DfOk P w mg base (Gc K w C0) 1 "path_under" (["path", "name"] : List Str) F_path_under) : Body P w mg base (Gc K w C0) 1 (["found", "inner", "key", "parent", "name", "kind", "text", "rows", "waiting", "item", "path"] : List Str) "rows_of" (defScope s_rows_of) (defBody s_rows_of) B_rows_of := by
  intro f cdv A outer s H E g room
  exact (ss_cons (s_set 1 g (x_newM g)) (ss_cons (s_for 1000 g PassesOwn.never (i_seq g (by exact (x_itemsL false g (x_var 0) (by rfl) T.n_list))) (g_tup 2 g (gs_cons (g_var 2 g) (gs_cons (g_tup 4 g (gs_cons (g_var 3 g) (gs_cons (g_var 4 g) (gs_cons (g_var 5 g) (gs_cons (g_var 6 g) gs_nil))))) gs_nil))) (ss_one (s_drop (x_mt .list g PySem.F.plainAttrs_list PySem.F.slot_list_append PySem.F.type_list_append mt_append s_append (x_mtU .dict g PySem.F.plainAttrs_dict PySem.F.slot_dict_setdefault PySem.F.type_dict_setdefault (mt_setdU g) s_setdU (x_var 1) (a_cons (x_var 3) (a_cons (x_lst true a_nil) a_nil))) (a_cons (x_tup (a_cons (x_var 2) (a_cons (x_var 4) (a_cons (x_var 5) (a_cons (x_var 6) a_nil))))) a_nil))))) (ss_cons (s_par 7 8 g (a_cons (x_lst true a_nil) (a_cons (x_lst true (a_cons (x_tup (a_cons x_non (a_cons x_str a_nil))) a_nil)) a_nil))) (ss_cons (s_whl 1000 PassesOwn.never (t_cmp (o_ne g) (s_eqF true) (x_var 8) (x_lst false a_nil)) (ss_cons (s_asg (x_mt0 .list g PySem.F.plainAttrs_list PySem.F.slot_list_pop PySem.F.type_list_pop mt_pop s_pop (x_var 8)) (g_tup 2 g (gs_cons (g_var 9 g) (gs_cons (g_var 10 g) gs_nil)))) (ss_one (s_for 1000 g PassesOwn.never (i_seq g (by exact (x_mtU .dict g PySem.F.plainAttrs_dict PySem.F.slot_dict_get PySem.F.type_dict_get (mt_getU g) s_getU (x_var 1) (a_cons (x_var 9) (a_cons (x_lst false a_nil) a_nil))))) (g_tup 4 g (gs_cons (g_var 2 g) (gs_cons (g_var 4 g) (gs_cons (g_var 5 g) (gs_cons (g_var 6 g) gs_nil))))) (ss_cons (s_drop (x_mt .list g PySem.F.plainAttrs_list PySem.F.slot_list_append PySem.F.type_list_append mt_append s_append (x_var 7) (a_cons (x_tup (a_cons (x_call g d_path_under room (by rfl) (a_cons (x_var 10) (a_cons (x_var 4) a_nil))) (a_cons (x_var 5) (a_cons (x_var 6) a_nil)))) a_nil))) (ss_one (s_if (t_cmp (o_eq g) (s_eqF false) (x_var 5) (x_globE (by rfl) T.g_FOLDER)) (ss_one (s_drop (x_mt .list g PySem.F.plainAttrs_list PySem.F.slot_list_append PySem.F.type_list_append mt_append s_append (x_var 8) (a_cons (x_tup (a_cons (x_ixU g (x_var 2) x_int) (a_cons (x_call g d_path_under room (by rfl) (a_cons (x_var 10) (a_cons (x_var 4) a_nil))) a_nil))) a_nil)))) ss_nil))))))) (ss_one (s_ret (x_callTy (c_tuple g) b_tuple (by rfl) T.n_tuple bt_tuple (a_cons (x_callB (c_sorted g) (b_sorted false) (by rfl) T.n_sorted bt_sorted (a_cons (x_var 7) a_nil)) a_nil))))))))
theorem b_picture (T : Tx w K mg C0 d_PARTS e_PARTS m_PARTS) (d_check_heard : DfOk P w mg base (Gc K w C0) 9 "check_heard" (["value"] : List Str) F_check_heard) (d_entries_of : DfOk P w mg base (Gc K w C0) 8 "entries_of" (["deeds"] : List Str) F_entries_of) (d_rows_of : DfOk P w mg base (Gc K w C0) 2 "rows_of" (["found"] : List Str) F_rows_of) : Body P w mg base (Gc K w C0) 9 (["heard"] : List Str) "picture" (defScope s_picture) (defBody s_picture) B_picture := by
  intro f cdv A outer s H E g room
  exact (ss_cons (s_drop (x_call g d_check_heard room (by rfl) (a_cons (x_var 0) a_nil))) (ss_one (s_ret (x_call g d_rows_of room (by rfl) (a_cons (x_call g d_entries_of room (by rfl) (a_cons (x_var 0) a_nil)) a_nil)))))
theorem b__law_shown (T : Tx w K mg C0 d_PARTS e_PARTS m_PARTS) (d__law_heard : DfOk P w mg base (Gc K w C0) 1 "_law_heard" (["deeds"] : List Str) F__law_heard) (d_picture : DfOk P w mg base (Gc K w C0) 10 "picture" (["heard"] : List Str) F_picture) (dk_picture_0 : DfOkK P w mg base (Gc K w C0) 10 "picture" (["heard"] : List Str) (["heard"] : List Str) 0 1 F_picture) : Body P w mg base (Gc K w C0) 10 (["deeds"] : List Str) "_law_shown" (defScope s__law_shown) (defBody s__law_shown) B__law_shown := by
  intro f cdv A outer s H E g room
  exact (ss_one (s_ret (x_callK0 g dk_picture_0 room (by rfl) (k_cons (x_call g d__law_heard room (by rfl) (a_cons (x_var 0) a_nil)) k_nil))))
theorem b__law_names (T : Tx w K mg C0 d_PARTS e_PARTS m_PARTS) (d__law_shown : DfOk P w mg base (Gc K w C0) 11 "_law_shown" (["deeds"] : List Str) F__law_shown) : Body P w mg base (Gc K w C0) 11 (["deeds", "path", "kind", "text"] : List Str) "_law_names" (defScope s__law_names) (defBody s__law_names) B__law_names := by
  intro f cdv A outer s H E g room
  exact (ss_one (s_ret (x_lc false g (i_seq g (by exact (x_call g d__law_shown room (by rfl) (a_cons (x_var 0) a_nil)))) (blkOk_by (own := [("path", 1), ("kind", 2), ("text", 3)]) (by kernel_rfl)) (fun s1 H1 C1 cl1 fp1 => (g_tup 3 (g.blk s1 H1 _ _ fp1) (gs_cons (g_var 1 (g.blk s1 H1 _ _ fp1)) (gs_cons (g_var 2 (g.blk s1 H1 _ _ fp1)) (gs_cons (g_var 3 (g.blk s1 H1 _ _ fp1)) gs_nil))))) (fun s1 H1 C1 cl1 fp1 => ts_nil) (fun s1 H1 C1 cl1 fp1 => (x_var 1)))))
theorem b_key_order (T : Tx w K mg C0 d_PARTS e_PARTS m_PARTS) : Body P w mg base (Gc K w C0) 0 (["key"] : List Str) "key_order" (defScope s_key_order) (defBody s_key_order) B_key_order := by
  intro f cdv A outer s H E g room
  exact (ss_one (s_ret (x_tup (a_cons (x_cmp (o_eq g) (s_eqF false) (x_ixU g (x_var 0) x_int) (x_globE (by rfl) T.g_BESIDE)) (a_cons (x_sl g (x_var 0) (p_some x_int) p_none) a_nil)))))
theorem b_entries (T : Tx w K mg C0 d_PARTS e_PARTS m_PARTS) (d_check_heard : DfOk P w mg base (Gc K w C0) 9 "check_heard" (["value"] : List Str) F_check_heard) (d_entries_of : DfOk P w mg base (Gc K w C0) 8 "entries_of" (["deeds"] : List Str) F_entries_of) (d_key_order : DfOk P w mg base (Gc K w C0) 1 "key_order" (["key"] : List Str) F_key_order) : Body P w mg base (Gc K w C0) 9 (["heard", "found", "key"] : List Str) "entries" (defScope s_entries) (defBody s_entries) B_entries := by
  intro f cdv A outer s H E g room
  exact (ss_cons (s_drop (x_call g d_check_heard room (by rfl) (a_cons (x_var 0) a_nil))) (ss_cons (s_set 1 g (x_call g d_entries_of room (by rfl) (a_cons (x_var 0) a_nil))) (ss_one (s_ret (x_callTy (c_tuple g) b_tuple (by rfl) T.n_tuple bt_tuple (a_cons (x_lc false g (i_seq g (by exact (x_sortK false g d_key_order room (by rfl) T.n_sorted (by rfl) (x_var 1)))) (blkOk_by (own := [("key", 2)]) (by kernel_rfl)) (fun s1 H1 C1 cl1 fp1 => (g_var 2 (g.blk s1 H1 _ _ fp1))) (fun s1 H1 C1 cl1 fp1 => ts_nil) (fun s1 H1 C1 cl1 fp1 => (x_tup (a_cons (x_var 2) (a_star (g.blk s1 H1 _ _ fp1) (x_ixU (g.blk s1 H1 _ _ fp1) (x_var 1) (x_var 2)) a_nil))))) a_nil))))))
theorem b__law_right (T : Tx w K mg C0 d_PARTS e_PARTS m_PARTS) (d__law_born : DfOk P w mg base (Gc K w C0) 1 "_law_born" (["life", "number", "stamp", "kind", "parent", "name"] : List Str) F__law_born) (d__law_heard : DfOk P w mg base (Gc K w C0) 1 "_law_heard" (["deeds"] : List Str) F__law_heard) (d__law_names : DfOk P w mg base (Gc K w C0) 12 "_law_names" (["deeds"] : List Str) F__law_names) (d__law_shown : DfOk P w mg base (Gc K w C0) 11 "_law_shown" (["deeds"] : List Str) F__law_shown) (d__law_take : DfOk P w mg base (Gc K w C0) 1 "_law_take" (["pot", "upto"] : List Str) F__law_take) (d_entries : DfOk P w mg base (Gc K w C0) 10 "entries" (["heard"] : List Str) F_entries) : Body P w mg base (Gc K w C0) 12 (["pot", "n", "lots", "more", "file", "gone", "tree", "away", "ring", "row", "at"] : List Str) "_law_right" (defScope s__law_right) (defBody s__law_right) B__law_right := by
  intro f cdv A outer s H E g room
  exact (ss_cons (s_set 1 g (x_bin (o_add g) s_add x_int (x_call g d__law_take room (by rfl) (a_cons (x_var 0) (a_cons x_int a_nil))))) (ss_cons (s_set 2 g (x_tup (a_cons (x_call g d__law_born room (by rfl) (a_cons (x_var 1) (a_cons x_int (a_cons x_int (a_cons (x_str (el := by decide +kernel)) (a_cons x_non (a_cons (x_str (el := by decide +kernel)) a_nil))))))) (a_cons (x_call g d__law_born room (by rfl) (a_cons (x_bin (o_add g) s_add (x_var 1) x_int) (a_cons x_int (a_cons x_int (a_cons (x_str (el := by decide +kernel)) (a_cons x_non (a_cons (x_str (el := by decide +kernel)) a_nil))))))) (a_cons (x_call g d__law_born room (by rfl) (a_cons (x_bin (o_add g) s_add (x_var 1) x_int) (a_cons x_int (a_cons x_int (a_cons (x_str (el := by decide +kernel)) (a_cons x_non (a_cons (x_str (el := by decide +kernel)) a_nil))))))) a_nil))))) (ss_cons (s_if (t_cmp (o_ne g) (s_eqF true) (x_call g d__law_names room (by rfl) (a_cons (x_var 2) a_nil)) (x_lst false (a_cons (x_str (el := by decide +kernel)) (a_cons (x_str (el := by decide +kernel)) (a_cons (x_str (el := by decide +kernel)) a_nil))))) (ss_one (s_ret x_bl)) ss_nil) (ss_cons (s_set 3 g (x_bin (o_add g) s_add (x_var 2) (x_tup (a_cons (x_call g d__law_born room (by rfl) (a_cons (x_bin (o_add g) s_add (x_var 1) x_int) (a_cons x_int (a_cons x_int (a_cons (x_str (el := by decide +kernel)) (a_cons x_non (a_cons (x_str (el := by decide +kernel)) a_nil))))))) a_nil)))) (ss_cons (s_if (t_cmp (o_ne g) (s_eqF true) (x_call g d__law_names room (by rfl) (a_cons (x_var 3) a_nil)) (x_lst false (a_cons (x_str (el := by decide +kernel)) (a_cons (x_str (el := by decide +kernel)) (a_cons (x_str (el := by decide +kernel)) (a_cons (x_str (el := by decide +kernel)) a_nil)))))) (ss_one (s_ret x_bl)) ss_nil) (ss_cons (s_set 4 g (x_tup (a_cons (x_call g d__law_born room (by rfl) (a_cons x_int (a_cons x_int (a_cons x_int (a_cons (x_str (el := by decide +kernel)) (a_cons x_non (a_cons (x_str (el := by decide +kernel)) a_nil))))))) (a_cons (x_tup (a_cons (x_str (el := by decide +kernel)) (a_cons (x_tup (a_cons x_int (a_cons x_int a_nil))) (a_cons x_int (a_cons (x_tup (a_cons x_int (a_cons x_int a_nil))) (a_cons (x_str (el := by decide +kernel)) (a_cons (x_tup a_nil) a_nil))))))) a_nil)))) (ss_cons (s_set 2 g (x_bin (o_add g) s_add (x_var 4) (x_callTy (c_tuple g) b_tuple (by rfl) T.n_tuple bt_tuple (a_cons (x_lc false g (i_rng1 (by rfl) T.n_range (a_cons x_int a_nil)) (blkOk_by (own := [("at", 10)]) (by kernel_rfl)) (fun s1 H1 C1 cl1 fp1 => (g_var 10 (g.blk s1 H1 _ _ fp1))) (fun s1 H1 C1 cl1 fp1 => ts_nil) (fun s1 H1 C1 cl1 fp1 => (x_tup (a_cons (x_str (el := by decide +kernel)) (a_cons (x_tup (a_cons (x_bin (o_add (g.blk s1 H1 _ _ fp1)) s_add (x_var 1) (x_var 10)) (a_cons x_int a_nil))) (a_cons (x_bin op_sub s_sub x_int (x_var 10)) (a_cons (x_tup (a_cons x_int (a_cons x_int a_nil))) (a_cons (x_bin (o_add (g.blk s1 H1 _ _ fp1)) s_add (x_str (el := by decide +kernel)) (x_callTy c_str b_str (by rfl) T.n_str bt_str (a_cons (x_callTy call_int1 b_int (by rfl) T.n_int bt_int (a_cons (x_var 10) a_nil)) a_nil))) (a_cons (x_tup (a_cons (x_tup (a_cons x_int (a_cons x_int a_nil))) a_nil)) a_nil))))))))) a_nil)))) (ss_cons (s_if (t_cmp (o_ne g) (s_eqF true) (x_call g d__law_shown room (by rfl) (a_cons (x_var 2) a_nil)) (x_tup (a_cons (x_tup (a_cons (x_str (el := by decide +kernel)) (a_cons (x_str (el := by decide +kernel)) (a_cons (x_str (el := by decide +kernel)) a_nil)))) (a_cons (x_tup (a_cons (x_str (el := by decide +kernel)) (a_cons (x_str (el := by decide +kernel)) (a_cons (x_str (el := by decide +kernel)) a_nil)))) (a_cons (x_tup (a_cons (x_str (el := by decide +kernel)) (a_cons (x_str (el := by decide +kernel)) (a_cons (x_str (el := by decide +kernel)) a_nil)))) a_nil))))) (ss_one (s_ret x_bl)) ss_nil) (ss_cons (s_if (t_cmp (o_ne g) (s_eqF true) (x_lc false g (i_seq g (by exact (x_call g d_entries room (by rfl) (a_cons (x_call g d__law_heard room (by rfl) (a_cons (x_var 2) a_nil)) a_nil)))) (blkOk_by (own := [("row", 9)]) (by kernel_rfl)) (fun s1 H1 C1 cl1 fp1 => (g_var 9 (g.blk s1 H1 _ _ fp1))) (fun s1 H1 C1 cl1 fp1 => ts_nil) (fun s1 H1 C1 cl1 fp1 => (x_ixU (g.blk s1 H1 _ _ fp1) (x_var 9) x_int))) (x_lst false (a_cons (x_tup (a_cons (x_str (el := by decide +kernel)) (a_cons (x_tup (a_cons x_int (a_cons x_int a_nil))) a_nil))) (a_cons (x_tup (a_cons (x_str (el := by decide +kernel)) (a_cons (x_tup (a_cons x_int (a_cons x_int a_nil))) (a_cons (x_tup (a_cons (x_bin (o_add g) s_add (x_var 1) x_int) (a_cons x_int a_nil))) a_nil)))) (a_cons (x_tup (a_cons (x_str (el := by decide +kernel)) (a_cons (x_tup (a_cons x_int (a_cons x_int a_nil))) (a_cons (x_tup (a_cons (x_bin (o_add g) s_add (x_var 1) x_int) (a_cons x_int a_nil))) a_nil)))) a_nil))))) (ss_one (s_ret x_bl)) ss_nil) (ss_cons (s_set 5 g (x_bin (o_add g) s_add (x_var 2) (x_tup (a_cons (x_tup (a_cons (x_str (el := by decide +kernel)) (a_cons (x_tup (a_cons (x_var 1) (a_cons x_int a_nil))) (a_cons x_int (a_cons (x_tup (a_cons x_int (a_cons x_int a_nil))) (a_cons (x_tup (a_cons (x_tup (a_cons (x_var 1) (a_cons x_int a_nil))) (a_cons (x_tup (a_cons (x_bin (o_add g) s_add (x_var 1) x_int) (a_cons x_int a_nil))) a_nil))) a_nil)))))) a_nil)))) (ss_cons (s_if (t_bool (w_or (t_cmp (o_ne g) (s_eqF true) (x_call g d__law_shown room (by rfl) (a_cons (x_var 5) a_nil)) (x_tup (a_cons (x_tup (a_cons (x_str (el := by decide +kernel)) (a_cons (x_str (el := by decide +kernel)) (a_cons (x_str (el := by decide +kernel)) a_nil)))) a_nil))) (w_or1 (t_cmp (o_ne g) (s_eqF true) (x_call g d__law_shown room (by rfl) (a_cons (x_bin (o_add g) s_add (x_var 5) (x_tup (a_cons (x_tup (a_cons (x_str (el := by decide +kernel)) (a_cons (x_tup (a_cons (x_bin (o_add g) s_add (x_var 1) x_int) (a_cons x_int a_nil))) (a_cons x_int (a_cons (x_tup (a_cons x_int (a_cons x_int a_nil))) (a_cons (x_tup (a_cons (x_tup (a_cons (x_bin (o_add g) s_add (x_var 1) x_int) (a_cons x_int a_nil))) a_nil)) a_nil)))))) a_nil))) a_nil)) (x_tup a_nil))))) (ss_one (s_ret x_bl)) ss_nil) (ss_cons (s_set 6 g (x_tup (a_cons (x_call g d__law_born room (by rfl) (a_cons x_int (a_cons x_int (a_cons x_int (a_cons (x_str (el := by decide +kernel)) (a_cons x_non (a_cons (x_str (el := by decide +kernel)) a_nil))))))) (a_cons (x_call g d__law_born room (by rfl) (a_cons x_int (a_cons x_int (a_cons x_int (a_cons (x_str (el := by decide +kernel)) (a_cons (x_tup (a_cons x_int (a_cons x_int a_nil))) (a_cons (x_str (el := by decide +kernel)) a_nil))))))) (a_cons (x_call g d__law_born room (by rfl) (a_cons x_int (a_cons x_int (a_cons x_int (a_cons (x_str (el := by decide +kernel)) (a_cons (x_tup (a_cons x_int (a_cons x_int a_nil))) (a_cons (x_str (el := by decide +kernel)) a_nil))))))) a_nil))))) (ss_cons (s_set 7 g (x_bin (o_add g) s_add (x_var 6) (x_tup (a_cons (x_tup (a_cons (x_str (el := by decide +kernel)) (a_cons (x_tup (a_cons (x_var 1) (a_cons x_int a_nil))) (a_cons x_int (a_cons (x_tup (a_cons x_int (a_cons x_int a_nil))) (a_cons (x_tup (a_cons (x_tup (a_cons x_int (a_cons x_int a_nil))) a_nil)) a_nil)))))) (a_cons (x_tup (a_cons (x_str (el := by decide +kernel)) (a_cons (x_tup (a_cons (x_var 1) (a_cons x_int a_nil))) (a_cons x_int (a_cons (x_tup (a_cons x_int (a_cons x_int a_nil))) (a_cons (x_tup (a_cons (x_tup (a_cons x_int (a_cons x_int a_nil))) a_nil)) a_nil)))))) a_nil))))) (ss_cons (s_if (t_bool (w_or (t_cmp (o_ne g) (s_eqF true) (x_call g d__law_names room (by rfl) (a_cons (x_var 7) a_nil)) (x_lst false (a_cons (x_str (el := by decide +kernel)) (a_cons (x_str (el := by decide +kernel)) (a_cons (x_str (el := by decide +kernel)) a_nil))))) (w_or1 (t_cmp (o_ne g) (s_eqF true) (x_call g d__law_names room (by rfl) (a_cons (x_bin (o_add g) s_add (x_var 7) (x_tup (a_cons (x_tup (a_cons (x_str (el := by decide +kernel)) (a_cons (x_tup (a_cons (x_bin (o_add g) s_add (x_var 1) x_int) (a_cons x_int a_nil))) (a_cons x_int (a_cons (x_tup (a_cons x_int (a_cons x_int a_nil))) (a_cons x_non (a_cons (x_str (el := by decide +kernel)) a_nil))))))) a_nil))) a_nil)) (x_lst false (a_cons (x_str (el := by decide +kernel)) a_nil)))))) (ss_one (s_ret x_bl)) ss_nil) (ss_cons (s_set 8 g (x_bin (o_add g) s_add (x_sl g (x_var 6) p_none (p_some x_int)) (x_tup (a_cons (x_call g d__law_born room (by rfl) (a_cons x_int (a_cons x_int (a_cons x_int (a_cons (x_str (el := by decide +kernel)) (a_cons x_non (a_cons (x_str (el := by decide +kernel)) a_nil))))))) (a_cons (x_tup (a_cons (x_str (el := by decide +kernel)) (a_cons (x_tup (a_cons (x_var 1) (a_cons x_int a_nil))) (a_cons x_int (a_cons (x_tup (a_cons x_int (a_cons x_int a_nil))) (a_cons (x_tup (a_cons x_int (a_cons x_int a_nil))) (a_cons (x_str (el := by decide +kernel)) a_nil))))))) (a_cons (x_tup (a_cons (x_str (el := by decide +kernel)) (a_cons (x_tup (a_cons (x_bin (o_add g) s_add (x_var 1) x_int) (a_cons x_int a_nil))) (a_cons x_int (a_cons (x_tup (a_cons x_int (a_cons x_int a_nil))) (a_cons (x_tup (a_cons x_int (a_cons x_int a_nil))) (a_cons (x_str (el := by decide +kernel)) a_nil))))))) a_nil)))))) (ss_one (s_ret (x_and (x_cmp (o_eq g) (s_eqF false) (x_call g d__law_names room (by rfl) (a_cons (x_var 8) a_nil)) (x_lst false (a_cons (x_str (el := by decide +kernel)) (a_cons (x_str (el := by decide +kernel)) a_nil)))) (x_and (x_cmp (o_eq g) (s_eqF false) (x_call g d__law_shown room (by rfl) (a_cons (x_tup a_nil) a_nil)) (x_tup a_nil)) (x_one (x_cmp (o_eq g) (s_eqF false) (x_call g d_entries room (by rfl) (a_cons (x_tup a_nil) a_nil)) (x_tup a_nil))))))))))))))))))))))
theorem b_law (T : Tx w K mg C0 d_PARTS e_PARTS m_PARTS) (d__law_pot : DfOk P w mg base (Gc K w C0) 1 "_law_pot" (["script", "place"] : List Str) F__law_pot) (d__law_right : DfOk P w mg base (Gc K w C0) 13 "_law_right" (["pot"] : List Str) F__law_right) : Body P w mg base (Gc K w C0) 13 (["script"] : List Str) "law" (defScope s_law) (defBody s_law) B_law := by
  intro f cdv A outer s H E g room
  exact (ss_one (s_ret (x_call g d__law_right room (by rfl) (a_cons (x_call g d__law_pot room (by rfl) (a_cons (x_var 0) (a_cons x_int a_nil))) a_nil))))
end
set_option maxHeartbeats 0
noncomputable def c__law_right_true_ : {p : (EV → EH → Bool) × EH // takeX [.ref 0, .int (.ofNat (.succ 49))] p.2 p.1 = true → mkF 11 B__law_right [.ref 0] [.pot 0] finT = true} := ⟨(_, _), fun q => q⟩
theorem e__law_right_true_0 : c__law_right_true_.1.1 (.int (.ofNat 0)) (setH c__law_right_true_.1.2 0 (.pot (0 + 1))) = true := by
  kernel_rfl
theorem e__law_right_true_1 : c__law_right_true_.1.1 (.int (.ofNat 1)) (setH c__law_right_true_.1.2 0 (.pot (0 + 1))) = true := by
  kernel_rfl
theorem e__law_right_true_2 : c__law_right_true_.1.1 (.int (.ofNat 2)) (setH c__law_right_true_.1.2 0 (.pot (0 + 1))) = true := by
  kernel_rfl
theorem e__law_right_true_3 : c__law_right_true_.1.1 (.int (.ofNat 3)) (setH c__law_right_true_.1.2 0 (.pot (0 + 1))) = true := by
  kernel_rfl
theorem e__law_right_true_4 : c__law_right_true_.1.1 (.int (.ofNat 4)) (setH c__law_right_true_.1.2 0 (.pot (0 + 1))) = true := by
  kernel_rfl
theorem e__law_right_true_5 : c__law_right_true_.1.1 (.int (.ofNat 5)) (setH c__law_right_true_.1.2 0 (.pot (0 + 1))) = true := by
  kernel_rfl
theorem e__law_right_true_6 : c__law_right_true_.1.1 (.int (.ofNat 6)) (setH c__law_right_true_.1.2 0 (.pot (0 + 1))) = true := by
  kernel_rfl
theorem e__law_right_true_7 : c__law_right_true_.1.1 (.int (.ofNat 7)) (setH c__law_right_true_.1.2 0 (.pot (0 + 1))) = true := by
  kernel_rfl
theorem e__law_right_true_8 : c__law_right_true_.1.1 (.int (.ofNat 8)) (setH c__law_right_true_.1.2 0 (.pot (0 + 1))) = true := by
  kernel_rfl
theorem e__law_right_true_9 : c__law_right_true_.1.1 (.int (.ofNat 9)) (setH c__law_right_true_.1.2 0 (.pot (0 + 1))) = true := by
  kernel_rfl
theorem e__law_right_true_10 : c__law_right_true_.1.1 (.int (.ofNat 10)) (setH c__law_right_true_.1.2 0 (.pot (0 + 1))) = true := by
  kernel_rfl
theorem e__law_right_true_11 : c__law_right_true_.1.1 (.int (.ofNat 11)) (setH c__law_right_true_.1.2 0 (.pot (0 + 1))) = true := by
  kernel_rfl
theorem e__law_right_true_12 : c__law_right_true_.1.1 (.int (.ofNat 12)) (setH c__law_right_true_.1.2 0 (.pot (0 + 1))) = true := by
  kernel_rfl
theorem e__law_right_true_13 : c__law_right_true_.1.1 (.int (.ofNat 13)) (setH c__law_right_true_.1.2 0 (.pot (0 + 1))) = true := by
  kernel_rfl
theorem e__law_right_true_14 : c__law_right_true_.1.1 (.int (.ofNat 14)) (setH c__law_right_true_.1.2 0 (.pot (0 + 1))) = true := by
  kernel_rfl
theorem e__law_right_true_15 : c__law_right_true_.1.1 (.int (.ofNat 15)) (setH c__law_right_true_.1.2 0 (.pot (0 + 1))) = true := by
  kernel_rfl
theorem e__law_right_true_16 : c__law_right_true_.1.1 (.int (.ofNat 16)) (setH c__law_right_true_.1.2 0 (.pot (0 + 1))) = true := by
  kernel_rfl
theorem e__law_right_true_17 : c__law_right_true_.1.1 (.int (.ofNat 17)) (setH c__law_right_true_.1.2 0 (.pot (0 + 1))) = true := by
  kernel_rfl
theorem e__law_right_true_18 : c__law_right_true_.1.1 (.int (.ofNat 18)) (setH c__law_right_true_.1.2 0 (.pot (0 + 1))) = true := by
  kernel_rfl
theorem e__law_right_true_19 : c__law_right_true_.1.1 (.int (.ofNat 19)) (setH c__law_right_true_.1.2 0 (.pot (0 + 1))) = true := by
  kernel_rfl
theorem e__law_right_true_20 : c__law_right_true_.1.1 (.int (.ofNat 20)) (setH c__law_right_true_.1.2 0 (.pot (0 + 1))) = true := by
  kernel_rfl
theorem e__law_right_true_21 : c__law_right_true_.1.1 (.int (.ofNat 21)) (setH c__law_right_true_.1.2 0 (.pot (0 + 1))) = true := by
  kernel_rfl
theorem e__law_right_true_22 : c__law_right_true_.1.1 (.int (.ofNat 22)) (setH c__law_right_true_.1.2 0 (.pot (0 + 1))) = true := by
  kernel_rfl
theorem e__law_right_true_23 : c__law_right_true_.1.1 (.int (.ofNat 23)) (setH c__law_right_true_.1.2 0 (.pot (0 + 1))) = true := by
  kernel_rfl
theorem e__law_right_true_24 : c__law_right_true_.1.1 (.int (.ofNat 24)) (setH c__law_right_true_.1.2 0 (.pot (0 + 1))) = true := by
  kernel_rfl
theorem e__law_right_true_25 : c__law_right_true_.1.1 (.int (.ofNat 25)) (setH c__law_right_true_.1.2 0 (.pot (0 + 1))) = true := by
  kernel_rfl
theorem e__law_right_true_26 : c__law_right_true_.1.1 (.int (.ofNat 26)) (setH c__law_right_true_.1.2 0 (.pot (0 + 1))) = true := by
  kernel_rfl
theorem e__law_right_true_27 : c__law_right_true_.1.1 (.int (.ofNat 27)) (setH c__law_right_true_.1.2 0 (.pot (0 + 1))) = true := by
  kernel_rfl
theorem e__law_right_true_28 : c__law_right_true_.1.1 (.int (.ofNat 28)) (setH c__law_right_true_.1.2 0 (.pot (0 + 1))) = true := by
  kernel_rfl
theorem e__law_right_true_29 : c__law_right_true_.1.1 (.int (.ofNat 29)) (setH c__law_right_true_.1.2 0 (.pot (0 + 1))) = true := by
  kernel_rfl
theorem e__law_right_true_30 : c__law_right_true_.1.1 (.int (.ofNat 30)) (setH c__law_right_true_.1.2 0 (.pot (0 + 1))) = true := by
  kernel_rfl
theorem e__law_right_true_31 : c__law_right_true_.1.1 (.int (.ofNat 31)) (setH c__law_right_true_.1.2 0 (.pot (0 + 1))) = true := by
  kernel_rfl
theorem e__law_right_true_32 : c__law_right_true_.1.1 (.int (.ofNat 32)) (setH c__law_right_true_.1.2 0 (.pot (0 + 1))) = true := by
  kernel_rfl
theorem e__law_right_true_33 : c__law_right_true_.1.1 (.int (.ofNat 33)) (setH c__law_right_true_.1.2 0 (.pot (0 + 1))) = true := by
  kernel_rfl
theorem e__law_right_true_34 : c__law_right_true_.1.1 (.int (.ofNat 34)) (setH c__law_right_true_.1.2 0 (.pot (0 + 1))) = true := by
  kernel_rfl
theorem e__law_right_true_35 : c__law_right_true_.1.1 (.int (.ofNat 35)) (setH c__law_right_true_.1.2 0 (.pot (0 + 1))) = true := by
  kernel_rfl
theorem e__law_right_true_36 : c__law_right_true_.1.1 (.int (.ofNat 36)) (setH c__law_right_true_.1.2 0 (.pot (0 + 1))) = true := by
  kernel_rfl
theorem e__law_right_true_37 : c__law_right_true_.1.1 (.int (.ofNat 37)) (setH c__law_right_true_.1.2 0 (.pot (0 + 1))) = true := by
  kernel_rfl
theorem e__law_right_true_38 : c__law_right_true_.1.1 (.int (.ofNat 38)) (setH c__law_right_true_.1.2 0 (.pot (0 + 1))) = true := by
  kernel_rfl
theorem e__law_right_true_39 : c__law_right_true_.1.1 (.int (.ofNat 39)) (setH c__law_right_true_.1.2 0 (.pot (0 + 1))) = true := by
  kernel_rfl
theorem e__law_right_true_40 : c__law_right_true_.1.1 (.int (.ofNat 40)) (setH c__law_right_true_.1.2 0 (.pot (0 + 1))) = true := by
  kernel_rfl
theorem e__law_right_true_41 : c__law_right_true_.1.1 (.int (.ofNat 41)) (setH c__law_right_true_.1.2 0 (.pot (0 + 1))) = true := by
  kernel_rfl
theorem e__law_right_true_42 : c__law_right_true_.1.1 (.int (.ofNat 42)) (setH c__law_right_true_.1.2 0 (.pot (0 + 1))) = true := by
  kernel_rfl
theorem e__law_right_true_43 : c__law_right_true_.1.1 (.int (.ofNat 43)) (setH c__law_right_true_.1.2 0 (.pot (0 + 1))) = true := by
  kernel_rfl
theorem e__law_right_true_44 : c__law_right_true_.1.1 (.int (.ofNat 44)) (setH c__law_right_true_.1.2 0 (.pot (0 + 1))) = true := by
  kernel_rfl
theorem e__law_right_true_45 : c__law_right_true_.1.1 (.int (.ofNat 45)) (setH c__law_right_true_.1.2 0 (.pot (0 + 1))) = true := by
  kernel_rfl
theorem e__law_right_true_46 : c__law_right_true_.1.1 (.int (.ofNat 46)) (setH c__law_right_true_.1.2 0 (.pot (0 + 1))) = true := by
  kernel_rfl
theorem e__law_right_true_47 : c__law_right_true_.1.1 (.int (.ofNat 47)) (setH c__law_right_true_.1.2 0 (.pot (0 + 1))) = true := by
  kernel_rfl
theorem e__law_right_true_48 : c__law_right_true_.1.1 (.int (.ofNat 48)) (setH c__law_right_true_.1.2 0 (.pot (0 + 1))) = true := by
  kernel_rfl
theorem e__law_right_true_49 : c__law_right_true_.1.1 (.int (.ofNat 49)) (setH c__law_right_true_.1.2 0 (.pot (0 + 1))) = true := by
  kernel_rfl
theorem _law_right_true : mkF 11 B__law_right [.ref 0] [.pot 0] finT = true := c__law_right_true_.2 (take_all (n := 0) (u := 49) (z := 0) rfl rfl rfl (lt_s e__law_right_true_49 (lt_s e__law_right_true_48 (lt_s e__law_right_true_47 (lt_s e__law_right_true_46 (lt_s e__law_right_true_45 (lt_s e__law_right_true_44 (lt_s e__law_right_true_43 (lt_s e__law_right_true_42 (lt_s e__law_right_true_41 (lt_s e__law_right_true_40 (lt_s e__law_right_true_39 (lt_s e__law_right_true_38 (lt_s e__law_right_true_37 (lt_s e__law_right_true_36 (lt_s e__law_right_true_35 (lt_s e__law_right_true_34 (lt_s e__law_right_true_33 (lt_s e__law_right_true_32 (lt_s e__law_right_true_31 (lt_s e__law_right_true_30 (lt_s e__law_right_true_29 (lt_s e__law_right_true_28 (lt_s e__law_right_true_27 (lt_s e__law_right_true_26 (lt_s e__law_right_true_25 (lt_s e__law_right_true_24 (lt_s e__law_right_true_23 (lt_s e__law_right_true_22 (lt_s e__law_right_true_21 (lt_s e__law_right_true_20 (lt_s e__law_right_true_19 (lt_s e__law_right_true_18 (lt_s e__law_right_true_17 (lt_s e__law_right_true_16 (lt_s e__law_right_true_15 (lt_s e__law_right_true_14 (lt_s e__law_right_true_13 (lt_s e__law_right_true_12 (lt_s e__law_right_true_11 (lt_s e__law_right_true_10 (lt_s e__law_right_true_9 (lt_s e__law_right_true_8 (lt_s e__law_right_true_7 (lt_s e__law_right_true_6 (lt_s e__law_right_true_5 (lt_s e__law_right_true_4 (lt_s e__law_right_true_3 (lt_s e__law_right_true_2 (lt_s e__law_right_true_1 (lt_s e__law_right_true_0 lt_z)))))))))))))))))))))))))))))))))))))))))))))))))))
theorem law_true : F_law [.scr] [] isT = true := by kernel_rfl
theorem all_mk {l : PySem.W.OpenLaw} {w : World} {K : PySem.W.Frag} {h : Heap} {mg : Str → Option Value} {fa : Addr}
  {C0 : Addr}
  {f__law_pot : Addr} {od__law_pot an__law_pot : Option Addr} {sl__law_pot : Array (Option Value)} {oc__law_pot kV__law_pot dc__law_pot pm__law_pot cd__law_pot ct__law_pot : Value}
  {f__law_take : Addr} {od__law_take an__law_take : Option Addr} {sl__law_take : Array (Option Value)} {oc__law_take kV__law_take dc__law_take pm__law_take cd__law_take ct__law_take : Value}
  {f__law_born : Addr} {od__law_born an__law_born : Option Addr} {sl__law_born : Array (Option Value)} {oc__law_born kV__law_born dc__law_born pm__law_born cd__law_born ct__law_born : Value}
  {f__law_heard : Addr} {od__law_heard an__law_heard : Option Addr} {sl__law_heard : Array (Option Value)} {oc__law_heard kV__law_heard dc__law_heard pm__law_heard cd__law_heard ct__law_heard : Value}
  {f_is_whole : Addr} {od_is_whole an_is_whole : Option Addr} {sl_is_whole : Array (Option Value)} {oc_is_whole kV_is_whole dc_is_whole pm_is_whole cd_is_whole ct_is_whole : Value}
  {f_is_integer : Addr} {od_is_integer an_is_integer : Option Addr} {sl_is_integer : Array (Option Value)} {oc_is_integer kV_is_integer dc_is_integer pm_is_integer cd_is_integer ct_is_integer : Value}
  {f_is_life : Addr} {od_is_life an_is_life : Option Addr} {sl_is_life : Array (Option Value)} {oc_is_life kV_is_life dc_is_life pm_is_life cd_is_life ct_is_life : Value}
  {f_is_tuple : Addr} {od_is_tuple an_is_tuple : Option Addr} {sl_is_tuple : Array (Option Value)} {oc_is_tuple kV_is_tuple dc_is_tuple pm_is_tuple cd_is_tuple ct_is_tuple : Value}
  {f_is_dot : Addr} {od_is_dot an_is_dot : Option Addr} {sl_is_dot : Array (Option Value)} {oc_is_dot kV_is_dot dc_is_dot pm_is_dot cd_is_dot ct_is_dot : Value}
  {f_is_ascending : Addr} {od_is_ascending an_is_ascending : Option Addr} {sl_is_ascending : Array (Option Value)} {oc_is_ascending kV_is_ascending dc_is_ascending pm_is_ascending cd_is_ascending ct_is_ascending : Value}
  {f_is_covers : Addr} {od_is_covers an_is_covers : Option Addr} {sl_is_covers : Array (Option Value)} {oc_is_covers kV_is_covers dc_is_covers pm_is_covers cd_is_covers ct_is_covers : Value}
  {f_is_name : Addr} {od_is_name an_is_name : Option Addr} {sl_is_name : Array (Option Value)} {oc_is_name kV_is_name dc_is_name pm_is_name cd_is_name ct_is_name : Value}
  {f_is_parent : Addr} {od_is_parent an_is_parent : Option Addr} {sl_is_parent : Array (Option Value)} {oc_is_parent kV_is_parent dc_is_parent pm_is_parent cd_is_parent ct_is_parent : Value}
  {f_is_said : Addr} {od_is_said an_is_said : Option Addr} {sl_is_said : Array (Option Value)} {oc_is_said kV_is_said dc_is_said pm_is_said cd_is_said ct_is_said : Value}
  {f_is_text : Addr} {od_is_text an_is_text : Option Addr} {sl_is_text : Array (Option Value)} {oc_is_text kV_is_text dc_is_text pm_is_text cd_is_text ct_is_text : Value}
  {f_is_rest : Addr} {od_is_rest an_is_rest : Option Addr} {sl_is_rest : Array (Option Value)} {oc_is_rest kV_is_rest dc_is_rest pm_is_rest cd_is_rest ct_is_rest : Value}
  {f_is_deed : Addr} {od_is_deed an_is_deed : Option Addr} {sl_is_deed : Array (Option Value)} {oc_is_deed kV_is_deed dc_is_deed pm_is_deed cd_is_deed ct_is_deed : Value}
  {f_dot_of : Addr} {od_dot_of an_dot_of : Option Addr} {sl_dot_of : Array (Option Value)} {oc_dot_of kV_dot_of dc_dot_of pm_dot_of cd_dot_of ct_dot_of : Value}
  {f_is_next : Addr} {od_is_next an_is_next : Option Addr} {sl_is_next : Array (Option Value)} {oc_is_next kV_is_next dc_is_next pm_is_next cd_is_next ct_is_next : Value}
  {f_is_heard : Addr} {od_is_heard an_is_heard : Option Addr} {sl_is_heard : Array (Option Value)} {oc_is_heard kV_is_heard dc_is_heard pm_is_heard cd_is_heard ct_is_heard : Value}
  {f_check_heard : Addr} {od_check_heard an_check_heard : Option Addr} {sl_check_heard : Array (Option Value)} {oc_check_heard kV_check_heard dc_check_heard pm_check_heard cd_check_heard ct_check_heard : Value}
  {f_borns_of : Addr} {od_borns_of an_borns_of : Option Addr} {sl_borns_of : Array (Option Value)} {oc_borns_of kV_borns_of dc_borns_of pm_borns_of cd_borns_of ct_borns_of : Value}
  {f_folders_in : Addr} {od_folders_in an_folders_in : Option Addr} {sl_folders_in : Array (Option Value)} {oc_folders_in kV_folders_in dc_folders_in pm_folders_in cd_folders_in ct_folders_in : Value}
  {f_is_move : Addr} {od_is_move an_is_move : Option Addr} {sl_is_move : Array (Option Value)} {oc_is_move kV_is_move dc_is_move pm_is_move cd_is_move ct_is_move : Value}
  {f_item_of : Addr} {od_item_of an_item_of : Option Addr} {sl_item_of : Array (Option Value)} {oc_item_of kV_item_of dc_item_of pm_item_of cd_item_of ct_item_of : Value}
  {f_can_bear : Addr} {od_can_bear an_can_bear : Option Addr} {sl_can_bear : Array (Option Value)} {oc_can_bear kV_can_bear dc_can_bear pm_can_bear cd_can_bear ct_can_bear : Value}
  {f_is_within : Addr} {od_is_within an_is_within : Option Addr} {sl_is_within : Array (Option Value)} {oc_is_within kV_is_within dc_is_within pm_is_within cd_is_within ct_is_within : Value}
  {f_place_by : Addr} {od_place_by an_place_by : Option Addr} {sl_place_by : Array (Option Value)} {oc_place_by kV_place_by dc_place_by pm_place_by cd_place_by ct_place_by : Value}
  {f_sequence : Addr} {od_sequence an_sequence : Option Addr} {sl_sequence : Array (Option Value)} {oc_sequence kV_sequence dc_sequence pm_sequence cd_sequence ct_sequence : Value}
  {f_gone_through : Addr} {od_gone_through an_gone_through : Option Addr} {sl_gone_through : Array (Option Value)} {oc_gone_through kV_gone_through dc_gone_through pm_gone_through cd_gone_through ct_gone_through : Value}
  {f_placed_items : Addr} {od_placed_items an_placed_items : Option Addr} {sl_placed_items : Array (Option Value)} {oc_placed_items kV_placed_items dc_placed_items pm_placed_items cd_placed_items ct_placed_items : Value}
  {f_covered_of : Addr} {od_covered_of an_covered_of : Option Addr} {sl_covered_of : Array (Option Value)} {oc_covered_of kV_covered_of dc_covered_of pm_covered_of cd_covered_of ct_covered_of : Value}
  {f_live_of : Addr} {od_live_of an_live_of : Option Addr} {sl_live_of : Array (Option Value)} {oc_live_of kV_live_of dc_live_of pm_live_of cd_live_of ct_live_of : Value}
  {f_standing_items : Addr} {od_standing_items an_standing_items : Option Addr} {sl_standing_items : Array (Option Value)} {oc_standing_items kV_standing_items dc_standing_items pm_standing_items cd_standing_items ct_standing_items : Value}
  {f_in_folders : Addr} {od_in_folders an_in_folders : Option Addr} {sl_in_folders : Array (Option Value)} {oc_in_folders kV_in_folders dc_in_folders pm_in_folders cd_in_folders ct_in_folders : Value}
  {f_Names___init__ : Addr} {od_Names___init__ an_Names___init__ : Option Addr} {sl_Names___init__ : Array (Option Value)} {oc_Names___init__ kV_Names___init__ dc_Names___init__ pm_Names___init__ cd_Names___init__ ct_Names___init__ : Value}
  {f_folded : Addr} {od_folded an_folded : Option Addr} {sl_folded : Array (Option Value)} {oc_folded kV_folded dc_folded pm_folded cd_folded ct_folded : Value}
  {f_Names_give : Addr} {od_Names_give an_Names_give : Option Addr} {sl_Names_give : Array (Option Value)} {oc_Names_give kV_Names_give dc_Names_give pm_Names_give cd_Names_give ct_Names_give : Value}
  {f_Names_is_free : Addr} {od_Names_is_free an_Names_is_free : Option Addr} {sl_Names_is_free : Array (Option Value)} {oc_Names_is_free kV_Names_is_free dc_Names_is_free pm_Names_is_free cd_Names_is_free ct_Names_is_free : Value}
  {f_Names_made : Addr} {od_Names_made an_Names_made : Option Addr} {sl_Names_made : Array (Option Value)} {oc_Names_made kV_Names_made dc_Names_made pm_Names_made cd_Names_made ct_Names_made : Value}
  {f_named : Addr} {od_named an_named : Option Addr} {sl_named : Array (Option Value)} {oc_named kV_named dc_named pm_named cd_named ct_named : Value}
  {f_entries_of : Addr} {od_entries_of an_entries_of : Option Addr} {sl_entries_of : Array (Option Value)} {oc_entries_of kV_entries_of dc_entries_of pm_entries_of cd_entries_of ct_entries_of : Value}
  {f_path_under : Addr} {od_path_under an_path_under : Option Addr} {sl_path_under : Array (Option Value)} {oc_path_under kV_path_under dc_path_under pm_path_under cd_path_under ct_path_under : Value}
  {f_rows_of : Addr} {od_rows_of an_rows_of : Option Addr} {sl_rows_of : Array (Option Value)} {oc_rows_of kV_rows_of dc_rows_of pm_rows_of cd_rows_of ct_rows_of : Value}
  {f_picture : Addr} {od_picture an_picture : Option Addr} {sl_picture : Array (Option Value)} {oc_picture kV_picture dc_picture pm_picture cd_picture ct_picture : Value}
  {f__law_shown : Addr} {od__law_shown an__law_shown : Option Addr} {sl__law_shown : Array (Option Value)} {oc__law_shown kV__law_shown dc__law_shown pm__law_shown cd__law_shown ct__law_shown : Value}
  {f__law_names : Addr} {od__law_names an__law_names : Option Addr} {sl__law_names : Array (Option Value)} {oc__law_names kV__law_names dc__law_names pm__law_names cd__law_names ct__law_names : Value}
  {f_key_order : Addr} {od_key_order an_key_order : Option Addr} {sl_key_order : Array (Option Value)} {oc_key_order kV_key_order dc_key_order pm_key_order cd_key_order ct_key_order : Value}
  {f_entries : Addr} {od_entries an_entries : Option Addr} {sl_entries : Array (Option Value)} {oc_entries kV_entries dc_entries pm_entries cd_entries ct_entries : Value}
  {f__law_right : Addr} {od__law_right an__law_right : Option Addr} {sl__law_right : Array (Option Value)} {oc__law_right kV__law_right dc__law_right pm__law_right cd__law_right ct__law_right : Value}
  {f_law : Addr} {od_law an_law : Option Addr} {sl_law : Array (Option Value)} {oc_law kV_law dc_law pm_law cd_law ct_law : Value}
  {t_DOTS : Addr} {to_DOTS : Option Addr} {ti_DOTS : Array Value} {tn_DOTS : Nat} {ts_DOTS : Array (Option Value)}
  {t_NAMED : Tok} {x_NAMED : Str}
  {t_CAPITALS : Tok} {x_CAPITALS : Str}
  {t_SMALL : Tok} {x_SMALL : Str}
  {t_SLASH : Tok} {x_SLASH : Str}
  {t_MOST_TEXT : Tok}
  {t_LOWEST : Tok} {x_LOWEST : Str}
  {t_HIGHEST : Tok} {x_HIGHEST : Str}
  {t_MOST_LIFE : Tok}
  {t_PAIR_plain : Tok}
  {t_FRESH : Tok}
  {t_BORN : Tok} {x_BORN : Str}
  {t_KINDS : Addr} {to_KINDS : Option Addr} {ti_KINDS : Array Value} {tn_KINDS : Nat} {ts_KINDS : Array (Option Value)}
  {t_LINK : Tok} {x_LINK : Str}
  {t_PUT : Tok} {x_PUT : Str}
  {t_PAIR_deeds : Tok}
  {t_GONE : Tok} {x_GONE : Str}
  {t_STAMP : Tok}
  {t_NAME_OF_BORN : Tok}
  {t_PARENT_OF_BORN : Tok}
  {t_NAME_OF_PUT : Tok}
  {t_PARENT_OF_PUT : Tok}
  {t_KIND : Tok}
  {t_FOLDER : Tok} {x_FOLDER : Str}
  {t_DOT_AT : Tok}
  {t_WRITE : Tok} {x_WRITE : Str}
  {t_COVERS_AT : Tok}
  {t_KIND_AT : Tok}
  {t_FILE : Tok} {x_FILE : Str}
  {t_ITEM : Tok} {x_ITEM : Str}
  {t_ALSO : Tok} {x_ALSO : Str}
  {t_CLASH : Tok} {x_CLASH : Str}
  {t_BESIDE : Tok} {x_BESIDE : Str}
  {t_TEXT_AT : Tok}
  {t_WRITTEN_AT : Tok}
  {d_PARTS : Addr} {e_PARTS : Array DictEntry} {m_PARTS : Nat}
  {u_PARTS_0 : Tok}
  {u_PARTS_1 : Tok}
  {u_PARTS_2 : Tok}
  {u_PARTS_3 : Tok}
  (X : K.In h) (Gn : h.Ns mainGlobals mg) (hfa : mg "law" = some (.ref fa))
  (aC_Names : PySem.W.nsIn K mainGlobals "Names" = some (some (.ref C0)))
  (pg_Names : PySem.W.plainGet K C0 Str.empty = true)
  (hd_Names : PySem.W.hasDictIn K C0 = true)
  (po_Names : PySem.W.plainOver K C0 = true)
  (sa_Names : PySem.W.findIn K (.ref C0) "__setattr__" = some (some (.builtin "object.__setattr__")))
  (mk_Names : PySem.W.makesIn K C0 = true)
  (kc_Names : PySem.W.keepIn K (.ref C0) = true)
  (nf_Names_0 : PySem.W.findIn K (.ref C0) "own_taken" = some none)
  (nf_Names_1 : PySem.W.findIn K (.ref C0) "own_made" = some none)
  (a__law_pot : PySem.W.nsIn K mainGlobals "_law_pot" = some (some (.ref f__law_pot)))
  (l__law_pot : K.lookup f__law_pot = some ⟨oc__law_pot, od__law_pot, .func (PySem.W.fnOf "_law_pot" "_law_pot" (defArgs s__law_pot) (defBody s__law_pot) (defScope s__law_pot) .none kV__law_pot dc__law_pot pm__law_pot an__law_pot cd__law_pot ct__law_pot), sl__law_pot⟩)
  (c__law_pot : PySem.W.codeIn K cd__law_pot "_law_pot" = true)
  (k__law_pot : PySem.W.keepIn K (.ref f__law_pot) = true)
  (a__law_take : PySem.W.nsIn K mainGlobals "_law_take" = some (some (.ref f__law_take)))
  (l__law_take : K.lookup f__law_take = some ⟨oc__law_take, od__law_take, .func (PySem.W.fnOf "_law_take" "_law_take" (defArgs s__law_take) (defBody s__law_take) (defScope s__law_take) .none kV__law_take dc__law_take pm__law_take an__law_take cd__law_take ct__law_take), sl__law_take⟩)
  (c__law_take : PySem.W.codeIn K cd__law_take "_law_take" = true)
  (k__law_take : PySem.W.keepIn K (.ref f__law_take) = true)
  (a__law_born : PySem.W.nsIn K mainGlobals "_law_born" = some (some (.ref f__law_born)))
  (l__law_born : K.lookup f__law_born = some ⟨oc__law_born, od__law_born, .func (PySem.W.fnOf "_law_born" "_law_born" (defArgs s__law_born) (defBody s__law_born) (defScope s__law_born) .none kV__law_born dc__law_born pm__law_born an__law_born cd__law_born ct__law_born), sl__law_born⟩)
  (c__law_born : PySem.W.codeIn K cd__law_born "_law_born" = true)
  (k__law_born : PySem.W.keepIn K (.ref f__law_born) = true)
  (a__law_heard : PySem.W.nsIn K mainGlobals "_law_heard" = some (some (.ref f__law_heard)))
  (l__law_heard : K.lookup f__law_heard = some ⟨oc__law_heard, od__law_heard, .func (PySem.W.fnOf "_law_heard" "_law_heard" (defArgs s__law_heard) (defBody s__law_heard) (defScope s__law_heard) .none kV__law_heard dc__law_heard pm__law_heard an__law_heard cd__law_heard ct__law_heard), sl__law_heard⟩)
  (c__law_heard : PySem.W.codeIn K cd__law_heard "_law_heard" = true)
  (k__law_heard : PySem.W.keepIn K (.ref f__law_heard) = true)
  (a_is_whole : PySem.W.nsIn K mainGlobals "is_whole" = some (some (.ref f_is_whole)))
  (l_is_whole : K.lookup f_is_whole = some ⟨oc_is_whole, od_is_whole, .func (PySem.W.fnOf "is_whole" "is_whole" (defArgs s_is_whole) (defBody s_is_whole) (defScope s_is_whole) .none kV_is_whole dc_is_whole pm_is_whole an_is_whole cd_is_whole ct_is_whole), sl_is_whole⟩)
  (c_is_whole : PySem.W.codeIn K cd_is_whole "is_whole" = true)
  (k_is_whole : PySem.W.keepIn K (.ref f_is_whole) = true)
  (a_is_integer : PySem.W.nsIn K mainGlobals "is_integer" = some (some (.ref f_is_integer)))
  (l_is_integer : K.lookup f_is_integer = some ⟨oc_is_integer, od_is_integer, .func (PySem.W.fnOf "is_integer" "is_integer" (defArgs s_is_integer) (defBody s_is_integer) (defScope s_is_integer) .none kV_is_integer dc_is_integer pm_is_integer an_is_integer cd_is_integer ct_is_integer), sl_is_integer⟩)
  (c_is_integer : PySem.W.codeIn K cd_is_integer "is_integer" = true)
  (k_is_integer : PySem.W.keepIn K (.ref f_is_integer) = true)
  (a_is_life : PySem.W.nsIn K mainGlobals "is_life" = some (some (.ref f_is_life)))
  (l_is_life : K.lookup f_is_life = some ⟨oc_is_life, od_is_life, .func (PySem.W.fnOf "is_life" "is_life" (defArgs s_is_life) (defBody s_is_life) (defScope s_is_life) .none kV_is_life dc_is_life pm_is_life an_is_life cd_is_life ct_is_life), sl_is_life⟩)
  (c_is_life : PySem.W.codeIn K cd_is_life "is_life" = true)
  (k_is_life : PySem.W.keepIn K (.ref f_is_life) = true)
  (a_is_tuple : PySem.W.nsIn K mainGlobals "is_tuple" = some (some (.ref f_is_tuple)))
  (l_is_tuple : K.lookup f_is_tuple = some ⟨oc_is_tuple, od_is_tuple, .func (PySem.W.fnOf "is_tuple" "is_tuple" (defArgs s_is_tuple) (defBody s_is_tuple) (defScope s_is_tuple) .none kV_is_tuple dc_is_tuple pm_is_tuple an_is_tuple cd_is_tuple ct_is_tuple), sl_is_tuple⟩)
  (c_is_tuple : PySem.W.codeIn K cd_is_tuple "is_tuple" = true)
  (k_is_tuple : PySem.W.keepIn K (.ref f_is_tuple) = true)
  (a_is_dot : PySem.W.nsIn K mainGlobals "is_dot" = some (some (.ref f_is_dot)))
  (l_is_dot : K.lookup f_is_dot = some ⟨oc_is_dot, od_is_dot, .func (PySem.W.fnOf "is_dot" "is_dot" (defArgs s_is_dot) (defBody s_is_dot) (defScope s_is_dot) .none kV_is_dot dc_is_dot pm_is_dot an_is_dot cd_is_dot ct_is_dot), sl_is_dot⟩)
  (c_is_dot : PySem.W.codeIn K cd_is_dot "is_dot" = true)
  (k_is_dot : PySem.W.keepIn K (.ref f_is_dot) = true)
  (a_is_ascending : PySem.W.nsIn K mainGlobals "is_ascending" = some (some (.ref f_is_ascending)))
  (l_is_ascending : K.lookup f_is_ascending = some ⟨oc_is_ascending, od_is_ascending, .func (PySem.W.fnOf "is_ascending" "is_ascending" (defArgs s_is_ascending) (defBody s_is_ascending) (defScope s_is_ascending) .none kV_is_ascending dc_is_ascending pm_is_ascending an_is_ascending cd_is_ascending ct_is_ascending), sl_is_ascending⟩)
  (c_is_ascending : PySem.W.codeIn K cd_is_ascending "is_ascending" = true)
  (k_is_ascending : PySem.W.keepIn K (.ref f_is_ascending) = true)
  (a_is_covers : PySem.W.nsIn K mainGlobals "is_covers" = some (some (.ref f_is_covers)))
  (l_is_covers : K.lookup f_is_covers = some ⟨oc_is_covers, od_is_covers, .func (PySem.W.fnOf "is_covers" "is_covers" (defArgs s_is_covers) (defBody s_is_covers) (defScope s_is_covers) .none kV_is_covers dc_is_covers pm_is_covers an_is_covers cd_is_covers ct_is_covers), sl_is_covers⟩)
  (c_is_covers : PySem.W.codeIn K cd_is_covers "is_covers" = true)
  (k_is_covers : PySem.W.keepIn K (.ref f_is_covers) = true)
  (a_is_name : PySem.W.nsIn K mainGlobals "is_name" = some (some (.ref f_is_name)))
  (l_is_name : K.lookup f_is_name = some ⟨oc_is_name, od_is_name, .func (PySem.W.fnOf "is_name" "is_name" (defArgs s_is_name) (defBody s_is_name) (defScope s_is_name) .none kV_is_name dc_is_name pm_is_name an_is_name cd_is_name ct_is_name), sl_is_name⟩)
  (c_is_name : PySem.W.codeIn K cd_is_name "is_name" = true)
  (k_is_name : PySem.W.keepIn K (.ref f_is_name) = true)
  (a_is_parent : PySem.W.nsIn K mainGlobals "is_parent" = some (some (.ref f_is_parent)))
  (l_is_parent : K.lookup f_is_parent = some ⟨oc_is_parent, od_is_parent, .func (PySem.W.fnOf "is_parent" "is_parent" (defArgs s_is_parent) (defBody s_is_parent) (defScope s_is_parent) .none kV_is_parent dc_is_parent pm_is_parent an_is_parent cd_is_parent ct_is_parent), sl_is_parent⟩)
  (c_is_parent : PySem.W.codeIn K cd_is_parent "is_parent" = true)
  (k_is_parent : PySem.W.keepIn K (.ref f_is_parent) = true)
  (a_is_said : PySem.W.nsIn K mainGlobals "is_said" = some (some (.ref f_is_said)))
  (l_is_said : K.lookup f_is_said = some ⟨oc_is_said, od_is_said, .func (PySem.W.fnOf "is_said" "is_said" (defArgs s_is_said) (defBody s_is_said) (defScope s_is_said) .none kV_is_said dc_is_said pm_is_said an_is_said cd_is_said ct_is_said), sl_is_said⟩)
  (c_is_said : PySem.W.codeIn K cd_is_said "is_said" = true)
  (k_is_said : PySem.W.keepIn K (.ref f_is_said) = true)
  (a_is_text : PySem.W.nsIn K mainGlobals "is_text" = some (some (.ref f_is_text)))
  (l_is_text : K.lookup f_is_text = some ⟨oc_is_text, od_is_text, .func (PySem.W.fnOf "is_text" "is_text" (defArgs s_is_text) (defBody s_is_text) (defScope s_is_text) .none kV_is_text dc_is_text pm_is_text an_is_text cd_is_text ct_is_text), sl_is_text⟩)
  (c_is_text : PySem.W.codeIn K cd_is_text "is_text" = true)
  (k_is_text : PySem.W.keepIn K (.ref f_is_text) = true)
  (a_is_rest : PySem.W.nsIn K mainGlobals "is_rest" = some (some (.ref f_is_rest)))
  (l_is_rest : K.lookup f_is_rest = some ⟨oc_is_rest, od_is_rest, .func (PySem.W.fnOf "is_rest" "is_rest" (defArgs s_is_rest) (defBody s_is_rest) (defScope s_is_rest) .none kV_is_rest dc_is_rest pm_is_rest an_is_rest cd_is_rest ct_is_rest), sl_is_rest⟩)
  (c_is_rest : PySem.W.codeIn K cd_is_rest "is_rest" = true)
  (k_is_rest : PySem.W.keepIn K (.ref f_is_rest) = true)
  (a_is_deed : PySem.W.nsIn K mainGlobals "is_deed" = some (some (.ref f_is_deed)))
  (l_is_deed : K.lookup f_is_deed = some ⟨oc_is_deed, od_is_deed, .func (PySem.W.fnOf "is_deed" "is_deed" (defArgs s_is_deed) (defBody s_is_deed) (defScope s_is_deed) .none kV_is_deed dc_is_deed pm_is_deed an_is_deed cd_is_deed ct_is_deed), sl_is_deed⟩)
  (c_is_deed : PySem.W.codeIn K cd_is_deed "is_deed" = true)
  (k_is_deed : PySem.W.keepIn K (.ref f_is_deed) = true)
  (a_dot_of : PySem.W.nsIn K mainGlobals "dot_of" = some (some (.ref f_dot_of)))
  (l_dot_of : K.lookup f_dot_of = some ⟨oc_dot_of, od_dot_of, .func (PySem.W.fnOf "dot_of" "dot_of" (defArgs s_dot_of) (defBody s_dot_of) (defScope s_dot_of) .none kV_dot_of dc_dot_of pm_dot_of an_dot_of cd_dot_of ct_dot_of), sl_dot_of⟩)
  (c_dot_of : PySem.W.codeIn K cd_dot_of "dot_of" = true)
  (k_dot_of : PySem.W.keepIn K (.ref f_dot_of) = true)
  (a_is_next : PySem.W.nsIn K mainGlobals "is_next" = some (some (.ref f_is_next)))
  (l_is_next : K.lookup f_is_next = some ⟨oc_is_next, od_is_next, .func (PySem.W.fnOf "is_next" "is_next" (defArgs s_is_next) (defBody s_is_next) (defScope s_is_next) .none kV_is_next dc_is_next pm_is_next an_is_next cd_is_next ct_is_next), sl_is_next⟩)
  (c_is_next : PySem.W.codeIn K cd_is_next "is_next" = true)
  (k_is_next : PySem.W.keepIn K (.ref f_is_next) = true)
  (a_is_heard : PySem.W.nsIn K mainGlobals "is_heard" = some (some (.ref f_is_heard)))
  (l_is_heard : K.lookup f_is_heard = some ⟨oc_is_heard, od_is_heard, .func (PySem.W.fnOf "is_heard" "is_heard" (defArgs s_is_heard) (defBody s_is_heard) (defScope s_is_heard) .none kV_is_heard dc_is_heard pm_is_heard an_is_heard cd_is_heard ct_is_heard), sl_is_heard⟩)
  (c_is_heard : PySem.W.codeIn K cd_is_heard "is_heard" = true)
  (k_is_heard : PySem.W.keepIn K (.ref f_is_heard) = true)
  (a_check_heard : PySem.W.nsIn K mainGlobals "check_heard" = some (some (.ref f_check_heard)))
  (l_check_heard : K.lookup f_check_heard = some ⟨oc_check_heard, od_check_heard, .func (PySem.W.fnOf "check_heard" "check_heard" (defArgs s_check_heard) (defBody s_check_heard) (defScope s_check_heard) .none kV_check_heard dc_check_heard pm_check_heard an_check_heard cd_check_heard ct_check_heard), sl_check_heard⟩)
  (c_check_heard : PySem.W.codeIn K cd_check_heard "check_heard" = true)
  (k_check_heard : PySem.W.keepIn K (.ref f_check_heard) = true)
  (a_borns_of : PySem.W.nsIn K mainGlobals "borns_of" = some (some (.ref f_borns_of)))
  (l_borns_of : K.lookup f_borns_of = some ⟨oc_borns_of, od_borns_of, .func (PySem.W.fnOf "borns_of" "borns_of" (defArgs s_borns_of) (defBody s_borns_of) (defScope s_borns_of) .none kV_borns_of dc_borns_of pm_borns_of an_borns_of cd_borns_of ct_borns_of), sl_borns_of⟩)
  (c_borns_of : PySem.W.codeIn K cd_borns_of "borns_of" = true)
  (k_borns_of : PySem.W.keepIn K (.ref f_borns_of) = true)
  (a_folders_in : PySem.W.nsIn K mainGlobals "folders_in" = some (some (.ref f_folders_in)))
  (l_folders_in : K.lookup f_folders_in = some ⟨oc_folders_in, od_folders_in, .func (PySem.W.fnOf "folders_in" "folders_in" (defArgs s_folders_in) (defBody s_folders_in) (defScope s_folders_in) .none kV_folders_in dc_folders_in pm_folders_in an_folders_in cd_folders_in ct_folders_in), sl_folders_in⟩)
  (c_folders_in : PySem.W.codeIn K cd_folders_in "folders_in" = true)
  (k_folders_in : PySem.W.keepIn K (.ref f_folders_in) = true)
  (a_is_move : PySem.W.nsIn K mainGlobals "is_move" = some (some (.ref f_is_move)))
  (l_is_move : K.lookup f_is_move = some ⟨oc_is_move, od_is_move, .func (PySem.W.fnOf "is_move" "is_move" (defArgs s_is_move) (defBody s_is_move) (defScope s_is_move) .none kV_is_move dc_is_move pm_is_move an_is_move cd_is_move ct_is_move), sl_is_move⟩)
  (c_is_move : PySem.W.codeIn K cd_is_move "is_move" = true)
  (k_is_move : PySem.W.keepIn K (.ref f_is_move) = true)
  (a_item_of : PySem.W.nsIn K mainGlobals "item_of" = some (some (.ref f_item_of)))
  (l_item_of : K.lookup f_item_of = some ⟨oc_item_of, od_item_of, .func (PySem.W.fnOf "item_of" "item_of" (defArgs s_item_of) (defBody s_item_of) (defScope s_item_of) .none kV_item_of dc_item_of pm_item_of an_item_of cd_item_of ct_item_of), sl_item_of⟩)
  (c_item_of : PySem.W.codeIn K cd_item_of "item_of" = true)
  (k_item_of : PySem.W.keepIn K (.ref f_item_of) = true)
  (a_can_bear : PySem.W.nsIn K mainGlobals "can_bear" = some (some (.ref f_can_bear)))
  (l_can_bear : K.lookup f_can_bear = some ⟨oc_can_bear, od_can_bear, .func (PySem.W.fnOf "can_bear" "can_bear" (defArgs s_can_bear) (defBody s_can_bear) (defScope s_can_bear) .none kV_can_bear dc_can_bear pm_can_bear an_can_bear cd_can_bear ct_can_bear), sl_can_bear⟩)
  (c_can_bear : PySem.W.codeIn K cd_can_bear "can_bear" = true)
  (k_can_bear : PySem.W.keepIn K (.ref f_can_bear) = true)
  (a_is_within : PySem.W.nsIn K mainGlobals "is_within" = some (some (.ref f_is_within)))
  (l_is_within : K.lookup f_is_within = some ⟨oc_is_within, od_is_within, .func (PySem.W.fnOf "is_within" "is_within" (defArgs s_is_within) (defBody s_is_within) (defScope s_is_within) .none kV_is_within dc_is_within pm_is_within an_is_within cd_is_within ct_is_within), sl_is_within⟩)
  (c_is_within : PySem.W.codeIn K cd_is_within "is_within" = true)
  (k_is_within : PySem.W.keepIn K (.ref f_is_within) = true)
  (a_place_by : PySem.W.nsIn K mainGlobals "place_by" = some (some (.ref f_place_by)))
  (l_place_by : K.lookup f_place_by = some ⟨oc_place_by, od_place_by, .func (PySem.W.fnOf "place_by" "place_by" (defArgs s_place_by) (defBody s_place_by) (defScope s_place_by) .none kV_place_by dc_place_by pm_place_by an_place_by cd_place_by ct_place_by), sl_place_by⟩)
  (c_place_by : PySem.W.codeIn K cd_place_by "place_by" = true)
  (k_place_by : PySem.W.keepIn K (.ref f_place_by) = true)
  (a_sequence : PySem.W.nsIn K mainGlobals "sequence" = some (some (.ref f_sequence)))
  (l_sequence : K.lookup f_sequence = some ⟨oc_sequence, od_sequence, .func (PySem.W.fnOf "sequence" "sequence" (defArgs s_sequence) (defBody s_sequence) (defScope s_sequence) .none kV_sequence dc_sequence pm_sequence an_sequence cd_sequence ct_sequence), sl_sequence⟩)
  (c_sequence : PySem.W.codeIn K cd_sequence "sequence" = true)
  (k_sequence : PySem.W.keepIn K (.ref f_sequence) = true)
  (a_gone_through : PySem.W.nsIn K mainGlobals "gone_through" = some (some (.ref f_gone_through)))
  (l_gone_through : K.lookup f_gone_through = some ⟨oc_gone_through, od_gone_through, .func (PySem.W.fnOf "gone_through" "gone_through" (defArgs s_gone_through) (defBody s_gone_through) (defScope s_gone_through) .none kV_gone_through dc_gone_through pm_gone_through an_gone_through cd_gone_through ct_gone_through), sl_gone_through⟩)
  (c_gone_through : PySem.W.codeIn K cd_gone_through "gone_through" = true)
  (k_gone_through : PySem.W.keepIn K (.ref f_gone_through) = true)
  (a_placed_items : PySem.W.nsIn K mainGlobals "placed_items" = some (some (.ref f_placed_items)))
  (l_placed_items : K.lookup f_placed_items = some ⟨oc_placed_items, od_placed_items, .func (PySem.W.fnOf "placed_items" "placed_items" (defArgs s_placed_items) (defBody s_placed_items) (defScope s_placed_items) .none kV_placed_items dc_placed_items pm_placed_items an_placed_items cd_placed_items ct_placed_items), sl_placed_items⟩)
  (c_placed_items : PySem.W.codeIn K cd_placed_items "placed_items" = true)
  (k_placed_items : PySem.W.keepIn K (.ref f_placed_items) = true)
  (a_covered_of : PySem.W.nsIn K mainGlobals "covered_of" = some (some (.ref f_covered_of)))
  (l_covered_of : K.lookup f_covered_of = some ⟨oc_covered_of, od_covered_of, .func (PySem.W.fnOf "covered_of" "covered_of" (defArgs s_covered_of) (defBody s_covered_of) (defScope s_covered_of) .none kV_covered_of dc_covered_of pm_covered_of an_covered_of cd_covered_of ct_covered_of), sl_covered_of⟩)
  (c_covered_of : PySem.W.codeIn K cd_covered_of "covered_of" = true)
  (k_covered_of : PySem.W.keepIn K (.ref f_covered_of) = true)
  (a_live_of : PySem.W.nsIn K mainGlobals "live_of" = some (some (.ref f_live_of)))
  (l_live_of : K.lookup f_live_of = some ⟨oc_live_of, od_live_of, .func (PySem.W.fnOf "live_of" "live_of" (defArgs s_live_of) (defBody s_live_of) (defScope s_live_of) .none kV_live_of dc_live_of pm_live_of an_live_of cd_live_of ct_live_of), sl_live_of⟩)
  (c_live_of : PySem.W.codeIn K cd_live_of "live_of" = true)
  (k_live_of : PySem.W.keepIn K (.ref f_live_of) = true)
  (a_standing_items : PySem.W.nsIn K mainGlobals "standing_items" = some (some (.ref f_standing_items)))
  (l_standing_items : K.lookup f_standing_items = some ⟨oc_standing_items, od_standing_items, .func (PySem.W.fnOf "standing_items" "standing_items" (defArgs s_standing_items) (defBody s_standing_items) (defScope s_standing_items) .none kV_standing_items dc_standing_items pm_standing_items an_standing_items cd_standing_items ct_standing_items), sl_standing_items⟩)
  (c_standing_items : PySem.W.codeIn K cd_standing_items "standing_items" = true)
  (k_standing_items : PySem.W.keepIn K (.ref f_standing_items) = true)
  (a_in_folders : PySem.W.nsIn K mainGlobals "in_folders" = some (some (.ref f_in_folders)))
  (l_in_folders : K.lookup f_in_folders = some ⟨oc_in_folders, od_in_folders, .func (PySem.W.fnOf "in_folders" "in_folders" (defArgs s_in_folders) (defBody s_in_folders) (defScope s_in_folders) .none kV_in_folders dc_in_folders pm_in_folders an_in_folders cd_in_folders ct_in_folders), sl_in_folders⟩)
  (c_in_folders : PySem.W.codeIn K cd_in_folders "in_folders" = true)
  (k_in_folders : PySem.W.keepIn K (.ref f_in_folders) = true)
  (a_Names___init__ : PySem.W.findIn K (.ref C0) "__init__" = some (some (.ref f_Names___init__)))
  (i_Names___init__ : PySem.W.isFn K (.ref f_Names___init__) = true)
  (l_Names___init__ : K.lookup f_Names___init__ = some ⟨oc_Names___init__, od_Names___init__, .func (PySem.W.fnOf "__init__" "Names.__init__" (defArgs s_Names___init__) (defBody s_Names___init__) (defScope s_Names___init__) .none kV_Names___init__ dc_Names___init__ pm_Names___init__ an_Names___init__ cd_Names___init__ ct_Names___init__), sl_Names___init__⟩)
  (c_Names___init__ : PySem.W.codeIn K cd_Names___init__ "Names.__init__" = true)
  (k_Names___init__ : PySem.W.keepIn K (.ref f_Names___init__) = true)
  (a_folded : PySem.W.nsIn K mainGlobals "folded" = some (some (.ref f_folded)))
  (l_folded : K.lookup f_folded = some ⟨oc_folded, od_folded, .func (PySem.W.fnOf "folded" "folded" (defArgs s_folded) (defBody s_folded) (defScope s_folded) .none kV_folded dc_folded pm_folded an_folded cd_folded ct_folded), sl_folded⟩)
  (c_folded : PySem.W.codeIn K cd_folded "folded" = true)
  (k_folded : PySem.W.keepIn K (.ref f_folded) = true)
  (a_Names_give : PySem.W.findIn K (.ref C0) "give" = some (some (.ref f_Names_give)))
  (i_Names_give : PySem.W.isFn K (.ref f_Names_give) = true)
  (l_Names_give : K.lookup f_Names_give = some ⟨oc_Names_give, od_Names_give, .func (PySem.W.fnOf "give" "Names.give" (defArgs s_Names_give) (defBody s_Names_give) (defScope s_Names_give) .none kV_Names_give dc_Names_give pm_Names_give an_Names_give cd_Names_give ct_Names_give), sl_Names_give⟩)
  (c_Names_give : PySem.W.codeIn K cd_Names_give "Names.give" = true)
  (k_Names_give : PySem.W.keepIn K (.ref f_Names_give) = true)
  (a_Names_is_free : PySem.W.findIn K (.ref C0) "is_free" = some (some (.ref f_Names_is_free)))
  (i_Names_is_free : PySem.W.isFn K (.ref f_Names_is_free) = true)
  (l_Names_is_free : K.lookup f_Names_is_free = some ⟨oc_Names_is_free, od_Names_is_free, .func (PySem.W.fnOf "is_free" "Names.is_free" (defArgs s_Names_is_free) (defBody s_Names_is_free) (defScope s_Names_is_free) .none kV_Names_is_free dc_Names_is_free pm_Names_is_free an_Names_is_free cd_Names_is_free ct_Names_is_free), sl_Names_is_free⟩)
  (c_Names_is_free : PySem.W.codeIn K cd_Names_is_free "Names.is_free" = true)
  (k_Names_is_free : PySem.W.keepIn K (.ref f_Names_is_free) = true)
  (a_Names_made : PySem.W.findIn K (.ref C0) "made" = some (some (.ref f_Names_made)))
  (i_Names_made : PySem.W.isFn K (.ref f_Names_made) = true)
  (l_Names_made : K.lookup f_Names_made = some ⟨oc_Names_made, od_Names_made, .func (PySem.W.fnOf "made" "Names.made" (defArgs s_Names_made) (defBody s_Names_made) (defScope s_Names_made) .none kV_Names_made dc_Names_made pm_Names_made an_Names_made cd_Names_made ct_Names_made), sl_Names_made⟩)
  (c_Names_made : PySem.W.codeIn K cd_Names_made "Names.made" = true)
  (k_Names_made : PySem.W.keepIn K (.ref f_Names_made) = true)
  (a_named : PySem.W.nsIn K mainGlobals "named" = some (some (.ref f_named)))
  (l_named : K.lookup f_named = some ⟨oc_named, od_named, .func (PySem.W.fnOf "named" "named" (defArgs s_named) (defBody s_named) (defScope s_named) .none kV_named dc_named pm_named an_named cd_named ct_named), sl_named⟩)
  (c_named : PySem.W.codeIn K cd_named "named" = true)
  (k_named : PySem.W.keepIn K (.ref f_named) = true)
  (a_entries_of : PySem.W.nsIn K mainGlobals "entries_of" = some (some (.ref f_entries_of)))
  (l_entries_of : K.lookup f_entries_of = some ⟨oc_entries_of, od_entries_of, .func (PySem.W.fnOf "entries_of" "entries_of" (defArgs s_entries_of) (defBody s_entries_of) (defScope s_entries_of) .none kV_entries_of dc_entries_of pm_entries_of an_entries_of cd_entries_of ct_entries_of), sl_entries_of⟩)
  (c_entries_of : PySem.W.codeIn K cd_entries_of "entries_of" = true)
  (k_entries_of : PySem.W.keepIn K (.ref f_entries_of) = true)
  (a_path_under : PySem.W.nsIn K mainGlobals "path_under" = some (some (.ref f_path_under)))
  (l_path_under : K.lookup f_path_under = some ⟨oc_path_under, od_path_under, .func (PySem.W.fnOf "path_under" "path_under" (defArgs s_path_under) (defBody s_path_under) (defScope s_path_under) .none kV_path_under dc_path_under pm_path_under an_path_under cd_path_under ct_path_under), sl_path_under⟩)
  (c_path_under : PySem.W.codeIn K cd_path_under "path_under" = true)
  (k_path_under : PySem.W.keepIn K (.ref f_path_under) = true)
  (a_rows_of : PySem.W.nsIn K mainGlobals "rows_of" = some (some (.ref f_rows_of)))
  (l_rows_of : K.lookup f_rows_of = some ⟨oc_rows_of, od_rows_of, .func (PySem.W.fnOf "rows_of" "rows_of" (defArgs s_rows_of) (defBody s_rows_of) (defScope s_rows_of) .none kV_rows_of dc_rows_of pm_rows_of an_rows_of cd_rows_of ct_rows_of), sl_rows_of⟩)
  (c_rows_of : PySem.W.codeIn K cd_rows_of "rows_of" = true)
  (k_rows_of : PySem.W.keepIn K (.ref f_rows_of) = true)
  (a_picture : PySem.W.nsIn K mainGlobals "picture" = some (some (.ref f_picture)))
  (l_picture : K.lookup f_picture = some ⟨oc_picture, od_picture, .func (PySem.W.fnOf "picture" "picture" (defArgs s_picture) (defBody s_picture) (defScope s_picture) .none kV_picture dc_picture pm_picture an_picture cd_picture ct_picture), sl_picture⟩)
  (c_picture : PySem.W.codeIn K cd_picture "picture" = true)
  (k_picture : PySem.W.keepIn K (.ref f_picture) = true)
  (a__law_shown : PySem.W.nsIn K mainGlobals "_law_shown" = some (some (.ref f__law_shown)))
  (l__law_shown : K.lookup f__law_shown = some ⟨oc__law_shown, od__law_shown, .func (PySem.W.fnOf "_law_shown" "_law_shown" (defArgs s__law_shown) (defBody s__law_shown) (defScope s__law_shown) .none kV__law_shown dc__law_shown pm__law_shown an__law_shown cd__law_shown ct__law_shown), sl__law_shown⟩)
  (c__law_shown : PySem.W.codeIn K cd__law_shown "_law_shown" = true)
  (k__law_shown : PySem.W.keepIn K (.ref f__law_shown) = true)
  (a__law_names : PySem.W.nsIn K mainGlobals "_law_names" = some (some (.ref f__law_names)))
  (l__law_names : K.lookup f__law_names = some ⟨oc__law_names, od__law_names, .func (PySem.W.fnOf "_law_names" "_law_names" (defArgs s__law_names) (defBody s__law_names) (defScope s__law_names) .none kV__law_names dc__law_names pm__law_names an__law_names cd__law_names ct__law_names), sl__law_names⟩)
  (c__law_names : PySem.W.codeIn K cd__law_names "_law_names" = true)
  (k__law_names : PySem.W.keepIn K (.ref f__law_names) = true)
  (a_key_order : PySem.W.nsIn K mainGlobals "key_order" = some (some (.ref f_key_order)))
  (l_key_order : K.lookup f_key_order = some ⟨oc_key_order, od_key_order, .func (PySem.W.fnOf "key_order" "key_order" (defArgs s_key_order) (defBody s_key_order) (defScope s_key_order) .none kV_key_order dc_key_order pm_key_order an_key_order cd_key_order ct_key_order), sl_key_order⟩)
  (c_key_order : PySem.W.codeIn K cd_key_order "key_order" = true)
  (k_key_order : PySem.W.keepIn K (.ref f_key_order) = true)
  (a_entries : PySem.W.nsIn K mainGlobals "entries" = some (some (.ref f_entries)))
  (l_entries : K.lookup f_entries = some ⟨oc_entries, od_entries, .func (PySem.W.fnOf "entries" "entries" (defArgs s_entries) (defBody s_entries) (defScope s_entries) .none kV_entries dc_entries pm_entries an_entries cd_entries ct_entries), sl_entries⟩)
  (c_entries : PySem.W.codeIn K cd_entries "entries" = true)
  (k_entries : PySem.W.keepIn K (.ref f_entries) = true)
  (a__law_right : PySem.W.nsIn K mainGlobals "_law_right" = some (some (.ref f__law_right)))
  (l__law_right : K.lookup f__law_right = some ⟨oc__law_right, od__law_right, .func (PySem.W.fnOf "_law_right" "_law_right" (defArgs s__law_right) (defBody s__law_right) (defScope s__law_right) .none kV__law_right dc__law_right pm__law_right an__law_right cd__law_right ct__law_right), sl__law_right⟩)
  (c__law_right : PySem.W.codeIn K cd__law_right "_law_right" = true)
  (k__law_right : PySem.W.keepIn K (.ref f__law_right) = true)
  (a_law : PySem.W.nsIn K mainGlobals "law" = some (some (.ref f_law)))
  (l_law : K.lookup f_law = some ⟨oc_law, od_law, .func (PySem.W.fnOf "law" "law" (defArgs s_law) (defBody s_law) (defScope s_law) .none kV_law dc_law pm_law an_law cd_law ct_law), sl_law⟩)
  (c_law : PySem.W.codeIn K cd_law "law" = true)
  (k_law : PySem.W.keepIn K (.ref f_law) = true)
  (z_abs : PySem.W.nsIn K mainGlobals "abs" = some none)
  (z_all : PySem.W.nsIn K mainGlobals "all" = some none)
  (z_bool : PySem.W.nsIn K mainGlobals "bool" = some none)
  (z_dict : PySem.W.nsIn K mainGlobals "dict" = some none)
  (z_enumerate : PySem.W.nsIn K mainGlobals "enumerate" = some none)
  (z_int : PySem.W.nsIn K mainGlobals "int" = some none)
  (z_isinstance : PySem.W.nsIn K mainGlobals "isinstance" = some none)
  (z_len : PySem.W.nsIn K mainGlobals "len" = some none)
  (z_list : PySem.W.nsIn K mainGlobals "list" = some none)
  (z_max : PySem.W.nsIn K mainGlobals "max" = some none)
  (z_min : PySem.W.nsIn K mainGlobals "min" = some none)
  (z_range : PySem.W.nsIn K mainGlobals "range" = some none)
  (z_sorted : PySem.W.nsIn K mainGlobals "sorted" = some none)
  (z_str : PySem.W.nsIn K mainGlobals "str" = some none)
  (z_sum : PySem.W.nsIn K mainGlobals "sum" = some none)
  (z_tuple : PySem.W.nsIn K mainGlobals "tuple" = some none)
  (z_zip : PySem.W.nsIn K mainGlobals "zip" = some none)
  (g_DOTS : PySem.W.nsIn K mainGlobals "DOTS" = some (some (.ref t_DOTS)))
  (gl_DOTS : K.lookup t_DOTS = some ⟨.type "tuple", to_DOTS, .seq ti_DOTS tn_DOTS, ts_DOTS⟩)
  (gv_DOTS : Vals [V.str ⟨([46] : List Nat).toArray⟩, V.str ⟨([46, 46] : List Nat).toArray⟩] ti_DOTS.toList)
  (gz_DOTS : ti_DOTS.size ≤ sizeLine)
  (g_NAMED : PySem.W.nsIn K mainGlobals "NAMED" = some (some (.str x_NAMED t_NAMED)))
  (ge_NAMED : x_NAMED = ⟨([97, 98, 99, 100, 101, 102, 103, 104, 105, 106, 107, 108, 109, 110, 111, 112, 113, 114, 115, 116, 117, 118, 119, 120, 121, 122, 65, 66, 67, 68, 69, 70, 71, 72, 73, 74, 75, 76, 77, 78, 79, 80, 81, 82, 83, 84, 85, 86, 87, 88, 89, 90, 48, 49, 50, 51, 52, 53, 54, 55, 56, 57, 46, 45, 95] : List Nat).toArray⟩)
  (g_CAPITALS : PySem.W.nsIn K mainGlobals "CAPITALS" = some (some (.str x_CAPITALS t_CAPITALS)))
  (ge_CAPITALS : x_CAPITALS = ⟨([65, 66, 67, 68, 69, 70, 71, 72, 73, 74, 75, 76, 77, 78, 79, 80, 81, 82, 83, 84, 85, 86, 87, 88, 89, 90] : List Nat).toArray⟩)
  (g_SMALL : PySem.W.nsIn K mainGlobals "SMALL" = some (some (.str x_SMALL t_SMALL)))
  (ge_SMALL : x_SMALL = ⟨([97, 98, 99, 100, 101, 102, 103, 104, 105, 106, 107, 108, 109, 110, 111, 112, 113, 114, 115, 116, 117, 118, 119, 120, 121, 122] : List Nat).toArray⟩)
  (g_SLASH : PySem.W.nsIn K mainGlobals "SLASH" = some (some (.str x_SLASH t_SLASH)))
  (ge_SLASH : x_SLASH = ⟨([47] : List Nat).toArray⟩)
  (g_MOST_TEXT : PySem.W.nsIn K mainGlobals "MOST_TEXT" = some (some (.int 400 t_MOST_TEXT)))
  (g_LOWEST : PySem.W.nsIn K mainGlobals "LOWEST" = some (some (.str x_LOWEST t_LOWEST)))
  (ge_LOWEST : x_LOWEST = ⟨([32] : List Nat).toArray⟩)
  (g_HIGHEST : PySem.W.nsIn K mainGlobals "HIGHEST" = some (some (.str x_HIGHEST t_HIGHEST)))
  (ge_HIGHEST : x_HIGHEST = ⟨([126] : List Nat).toArray⟩)
  (g_MOST_LIFE : PySem.W.nsIn K mainGlobals "MOST_LIFE" = some (some (.int 1000000 t_MOST_LIFE)))
  (g_PAIR_plain : PySem.W.nsIn K mainGlobals "PAIR_plain" = some (some (.int 2 t_PAIR_plain)))
  (g_FRESH : PySem.W.nsIn K mainGlobals "FRESH" = some (some (.int 3 t_FRESH)))
  (g_BORN : PySem.W.nsIn K mainGlobals "BORN" = some (some (.str x_BORN t_BORN)))
  (ge_BORN : x_BORN = ⟨([98, 111, 114, 110] : List Nat).toArray⟩)
  (g_KINDS : PySem.W.nsIn K mainGlobals "KINDS" = some (some (.ref t_KINDS)))
  (gl_KINDS : K.lookup t_KINDS = some ⟨.type "tuple", to_KINDS, .seq ti_KINDS tn_KINDS, ts_KINDS⟩)
  (gv_KINDS : Vals [V.str ⟨([102, 111, 108, 100, 101, 114] : List Nat).toArray⟩, V.str ⟨([102, 105, 108, 101] : List Nat).toArray⟩, V.str ⟨([108, 105, 110, 107] : List Nat).toArray⟩] ti_KINDS.toList)
  (gz_KINDS : ti_KINDS.size ≤ sizeLine)
  (g_LINK : PySem.W.nsIn K mainGlobals "LINK" = some (some (.str x_LINK t_LINK)))
  (ge_LINK : x_LINK = ⟨([108, 105, 110, 107] : List Nat).toArray⟩)
  (g_PUT : PySem.W.nsIn K mainGlobals "PUT" = some (some (.str x_PUT t_PUT)))
  (ge_PUT : x_PUT = ⟨([112, 117, 116] : List Nat).toArray⟩)
  (g_PAIR_deeds : PySem.W.nsIn K mainGlobals "PAIR_deeds" = some (some (.int 2 t_PAIR_deeds)))
  (g_GONE : PySem.W.nsIn K mainGlobals "GONE" = some (some (.str x_GONE t_GONE)))
  (ge_GONE : x_GONE = ⟨([103, 111, 110, 101] : List Nat).toArray⟩)
  (g_STAMP : PySem.W.nsIn K mainGlobals "STAMP" = some (some (.int 2 t_STAMP)))
  (g_NAME_OF_BORN : PySem.W.nsIn K mainGlobals "NAME_OF_BORN" = some (some (.int 5 t_NAME_OF_BORN)))
  (g_PARENT_OF_BORN : PySem.W.nsIn K mainGlobals "PARENT_OF_BORN" = some (some (.int 4 t_PARENT_OF_BORN)))
  (g_NAME_OF_PUT : PySem.W.nsIn K mainGlobals "NAME_OF_PUT" = some (some (.int 5 t_NAME_OF_PUT)))
  (g_PARENT_OF_PUT : PySem.W.nsIn K mainGlobals "PARENT_OF_PUT" = some (some (.int 4 t_PARENT_OF_PUT)))
  (g_KIND : PySem.W.nsIn K mainGlobals "KIND" = some (some (.int 3 t_KIND)))
  (g_FOLDER : PySem.W.nsIn K mainGlobals "FOLDER" = some (some (.str x_FOLDER t_FOLDER)))
  (ge_FOLDER : x_FOLDER = ⟨([102, 111, 108, 100, 101, 114] : List Nat).toArray⟩)
  (g_DOT_AT : PySem.W.nsIn K mainGlobals "DOT_AT" = some (some (.int 1 t_DOT_AT)))
  (g_WRITE : PySem.W.nsIn K mainGlobals "WRITE" = some (some (.str x_WRITE t_WRITE)))
  (ge_WRITE : x_WRITE = ⟨([119, 114, 105, 116, 101] : List Nat).toArray⟩)
  (g_COVERS_AT : PySem.W.nsIn K mainGlobals "COVERS_AT" = some (some (.int (-1) t_COVERS_AT)))
  (g_KIND_AT : PySem.W.nsIn K mainGlobals "KIND_AT" = some (some (.int 3 t_KIND_AT)))
  (g_FILE : PySem.W.nsIn K mainGlobals "FILE" = some (some (.str x_FILE t_FILE)))
  (ge_FILE : x_FILE = ⟨([102, 105, 108, 101] : List Nat).toArray⟩)
  (g_ITEM : PySem.W.nsIn K mainGlobals "ITEM" = some (some (.str x_ITEM t_ITEM)))
  (ge_ITEM : x_ITEM = ⟨([105, 116, 101, 109] : List Nat).toArray⟩)
  (g_ALSO : PySem.W.nsIn K mainGlobals "ALSO" = some (some (.str x_ALSO t_ALSO)))
  (ge_ALSO : x_ALSO = ⟨([46, 97, 108, 115, 111] : List Nat).toArray⟩)
  (g_CLASH : PySem.W.nsIn K mainGlobals "CLASH" = some (some (.str x_CLASH t_CLASH)))
  (ge_CLASH : x_CLASH = ⟨([46, 99, 108, 97, 115, 104] : List Nat).toArray⟩)
  (g_BESIDE : PySem.W.nsIn K mainGlobals "BESIDE" = some (some (.str x_BESIDE t_BESIDE)))
  (ge_BESIDE : x_BESIDE = ⟨([98, 101, 115, 105, 100, 101] : List Nat).toArray⟩)
  (g_TEXT_AT : PySem.W.nsIn K mainGlobals "TEXT_AT" = some (some (.int 6 t_TEXT_AT)))
  (g_WRITTEN_AT : PySem.W.nsIn K mainGlobals "WRITTEN_AT" = some (some (.int 4 t_WRITTEN_AT)))
  (g_PARTS : PySem.W.nsIn K mainGlobals "PARTS" = some (some (.ref d_PARTS)))
  (gl_PARTS : K.lookup d_PARTS = some ⟨.type "dict", none, .dict e_PARTS m_PARTS, #[]⟩)
  (gt_PARTS : PySem.W.KeysLit w.params e_PARTS.toList)
  (gw_PARTS : (d_PARTS == sysModules) = false)
  (gv_PARTS : Vals (tbl_PARTS.map fun p => V.str ⟨p.1.toArray⟩) (e_PARTS.toList.map (·.key)))
  (gz_PARTS : e_PARTS.size ≤ 1000)
  (gn_PARTS_0 : PySem.W.nsIn K d_PARTS "born" = some (some (.int 7 u_PARTS_0)))
  (gn_PARTS_1 : PySem.W.nsIn K d_PARTS "put" = some (some (.int 6 u_PARTS_1)))
  (gn_PARTS_2 : PySem.W.nsIn K d_PARTS "write" = some (some (.int 6 u_PARTS_2)))
  (gn_PARTS_3 : PySem.W.nsIn K d_PARTS "gone" = some (some (.int 5 u_PARTS_3)))
  (hF : F_law [.scr] [] isT = true) :
  ∃ fd : FuncData, (∀ (s : Shared) (u : Value), BindsTo s fd ⟨[u], []⟩ [("script", u)]) ∧ ∀ base : Heap, K.In base → base.Ns mainGlobals mg → FnG l.prog w K mg base 14 fa fd ["script"] (spL K) := by
  have e := hfa.symm.trans (PySem.W.mg_of X Gn a_law)
  cases e
  have cf : ClsF (Gc K w C0) := ⟨
    fun c hc => by
      cases c with
      | zero => exact ⟨pg_Names, hd_Names, po_Names, sa_Names⟩
      | succ c =>
      exact absurd hc (by show ¬ _ < 1; omega),
    fun c i hc hi => by
      cases c with
      | zero =>
        cases i with
        | zero => exact nf_Names_0
        | succ i =>
        cases i with
        | zero => exact nf_Names_1
        | succ i =>
        exact absurd hi (by show ¬ _ < 2; omega)
      | succ c =>
      exact absurd hc (by show ¬ _ < 1; omega),
    fun i j hi hj => (show ∀ i, i < 2 → ∀ j, j < 2 → fldOf i = fldOf j → i = j from by decide +kernel) i hi j hj⟩
  have T0 := PySem.W.mg_none_of X Gn z_abs
  have T1 := PySem.W.mg_none_of X Gn z_all
  have T2 := PySem.W.mg_none_of X Gn z_bool
  have T3 := PySem.W.mg_none_of X Gn z_dict
  have T4 := PySem.W.mg_none_of X Gn z_enumerate
  have T5 := PySem.W.mg_none_of X Gn z_int
  have T6 := PySem.W.mg_none_of X Gn z_isinstance
  have T7 := PySem.W.mg_none_of X Gn z_len
  have T8 := PySem.W.mg_none_of X Gn z_list
  have T9 := PySem.W.mg_none_of X Gn z_max
  have T10 := PySem.W.mg_none_of X Gn z_min
  have T11 := PySem.W.mg_none_of X Gn z_range
  have T12 := PySem.W.mg_none_of X Gn z_sorted
  have T13 := PySem.W.mg_none_of X Gn z_str
  have T14 := PySem.W.mg_none_of X Gn z_sum
  have T15 := PySem.W.mg_none_of X Gn z_tuple
  have T16 := PySem.W.mg_none_of X Gn z_zip
  have Tg_DOTS : GcE (Gc K w C0) mg "DOTS" (.kt [(.str [46]), (.str [46, 46])]) := ⟨_, .ref t_DOTS, PySem.W.mg_of X Gn g_DOTS, rfl, fun _ _ _ => by unfold RV; exact ⟨t_DOTS, _, rfl, .inr ⟨_, _, _, gl_DOTS, rfl, rfl, gz_DOTS, gv_DOTS⟩, RVs.cons (by unfold RV; rfl) (RVs.cons (by unfold RV; rfl) (RVs.nil))⟩⟩
  have Tg_NAMED : GcE (Gc K w C0) mg "NAMED" (.str [97, 98, 99, 100, 101, 102, 103, 104, 105, 106, 107, 108, 109, 110, 111, 112, 113, 114, 115, 116, 117, 118, 119, 120, 121, 122, 65, 66, 67, 68, 69, 70, 71, 72, 73, 74, 75, 76, 77, 78, 79, 80, 81, 82, 83, 84, 85, 86, 87, 88, 89, 90, 48, 49, 50, 51, 52, 53, 54, 55, 56, 57, 46, 45, 95]) := ⟨_, .str ⟨([97, 98, 99, 100, 101, 102, 103, 104, 105, 106, 107, 108, 109, 110, 111, 112, 113, 114, 115, 116, 117, 118, 119, 120, 121, 122, 65, 66, 67, 68, 69, 70, 71, 72, 73, 74, 75, 76, 77, 78, 79, 80, 81, 82, 83, 84, 85, 86, 87, 88, 89, 90, 48, 49, 50, 51, 52, 53, 54, 55, 56, 57, 46, 45, 95] : List Nat).toArray⟩, PySem.W.mg_of X Gn g_NAMED, ⟨_, by rw [ge_NAMED]⟩, fun _ _ _ => by unfold RV; rfl⟩
  have Tg_CAPITALS : GcE (Gc K w C0) mg "CAPITALS" (.str [65, 66, 67, 68, 69, 70, 71, 72, 73, 74, 75, 76, 77, 78, 79, 80, 81, 82, 83, 84, 85, 86, 87, 88, 89, 90]) := ⟨_, .str ⟨([65, 66, 67, 68, 69, 70, 71, 72, 73, 74, 75, 76, 77, 78, 79, 80, 81, 82, 83, 84, 85, 86, 87, 88, 89, 90] : List Nat).toArray⟩, PySem.W.mg_of X Gn g_CAPITALS, ⟨_, by rw [ge_CAPITALS]⟩, fun _ _ _ => by unfold RV; rfl⟩
  have Tg_SMALL : GcE (Gc K w C0) mg "SMALL" (.str [97, 98, 99, 100, 101, 102, 103, 104, 105, 106, 107, 108, 109, 110, 111, 112, 113, 114, 115, 116, 117, 118, 119, 120, 121, 122]) := ⟨_, .str ⟨([97, 98, 99, 100, 101, 102, 103, 104, 105, 106, 107, 108, 109, 110, 111, 112, 113, 114, 115, 116, 117, 118, 119, 120, 121, 122] : List Nat).toArray⟩, PySem.W.mg_of X Gn g_SMALL, ⟨_, by rw [ge_SMALL]⟩, fun _ _ _ => by unfold RV; rfl⟩
  have Tg_SLASH : GcE (Gc K w C0) mg "SLASH" (.str [47]) := ⟨_, .str ⟨([47] : List Nat).toArray⟩, PySem.W.mg_of X Gn g_SLASH, ⟨_, by rw [ge_SLASH]⟩, fun _ _ _ => by unfold RV; rfl⟩
  have Tg_MOST_TEXT : GcE (Gc K w C0) mg "MOST_TEXT" (.int 400) := ⟨_, .int 400, PySem.W.mg_of X Gn g_MOST_TEXT, ⟨_, rfl⟩, fun _ _ _ => by unfold RV; rfl⟩
  have Tg_LOWEST : GcE (Gc K w C0) mg "LOWEST" (.str [32]) := ⟨_, .str ⟨([32] : List Nat).toArray⟩, PySem.W.mg_of X Gn g_LOWEST, ⟨_, by rw [ge_LOWEST]⟩, fun _ _ _ => by unfold RV; rfl⟩
  have Tg_HIGHEST : GcE (Gc K w C0) mg "HIGHEST" (.str [126]) := ⟨_, .str ⟨([126] : List Nat).toArray⟩, PySem.W.mg_of X Gn g_HIGHEST, ⟨_, by rw [ge_HIGHEST]⟩, fun _ _ _ => by unfold RV; rfl⟩
  have Tg_MOST_LIFE : GcE (Gc K w C0) mg "MOST_LIFE" (.int 1000000) := ⟨_, .int 1000000, PySem.W.mg_of X Gn g_MOST_LIFE, ⟨_, rfl⟩, fun _ _ _ => by unfold RV; rfl⟩
  have Tg_PAIR_plain : GcE (Gc K w C0) mg "PAIR_plain" (.int 2) := ⟨_, .int 2, PySem.W.mg_of X Gn g_PAIR_plain, ⟨_, rfl⟩, fun _ _ _ => by unfold RV; rfl⟩
  have Tg_FRESH : GcE (Gc K w C0) mg "FRESH" (.int 3) := ⟨_, .int 3, PySem.W.mg_of X Gn g_FRESH, ⟨_, rfl⟩, fun _ _ _ => by unfold RV; rfl⟩
  have Tg_BORN : GcE (Gc K w C0) mg "BORN" (.str [98, 111, 114, 110]) := ⟨_, .str ⟨([98, 111, 114, 110] : List Nat).toArray⟩, PySem.W.mg_of X Gn g_BORN, ⟨_, by rw [ge_BORN]⟩, fun _ _ _ => by unfold RV; rfl⟩
  have Tg_KINDS : GcE (Gc K w C0) mg "KINDS" (.kt [(.str [102, 111, 108, 100, 101, 114]), (.str [102, 105, 108, 101]), (.str [108, 105, 110, 107])]) := ⟨_, .ref t_KINDS, PySem.W.mg_of X Gn g_KINDS, rfl, fun _ _ _ => by unfold RV; exact ⟨t_KINDS, _, rfl, .inr ⟨_, _, _, gl_KINDS, rfl, rfl, gz_KINDS, gv_KINDS⟩, RVs.cons (by unfold RV; rfl) (RVs.cons (by unfold RV; rfl) (RVs.cons (by unfold RV; rfl) (RVs.nil)))⟩⟩
  have Tg_LINK : GcE (Gc K w C0) mg "LINK" (.str [108, 105, 110, 107]) := ⟨_, .str ⟨([108, 105, 110, 107] : List Nat).toArray⟩, PySem.W.mg_of X Gn g_LINK, ⟨_, by rw [ge_LINK]⟩, fun _ _ _ => by unfold RV; rfl⟩
  have Tg_PUT : GcE (Gc K w C0) mg "PUT" (.str [112, 117, 116]) := ⟨_, .str ⟨([112, 117, 116] : List Nat).toArray⟩, PySem.W.mg_of X Gn g_PUT, ⟨_, by rw [ge_PUT]⟩, fun _ _ _ => by unfold RV; rfl⟩
  have Tg_PAIR_deeds : GcE (Gc K w C0) mg "PAIR_deeds" (.int 2) := ⟨_, .int 2, PySem.W.mg_of X Gn g_PAIR_deeds, ⟨_, rfl⟩, fun _ _ _ => by unfold RV; rfl⟩
  have Tg_GONE : GcE (Gc K w C0) mg "GONE" (.str [103, 111, 110, 101]) := ⟨_, .str ⟨([103, 111, 110, 101] : List Nat).toArray⟩, PySem.W.mg_of X Gn g_GONE, ⟨_, by rw [ge_GONE]⟩, fun _ _ _ => by unfold RV; rfl⟩
  have Tg_STAMP : GcE (Gc K w C0) mg "STAMP" (.int 2) := ⟨_, .int 2, PySem.W.mg_of X Gn g_STAMP, ⟨_, rfl⟩, fun _ _ _ => by unfold RV; rfl⟩
  have Tg_NAME_OF_BORN : GcE (Gc K w C0) mg "NAME_OF_BORN" (.int 5) := ⟨_, .int 5, PySem.W.mg_of X Gn g_NAME_OF_BORN, ⟨_, rfl⟩, fun _ _ _ => by unfold RV; rfl⟩
  have Tg_PARENT_OF_BORN : GcE (Gc K w C0) mg "PARENT_OF_BORN" (.int 4) := ⟨_, .int 4, PySem.W.mg_of X Gn g_PARENT_OF_BORN, ⟨_, rfl⟩, fun _ _ _ => by unfold RV; rfl⟩
  have Tg_NAME_OF_PUT : GcE (Gc K w C0) mg "NAME_OF_PUT" (.int 5) := ⟨_, .int 5, PySem.W.mg_of X Gn g_NAME_OF_PUT, ⟨_, rfl⟩, fun _ _ _ => by unfold RV; rfl⟩
  have Tg_PARENT_OF_PUT : GcE (Gc K w C0) mg "PARENT_OF_PUT" (.int 4) := ⟨_, .int 4, PySem.W.mg_of X Gn g_PARENT_OF_PUT, ⟨_, rfl⟩, fun _ _ _ => by unfold RV; rfl⟩
  have Tg_KIND : GcE (Gc K w C0) mg "KIND" (.int 3) := ⟨_, .int 3, PySem.W.mg_of X Gn g_KIND, ⟨_, rfl⟩, fun _ _ _ => by unfold RV; rfl⟩
  have Tg_FOLDER : GcE (Gc K w C0) mg "FOLDER" (.str [102, 111, 108, 100, 101, 114]) := ⟨_, .str ⟨([102, 111, 108, 100, 101, 114] : List Nat).toArray⟩, PySem.W.mg_of X Gn g_FOLDER, ⟨_, by rw [ge_FOLDER]⟩, fun _ _ _ => by unfold RV; rfl⟩
  have Tg_DOT_AT : GcE (Gc K w C0) mg "DOT_AT" (.int 1) := ⟨_, .int 1, PySem.W.mg_of X Gn g_DOT_AT, ⟨_, rfl⟩, fun _ _ _ => by unfold RV; rfl⟩
  have Tg_WRITE : GcE (Gc K w C0) mg "WRITE" (.str [119, 114, 105, 116, 101]) := ⟨_, .str ⟨([119, 114, 105, 116, 101] : List Nat).toArray⟩, PySem.W.mg_of X Gn g_WRITE, ⟨_, by rw [ge_WRITE]⟩, fun _ _ _ => by unfold RV; rfl⟩
  have Tg_COVERS_AT : GcE (Gc K w C0) mg "COVERS_AT" (.int (-1)) := ⟨_, .int (-1), PySem.W.mg_of X Gn g_COVERS_AT, ⟨_, rfl⟩, fun _ _ _ => by unfold RV; rfl⟩
  have Tg_KIND_AT : GcE (Gc K w C0) mg "KIND_AT" (.int 3) := ⟨_, .int 3, PySem.W.mg_of X Gn g_KIND_AT, ⟨_, rfl⟩, fun _ _ _ => by unfold RV; rfl⟩
  have Tg_FILE : GcE (Gc K w C0) mg "FILE" (.str [102, 105, 108, 101]) := ⟨_, .str ⟨([102, 105, 108, 101] : List Nat).toArray⟩, PySem.W.mg_of X Gn g_FILE, ⟨_, by rw [ge_FILE]⟩, fun _ _ _ => by unfold RV; rfl⟩
  have Tg_ITEM : GcE (Gc K w C0) mg "ITEM" (.str [105, 116, 101, 109]) := ⟨_, .str ⟨([105, 116, 101, 109] : List Nat).toArray⟩, PySem.W.mg_of X Gn g_ITEM, ⟨_, by rw [ge_ITEM]⟩, fun _ _ _ => by unfold RV; rfl⟩
  have Tg_ALSO : GcE (Gc K w C0) mg "ALSO" (.str [46, 97, 108, 115, 111]) := ⟨_, .str ⟨([46, 97, 108, 115, 111] : List Nat).toArray⟩, PySem.W.mg_of X Gn g_ALSO, ⟨_, by rw [ge_ALSO]⟩, fun _ _ _ => by unfold RV; rfl⟩
  have Tg_CLASH : GcE (Gc K w C0) mg "CLASH" (.str [46, 99, 108, 97, 115, 104]) := ⟨_, .str ⟨([46, 99, 108, 97, 115, 104] : List Nat).toArray⟩, PySem.W.mg_of X Gn g_CLASH, ⟨_, by rw [ge_CLASH]⟩, fun _ _ _ => by unfold RV; rfl⟩
  have Tg_BESIDE : GcE (Gc K w C0) mg "BESIDE" (.str [98, 101, 115, 105, 100, 101]) := ⟨_, .str ⟨([98, 101, 115, 105, 100, 101] : List Nat).toArray⟩, PySem.W.mg_of X Gn g_BESIDE, ⟨_, by rw [ge_BESIDE]⟩, fun _ _ _ => by unfold RV; rfl⟩
  have Tg_TEXT_AT : GcE (Gc K w C0) mg "TEXT_AT" (.int 6) := ⟨_, .int 6, PySem.W.mg_of X Gn g_TEXT_AT, ⟨_, rfl⟩, fun _ _ _ => by unfold RV; rfl⟩
  have Tg_WRITTEN_AT : GcE (Gc K w C0) mg "WRITTEN_AT" (.int 4) := ⟨_, .int 4, PySem.W.mg_of X Gn g_WRITTEN_AT, ⟨_, rfl⟩, fun _ _ _ => by unfold RV; rfl⟩
  have Tk_PARTS : KdOk (Gc K w C0) w mg "PARTS" tbl_PARTS d_PARTS e_PARTS m_PARTS := ⟨PySem.W.mg_of X Gn g_PARTS, ⟨gl_PARTS, gt_PARTS, gw_PARTS⟩, gv_PARTS, gz_PARTS, fun p hp => by
      rcases List.mem_cons.mp hp with rfl | hp
      · exact ⟨_, .int 7, (by show PySem.W.nsIn K d_PARTS (⟨([98, 111, 114, 110] : List Nat).toArray⟩ : Str) = _; rw [show (⟨([98, 111, 114, 110] : List Nat).toArray⟩ : Str) = "born" from by decide +kernel]; exact gn_PARTS_0), ⟨_, rfl⟩, fun _ _ _ => by unfold RV; rfl⟩
      rcases List.mem_cons.mp hp with rfl | hp
      · exact ⟨_, .int 6, (by show PySem.W.nsIn K d_PARTS (⟨([112, 117, 116] : List Nat).toArray⟩ : Str) = _; rw [show (⟨([112, 117, 116] : List Nat).toArray⟩ : Str) = "put" from by decide +kernel]; exact gn_PARTS_1), ⟨_, rfl⟩, fun _ _ _ => by unfold RV; rfl⟩
      rcases List.mem_cons.mp hp with rfl | hp
      · exact ⟨_, .int 6, (by show PySem.W.nsIn K d_PARTS (⟨([119, 114, 105, 116, 101] : List Nat).toArray⟩ : Str) = _; rw [show (⟨([119, 114, 105, 116, 101] : List Nat).toArray⟩ : Str) = "write" from by decide +kernel]; exact gn_PARTS_2), ⟨_, rfl⟩, fun _ _ _ => by unfold RV; rfl⟩
      rcases List.mem_cons.mp hp with rfl | hp
      · exact ⟨_, .int 5, (by show PySem.W.nsIn K d_PARTS (⟨([103, 111, 110, 101] : List Nat).toArray⟩ : Str) = _; rw [show (⟨([103, 111, 110, 101] : List Nat).toArray⟩ : Str) = "gone" from by decide +kernel]; exact gn_PARTS_3), ⟨_, rfl⟩, fun _ _ _ => by unfold RV; rfl⟩
      exact absurd hp List.not_mem_nil⟩
  have T : Tx w K mg C0 d_PARTS e_PARTS m_PARTS := ⟨T0, T1, T2, T3, T4, T5, T6, T7, T8, T9, T10, T11, T12, T13, T14, T15, T16, Tg_DOTS, Tg_NAMED, Tg_CAPITALS, Tg_SMALL, Tg_SLASH, Tg_MOST_TEXT, Tg_LOWEST, Tg_HIGHEST, Tg_MOST_LIFE, Tg_PAIR_plain, Tg_FRESH, Tg_BORN, Tg_KINDS, Tg_LINK, Tg_PUT, Tg_PAIR_deeds, Tg_GONE, Tg_STAMP, Tg_NAME_OF_BORN, Tg_PARENT_OF_BORN, Tg_NAME_OF_PUT, Tg_PARENT_OF_PUT, Tg_KIND, Tg_FOLDER, Tg_DOT_AT, Tg_WRITE, Tg_COVERS_AT, Tg_KIND_AT, Tg_FILE, Tg_ITEM, Tg_ALSO, Tg_CLASH, Tg_BESIDE, Tg_TEXT_AT, Tg_WRITTEN_AT, Tk_PARTS, cf⟩
  refine ⟨PySem.W.fnOf "law" "law" (defArgs s_law) (defBody s_law) (defScope s_law) .none kV_law dc_law pm_law an_law cd_law ct_law, fun s v => ?_, fun base _ _ => ?_⟩
  rotate_left 1
  have d__law_pot : DfOk l.prog w mg base (Gc K w C0) 1 "_law_pot" (["script", "place"] : List Str) F__law_pot := ⟨_, _, PySem.W.mg_of X Gn a__law_pot, k__law_pot, (Fun.binds (ps := ["script", "place"]) (fun_mk (st := s__law_pot) l__law_pot c__law_pot k__law_pot) fun _ _ _ _ _ _ us hl => match us, hl with | [_, _], _ => rfl), pot_ok (fun_mk (st := s__law_pot) l__law_pot c__law_pot k__law_pot) rfl rfl T.n_len T.n_int T.n_sum T.n_abs ⟨by decide, by decide⟩ ⟨by decide, by decide⟩ ⟨by decide, by decide⟩⟩
  have d__law_take : DfOk l.prog w mg base (Gc K w C0) 1 "_law_take" (["pot", "upto"] : List Str) F__law_take := by
    rw [show F__law_take = takeF from takeX_eq]
    exact ⟨_, _, PySem.W.mg_of X Gn a__law_take, k__law_take, (Fun.binds (ps := ["pot", "upto"]) (fun_mk (st := s__law_take) l__law_take c__law_take k__law_take) fun _ _ _ _ _ _ us hl => match us, hl with | [_, _], _ => rfl), take_ok (fun_mk (st := s__law_take) l__law_take c__law_take k__law_take) rfl rfl T.n_int ⟨by decide, by decide⟩ ⟨by decide, by decide⟩ ⟨by decide, by decide⟩ ⟨by decide, by decide⟩ ⟨by decide, by decide⟩⟩
  have d__law_born : DfOk l.prog w mg base (Gc K w C0) 1 "_law_born" (["life", "number", "stamp", "kind", "parent", "name"] : List Str) F__law_born := (df_ok (PySem.W.mg_of X Gn a__law_born) (fun_mk (st := s__law_born) l__law_born c__law_born k__law_born) (Fun.binds (ps := ["life", "number", "stamp", "kind", "parent", "name"]) (fun_mk (st := s__law_born) l__law_born c__law_born k__law_born) fun _ _ _ _ _ _ us hl => match us, hl with | [_, _, _, _, _, _], _ => rfl) ⟨rfl, rfl, rfl, by decide +kernel, rfl, by decide +kernel, by decide +kernel⟩ (b__law_born T))
  have d__law_heard : DfOk l.prog w mg base (Gc K w C0) 1 "_law_heard" (["deeds"] : List Str) F__law_heard := (df_ok (PySem.W.mg_of X Gn a__law_heard) (fun_mk (st := s__law_heard) l__law_heard c__law_heard k__law_heard) (Fun.binds (ps := ["deeds"]) (fun_mk (st := s__law_heard) l__law_heard c__law_heard k__law_heard) fun _ _ _ _ _ _ us hl => match us, hl with | [_], _ => rfl) ⟨rfl, rfl, rfl, by decide +kernel, rfl, by decide +kernel, by decide +kernel⟩ (b__law_heard T))
  have d_is_whole : DfOk l.prog w mg base (Gc K w C0) 1 "is_whole" (["value"] : List Str) F_is_whole := (df_ok (PySem.W.mg_of X Gn a_is_whole) (fun_mk (st := s_is_whole) l_is_whole c_is_whole k_is_whole) (Fun.binds (ps := ["value"]) (fun_mk (st := s_is_whole) l_is_whole c_is_whole k_is_whole) fun _ _ _ _ _ _ us hl => match us, hl with | [_], _ => rfl) ⟨rfl, rfl, rfl, by decide +kernel, rfl, by decide +kernel, by decide +kernel⟩ (b_is_whole T))
  have d_is_integer : DfOk l.prog w mg base (Gc K w C0) 2 "is_integer" (["value", "low", "high"] : List Str) F_is_integer := (df_ok (PySem.W.mg_of X Gn a_is_integer) (fun_mk (st := s_is_integer) l_is_integer c_is_integer k_is_integer) (Fun.binds (ps := ["value", "low", "high"]) (fun_mk (st := s_is_integer) l_is_integer c_is_integer k_is_integer) fun _ _ _ _ _ _ us hl => match us, hl with | [_, _, _], _ => rfl) ⟨rfl, rfl, rfl, by decide +kernel, rfl, by decide +kernel, by decide +kernel⟩ (b_is_integer T d_is_whole))
  have d_is_life : DfOk l.prog w mg base (Gc K w C0) 3 "is_life" (["value"] : List Str) F_is_life := (df_ok (PySem.W.mg_of X Gn a_is_life) (fun_mk (st := s_is_life) l_is_life c_is_life k_is_life) (Fun.binds (ps := ["value"]) (fun_mk (st := s_is_life) l_is_life c_is_life k_is_life) fun _ _ _ _ _ _ us hl => match us, hl with | [_], _ => rfl) ⟨rfl, rfl, rfl, by decide +kernel, rfl, by decide +kernel, by decide +kernel⟩ (b_is_life T d_is_integer)).memo
  have d_is_tuple : DfOk l.prog w mg base (Gc K w C0) 1 "is_tuple" (["value", "least", "most"] : List Str) F_is_tuple := (df_ok (PySem.W.mg_of X Gn a_is_tuple) (fun_mk (st := s_is_tuple) l_is_tuple c_is_tuple k_is_tuple) (Fun.binds (ps := ["value", "least", "most"]) (fun_mk (st := s_is_tuple) l_is_tuple c_is_tuple k_is_tuple) fun _ _ _ _ _ _ us hl => match us, hl with | [_, _, _], _ => rfl) ⟨rfl, rfl, rfl, by decide +kernel, rfl, by decide +kernel, by decide +kernel⟩ (b_is_tuple T))
  have d_is_dot : DfOk l.prog w mg base (Gc K w C0) 4 "is_dot" (["value"] : List Str) F_is_dot := (df_ok (PySem.W.mg_of X Gn a_is_dot) (fun_mk (st := s_is_dot) l_is_dot c_is_dot k_is_dot) (Fun.binds (ps := ["value"]) (fun_mk (st := s_is_dot) l_is_dot c_is_dot k_is_dot) fun _ _ _ _ _ _ us hl => match us, hl with | [_], _ => rfl) ⟨rfl, rfl, rfl, by decide +kernel, rfl, by decide +kernel, by decide +kernel⟩ (b_is_dot T d_is_integer d_is_life d_is_tuple)).memo
  have d_is_ascending : DfOk l.prog w mg base (Gc K w C0) 1 "is_ascending" (["value"] : List Str) F_is_ascending := (df_ok (PySem.W.mg_of X Gn a_is_ascending) (fun_mk (st := s_is_ascending) l_is_ascending c_is_ascending k_is_ascending) (Fun.binds (ps := ["value"]) (fun_mk (st := s_is_ascending) l_is_ascending c_is_ascending k_is_ascending) fun _ _ _ _ _ _ us hl => match us, hl with | [_], _ => rfl) ⟨rfl, rfl, rfl, by decide +kernel, rfl, by decide +kernel, by decide +kernel⟩ (b_is_ascending T))
  have d_is_covers : DfOk l.prog w mg base (Gc K w C0) 5 "is_covers" (["value"] : List Str) F_is_covers := (df_ok (PySem.W.mg_of X Gn a_is_covers) (fun_mk (st := s_is_covers) l_is_covers c_is_covers k_is_covers) (Fun.binds (ps := ["value"]) (fun_mk (st := s_is_covers) l_is_covers c_is_covers k_is_covers) fun _ _ _ _ _ _ us hl => match us, hl with | [_], _ => rfl) ⟨rfl, rfl, rfl, by decide +kernel, rfl, by decide +kernel, by decide +kernel⟩ (b_is_covers T d_is_ascending d_is_dot)).memo
  have d_is_name : DfOk l.prog w mg base (Gc K w C0) 1 "is_name" (["value"] : List Str) F_is_name := (df_ok (PySem.W.mg_of X Gn a_is_name) (fun_mk (st := s_is_name) l_is_name c_is_name k_is_name) (Fun.binds (ps := ["value"]) (fun_mk (st := s_is_name) l_is_name c_is_name k_is_name) fun _ _ _ _ _ _ us hl => match us, hl with | [_], _ => rfl) ⟨rfl, rfl, rfl, by decide +kernel, rfl, by decide +kernel, by decide +kernel⟩ (b_is_name T)).memo
  have d_is_parent : DfOk l.prog w mg base (Gc K w C0) 5 "is_parent" (["value"] : List Str) F_is_parent := (df_ok (PySem.W.mg_of X Gn a_is_parent) (fun_mk (st := s_is_parent) l_is_parent c_is_parent k_is_parent) (Fun.binds (ps := ["value"]) (fun_mk (st := s_is_parent) l_is_parent c_is_parent k_is_parent) fun _ _ _ _ _ _ us hl => match us, hl with | [_], _ => rfl) ⟨rfl, rfl, rfl, by decide +kernel, rfl, by decide +kernel, by decide +kernel⟩ (b_is_parent T d_is_dot)).memo
  have d_is_said : DfOk l.prog w mg base (Gc K w C0) 1 "is_said" (["value", "words"] : List Str) F_is_said := (df_ok (PySem.W.mg_of X Gn a_is_said) (fun_mk (st := s_is_said) l_is_said c_is_said k_is_said) (Fun.binds (ps := ["value", "words"]) (fun_mk (st := s_is_said) l_is_said c_is_said k_is_said) fun _ _ _ _ _ _ us hl => match us, hl with | [_, _], _ => rfl) ⟨rfl, rfl, rfl, by decide +kernel, rfl, by decide +kernel, by decide +kernel⟩ (b_is_said T))
  have d_is_text : DfOk l.prog w mg base (Gc K w C0) 1 "is_text" (["value"] : List Str) F_is_text := (df_ok (PySem.W.mg_of X Gn a_is_text) (fun_mk (st := s_is_text) l_is_text c_is_text k_is_text) (Fun.binds (ps := ["value"]) (fun_mk (st := s_is_text) l_is_text c_is_text k_is_text) fun _ _ _ _ _ _ us hl => match us, hl with | [_], _ => rfl) ⟨rfl, rfl, rfl, by decide +kernel, rfl, by decide +kernel, by decide +kernel⟩ (b_is_text T)).memo
  have d_is_rest : DfOk l.prog w mg base (Gc K w C0) 6 "is_rest" (["deed"] : List Str) F_is_rest := (df_ok (PySem.W.mg_of X Gn a_is_rest) (fun_mk (st := s_is_rest) l_is_rest c_is_rest k_is_rest) (Fun.binds (ps := ["deed"]) (fun_mk (st := s_is_rest) l_is_rest c_is_rest k_is_rest) fun _ _ _ _ _ _ us hl => match us, hl with | [_], _ => rfl) ⟨rfl, rfl, rfl, by decide +kernel, rfl, by decide +kernel, by decide +kernel⟩ (b_is_rest T d_is_covers d_is_dot d_is_name d_is_parent d_is_said d_is_text)).memo
  have d_is_deed : DfOk l.prog w mg base (Gc K w C0) 7 "is_deed" (["value"] : List Str) F_is_deed := (df_ok (PySem.W.mg_of X Gn a_is_deed) (fun_mk (st := s_is_deed) l_is_deed c_is_deed k_is_deed) (Fun.binds (ps := ["value"]) (fun_mk (st := s_is_deed) l_is_deed c_is_deed k_is_deed) fun _ _ _ _ _ _ us hl => match us, hl with | [_], _ => rfl) ⟨rfl, rfl, rfl, by decide +kernel, rfl, by decide +kernel, by decide +kernel⟩ (b_is_deed T d_is_dot d_is_rest d_is_said d_is_whole)).memo
  have d_dot_of : DfOk l.prog w mg base (Gc K w C0) 1 "dot_of" (["deed"] : List Str) F_dot_of := (df_ok (PySem.W.mg_of X Gn a_dot_of) (fun_mk (st := s_dot_of) l_dot_of c_dot_of k_dot_of) (Fun.binds (ps := ["deed"]) (fun_mk (st := s_dot_of) l_dot_of c_dot_of k_dot_of) fun _ _ _ _ _ _ us hl => match us, hl with | [_], _ => rfl) ⟨rfl, rfl, rfl, by decide +kernel, rfl, by decide +kernel, by decide +kernel⟩ (b_dot_of T))
  have d_is_next : DfOk l.prog w mg base (Gc K w C0) 2 "is_next" (["ahead", "deed"] : List Str) F_is_next := (df_ok (PySem.W.mg_of X Gn a_is_next) (fun_mk (st := s_is_next) l_is_next c_is_next k_is_next) (Fun.binds (ps := ["ahead", "deed"]) (fun_mk (st := s_is_next) l_is_next c_is_next k_is_next) fun _ _ _ _ _ _ us hl => match us, hl with | [_, _], _ => rfl) ⟨rfl, rfl, rfl, by decide +kernel, rfl, by decide +kernel, by decide +kernel⟩ (b_is_next T d_dot_of))
  have d_is_heard : DfOk l.prog w mg base (Gc K w C0) 8 "is_heard" (["value"] : List Str) F_is_heard := (df_ok (PySem.W.mg_of X Gn a_is_heard) (fun_mk (st := s_is_heard) l_is_heard c_is_heard k_is_heard) (Fun.binds (ps := ["value"]) (fun_mk (st := s_is_heard) l_is_heard c_is_heard k_is_heard) fun _ _ _ _ _ _ us hl => match us, hl with | [_], _ => rfl) ⟨rfl, rfl, rfl, by decide +kernel, rfl, by decide +kernel, by decide +kernel⟩ (b_is_heard T d_is_deed d_is_next)).memo
  have d_check_heard : DfOk l.prog w mg base (Gc K w C0) 9 "check_heard" (["value"] : List Str) F_check_heard := (df_ok (PySem.W.mg_of X Gn a_check_heard) (fun_mk (st := s_check_heard) l_check_heard c_check_heard k_check_heard) (Fun.binds (ps := ["value"]) (fun_mk (st := s_check_heard) l_check_heard c_check_heard k_check_heard) fun _ _ _ _ _ _ us hl => match us, hl with | [_], _ => rfl) ⟨rfl, rfl, rfl, by decide +kernel, rfl, by decide +kernel, by decide +kernel⟩ (b_check_heard T d_is_heard))
  have d_borns_of : DfOk l.prog w mg base (Gc K w C0) 1 "borns_of" (["deeds"] : List Str) F_borns_of := (df_ok (PySem.W.mg_of X Gn a_borns_of) (fun_mk (st := s_borns_of) l_borns_of c_borns_of k_borns_of) (Fun.binds (ps := ["deeds"]) (fun_mk (st := s_borns_of) l_borns_of c_borns_of k_borns_of) fun _ _ _ _ _ _ us hl => match us, hl with | [_], _ => rfl) ⟨rfl, rfl, rfl, by decide +kernel, rfl, by decide +kernel, by decide +kernel⟩ (b_borns_of T))
  have d_folders_in : DfOk l.prog w mg base (Gc K w C0) 2 "folders_in" (["deeds"] : List Str) F_folders_in := (df_ok (PySem.W.mg_of X Gn a_folders_in) (fun_mk (st := s_folders_in) l_folders_in c_folders_in k_folders_in) (Fun.binds (ps := ["deeds"]) (fun_mk (st := s_folders_in) l_folders_in c_folders_in k_folders_in) fun _ _ _ _ _ _ us hl => match us, hl with | [_], _ => rfl) ⟨rfl, rfl, rfl, by decide +kernel, rfl, by decide +kernel, by decide +kernel⟩ (b_folders_in T d_dot_of))
  have d_is_move : DfOk l.prog w mg base (Gc K w C0) 1 "is_move" (["deed"] : List Str) F_is_move := (df_ok (PySem.W.mg_of X Gn a_is_move) (fun_mk (st := s_is_move) l_is_move c_is_move k_is_move) (Fun.binds (ps := ["deed"]) (fun_mk (st := s_is_move) l_is_move c_is_move k_is_move) fun _ _ _ _ _ _ us hl => match us, hl with | [_], _ => rfl) ⟨rfl, rfl, rfl, by decide +kernel, rfl, by decide +kernel, by decide +kernel⟩ (b_is_move T))
  have d_item_of : DfOk l.prog w mg base (Gc K w C0) 1 "item_of" (["deed"] : List Str) F_item_of := (df_ok (PySem.W.mg_of X Gn a_item_of) (fun_mk (st := s_item_of) l_item_of c_item_of k_item_of) (Fun.binds (ps := ["deed"]) (fun_mk (st := s_item_of) l_item_of c_item_of k_item_of) fun _ _ _ _ _ _ us hl => match us, hl with | [_], _ => rfl) ⟨rfl, rfl, rfl, by decide +kernel, rfl, by decide +kernel, by decide +kernel⟩ (b_item_of T))
  have d_can_bear : DfOk l.prog w mg base (Gc K w C0) 1 "can_bear" (["placed", "folders", "parent"] : List Str) F_can_bear := (df_ok (PySem.W.mg_of X Gn a_can_bear) (fun_mk (st := s_can_bear) l_can_bear c_can_bear k_can_bear) (Fun.binds (ps := ["placed", "folders", "parent"]) (fun_mk (st := s_can_bear) l_can_bear c_can_bear k_can_bear) fun _ _ _ _ _ _ us hl => match us, hl with | [_, _, _], _ => rfl) ⟨rfl, rfl, rfl, by decide +kernel, rfl, by decide +kernel, by decide +kernel⟩ (b_can_bear T))
  have d_is_within : DfOk l.prog w mg base (Gc K w C0) 1 "is_within" (["placed", "item", "other"] : List Str) F_is_within := (df_ok (PySem.W.mg_of X Gn a_is_within) (fun_mk (st := s_is_within) l_is_within c_is_within k_is_within) (Fun.binds (ps := ["placed", "item", "other"]) (fun_mk (st := s_is_within) l_is_within c_is_within k_is_within) fun _ _ _ _ _ _ us hl => match us, hl with | [_, _, _], _ => rfl) ⟨rfl, rfl, rfl, by decide +kernel, rfl, by decide +kernel, by decide +kernel⟩ (b_is_within T))
  have d_place_by : DfOk l.prog w mg base (Gc K w C0) 2 "place_by" (["placed", "folders", "deed"] : List Str) F_place_by := (df_ok (PySem.W.mg_of X Gn a_place_by) (fun_mk (st := s_place_by) l_place_by c_place_by k_place_by) (Fun.binds (ps := ["placed", "folders", "deed"]) (fun_mk (st := s_place_by) l_place_by c_place_by k_place_by) fun _ _ _ _ _ _ us hl => match us, hl with | [_, _, _], _ => rfl) ⟨rfl, rfl, rfl, by decide +kernel, rfl, by decide +kernel, by decide +kernel⟩ (b_place_by T d_can_bear d_is_within d_item_of))
  have d_sequence : DfOk l.prog w mg base (Gc K w C0) 1 "sequence" (["deed"] : List Str) F_sequence := (df_ok (PySem.W.mg_of X Gn a_sequence) (fun_mk (st := s_sequence) l_sequence c_sequence k_sequence) (Fun.binds (ps := ["deed"]) (fun_mk (st := s_sequence) l_sequence c_sequence k_sequence) fun _ _ _ _ _ _ us hl => match us, hl with | [_], _ => rfl) ⟨rfl, rfl, rfl, by decide +kernel, rfl, by decide +kernel, by decide +kernel⟩ (b_sequence T))
  have d_gone_through : DfOk l.prog w mg base (Gc K w C0) 4 "gone_through" (["deeds"] : List Str) F_gone_through := (df_ok (PySem.W.mg_of X Gn a_gone_through) (fun_mk (st := s_gone_through) l_gone_through c_gone_through k_gone_through) (Fun.binds (ps := ["deeds"]) (fun_mk (st := s_gone_through) l_gone_through c_gone_through k_gone_through) fun _ _ _ _ _ _ us hl => match us, hl with | [_], _ => rfl) ⟨rfl, rfl, rfl, by decide +kernel, rfl, by decide +kernel, by decide +kernel⟩ (b_gone_through T d_dot_of d_folders_in d_is_move d_item_of d_place_by d_sequence))
  have d_placed_items : DfOk l.prog w mg base (Gc K w C0) 5 "placed_items" (["deeds"] : List Str) F_placed_items := (df_ok (PySem.W.mg_of X Gn a_placed_items) (fun_mk (st := s_placed_items) l_placed_items c_placed_items k_placed_items) (Fun.binds (ps := ["deeds"]) (fun_mk (st := s_placed_items) l_placed_items c_placed_items k_placed_items) fun _ _ _ _ _ _ us hl => match us, hl with | [_], _ => rfl) ⟨rfl, rfl, rfl, by decide +kernel, rfl, by decide +kernel, by decide +kernel⟩ (b_placed_items T d_gone_through))
  have d_covered_of : DfOk l.prog w mg base (Gc K w C0) 1 "covered_of" (["deeds"] : List Str) F_covered_of := (df_ok (PySem.W.mg_of X Gn a_covered_of) (fun_mk (st := s_covered_of) l_covered_of c_covered_of k_covered_of) (Fun.binds (ps := ["deeds"]) (fun_mk (st := s_covered_of) l_covered_of c_covered_of k_covered_of) fun _ _ _ _ _ _ us hl => match us, hl with | [_], _ => rfl) ⟨rfl, rfl, rfl, by decide +kernel, rfl, by decide +kernel, by decide +kernel⟩ (b_covered_of T))
  have d_live_of : DfOk l.prog w mg base (Gc K w C0) 4 "live_of" (["deeds"] : List Str) F_live_of := (df_ok (PySem.W.mg_of X Gn a_live_of) (fun_mk (st := s_live_of) l_live_of c_live_of k_live_of) (Fun.binds (ps := ["deeds"]) (fun_mk (st := s_live_of) l_live_of c_live_of k_live_of) fun _ _ _ _ _ _ us hl => match us, hl with | [_], _ => rfl) ⟨rfl, rfl, rfl, by decide +kernel, rfl, by decide +kernel, by decide +kernel⟩ (b_live_of T d_borns_of d_covered_of d_item_of d_sequence))
  have d_standing_items : DfOk l.prog w mg base (Gc K w C0) 6 "standing_items" (["deeds"] : List Str) F_standing_items := (df_ok (PySem.W.mg_of X Gn a_standing_items) (fun_mk (st := s_standing_items) l_standing_items c_standing_items k_standing_items) (Fun.binds (ps := ["deeds"]) (fun_mk (st := s_standing_items) l_standing_items c_standing_items k_standing_items) fun _ _ _ _ _ _ us hl => match us, hl with | [_], _ => rfl) ⟨rfl, rfl, rfl, by decide +kernel, rfl, by decide +kernel, by decide +kernel⟩ (b_standing_items T d_borns_of d_live_of d_placed_items))
  have d_in_folders : DfOk l.prog w mg base (Gc K w C0) 7 "in_folders" (["deeds"] : List Str) F_in_folders := (df_ok (PySem.W.mg_of X Gn a_in_folders) (fun_mk (st := s_in_folders) l_in_folders c_in_folders k_in_folders) (Fun.binds (ps := ["deeds"]) (fun_mk (st := s_in_folders) l_in_folders c_in_folders k_in_folders) fun _ _ _ _ _ _ us hl => match us, hl with | [_], _ => rfl) ⟨rfl, rfl, rfl, by decide +kernel, rfl, by decide +kernel, by decide +kernel⟩ (b_in_folders T d_placed_items d_standing_items))
  have m_Names : ClOk l.prog w mg base (Gc K w C0) 1 0 "Names" (["self"] : List Str) F_Names___init__ := ⟨(show 0 < 1 from by decide), PySem.W.mg_of X Gn aC_Names, _, _, ⟨mk_Names, a_Names___init__, i_Names___init__, kc_Names⟩, (Fun.binds (ps := ["self"]) (fun_mk (st := s_Names___init__) l_Names___init__ c_Names___init__ k_Names___init__) fun _ _ _ _ _ _ us hl => match us, hl with | [_], _ => rfl), f_ok (fun_mk (st := s_Names___init__) l_Names___init__ c_Names___init__ k_Names___init__) ⟨rfl, rfl, rfl, by decide +kernel, rfl, by decide +kernel, by decide +kernel⟩ (b_Names___init__ T)⟩
  have d_folded : DfOk l.prog w mg base (Gc K w C0) 1 "folded" (["name"] : List Str) F_folded := (df_ok (PySem.W.mg_of X Gn a_folded) (fun_mk (st := s_folded) l_folded c_folded k_folded) (Fun.binds (ps := ["name"]) (fun_mk (st := s_folded) l_folded c_folded k_folded) fun _ _ _ _ _ _ us hl => match us, hl with | [_], _ => rfl) ⟨rfl, rfl, rfl, by decide +kernel, rfl, by decide +kernel, by decide +kernel⟩ (b_folded T))
  have d_Names_give : MtOk l.prog w mg base (Gc K w C0) 2 0 "give" (["self", "name"] : List Str) F_Names_give := ⟨(show 0 < 1 from by decide), (show ∀ i, i < 2 → fldOf i ≠ "give" from by decide +kernel), _, _, ⟨a_Names_give, i_Names_give, k_Names_give⟩, (Fun.binds (ps := ["self", "name"]) (fun_mk (st := s_Names_give) l_Names_give c_Names_give k_Names_give) fun _ _ _ _ _ _ us hl => match us, hl with | [_, _], _ => rfl), f_ok (fun_mk (st := s_Names_give) l_Names_give c_Names_give k_Names_give) ⟨rfl, rfl, rfl, by decide +kernel, rfl, by decide +kernel, by decide +kernel⟩ (b_Names_give T d_folded)⟩
  have d_Names_is_free : MtOk l.prog w mg base (Gc K w C0) 2 0 "is_free" (["self", "name"] : List Str) F_Names_is_free := ⟨(show 0 < 1 from by decide), (show ∀ i, i < 2 → fldOf i ≠ "is_free" from by decide +kernel), _, _, ⟨a_Names_is_free, i_Names_is_free, k_Names_is_free⟩, (Fun.binds (ps := ["self", "name"]) (fun_mk (st := s_Names_is_free) l_Names_is_free c_Names_is_free k_Names_is_free) fun _ _ _ _ _ _ us hl => match us, hl with | [_, _], _ => rfl), f_ok (fun_mk (st := s_Names_is_free) l_Names_is_free c_Names_is_free k_Names_is_free) ⟨rfl, rfl, rfl, by decide +kernel, rfl, by decide +kernel, by decide +kernel⟩ (b_Names_is_free T d_folded)⟩
  have d_Names_made : MtOk l.prog w mg base (Gc K w C0) 3 0 "made" (["self", "name", "word"] : List Str) F_Names_made := ⟨(show 0 < 1 from by decide), (show ∀ i, i < 2 → fldOf i ≠ "made" from by decide +kernel), _, _, ⟨a_Names_made, i_Names_made, k_Names_made⟩, (Fun.binds (ps := ["self", "name", "word"]) (fun_mk (st := s_Names_made) l_Names_made c_Names_made k_Names_made) fun _ _ _ _ _ _ us hl => match us, hl with | [_, _, _], _ => rfl), f_ok (fun_mk (st := s_Names_made) l_Names_made c_Names_made k_Names_made) ⟨rfl, rfl, rfl, by decide +kernel, rfl, by decide +kernel, by decide +kernel⟩ (b_Names_made T d_folded d_Names_give d_Names_is_free)⟩
  have d_named : DfOk l.prog w mg base (Gc K w C0) 4 "named" (["items", "placed", "lives", "borns"] : List Str) F_named := (df_ok (PySem.W.mg_of X Gn a_named) (fun_mk (st := s_named) l_named c_named k_named) (Fun.binds (ps := ["items", "placed", "lives", "borns"]) (fun_mk (st := s_named) l_named c_named k_named) fun _ _ _ _ _ _ us hl => match us, hl with | [_, _, _, _], _ => rfl) ⟨rfl, rfl, rfl, by decide +kernel, rfl, by decide +kernel, by decide +kernel⟩ (b_named T m_Names d_Names_give d_Names_is_free d_Names_made))
  have d_entries_of : DfOk l.prog w mg base (Gc K w C0) 8 "entries_of" (["deeds"] : List Str) F_entries_of := (df_ok (PySem.W.mg_of X Gn a_entries_of) (fun_mk (st := s_entries_of) l_entries_of c_entries_of k_entries_of) (Fun.binds (ps := ["deeds"]) (fun_mk (st := s_entries_of) l_entries_of c_entries_of k_entries_of) fun _ _ _ _ _ _ us hl => match us, hl with | [_], _ => rfl) ⟨rfl, rfl, rfl, by decide +kernel, rfl, by decide +kernel, by decide +kernel⟩ (b_entries_of T d_borns_of d_in_folders d_live_of d_named d_placed_items))
  have d_path_under : DfOk l.prog w mg base (Gc K w C0) 1 "path_under" (["path", "name"] : List Str) F_path_under := (df_ok (PySem.W.mg_of X Gn a_path_under) (fun_mk (st := s_path_under) l_path_under c_path_under k_path_under) (Fun.binds (ps := ["path", "name"]) (fun_mk (st := s_path_under) l_path_under c_path_under k_path_under) fun _ _ _ _ _ _ us hl => match us, hl with | [_, _], _ => rfl) ⟨rfl, rfl, rfl, by decide +kernel, rfl, by decide +kernel, by decide +kernel⟩ (b_path_under T))
  have d_rows_of : DfOk l.prog w mg base (Gc K w C0) 2 "rows_of" (["found"] : List Str) F_rows_of := (df_ok (PySem.W.mg_of X Gn a_rows_of) (fun_mk (st := s_rows_of) l_rows_of c_rows_of k_rows_of) (Fun.binds (ps := ["found"]) (fun_mk (st := s_rows_of) l_rows_of c_rows_of k_rows_of) fun _ _ _ _ _ _ us hl => match us, hl with | [_], _ => rfl) ⟨rfl, rfl, rfl, by decide +kernel, rfl, by decide +kernel, by decide +kernel⟩ (b_rows_of T d_path_under))
  have d_picture : DfOk l.prog w mg base (Gc K w C0) 10 "picture" (["heard"] : List Str) F_picture := (df_ok (PySem.W.mg_of X Gn a_picture) (fun_mk (st := s_picture) l_picture c_picture k_picture) (Fun.binds (ps := ["heard"]) (fun_mk (st := s_picture) l_picture c_picture k_picture) fun _ _ _ _ _ _ us hl => match us, hl with | [_], _ => rfl) ⟨rfl, rfl, rfl, by decide +kernel, rfl, by decide +kernel, by decide +kernel⟩ (b_picture T d_check_heard d_entries_of d_rows_of))
  have dk_picture_0 : DfOkK l.prog w mg base (Gc K w C0) 10 "picture" (["heard"] : List Str) (["heard"] : List Str) 0 1 F_picture := ⟨rfl, _, _, PySem.W.mg_of X Gn a_picture, k_picture, Fun.kbinds (fun_mk (st := s_picture) l_picture c_picture k_picture) rfl (by decide) (fun _ _ _ _ _ _ us ws h1 h2 => match us, ws, h1, h2 with | [], [_], _, _ => rfl), f_ok (fun_mk (st := s_picture) l_picture c_picture k_picture) ⟨rfl, rfl, rfl, by decide +kernel, rfl, by decide +kernel, by decide +kernel⟩ (b_picture T d_check_heard d_entries_of d_rows_of)⟩
  have d__law_shown : DfOk l.prog w mg base (Gc K w C0) 11 "_law_shown" (["deeds"] : List Str) F__law_shown := (df_ok (PySem.W.mg_of X Gn a__law_shown) (fun_mk (st := s__law_shown) l__law_shown c__law_shown k__law_shown) (Fun.binds (ps := ["deeds"]) (fun_mk (st := s__law_shown) l__law_shown c__law_shown k__law_shown) fun _ _ _ _ _ _ us hl => match us, hl with | [_], _ => rfl) ⟨rfl, rfl, rfl, by decide +kernel, rfl, by decide +kernel, by decide +kernel⟩ (b__law_shown T d__law_heard d_picture dk_picture_0))
  have d__law_names : DfOk l.prog w mg base (Gc K w C0) 12 "_law_names" (["deeds"] : List Str) F__law_names := (df_ok (PySem.W.mg_of X Gn a__law_names) (fun_mk (st := s__law_names) l__law_names c__law_names k__law_names) (Fun.binds (ps := ["deeds"]) (fun_mk (st := s__law_names) l__law_names c__law_names k__law_names) fun _ _ _ _ _ _ us hl => match us, hl with | [_], _ => rfl) ⟨rfl, rfl, rfl, by decide +kernel, rfl, by decide +kernel, by decide +kernel⟩ (b__law_names T d__law_shown))
  have d_key_order : DfOk l.prog w mg base (Gc K w C0) 1 "key_order" (["key"] : List Str) F_key_order := (df_ok (PySem.W.mg_of X Gn a_key_order) (fun_mk (st := s_key_order) l_key_order c_key_order k_key_order) (Fun.binds (ps := ["key"]) (fun_mk (st := s_key_order) l_key_order c_key_order k_key_order) fun _ _ _ _ _ _ us hl => match us, hl with | [_], _ => rfl) ⟨rfl, rfl, rfl, by decide +kernel, rfl, by decide +kernel, by decide +kernel⟩ (b_key_order T))
  have d_entries : DfOk l.prog w mg base (Gc K w C0) 10 "entries" (["heard"] : List Str) F_entries := (df_ok (PySem.W.mg_of X Gn a_entries) (fun_mk (st := s_entries) l_entries c_entries k_entries) (Fun.binds (ps := ["heard"]) (fun_mk (st := s_entries) l_entries c_entries k_entries) fun _ _ _ _ _ _ us hl => match us, hl with | [_], _ => rfl) ⟨rfl, rfl, rfl, by decide +kernel, rfl, by decide +kernel, by decide +kernel⟩ (b_entries T d_check_heard d_entries_of d_key_order))
  have d__law_right : DfOk l.prog w mg base (Gc K w C0) 13 "_law_right" (["pot"] : List Str) F__law_right := (df_ok (PySem.W.mg_of X Gn a__law_right) (fun_mk (st := s__law_right) l__law_right c__law_right k__law_right) (Fun.binds (ps := ["pot"]) (fun_mk (st := s__law_right) l__law_right c__law_right k__law_right) fun _ _ _ _ _ _ us hl => match us, hl with | [_], _ => rfl) ⟨rfl, rfl, rfl, by decide +kernel, rfl, by decide +kernel, by decide +kernel⟩ (b__law_right T d__law_born d__law_heard d__law_names d__law_shown d__law_take d_entries)).framed rfl _law_right_true
  · exact (f_ok (G := (Gc K w C0)) (ps := ["script"]) (fun_mk (st := s_law) l_law c_law k_law) ⟨rfl, rfl, rfl, by decide +kernel, rfl, by decide +kernel, by decide +kernel⟩ (b_law T d__law_pot d__law_right)).imp fun _ _ _ _ q => spL_of hF q
  · exact .of_eq rfl
end Q24
open PySem PySem.W PyProof.Rows in
set_option maxRecDepth 100000 in
set_option maxHeartbeats 0 in
theorem PySem.Challenge.cw_allonetree_k24_clashes_by_hand_holds : PySem.Challenge.rw_allonetree_k24_clashes_by_hand.Holds := by
  w_on; o_law; k_head; (case hw => w_witness2)
  k_fill
  refine Eg.walkL (l := PySem.Challenge.rw_allonetree_k24_clashes_by_hand) (k := 14) (x := "script") rfl (by decide) rfl ⟨rfl, by decide, by decide⟩ (fun w h Y => PySem.W.kIn_of Y) ?F
  case F =>
    intro w mg fa h KX G hmg
    refine' Q24.all_mk KX G hmg ?aC_Names ?pg_Names ?hd_Names ?po_Names ?sa_Names ?mk_Names ?kc_Names ?nf_Names_0 ?nf_Names_1 ?a__law_pot ?l__law_pot ?c__law_pot ?k__law_pot ?a__law_take ?l__law_take ?c__law_take ?k__law_take ?a__law_born ?l__law_born ?c__law_born ?k__law_born ?a__law_heard ?l__law_heard ?c__law_heard ?k__law_heard ?a_is_whole ?l_is_whole ?c_is_whole ?k_is_whole ?a_is_integer ?l_is_integer ?c_is_integer ?k_is_integer ?a_is_life ?l_is_life ?c_is_life ?k_is_life ?a_is_tuple ?l_is_tuple ?c_is_tuple ?k_is_tuple ?a_is_dot ?l_is_dot ?c_is_dot ?k_is_dot ?a_is_ascending ?l_is_ascending ?c_is_ascending ?k_is_ascending ?a_is_covers ?l_is_covers ?c_is_covers ?k_is_covers ?a_is_name ?l_is_name ?c_is_name ?k_is_name ?a_is_parent ?l_is_parent ?c_is_parent ?k_is_parent ?a_is_said ?l_is_said ?c_is_said ?k_is_said ?a_is_text ?l_is_text ?c_is_text ?k_is_text ?a_is_rest ?l_is_rest ?c_is_rest ?k_is_rest ?a_is_deed ?l_is_deed ?c_is_deed ?k_is_deed ?a_dot_of ?l_dot_of ?c_dot_of ?k_dot_of ?a_is_next ?l_is_next ?c_is_next ?k_is_next ?a_is_heard ?l_is_heard ?c_is_heard ?k_is_heard ?a_check_heard ?l_check_heard ?c_check_heard ?k_check_heard ?a_borns_of ?l_borns_of ?c_borns_of ?k_borns_of ?a_folders_in ?l_folders_in ?c_folders_in ?k_folders_in ?a_is_move ?l_is_move ?c_is_move ?k_is_move ?a_item_of ?l_item_of ?c_item_of ?k_item_of ?a_can_bear ?l_can_bear ?c_can_bear ?k_can_bear ?a_is_within ?l_is_within ?c_is_within ?k_is_within ?a_place_by ?l_place_by ?c_place_by ?k_place_by ?a_sequence ?l_sequence ?c_sequence ?k_sequence ?a_gone_through ?l_gone_through ?c_gone_through ?k_gone_through ?a_placed_items ?l_placed_items ?c_placed_items ?k_placed_items ?a_covered_of ?l_covered_of ?c_covered_of ?k_covered_of ?a_live_of ?l_live_of ?c_live_of ?k_live_of ?a_standing_items ?l_standing_items ?c_standing_items ?k_standing_items ?a_in_folders ?l_in_folders ?c_in_folders ?k_in_folders ?a_Names___init__ ?i_Names___init__ ?l_Names___init__ ?c_Names___init__ ?k_Names___init__ ?a_folded ?l_folded ?c_folded ?k_folded ?a_Names_give ?i_Names_give ?l_Names_give ?c_Names_give ?k_Names_give ?a_Names_is_free ?i_Names_is_free ?l_Names_is_free ?c_Names_is_free ?k_Names_is_free ?a_Names_made ?i_Names_made ?l_Names_made ?c_Names_made ?k_Names_made ?a_named ?l_named ?c_named ?k_named ?a_entries_of ?l_entries_of ?c_entries_of ?k_entries_of ?a_path_under ?l_path_under ?c_path_under ?k_path_under ?a_rows_of ?l_rows_of ?c_rows_of ?k_rows_of ?a_picture ?l_picture ?c_picture ?k_picture ?a__law_shown ?l__law_shown ?c__law_shown ?k__law_shown ?a__law_names ?l__law_names ?c__law_names ?k__law_names ?a_key_order ?l_key_order ?c_key_order ?k_key_order ?a_entries ?l_entries ?c_entries ?k_entries ?a__law_right ?l__law_right ?c__law_right ?k__law_right ?a_law ?l_law ?c_law ?k_law ?z_abs ?z_all ?z_bool ?z_dict ?z_enumerate ?z_int ?z_isinstance ?z_len ?z_list ?z_max ?z_min ?z_range ?z_sorted ?z_str ?z_sum ?z_tuple ?z_zip ?g_DOTS ?gl_DOTS ?gv_DOTS ?gz_DOTS ?g_NAMED ?ge_NAMED ?g_CAPITALS ?ge_CAPITALS ?g_SMALL ?ge_SMALL ?g_SLASH ?ge_SLASH ?g_MOST_TEXT ?g_LOWEST ?ge_LOWEST ?g_HIGHEST ?ge_HIGHEST ?g_MOST_LIFE ?g_PAIR_plain ?g_FRESH ?g_BORN ?ge_BORN ?g_KINDS ?gl_KINDS ?gv_KINDS ?gz_KINDS ?g_LINK ?ge_LINK ?g_PUT ?ge_PUT ?g_PAIR_deeds ?g_GONE ?ge_GONE ?g_STAMP ?g_NAME_OF_BORN ?g_PARENT_OF_BORN ?g_NAME_OF_PUT ?g_PARENT_OF_PUT ?g_KIND ?g_FOLDER ?ge_FOLDER ?g_DOT_AT ?g_WRITE ?ge_WRITE ?g_COVERS_AT ?g_KIND_AT ?g_FILE ?ge_FILE ?g_ITEM ?ge_ITEM ?g_ALSO ?ge_ALSO ?g_CLASH ?ge_CLASH ?g_BESIDE ?ge_BESIDE ?g_TEXT_AT ?g_WRITTEN_AT ?g_PARTS ?gl_PARTS ?gt_PARTS ?gw_PARTS ?gv_PARTS ?gz_PARTS ?gn_PARTS_0 ?gn_PARTS_1 ?gn_PARTS_2 ?gn_PARTS_3 Q24.law_true
    (case aC_Names => k_is)
    (case pg_Names => k_is)
    (case hd_Names => k_is)
    (case po_Names => k_is)
    (case sa_Names => k_is)
    (case mk_Names => k_is)
    (case kc_Names => k_is)
    (case nf_Names_0 => k_is)
    (case nf_Names_1 => k_is)
    (case a__law_pot => k_is)
    (case l__law_pot => k_is)
    (case c__law_pot => k_is)
    (case k__law_pot => k_is)
    (case a__law_take => k_is)
    (case l__law_take => k_is)
    (case c__law_take => k_is)
    (case k__law_take => k_is)
    (case a__law_born => k_is)
    (case l__law_born => k_is)
    (case c__law_born => k_is)
    (case k__law_born => k_is)
    (case a__law_heard => k_is)
    (case l__law_heard => k_is)
    (case c__law_heard => k_is)
    (case k__law_heard => k_is)
    (case a_is_whole => k_is)
    (case l_is_whole => k_is)
    (case c_is_whole => k_is)
    (case k_is_whole => k_is)
    (case a_is_integer => k_is)
    (case l_is_integer => k_is)
    (case c_is_integer => k_is)
    (case k_is_integer => k_is)
    (case a_is_life => k_is)
    (case l_is_life => k_is)
    (case c_is_life => k_is)
    (case k_is_life => k_is)
    (case a_is_tuple => k_is)
    (case l_is_tuple => k_is)
    (case c_is_tuple => k_is)
    (case k_is_tuple => k_is)
    (case a_is_dot => k_is)
    (case l_is_dot => k_is)
    (case c_is_dot => k_is)
    (case k_is_dot => k_is)
    (case a_is_ascending => k_is)
    (case l_is_ascending => k_is)
    (case c_is_ascending => k_is)
    (case k_is_ascending => k_is)
    (case a_is_covers => k_is)
    (case l_is_covers => k_is)
    (case c_is_covers => k_is)
    (case k_is_covers => k_is)
    (case a_is_name => k_is)
    (case l_is_name => k_is)
    (case c_is_name => k_is)
    (case k_is_name => k_is)
    (case a_is_parent => k_is)
    (case l_is_parent => k_is)
    (case c_is_parent => k_is)
    (case k_is_parent => k_is)
    (case a_is_said => k_is)
    (case l_is_said => k_is)
    (case c_is_said => k_is)
    (case k_is_said => k_is)
    (case a_is_text => k_is)
    (case l_is_text => k_is)
    (case c_is_text => k_is)
    (case k_is_text => k_is)
    (case a_is_rest => k_is)
    (case l_is_rest => k_is)
    (case c_is_rest => k_is)
    (case k_is_rest => k_is)
    (case a_is_deed => k_is)
    (case l_is_deed => k_is)
    (case c_is_deed => k_is)
    (case k_is_deed => k_is)
    (case a_dot_of => k_is)
    (case l_dot_of => k_is)
    (case c_dot_of => k_is)
    (case k_dot_of => k_is)
    (case a_is_next => k_is)
    (case l_is_next => k_is)
    (case c_is_next => k_is)
    (case k_is_next => k_is)
    (case a_is_heard => k_is)
    (case l_is_heard => k_is)
    (case c_is_heard => k_is)
    (case k_is_heard => k_is)
    (case a_check_heard => k_is)
    (case l_check_heard => k_is)
    (case c_check_heard => k_is)
    (case k_check_heard => k_is)
    (case a_borns_of => k_is)
    (case l_borns_of => k_is)
    (case c_borns_of => k_is)
    (case k_borns_of => k_is)
    (case a_folders_in => k_is)
    (case l_folders_in => k_is)
    (case c_folders_in => k_is)
    (case k_folders_in => k_is)
    (case a_is_move => k_is)
    (case l_is_move => k_is)
    (case c_is_move => k_is)
    (case k_is_move => k_is)
    (case a_item_of => k_is)
    (case l_item_of => k_is)
    (case c_item_of => k_is)
    (case k_item_of => k_is)
    (case a_can_bear => k_is)
    (case l_can_bear => k_is)
    (case c_can_bear => k_is)
    (case k_can_bear => k_is)
    (case a_is_within => k_is)
    (case l_is_within => k_is)
    (case c_is_within => k_is)
    (case k_is_within => k_is)
    (case a_place_by => k_is)
    (case l_place_by => k_is)
    (case c_place_by => k_is)
    (case k_place_by => k_is)
    (case a_sequence => k_is)
    (case l_sequence => k_is)
    (case c_sequence => k_is)
    (case k_sequence => k_is)
    (case a_gone_through => k_is)
    (case l_gone_through => k_is)
    (case c_gone_through => k_is)
    (case k_gone_through => k_is)
    (case a_placed_items => k_is)
    (case l_placed_items => k_is)
    (case c_placed_items => k_is)
    (case k_placed_items => k_is)
    (case a_covered_of => k_is)
    (case l_covered_of => k_is)
    (case c_covered_of => k_is)
    (case k_covered_of => k_is)
    (case a_live_of => k_is)
    (case l_live_of => k_is)
    (case c_live_of => k_is)
    (case k_live_of => k_is)
    (case a_standing_items => k_is)
    (case l_standing_items => k_is)
    (case c_standing_items => k_is)
    (case k_standing_items => k_is)
    (case a_in_folders => k_is)
    (case l_in_folders => k_is)
    (case c_in_folders => k_is)
    (case k_in_folders => k_is)
    (case a_Names___init__ => k_is)
    (case i_Names___init__ => k_is)
    (case l_Names___init__ => k_is)
    (case c_Names___init__ => k_is)
    (case k_Names___init__ => k_is)
    (case a_folded => k_is)
    (case l_folded => k_is)
    (case c_folded => k_is)
    (case k_folded => k_is)
    (case a_Names_give => k_is)
    (case i_Names_give => k_is)
    (case l_Names_give => k_is)
    (case c_Names_give => k_is)
    (case k_Names_give => k_is)
    (case a_Names_is_free => k_is)
    (case i_Names_is_free => k_is)
    (case l_Names_is_free => k_is)
    (case c_Names_is_free => k_is)
    (case k_Names_is_free => k_is)
    (case a_Names_made => k_is)
    (case i_Names_made => k_is)
    (case l_Names_made => k_is)
    (case c_Names_made => k_is)
    (case k_Names_made => k_is)
    (case a_named => k_is)
    (case l_named => k_is)
    (case c_named => k_is)
    (case k_named => k_is)
    (case a_entries_of => k_is)
    (case l_entries_of => k_is)
    (case c_entries_of => k_is)
    (case k_entries_of => k_is)
    (case a_path_under => k_is)
    (case l_path_under => k_is)
    (case c_path_under => k_is)
    (case k_path_under => k_is)
    (case a_rows_of => k_is)
    (case l_rows_of => k_is)
    (case c_rows_of => k_is)
    (case k_rows_of => k_is)
    (case a_picture => k_is)
    (case l_picture => k_is)
    (case c_picture => k_is)
    (case k_picture => k_is)
    (case a__law_shown => k_is)
    (case l__law_shown => k_is)
    (case c__law_shown => k_is)
    (case k__law_shown => k_is)
    (case a__law_names => k_is)
    (case l__law_names => k_is)
    (case c__law_names => k_is)
    (case k__law_names => k_is)
    (case a_key_order => k_is)
    (case l_key_order => k_is)
    (case c_key_order => k_is)
    (case k_key_order => k_is)
    (case a_entries => k_is)
    (case l_entries => k_is)
    (case c_entries => k_is)
    (case k_entries => k_is)
    (case a__law_right => k_is)
    (case l__law_right => k_is)
    (case c__law_right => k_is)
    (case k__law_right => k_is)
    (case a_law => k_is)
    (case l_law => k_is)
    (case c_law => k_is)
    (case k_law => k_is)
    (case z_abs => k_is)
    (case z_all => k_is)
    (case z_bool => k_is)
    (case z_dict => k_is)
    (case z_enumerate => k_is)
    (case z_int => k_is)
    (case z_isinstance => k_is)
    (case z_len => k_is)
    (case z_list => k_is)
    (case z_max => k_is)
    (case z_min => k_is)
    (case z_range => k_is)
    (case z_sorted => k_is)
    (case z_str => k_is)
    (case z_sum => k_is)
    (case z_tuple => k_is)
    (case z_zip => k_is)
    (case g_DOTS => k_is)
    (case gl_DOTS => k_is)
    (case gv_DOTS => exact .cons ⟨_, rfl⟩ (.cons ⟨_, rfl⟩ (.nil)))
    (case gz_DOTS => decide +kernel)
    (case g_NAMED => k_is)
    (case ge_NAMED => decide +kernel)
    (case g_CAPITALS => k_is)
    (case ge_CAPITALS => decide +kernel)
    (case g_SMALL => k_is)
    (case ge_SMALL => decide +kernel)
    (case g_SLASH => k_is)
    (case ge_SLASH => decide +kernel)
    (case g_MOST_TEXT => k_is)
    (case g_LOWEST => k_is)
    (case ge_LOWEST => decide +kernel)
    (case g_HIGHEST => k_is)
    (case ge_HIGHEST => decide +kernel)
    (case g_MOST_LIFE => k_is)
    (case g_PAIR_plain => k_is)
    (case g_FRESH => k_is)
    (case g_BORN => k_is)
    (case ge_BORN => decide +kernel)
    (case g_KINDS => k_is)
    (case gl_KINDS => k_is)
    (case gv_KINDS => exact .cons ⟨_, rfl⟩ (.cons ⟨_, rfl⟩ (.cons ⟨_, rfl⟩ (.nil))))
    (case gz_KINDS => decide +kernel)
    (case g_LINK => k_is)
    (case ge_LINK => decide +kernel)
    (case g_PUT => k_is)
    (case ge_PUT => decide +kernel)
    (case g_PAIR_deeds => k_is)
    (case g_GONE => k_is)
    (case ge_GONE => decide +kernel)
    (case g_STAMP => k_is)
    (case g_NAME_OF_BORN => k_is)
    (case g_PARENT_OF_BORN => k_is)
    (case g_NAME_OF_PUT => k_is)
    (case g_PARENT_OF_PUT => k_is)
    (case g_KIND => k_is)
    (case g_FOLDER => k_is)
    (case ge_FOLDER => decide +kernel)
    (case g_DOT_AT => k_is)
    (case g_WRITE => k_is)
    (case ge_WRITE => decide +kernel)
    (case g_COVERS_AT => k_is)
    (case g_KIND_AT => k_is)
    (case g_FILE => k_is)
    (case ge_FILE => decide +kernel)
    (case g_ITEM => k_is)
    (case ge_ITEM => decide +kernel)
    (case g_ALSO => k_is)
    (case ge_ALSO => decide +kernel)
    (case g_CLASH => k_is)
    (case ge_CLASH => decide +kernel)
    (case g_BESIDE => k_is)
    (case ge_BESIDE => decide +kernel)
    (case g_TEXT_AT => k_is)
    (case g_WRITTEN_AT => k_is)
    (case g_PARTS => k_is)
    (case gl_PARTS => k_is)
    (case gt_PARTS => exact ⟨⟨_, _, rfl, rfl⟩, ⟨_, _, rfl, rfl⟩, ⟨_, _, rfl, rfl⟩, ⟨_, _, rfl, rfl⟩, True.intro⟩)
    (case gw_PARTS => decide +kernel)
    (case gv_PARTS => exact .cons ⟨_, rfl⟩ (.cons ⟨_, rfl⟩ (.cons ⟨_, rfl⟩ (.cons ⟨_, rfl⟩ (.nil)))))
    (case gz_PARTS => exact Nat.le_of_ble_eq_true rfl)
    (case gn_PARTS_0 => k_is)
    (case gn_PARTS_1 => k_is)
    (case gn_PARTS_2 => k_is)
    (case gn_PARTS_3 => k_is)

