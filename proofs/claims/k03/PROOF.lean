import PyProof.Rows.All
import Wide.All
import OpenK.AllK
import Wide.FinOn
import PyProof.DictRoadsH
import PyProof.DictMoreH
import KE.KeyNested
import KE.KDictKeyed
import HandS.ForMost
import HandS.DictTup
import HandS.IsInst
import HandS.TupAny
import HandS.TupMul
import HandS.Deep
import HandS.Strs
import HandS.Style
import KE.GoesMore
import KE.KDictZip
import HandS.Walk
import HandS.Zip
import KE.GoesEnum
import HandS.Defaults
import HandS.HeadHook2
import HandS.HeadEnd
import HandS.Head2
import PySem.Challenge.RW_undosteps_k03_decisions
set_option Elab.async false
set_option linter.all false
set_option maxRecDepth 100000
namespace U
open PySem

abbrev Ent := NestedKey × Value × Value
def ent (w : World) (x : Ent) : DictEntry := ⟨x.1.hash w, x.2.1, x.2.2⟩
def KIs (h : Heap) (k : NestedKey) (v : Value) : Prop := NestedIs h k v ∧ k.depth ≤ 8
def ixOf (xs : List Ent) (k : NestedKey) : Option Nat := xs.findIdx? fun x => decide (x.1 = k)
theorem ixOf_some {xs : List Ent} {k : NestedKey} (hn : (xs.map (·.1)).Nodup) {j : Nat} {p : Value × Value} (h : xs[j]? = some (k, p)) : ixOf xs k = some j := by
  unfold ixOf
  obtain ⟨hl, he⟩ := List.getElem?_eq_some_iff.mp h
  rw [List.findIdx?_eq_some_iff_getElem]
  refine ⟨hl, by simp [he], fun i hi => ?_⟩
  have hil : i < xs.length := Nat.lt_trans hi hl
  simp only [Bool.not_eq_true, decide_eq_false_iff_not]
  intro e
  have h1 : (xs.map (·.1))[i]? = (xs.map (·.1))[j]? := by rw [List.getElem?_map, List.getElem?_map, h, List.getElem?_eq_getElem hil, Option.map_some, Option.map_some, e]
  exact absurd ((List.getElem?_inj (by simpa using hil) hn).mp h1) (by omega)
theorem ixOf_none {xs : List Ent} {k : NestedKey} (h : ∀ (j : Nat) (p : Value × Value), xs[j]? ≠ some (k, p)) : ixOf xs k = none := by
  unfold ixOf
  rw [List.findIdx?_eq_none_iff]
  intro x hx
  obtain ⟨j, hj⟩ := List.mem_iff_getElem?.mp hx
  simp only [decide_eq_false_iff_not]
  intro e
  exact h j x.2 (by rw [hj, ← e])
section
variable {prog : Program} {w : World} {A : Around} {E : Value → Shared → Prop} {s : Shared}
theorem quiet_any {k : NestedKey} {v : Value} {Q : Bool → Shared → Prop} (hk : KIs s.heap k v) (h : Q true s) : wpAny (model prog w) A (eqIsQuiet 8 v) Q E s := quiet_key k v 8 s hk.1 hk.2 A E Q h
theorem eq_any {a b : NestedKey} {u v : Value} {Q : Bool → Shared → Prop} (hu : A.units + 8 < cLine) (ha : KIs s.heap a u) (hb : KIs s.heap b v) (h : Q (decide (a = b)) s) : wpAny (model prog w) A (eqBool u v) Q E s := by
  have := ha.2
  have := hb.2
  exact eqAt_key a b A s u v ha.1 hb.1 (by omega) _ _ _ _ (by rw [← NestedKey.decide_eq]; exact h)
theorem tells_any {key : Value} {k : NestedKey} {st : List Value} {Q : Bool → Shared → Prop} (hk : KIs s.heap k key) (hs : ∀ v ∈ st, ∃ k', KIs s.heap k' v) (h : Q false s) : wpAny (model prog w) A (tableMayTell key st) Q E s := by
  unfold tableMayTell
  by_cases he : st.isEmpty = true
  · rw [if_pos he]; exact wpAny_pure h
  · rw [if_neg he]
    refine wpAny_bind (quiet_any hk ?_)
    rw [Bool.not_true, if_neg Bool.false_ne_true]
    refine wpAny_bind (wpAny_forIn_list _ (fun rest r s' => s' = s ∧ r = (none, ()) ∧ ∀ v ∈ rest, ∃ k', KIs s.heap k' v) _ (fun x rest r s' ⟨e1, e2, hr⟩ => ?_) (fun r s' ⟨e1, e2, _⟩ => ?_) _ _ ⟨rfl, rfl, hs⟩)
    · subst e1 e2
      obtain ⟨k', hx⟩ := hr x List.mem_cons_self
      refine wpAny_bind (quiet_any hx ?_)
      rw [Bool.not_true, if_neg Bool.false_ne_true]
      exact wpAny_pure ⟨rfl, rfl, fun v hv => hr v (List.mem_cons_of_mem _ hv)⟩
    · subst e1 e2
      exact wpAny_pure h
theorem entG {es : Array DictEntry} {xs : List Ent} (he : es.toList = xs.map (ent w)) (j : Nat) : es[j]? = (xs[j]?).map (ent w) := by
  rw [← Array.getElem?_toList, he, List.getElem?_map]
theorem entSz {es : Array DictEntry} {xs : List Ent} (he : es.toList = xs.map (ent w)) : es.size = xs.length := by
  rw [← Array.length_toList, he, List.length_map]
/-- where a walk of the places with one hash stands: up to i the key is not met -/
def Upto (w : World) (es : Array DictEntry) (xs : List Ent) (k : NestedKey) (rest : List Nat) (i : Nat) : Prop :=
  (rest = (List.range' i (es.size - i)).filter (fun i => (es[i]?.map (·.hash)) == some (k.hash w)) ∧ i ≤ es.size) ∧ ∀ (j : Nat) (p : Value × Value), j < i → xs[j]? ≠ some (k, p)
/-- the same, whatever was met -/
def Past (w : World) (es : Array DictEntry) (k : NestedKey) (rest : List Nat) (i : Nat) : Prop :=
  rest = (List.range' i (es.size - i)).filter (fun i => (es[i]?.map (·.hash)) == some (k.hash w)) ∧ i ≤ es.size
theorem upto0 (es : Array DictEntry) (xs : List Ent) (k : NestedKey) : Upto w es xs k (placesWithHash es.size (fun i => es[i]?.map (·.hash)) (k.hash w)) 0 :=
  ⟨⟨by rw [placesWithHash, List.range_eq_range', Nat.sub_zero], Nat.zero_le _⟩, fun _ _ h => absurd h (Nat.not_lt_zero _)⟩
theorem upto_nil {es : Array DictEntry} {xs : List Ent} {k : NestedKey} {i : Nat} (he : es.toList = xs.map (ent w)) (h : Upto w es xs k [] i) : ixOf xs k = none := by
  obtain ⟨⟨hr, hi⟩, hno⟩ := h
  refine ixOf_none fun j p hj => ?_
  rcases Nat.lt_or_ge j i with hl | hl
  · exact hno j p hl hj
  · have hlt : j < es.size := by rw [entSz he]; exact (List.getElem?_eq_some_iff.mp hj).1
    have hm := List.filter_eq_nil_iff.mp hr.symm j (List.mem_range'_1.mpr ⟨hl, by omega⟩)
    rw [entG he j, hj] at hm
    simp [ent] at hm
theorem upto_cons {es : Array DictEntry} {xs : List Ent} {k : NestedKey} {i x : Nat} {rest : List Nat} (he : es.toList = xs.map (ent w)) (h : Upto w es xs k (x :: rest) i) :
    ∃ k' key' v', xs[x]? = some (k', key', v') ∧ k'.hash w = k.hash w ∧ es[x]? = some (ent w (k', key', v')) ∧ (k' ≠ k → Upto w es xs k rest (x + 1)) := by
  obtain ⟨⟨hr, hi⟩, hno⟩ := h
  obtain ⟨hix, hxn, hpx, hskip, hrest⟩ := filter_range'_cons _ _ _ _ _ hr.symm
  have hlt : x < es.size := by omega
  have hxl : x < xs.length := by rw [← entSz he]; exact hlt
  obtain ⟨⟨k', key', v'⟩, hkv⟩ : ∃ y, xs[x]? = some y := ⟨xs[x], List.getElem?_eq_getElem hxl⟩
  have hex : es[x]? = some (ent w (k', key', v')) := by rw [entG he x, hkv]; rfl
  refine ⟨k', key', v', hkv, ?_, hex, fun hne => ⟨⟨by rw [hrest]; congr 2; omega, hlt⟩, fun j p hj hjx => ?_⟩⟩
  · rw [hex] at hpx
    simpa [ent] using hpx
  · rcases Nat.lt_or_ge j i with hl | hl
    · exact hno j p hl hjx
    · rcases Nat.lt_or_ge j x with hl2 | hl2
      · have hq := hskip j hl hl2
        rw [entG he j, hjx] at hq
        simp [ent] at hq
      · have e : j = x := by omega
        subst e
        rw [hkv] at hjx
        cases hjx
        exact hne rfl
theorem beq_eq_decide (y z : Str) : (y == z) = decide (y = z) := by
  by_cases h : y = z
  · subst h; simp
  · rw [decide_eq_false h]; exact beq_false_of_ne h
theorem past_cons {es : Array DictEntry} {xs : List Ent} {k : NestedKey} {i x : Nat} {rest : List Nat} (he : es.toList = xs.map (ent w)) (h : Past w es k (x :: rest) i) :
    i ≤ x ∧ Past w es k rest (x + 1) ∧ ∃ k' key' v', xs[x]? = some (k', key', v') ∧ k'.hash w = k.hash w ∧ es[x]? = some (ent w (k', key', v')) := by
  obtain ⟨hr, hi⟩ := h
  obtain ⟨hix, hxn, hpx, hskip, hrest⟩ := filter_range'_cons _ _ _ _ _ hr.symm
  have hlt : x < es.size := by omega
  have hxl : x < xs.length := by rw [← entSz he]; exact hlt
  have hkv : xs[x]? = some xs[x] := List.getElem?_eq_getElem hxl
  have hex : es[x]? = some (ent w xs[x]) := by rw [entG he x, hkv]; rfl
  refine ⟨hix, ⟨by rw [hrest]; congr 2; omega, hlt⟩, xs[x].1, xs[x].2.1, xs[x].2.2, hkv, ?_, hex⟩
  rw [hex] at hpx
  simpa [ent] using hpx
theorem findIdx_congr {α : Type} {f g : α → Bool} : ∀ {l : List α}, (∀ x ∈ l, f x = g x) → l.findIdx? f = l.findIdx? g
  | [], _ => rfl
  | x :: l, h => by
    rw [List.findIdx?_cons, List.findIdx?_cons, h x List.mem_cons_self, findIdx_congr fun y hy => h y (List.mem_cons_of_mem _ hy)]
/-- a look-up, the key's hash known -/
theorem find_any {d : Addr} {o : Obj} {es : Array DictEntry} {ep : Nat} {xs : List Ent} {k : NestedKey} {key : Value} {Q : Option Nat → Shared → Prop} (hu : A.units + 8 < cLine) (hk : KIs s.heap k key)
    (ho : s.heap.get? d = some o) (hd : o.data = .dict es ep) (he : es.toList = xs.map (ent w)) (his : ∀ x ∈ xs, KIs s.heap x.1 x.2.1) (hn : (xs.map (·.1)).Nodup) (h : Q (ixOf xs k) s) :
    wpAny (model prog w) A (dictFind d key (k.hash w)) Q E s := by
  have hex : ∀ e ∈ es, ∃ x ∈ xs, e = ent w x := fun e hin => by
    have hm : e ∈ xs.map (ent w) := he ▸ Array.mem_toList_iff.mpr hin
    obtain ⟨x, hx, rfl⟩ := List.mem_map.mp hm
    exact ⟨x, hx, rfl⟩
  have hst : ∀ v ∈ (placesWithHash es.size (fun i => es[i]?.map (·.hash)) (k.hash w)).filterMap (fun i => es[i]?.map (·.key)), ∃ k', KIs s.heap k' v := fun v hv => by
    obtain ⟨i, _, hi⟩ := List.mem_filterMap.mp hv
    cases hei : es[i]? with
    | none => rw [hei] at hi; cases hi
    | some e =>
      rw [hei] at hi
      obtain ⟨x, hx, rfl⟩ := hex e (Array.mem_of_getElem? hei)
      simp only [Option.map_some, Option.some.injEq] at hi
      exact ⟨x.1, hi ▸ his x hx⟩
  have hany : (es.any fun e => e.key == key && e.hash != k.hash w) = false := by
    rw [Bool.eq_false_iff]
    intro hc
    rw [← Array.any_toList, List.any_eq_true] at hc
    obtain ⟨e, hin, hc⟩ := hc
    obtain ⟨x, hx, rfl⟩ := hex e (Array.mem_toList_iff.mp hin)
    simp only [ent, Bool.and_eq_true, beq_iff_eq, bne_iff_ne, ne_eq] at hc
    have := his x hx
    rw [hc.1] at this
    exact hc.2 (by rw [NestedIs.inj _ _ _ this.1 hk.1])
  have plain : wpAny (model prog w) A (dictWalkPlain d key (k.hash w) es (placesWithHash es.size (fun i => es[i]?.map (·.hash)) (k.hash w))) Q E s := by
    unfold dictWalkPlain
    refine wpAny_bind (wpAny_forIn_list _ (fun rest b s' => s' = s ∧ b = (none, ()) ∧ ∃ i, Upto w es xs k rest i) _ (fun x rest b s' ⟨e1, e2, i, hi⟩ => ?_) (fun b s' ⟨e1, e2, i, hi⟩ => ?_) _ _ ⟨rfl, rfl, 0, upto0 es xs k⟩)
    · subst e1 e2
      obtain ⟨k', key', v', h1, h2, h3, h4⟩ := upto_cons he hi
      rw [h3]
      have hh : ((ent w (k', key', v')).hash == k.hash w) = true := by simp [ent, h2]
      dsimp only
      rw [if_pos hh]
      refine wpAny_bind (wpAny_dictEpoch ho hd (wpAny_bind (eq_any hu (his _ (List.mem_of_getElem? h1)) hk (wpAny_bind (wpAny_dictEpoch ho hd ?_)))))
      show wpAny _ _ (if (ep != ep) = true then _ else _) _ E _
      rw [if_neg (by simp)]
      by_cases hkk : k' = k
      · rw [decide_eq_true hkk]
        subst hkk
        refine wpAny_bind (wpAny_rule (wpAny_pure (wpAny_pure ?_)))
        rw [ixOf_some hn h1] at h
        exact h
      · rw [decide_eq_false hkk]
        exact wpAny_bind (wpAny_rule (wpAny_pure ⟨rfl, rfl, x + 1, h4 hkk⟩))
    · subst e1 e2
      rw [upto_nil he hi] at h
      exact wpAny_pure h
  have byStr : ∀ (z : Str) (t : Tok), key = .str z t → (es.all fun e => isExactStrKey e.key) = true → wpAny (model prog w) A (foundByValue d key es z) Q E s := fun z t e hall => by
    subst e
    have hkz : k = .text z := by
      have := hk.1
      cases this; rfl
    subst hkz
    have same : ∀ x ∈ xs, (ent w x).key.isStr z = decide (x.1 = .text z) := fun x hx => by
      have h1 := (his x hx).1
      obtain ⟨k', key', v'⟩ := x
      have hin : ent w (k', key', v') ∈ es := by
        rw [← Array.mem_toList_iff, he]; exact List.mem_map_of_mem hx
      have h2 := Array.all_eq_true'.mp hall _ hin
      simp only [ent] at h2 h1 ⊢
      cases h1 with
      | text y t => simp only [Value.isStr, NestedKey.text.injEq]; exact (beq_eq_decide y z)
      | _ => cases h2
    have hidx : (es.findIdx? fun e => e.key.isStr z) = ixOf xs (.text z) := by
      unfold ixOf
      rw [show es = ⟨es.toList⟩ from rfl, List.findIdx?_toArray, he, List.findIdx?_map]
      exact findIdx_congr same
    unfold foundByValue
    rw [hidx]
    cases hf : ixOf xs (.text z) with
    | none =>
      rw [hf] at h
      exact wpAny_pure h
    | some i =>
      rw [hf] at h
      unfold ixOf at hf
      obtain ⟨hlt, hi, _⟩ := List.findIdx?_eq_some_iff_getElem.mp hf
      have hxi : xs[i]? = some xs[i] := List.getElem?_eq_getElem hlt
      have hei : es[i]? = some (ent w xs[i]) := by rw [entG he i, hxi]; rfl
      dsimp only
      rw [hei]
      dsimp only
      refine wpAny_bind (wpAny_dictEpoch ho hd (wpAny_bind (eq_any hu (his _ (List.getElem_mem hlt)) hk (wpAny_bind (wpAny_dictEpoch ho hd ?_)))))
      show wpAny _ _ (if (ep != ep) = true then _ else _) _ E _
      rw [if_neg (by simp), decide_eq_true (by simpa using hi)]
      exact wpAny_bind (wpAny_rule (wpAny_pure h))
  unfold dictFind
  try with_reducible refine wpAny_holding ?_
  refine wpAny_bind (wpAny_dictEntries ho hd ?_)
  dsimp only
  generalize hstd : (placesWithHash es.size (fun i => es[i]?.map (·.hash)) (k.hash w)).filterMap (fun i => es[i]?.map (·.key)) = st at hst ⊢
  have hup := upto0 (w := w) es xs k
  generalize placesWithHash es.size (fun i => es[i]?.map (·.hash)) (k.hash w) = pl at plain hup ⊢
  have ep_ : ∀ {α : Type} {x y : Sem α}, (if (ep != ep) = true then x else y) = y := fun {α x y} => if_neg (by simp)
  obtain ⟨hk1, hk2⟩ := hk
  cases hk1
  case text z t =>
    by_cases hs : (es.all fun e => isExactStrKey e.key) = true
    · dsimp only
      rw [if_pos hs]
      exact byStr z t rfl hs
    · dsimp only
      rw [if_neg hs]
      have hk := (⟨NestedIs.text z t, hk2⟩ : KIs s.heap _ _)
      by_cases hall : ((Value.str z t) :: st).all carriedByValue = true
      · rw [if_pos hall]; exact plain
      · rw [if_neg hall]
        by_cases hone : (st == [(Value.str z t)]) = true
        · rw [if_pos hone]
          refine wpAny_bind (wpAny_pure ?_)
          rw [if_neg (by simp)]
          refine wpAny_bind (wpAny_forIn_list _ (fun rest b s' => s' = s ∧ ∃ i_ hit, b = (none, hit) ∧ ((hit = none ∧ Upto w es xs (NestedKey.text z) rest i_) ∨ ∃ j p, hit = some j ∧ j < i_ ∧ xs[j]? = some ((NestedKey.text z), p) ∧ Past w es (NestedKey.text z) rest i_)) _ (fun x rest b s' hI => ?_) (fun b s' hI => ?_) _ _ ⟨rfl, 0, none, rfl, .inl ⟨rfl, hup⟩⟩)
          · obtain ⟨e1, i_, hit, e2, hc⟩ := hI
            subst e1 e2
            have hp : Past w es (NestedKey.text z) (x :: rest) i_ := hc.elim (fun q => q.2.1) (fun ⟨_, _, _, _, _, q⟩ => q)
            obtain ⟨hix, hpr, k', key', v', g1, g2, g3⟩ := past_cons he hp
            rw [g3]
            have hh : ((ent w (k', key', v')).hash == NestedKey.hash w (NestedKey.text z)) = true := by simp only [ent, g2]; exact beq_self_eq_true _
            dsimp only
            rw [if_pos hh]
            refine wpAny_bind (wpAny_dictEpoch ho hd (wpAny_bind (eq_any hu (his _ (List.mem_of_getElem? g1)) hk (wpAny_bind (wpAny_dictEpoch ho hd ?_)))))
            rw [ep_]
            by_cases hkk : k' = (NestedKey.text z)
            · rw [decide_eq_true hkk, if_pos rfl]
              subst hkk
              rcases hc with ⟨e3, hc⟩ | ⟨j, p, e3, hj, hx, _⟩
              · subst e3
                simp only [Option.isSome_none, Bool.false_eq_true, if_false]
                refine wpAny_bind (wpAny_rule ?_)
                split
                · rw [ixOf_some hn g1] at h
                  exact wpAny_pure (wpAny_pure h)
                · exact wpAny_pure ⟨rfl, x + 1, some x, rfl, .inr ⟨x, _, rfl, Nat.lt_succ_self x, g1, hpr⟩⟩
              · have := ixOf_some hn hx
                rw [ixOf_some hn g1] at this
                cases this
                omega
            · rw [decide_eq_false hkk, if_neg Bool.false_ne_true]
              refine wpAny_bind (wpAny_rule ?_)
              rw [if_neg (by simp)]
              refine wpAny_pure ⟨rfl, x + 1, hit, rfl, ?_⟩
              rcases hc with ⟨e3, hc⟩ | ⟨j, p, e3, hj, hx, _⟩
              · obtain ⟨k2, key2, v2, a1, a2, a3, a4⟩ := upto_cons he hc
                rw [g1] at a1
                cases a1
                exact .inl ⟨e3, a4 hkk⟩
              · exact .inr ⟨j, p, e3, by omega, hx, hpr⟩
          · obtain ⟨e1, i_, hit, e2, hc⟩ := hI
            subst e1 e2
            rcases hc with ⟨e3, hc⟩ | ⟨j, p, e3, hj, hx, _⟩
            · subst e3
              rw [upto_nil he hc] at h
              exact wpAny_pure h
            · subst e3
              rw [ixOf_some hn hx] at h
              exact wpAny_pure h
        · rw [if_neg hone]
          refine wpAny_bind (tells_any hk hst ?_)
          rw [if_neg (by simp)]
          refine wpAny_bind (wpAny_forIn_list _ (fun rest b s' => s' = s ∧ ∃ i_ hit, b = (none, hit) ∧ ((hit = none ∧ Upto w es xs (NestedKey.text z) rest i_) ∨ ∃ j p, hit = some j ∧ j < i_ ∧ xs[j]? = some ((NestedKey.text z), p) ∧ Past w es (NestedKey.text z) rest i_)) _ (fun x rest b s' hI => ?_) (fun b s' hI => ?_) _ _ ⟨rfl, 0, none, rfl, .inl ⟨rfl, hup⟩⟩)
          · obtain ⟨e1, i_, hit, e2, hc⟩ := hI
            subst e1 e2
            have hp : Past w es (NestedKey.text z) (x :: rest) i_ := hc.elim (fun q => q.2.1) (fun ⟨_, _, _, _, _, q⟩ => q)
            obtain ⟨hix, hpr, k', key', v', g1, g2, g3⟩ := past_cons he hp
            rw [g3]
            have hh : ((ent w (k', key', v')).hash == NestedKey.hash w (NestedKey.text z)) = true := by simp only [ent, g2]; exact beq_self_eq_true _
            dsimp only
            rw [if_pos hh]
            refine wpAny_bind (wpAny_dictEpoch ho hd (wpAny_bind (eq_any hu (his _ (List.mem_of_getElem? g1)) hk (wpAny_bind (wpAny_dictEpoch ho hd ?_)))))
            rw [ep_]
            by_cases hkk : k' = (NestedKey.text z)
            · rw [decide_eq_true hkk, if_pos rfl]
              subst hkk
              rcases hc with ⟨e3, hc⟩ | ⟨j, p, e3, hj, hx, _⟩
              · subst e3
                simp only [Option.isSome_none, Bool.false_eq_true, if_false]
                refine wpAny_bind (wpAny_rule ?_)
                split
                · rw [ixOf_some hn g1] at h
                  exact wpAny_pure (wpAny_pure h)
                · exact wpAny_pure ⟨rfl, x + 1, some x, rfl, .inr ⟨x, _, rfl, Nat.lt_succ_self x, g1, hpr⟩⟩
              · have := ixOf_some hn hx
                rw [ixOf_some hn g1] at this
                cases this
                omega
            · rw [decide_eq_false hkk, if_neg Bool.false_ne_true]
              refine wpAny_bind (wpAny_rule ?_)
              rw [if_neg (by simp)]
              refine wpAny_pure ⟨rfl, x + 1, hit, rfl, ?_⟩
              rcases hc with ⟨e3, hc⟩ | ⟨j, p, e3, hj, hx, _⟩
              · obtain ⟨k2, key2, v2, a1, a2, a3, a4⟩ := upto_cons he hc
                rw [g1] at a1
                cases a1
                exact .inl ⟨e3, a4 hkk⟩
              · exact .inr ⟨j, p, e3, by omega, hx, hpr⟩
          · obtain ⟨e1, i_, hit, e2, hc⟩ := hI
            subst e1 e2
            rcases hc with ⟨e3, hc⟩ | ⟨j, p, e3, hj, hx, _⟩
            · subst e3
              rw [upto_nil he hc] at h
              exact wpAny_pure h
            · subst e3
              rw [ixOf_some hn hx] at h
              exact wpAny_pure h
  case tup a o' vs n ks h1 h2 h3 h4 =>
    have hk := (⟨NestedIs.tup h1 h2 h3 h4, hk2⟩ : KIs s.heap _ _)
    dsimp only
    rw [if_neg (by simp [carriedByValue])]
    rw [if_neg (by rw [hany]; exact Bool.false_ne_true)]
    by_cases hone : (st == [(Value.ref a)]) = true
    · rw [if_pos hone]
      refine wpAny_bind (wpAny_pure ?_)
      rw [if_neg (by simp)]
      refine wpAny_bind (wpAny_forIn_list _ (fun rest b s' => s' = s ∧ ∃ i_ hit, b = (none, hit) ∧ ((hit = none ∧ Upto w es xs (NestedKey.tup ks) rest i_) ∨ ∃ j p, hit = some j ∧ j < i_ ∧ xs[j]? = some ((NestedKey.tup ks), p) ∧ Past w es (NestedKey.tup ks) rest i_)) _ (fun x rest b s' hI => ?_) (fun b s' hI => ?_) _ _ ⟨rfl, 0, none, rfl, .inl ⟨rfl, hup⟩⟩)
      · obtain ⟨e1, i_, hit, e2, hc⟩ := hI
        subst e1 e2
        have hp : Past w es (NestedKey.tup ks) (x :: rest) i_ := hc.elim (fun q => q.2.1) (fun ⟨_, _, _, _, _, q⟩ => q)
        obtain ⟨hix, hpr, k', key', v', g1, g2, g3⟩ := past_cons he hp
        rw [g3]
        have hh : ((ent w (k', key', v')).hash == NestedKey.hash w (NestedKey.tup ks)) = true := by simp only [ent, g2]; exact beq_self_eq_true _
        dsimp only
        rw [if_pos hh]
        refine wpAny_bind (wpAny_dictEpoch ho hd (wpAny_bind (eq_any hu (his _ (List.mem_of_getElem? g1)) hk (wpAny_bind (wpAny_dictEpoch ho hd ?_)))))
        rw [ep_]
        by_cases hkk : k' = (NestedKey.tup ks)
        · rw [decide_eq_true hkk, if_pos rfl]
          subst hkk
          rcases hc with ⟨e3, hc⟩ | ⟨j, p, e3, hj, hx, _⟩
          · subst e3
            simp only [Option.isSome_none, Bool.false_eq_true, if_false]
            refine wpAny_bind (wpAny_rule ?_)
            split
            · rw [ixOf_some hn g1] at h
              exact wpAny_pure (wpAny_pure h)
            · exact wpAny_pure ⟨rfl, x + 1, some x, rfl, .inr ⟨x, _, rfl, Nat.lt_succ_self x, g1, hpr⟩⟩
          · have := ixOf_some hn hx
            rw [ixOf_some hn g1] at this
            cases this
            omega
        · rw [decide_eq_false hkk, if_neg Bool.false_ne_true]
          refine wpAny_bind (wpAny_rule ?_)
          rw [if_neg (by simp)]
          refine wpAny_pure ⟨rfl, x + 1, hit, rfl, ?_⟩
          rcases hc with ⟨e3, hc⟩ | ⟨j, p, e3, hj, hx, _⟩
          · obtain ⟨k2, key2, v2, a1, a2, a3, a4⟩ := upto_cons he hc
            rw [g1] at a1
            cases a1
            exact .inl ⟨e3, a4 hkk⟩
          · exact .inr ⟨j, p, e3, by omega, hx, hpr⟩
      · obtain ⟨e1, i_, hit, e2, hc⟩ := hI
        subst e1 e2
        rcases hc with ⟨e3, hc⟩ | ⟨j, p, e3, hj, hx, _⟩
        · subst e3
          rw [upto_nil he hc] at h
          exact wpAny_pure h
        · subst e3
          rw [ixOf_some hn hx] at h
          exact wpAny_pure h
    · rw [if_neg hone]
      refine wpAny_bind (tells_any hk hst ?_)
      rw [if_neg (by simp)]
      refine wpAny_bind (wpAny_forIn_list _ (fun rest b s' => s' = s ∧ ∃ i_ hit, b = (none, hit) ∧ ((hit = none ∧ Upto w es xs (NestedKey.tup ks) rest i_) ∨ ∃ j p, hit = some j ∧ j < i_ ∧ xs[j]? = some ((NestedKey.tup ks), p) ∧ Past w es (NestedKey.tup ks) rest i_)) _ (fun x rest b s' hI => ?_) (fun b s' hI => ?_) _ _ ⟨rfl, 0, none, rfl, .inl ⟨rfl, hup⟩⟩)
      · obtain ⟨e1, i_, hit, e2, hc⟩ := hI
        subst e1 e2
        have hp : Past w es (NestedKey.tup ks) (x :: rest) i_ := hc.elim (fun q => q.2.1) (fun ⟨_, _, _, _, _, q⟩ => q)
        obtain ⟨hix, hpr, k', key', v', g1, g2, g3⟩ := past_cons he hp
        rw [g3]
        have hh : ((ent w (k', key', v')).hash == NestedKey.hash w (NestedKey.tup ks)) = true := by simp only [ent, g2]; exact beq_self_eq_true _
        dsimp only
        rw [if_pos hh]
        refine wpAny_bind (wpAny_dictEpoch ho hd (wpAny_bind (eq_any hu (his _ (List.mem_of_getElem? g1)) hk (wpAny_bind (wpAny_dictEpoch ho hd ?_)))))
        rw [ep_]
        by_cases hkk : k' = (NestedKey.tup ks)
        · rw [decide_eq_true hkk, if_pos rfl]
          subst hkk
          rcases hc with ⟨e3, hc⟩ | ⟨j, p, e3, hj, hx, _⟩
          · subst e3
            simp only [Option.isSome_none, Bool.false_eq_true, if_false]
            refine wpAny_bind (wpAny_rule ?_)
            split
            · rw [ixOf_some hn g1] at h
              exact wpAny_pure (wpAny_pure h)
            · exact wpAny_pure ⟨rfl, x + 1, some x, rfl, .inr ⟨x, _, rfl, Nat.lt_succ_self x, g1, hpr⟩⟩
          · have := ixOf_some hn hx
            rw [ixOf_some hn g1] at this
            cases this
            omega
        · rw [decide_eq_false hkk, if_neg Bool.false_ne_true]
          refine wpAny_bind (wpAny_rule ?_)
          rw [if_neg (by simp)]
          refine wpAny_pure ⟨rfl, x + 1, hit, rfl, ?_⟩
          rcases hc with ⟨e3, hc⟩ | ⟨j, p, e3, hj, hx, _⟩
          · obtain ⟨k2, key2, v2, a1, a2, a3, a4⟩ := upto_cons he hc
            rw [g1] at a1
            cases a1
            exact .inl ⟨e3, a4 hkk⟩
          · exact .inr ⟨j, p, e3, by omega, hx, hpr⟩
      · obtain ⟨e1, i_, hit, e2, hc⟩ := hI
        subst e1 e2
        rcases hc with ⟨e3, hc⟩ | ⟨j, p, e3, hj, hx, _⟩
        · subst e3
          rw [upto_nil he hc] at h
          exact wpAny_pure h
        · subst e3
          rw [ixOf_some hn hx] at h
          exact wpAny_pure h
  case none =>
    dsimp only
    have hk := (⟨NestedIs.none, hk2⟩ : KIs s.heap _ _)
    by_cases hall : ((Value.none) :: st).all carriedByValue = true
    · rw [if_pos hall]; exact plain
    · rw [if_neg hall]
      by_cases hone : (st == [(Value.none)]) = true
      · rw [if_pos hone]
        refine wpAny_bind (wpAny_pure ?_)
        rw [if_neg (by simp)]
        refine wpAny_bind (wpAny_forIn_list _ (fun rest b s' => s' = s ∧ ∃ i_ hit, b = (none, hit) ∧ ((hit = none ∧ Upto w es xs NestedKey.none rest i_) ∨ ∃ j p, hit = some j ∧ j < i_ ∧ xs[j]? = some (NestedKey.none, p) ∧ Past w es NestedKey.none rest i_)) _ (fun x rest b s' hI => ?_) (fun b s' hI => ?_) _ _ ⟨rfl, 0, none, rfl, .inl ⟨rfl, hup⟩⟩)
        · obtain ⟨e1, i_, hit, e2, hc⟩ := hI
          subst e1 e2
          have hp : Past w es NestedKey.none (x :: rest) i_ := hc.elim (fun q => q.2.1) (fun ⟨_, _, _, _, _, q⟩ => q)
          obtain ⟨hix, hpr, k', key', v', g1, g2, g3⟩ := past_cons he hp
          rw [g3]
          have hh : ((ent w (k', key', v')).hash == NestedKey.hash w NestedKey.none) = true := by simp only [ent, g2]; exact beq_self_eq_true _
          dsimp only
          rw [if_pos hh]
          refine wpAny_bind (wpAny_dictEpoch ho hd (wpAny_bind (eq_any hu (his _ (List.mem_of_getElem? g1)) hk (wpAny_bind (wpAny_dictEpoch ho hd ?_)))))
          rw [ep_]
          by_cases hkk : k' = NestedKey.none
          · rw [decide_eq_true hkk, if_pos rfl]
            subst hkk
            rcases hc with ⟨e3, hc⟩ | ⟨j, p, e3, hj, hx, _⟩
            · subst e3
              simp only [Option.isSome_none, Bool.false_eq_true, if_false]
              refine wpAny_bind (wpAny_rule ?_)
              split
              · rw [ixOf_some hn g1] at h
                exact wpAny_pure (wpAny_pure h)
              · exact wpAny_pure ⟨rfl, x + 1, some x, rfl, .inr ⟨x, _, rfl, Nat.lt_succ_self x, g1, hpr⟩⟩
            · have := ixOf_some hn hx
              rw [ixOf_some hn g1] at this
              cases this
              omega
          · rw [decide_eq_false hkk, if_neg Bool.false_ne_true]
            refine wpAny_bind (wpAny_rule ?_)
            rw [if_neg (by simp)]
            refine wpAny_pure ⟨rfl, x + 1, hit, rfl, ?_⟩
            rcases hc with ⟨e3, hc⟩ | ⟨j, p, e3, hj, hx, _⟩
            · obtain ⟨k2, key2, v2, a1, a2, a3, a4⟩ := upto_cons he hc
              rw [g1] at a1
              cases a1
              exact .inl ⟨e3, a4 hkk⟩
            · exact .inr ⟨j, p, e3, by omega, hx, hpr⟩
        · obtain ⟨e1, i_, hit, e2, hc⟩ := hI
          subst e1 e2
          rcases hc with ⟨e3, hc⟩ | ⟨j, p, e3, hj, hx, _⟩
          · subst e3
            rw [upto_nil he hc] at h
            exact wpAny_pure h
          · subst e3
            rw [ixOf_some hn hx] at h
            exact wpAny_pure h
      · rw [if_neg hone]
        refine wpAny_bind (tells_any hk hst ?_)
        rw [if_neg (by simp)]
        refine wpAny_bind (wpAny_forIn_list _ (fun rest b s' => s' = s ∧ ∃ i_ hit, b = (none, hit) ∧ ((hit = none ∧ Upto w es xs NestedKey.none rest i_) ∨ ∃ j p, hit = some j ∧ j < i_ ∧ xs[j]? = some (NestedKey.none, p) ∧ Past w es NestedKey.none rest i_)) _ (fun x rest b s' hI => ?_) (fun b s' hI => ?_) _ _ ⟨rfl, 0, none, rfl, .inl ⟨rfl, hup⟩⟩)
        · obtain ⟨e1, i_, hit, e2, hc⟩ := hI
          subst e1 e2
          have hp : Past w es NestedKey.none (x :: rest) i_ := hc.elim (fun q => q.2.1) (fun ⟨_, _, _, _, _, q⟩ => q)
          obtain ⟨hix, hpr, k', key', v', g1, g2, g3⟩ := past_cons he hp
          rw [g3]
          have hh : ((ent w (k', key', v')).hash == NestedKey.hash w NestedKey.none) = true := by simp only [ent, g2]; exact beq_self_eq_true _
          dsimp only
          rw [if_pos hh]
          refine wpAny_bind (wpAny_dictEpoch ho hd (wpAny_bind (eq_any hu (his _ (List.mem_of_getElem? g1)) hk (wpAny_bind (wpAny_dictEpoch ho hd ?_)))))
          rw [ep_]
          by_cases hkk : k' = NestedKey.none
          · rw [decide_eq_true hkk, if_pos rfl]
            subst hkk
            rcases hc with ⟨e3, hc⟩ | ⟨j, p, e3, hj, hx, _⟩
            · subst e3
              simp only [Option.isSome_none, Bool.false_eq_true, if_false]
              refine wpAny_bind (wpAny_rule ?_)
              split
              · rw [ixOf_some hn g1] at h
                exact wpAny_pure (wpAny_pure h)
              · exact wpAny_pure ⟨rfl, x + 1, some x, rfl, .inr ⟨x, _, rfl, Nat.lt_succ_self x, g1, hpr⟩⟩
            · have := ixOf_some hn hx
              rw [ixOf_some hn g1] at this
              cases this
              omega
          · rw [decide_eq_false hkk, if_neg Bool.false_ne_true]
            refine wpAny_bind (wpAny_rule ?_)
            rw [if_neg (by simp)]
            refine wpAny_pure ⟨rfl, x + 1, hit, rfl, ?_⟩
            rcases hc with ⟨e3, hc⟩ | ⟨j, p, e3, hj, hx, _⟩
            · obtain ⟨k2, key2, v2, a1, a2, a3, a4⟩ := upto_cons he hc
              rw [g1] at a1
              cases a1
              exact .inl ⟨e3, a4 hkk⟩
            · exact .inr ⟨j, p, e3, by omega, hx, hpr⟩
        · obtain ⟨e1, i_, hit, e2, hc⟩ := hI
          subst e1 e2
          rcases hc with ⟨e3, hc⟩ | ⟨j, p, e3, hj, hx, _⟩
          · subst e3
            rw [upto_nil he hc] at h
            exact wpAny_pure h
          · subst e3
            rw [ixOf_some hn hx] at h
            exact wpAny_pure h
  case bool b i hb =>
    dsimp only
    have hk := (⟨NestedIs.bool hb, hk2⟩ : KIs s.heap _ _)
    by_cases hall : ((Value.bool b) :: st).all carriedByValue = true
    · rw [if_pos hall]; exact plain
    · rw [if_neg hall]
      by_cases hone : (st == [(Value.bool b)]) = true
      · rw [if_pos hone]
        refine wpAny_bind (wpAny_pure ?_)
        rw [if_neg (by simp)]
        refine wpAny_bind (wpAny_forIn_list _ (fun rest b s' => s' = s ∧ ∃ i_ hit, b = (none, hit) ∧ ((hit = none ∧ Upto w es xs (NestedKey.num i) rest i_) ∨ ∃ j p, hit = some j ∧ j < i_ ∧ xs[j]? = some ((NestedKey.num i), p) ∧ Past w es (NestedKey.num i) rest i_)) _ (fun x rest b s' hI => ?_) (fun b s' hI => ?_) _ _ ⟨rfl, 0, none, rfl, .inl ⟨rfl, hup⟩⟩)
        · obtain ⟨e1, i_, hit, e2, hc⟩ := hI
          subst e1 e2
          have hp : Past w es (NestedKey.num i) (x :: rest) i_ := hc.elim (fun q => q.2.1) (fun ⟨_, _, _, _, _, q⟩ => q)
          obtain ⟨hix, hpr, k', key', v', g1, g2, g3⟩ := past_cons he hp
          rw [g3]
          have hh : ((ent w (k', key', v')).hash == NestedKey.hash w (NestedKey.num i)) = true := by simp only [ent, g2]; exact beq_self_eq_true _
          dsimp only
          rw [if_pos hh]
          refine wpAny_bind (wpAny_dictEpoch ho hd (wpAny_bind (eq_any hu (his _ (List.mem_of_getElem? g1)) hk (wpAny_bind (wpAny_dictEpoch ho hd ?_)))))
          rw [ep_]
          by_cases hkk : k' = (NestedKey.num i)
          · rw [decide_eq_true hkk, if_pos rfl]
            subst hkk
            rcases hc with ⟨e3, hc⟩ | ⟨j, p, e3, hj, hx, _⟩
            · subst e3
              simp only [Option.isSome_none, Bool.false_eq_true, if_false]
              refine wpAny_bind (wpAny_rule ?_)
              split
              · rw [ixOf_some hn g1] at h
                exact wpAny_pure (wpAny_pure h)
              · exact wpAny_pure ⟨rfl, x + 1, some x, rfl, .inr ⟨x, _, rfl, Nat.lt_succ_self x, g1, hpr⟩⟩
            · have := ixOf_some hn hx
              rw [ixOf_some hn g1] at this
              cases this
              omega
          · rw [decide_eq_false hkk, if_neg Bool.false_ne_true]
            refine wpAny_bind (wpAny_rule ?_)
            rw [if_neg (by simp)]
            refine wpAny_pure ⟨rfl, x + 1, hit, rfl, ?_⟩
            rcases hc with ⟨e3, hc⟩ | ⟨j, p, e3, hj, hx, _⟩
            · obtain ⟨k2, key2, v2, a1, a2, a3, a4⟩ := upto_cons he hc
              rw [g1] at a1
              cases a1
              exact .inl ⟨e3, a4 hkk⟩
            · exact .inr ⟨j, p, e3, by omega, hx, hpr⟩
        · obtain ⟨e1, i_, hit, e2, hc⟩ := hI
          subst e1 e2
          rcases hc with ⟨e3, hc⟩ | ⟨j, p, e3, hj, hx, _⟩
          · subst e3
            rw [upto_nil he hc] at h
            exact wpAny_pure h
          · subst e3
            rw [ixOf_some hn hx] at h
            exact wpAny_pure h
      · rw [if_neg hone]
        refine wpAny_bind (tells_any hk hst ?_)
        rw [if_neg (by simp)]
        refine wpAny_bind (wpAny_forIn_list _ (fun rest b s' => s' = s ∧ ∃ i_ hit, b = (none, hit) ∧ ((hit = none ∧ Upto w es xs (NestedKey.num i) rest i_) ∨ ∃ j p, hit = some j ∧ j < i_ ∧ xs[j]? = some ((NestedKey.num i), p) ∧ Past w es (NestedKey.num i) rest i_)) _ (fun x rest b s' hI => ?_) (fun b s' hI => ?_) _ _ ⟨rfl, 0, none, rfl, .inl ⟨rfl, hup⟩⟩)
        · obtain ⟨e1, i_, hit, e2, hc⟩ := hI
          subst e1 e2
          have hp : Past w es (NestedKey.num i) (x :: rest) i_ := hc.elim (fun q => q.2.1) (fun ⟨_, _, _, _, _, q⟩ => q)
          obtain ⟨hix, hpr, k', key', v', g1, g2, g3⟩ := past_cons he hp
          rw [g3]
          have hh : ((ent w (k', key', v')).hash == NestedKey.hash w (NestedKey.num i)) = true := by simp only [ent, g2]; exact beq_self_eq_true _
          dsimp only
          rw [if_pos hh]
          refine wpAny_bind (wpAny_dictEpoch ho hd (wpAny_bind (eq_any hu (his _ (List.mem_of_getElem? g1)) hk (wpAny_bind (wpAny_dictEpoch ho hd ?_)))))
          rw [ep_]
          by_cases hkk : k' = (NestedKey.num i)
          · rw [decide_eq_true hkk, if_pos rfl]
            subst hkk
            rcases hc with ⟨e3, hc⟩ | ⟨j, p, e3, hj, hx, _⟩
            · subst e3
              simp only [Option.isSome_none, Bool.false_eq_true, if_false]
              refine wpAny_bind (wpAny_rule ?_)
              split
              · rw [ixOf_some hn g1] at h
                exact wpAny_pure (wpAny_pure h)
              · exact wpAny_pure ⟨rfl, x + 1, some x, rfl, .inr ⟨x, _, rfl, Nat.lt_succ_self x, g1, hpr⟩⟩
            · have := ixOf_some hn hx
              rw [ixOf_some hn g1] at this
              cases this
              omega
          · rw [decide_eq_false hkk, if_neg Bool.false_ne_true]
            refine wpAny_bind (wpAny_rule ?_)
            rw [if_neg (by simp)]
            refine wpAny_pure ⟨rfl, x + 1, hit, rfl, ?_⟩
            rcases hc with ⟨e3, hc⟩ | ⟨j, p, e3, hj, hx, _⟩
            · obtain ⟨k2, key2, v2, a1, a2, a3, a4⟩ := upto_cons he hc
              rw [g1] at a1
              cases a1
              exact .inl ⟨e3, a4 hkk⟩
            · exact .inr ⟨j, p, e3, by omega, hx, hpr⟩
        · obtain ⟨e1, i_, hit, e2, hc⟩ := hI
          subst e1 e2
          rcases hc with ⟨e3, hc⟩ | ⟨j, p, e3, hj, hx, _⟩
          · subst e3
            rw [upto_nil he hc] at h
            exact wpAny_pure h
          · subst e3
            rw [ixOf_some hn hx] at h
            exact wpAny_pure h
  case int i t =>
    dsimp only
    have hk := (⟨NestedIs.int i t, hk2⟩ : KIs s.heap _ _)
    by_cases hall : ((Value.int i t) :: st).all carriedByValue = true
    · rw [if_pos hall]; exact plain
    · rw [if_neg hall]
      by_cases hone : (st == [(Value.int i t)]) = true
      · rw [if_pos hone]
        refine wpAny_bind (wpAny_pure ?_)
        rw [if_neg (by simp)]
        refine wpAny_bind (wpAny_forIn_list _ (fun rest b s' => s' = s ∧ ∃ i_ hit, b = (none, hit) ∧ ((hit = none ∧ Upto w es xs (NestedKey.num i) rest i_) ∨ ∃ j p, hit = some j ∧ j < i_ ∧ xs[j]? = some ((NestedKey.num i), p) ∧ Past w es (NestedKey.num i) rest i_)) _ (fun x rest b s' hI => ?_) (fun b s' hI => ?_) _ _ ⟨rfl, 0, none, rfl, .inl ⟨rfl, hup⟩⟩)
        · obtain ⟨e1, i_, hit, e2, hc⟩ := hI
          subst e1 e2
          have hp : Past w es (NestedKey.num i) (x :: rest) i_ := hc.elim (fun q => q.2.1) (fun ⟨_, _, _, _, _, q⟩ => q)
          obtain ⟨hix, hpr, k', key', v', g1, g2, g3⟩ := past_cons he hp
          rw [g3]
          have hh : ((ent w (k', key', v')).hash == NestedKey.hash w (NestedKey.num i)) = true := by simp only [ent, g2]; exact beq_self_eq_true _
          dsimp only
          rw [if_pos hh]
          refine wpAny_bind (wpAny_dictEpoch ho hd (wpAny_bind (eq_any hu (his _ (List.mem_of_getElem? g1)) hk (wpAny_bind (wpAny_dictEpoch ho hd ?_)))))
          rw [ep_]
          by_cases hkk : k' = (NestedKey.num i)
          · rw [decide_eq_true hkk, if_pos rfl]
            subst hkk
            rcases hc with ⟨e3, hc⟩ | ⟨j, p, e3, hj, hx, _⟩
            · subst e3
              simp only [Option.isSome_none, Bool.false_eq_true, if_false]
              refine wpAny_bind (wpAny_rule ?_)
              split
              · rw [ixOf_some hn g1] at h
                exact wpAny_pure (wpAny_pure h)
              · exact wpAny_pure ⟨rfl, x + 1, some x, rfl, .inr ⟨x, _, rfl, Nat.lt_succ_self x, g1, hpr⟩⟩
            · have := ixOf_some hn hx
              rw [ixOf_some hn g1] at this
              cases this
              omega
          · rw [decide_eq_false hkk, if_neg Bool.false_ne_true]
            refine wpAny_bind (wpAny_rule ?_)
            rw [if_neg (by simp)]
            refine wpAny_pure ⟨rfl, x + 1, hit, rfl, ?_⟩
            rcases hc with ⟨e3, hc⟩ | ⟨j, p, e3, hj, hx, _⟩
            · obtain ⟨k2, key2, v2, a1, a2, a3, a4⟩ := upto_cons he hc
              rw [g1] at a1
              cases a1
              exact .inl ⟨e3, a4 hkk⟩
            · exact .inr ⟨j, p, e3, by omega, hx, hpr⟩
        · obtain ⟨e1, i_, hit, e2, hc⟩ := hI
          subst e1 e2
          rcases hc with ⟨e3, hc⟩ | ⟨j, p, e3, hj, hx, _⟩
          · subst e3
            rw [upto_nil he hc] at h
            exact wpAny_pure h
          · subst e3
            rw [ixOf_some hn hx] at h
            exact wpAny_pure h
      · rw [if_neg hone]
        refine wpAny_bind (tells_any hk hst ?_)
        rw [if_neg (by simp)]
        refine wpAny_bind (wpAny_forIn_list _ (fun rest b s' => s' = s ∧ ∃ i_ hit, b = (none, hit) ∧ ((hit = none ∧ Upto w es xs (NestedKey.num i) rest i_) ∨ ∃ j p, hit = some j ∧ j < i_ ∧ xs[j]? = some ((NestedKey.num i), p) ∧ Past w es (NestedKey.num i) rest i_)) _ (fun x rest b s' hI => ?_) (fun b s' hI => ?_) _ _ ⟨rfl, 0, none, rfl, .inl ⟨rfl, hup⟩⟩)
        · obtain ⟨e1, i_, hit, e2, hc⟩ := hI
          subst e1 e2
          have hp : Past w es (NestedKey.num i) (x :: rest) i_ := hc.elim (fun q => q.2.1) (fun ⟨_, _, _, _, _, q⟩ => q)
          obtain ⟨hix, hpr, k', key', v', g1, g2, g3⟩ := past_cons he hp
          rw [g3]
          have hh : ((ent w (k', key', v')).hash == NestedKey.hash w (NestedKey.num i)) = true := by simp only [ent, g2]; exact beq_self_eq_true _
          dsimp only
          rw [if_pos hh]
          refine wpAny_bind (wpAny_dictEpoch ho hd (wpAny_bind (eq_any hu (his _ (List.mem_of_getElem? g1)) hk (wpAny_bind (wpAny_dictEpoch ho hd ?_)))))
          rw [ep_]
          by_cases hkk : k' = (NestedKey.num i)
          · rw [decide_eq_true hkk, if_pos rfl]
            subst hkk
            rcases hc with ⟨e3, hc⟩ | ⟨j, p, e3, hj, hx, _⟩
            · subst e3
              simp only [Option.isSome_none, Bool.false_eq_true, if_false]
              refine wpAny_bind (wpAny_rule ?_)
              split
              · rw [ixOf_some hn g1] at h
                exact wpAny_pure (wpAny_pure h)
              · exact wpAny_pure ⟨rfl, x + 1, some x, rfl, .inr ⟨x, _, rfl, Nat.lt_succ_self x, g1, hpr⟩⟩
            · have := ixOf_some hn hx
              rw [ixOf_some hn g1] at this
              cases this
              omega
          · rw [decide_eq_false hkk, if_neg Bool.false_ne_true]
            refine wpAny_bind (wpAny_rule ?_)
            rw [if_neg (by simp)]
            refine wpAny_pure ⟨rfl, x + 1, hit, rfl, ?_⟩
            rcases hc with ⟨e3, hc⟩ | ⟨j, p, e3, hj, hx, _⟩
            · obtain ⟨k2, key2, v2, a1, a2, a3, a4⟩ := upto_cons he hc
              rw [g1] at a1
              cases a1
              exact .inl ⟨e3, a4 hkk⟩
            · exact .inr ⟨j, p, e3, by omega, hx, hpr⟩
        · obtain ⟨e1, i_, hit, e2, hc⟩ := hI
          subst e1 e2
          rcases hc with ⟨e3, hc⟩ | ⟨j, p, e3, hj, hx, _⟩
          · subst e3
            rw [upto_nil he hc] at h
            exact wpAny_pure h
          · subst e3
            rw [ixOf_some hn hx] at h
            exact wpAny_pure h
end
end U

set_option Elab.async false
set_option linter.all false
set_option maxRecDepth 100000
namespace U
open PySem

def valOf (xs : List Ent) (k : NestedKey) : Option Value := (ixOf xs k).bind fun i => (xs[i]?).map (·.2.2)
def putOf (xs : List Ent) (k : NestedKey) (key v : Value) : List Ent := match ixOf xs k with
  | some i => xs.modify i fun x => (x.1, x.2.1, v)
  | none => xs ++ [(k, key, v)]
def delOf (xs : List Ent) (k : NestedKey) : List Ent := match ixOf xs k with
  | some i => xs.eraseIdx i
  | none => xs
/-- the dict's own object -/
def DO (w : World) (d : Addr) (ep : Nat) (xs : List Ent) (h : Heap) : Prop := (d == sysModules) = false ∧ xs.length ≤ sizeLine ∧ (xs.map (·.1)).Nodup ∧ ∃ o es, h.get? d = some o ∧ o.ExactDict ∧ o.data = .dict es ep ∧ es.toList = xs.map (ent w)
/-- how often the keys were changed -/
def putEp (xs : List Ent) (k : NestedKey) (ep : Nat) : Nat := match ixOf xs k with
  | some _ => ep
  | none => ep + 1
def delEp (xs : List Ent) (k : NestedKey) (ep : Nat) : Nat := match ixOf xs k with
  | some _ => ep + 1
  | none => ep
theorem ixOf_get {xs : List Ent} {k : NestedKey} {i : Nat} (h : ixOf xs k = some i) : ∃ p, xs[i]? = some (k, p) := by
  unfold ixOf at h
  obtain ⟨hl, he, _⟩ := List.findIdx?_eq_some_iff_getElem.mp h
  refine ⟨xs[i].2, ?_⟩
  rw [List.getElem?_eq_getElem hl]
  have e : xs[i].1 = k := by simpa using he
  rw [← e]
theorem modify_fst {xs : List Ent} {i : Nat} {v : Value} : (xs.modify i fun x => (x.1, x.2.1, v)).map (·.1) = xs.map (·.1) := by
  induction xs generalizing i with
  | nil => cases i <;> rfl
  | cons x xs ih =>
    cases i with
    | zero => rfl
    | succ i => rw [List.modify_succ_cons, List.map_cons, List.map_cons, ih]
theorem ixOf_notin {xs : List Ent} {k : NestedKey} (h : ixOf xs k = none) : k ∉ xs.map (·.1) := fun hm => by
  obtain ⟨x, hx, e⟩ := List.mem_map.mp hm
  unfold ixOf at h
  have := List.findIdx?_eq_none_iff.mp h x hx
  simp [e] at this
theorem putOf_nodup {xs : List Ent} {k : NestedKey} {key v : Value} (hn : (xs.map (·.1)).Nodup) : ((putOf xs k key v).map (·.1)).Nodup := by
  unfold putOf
  split
  · rw [modify_fst]; exact hn
  · rename_i h
    rw [List.map_append, List.nodup_append]
    refine ⟨hn, by simp, fun a ha b hb e => ?_⟩
    simp only [List.map_cons, List.map_nil, List.mem_singleton] at hb
    subst hb e
    exact ixOf_notin h ha
theorem putOf_length {xs : List Ent} {k : NestedKey} {key v : Value} : (putOf xs k key v).length ≤ xs.length + 1 := by
  unfold putOf
  split
  · rw [List.length_modify]; omega
  · rw [List.length_append]; simp
theorem delOf_nodup {xs : List Ent} {k : NestedKey} (hn : (xs.map (·.1)).Nodup) : ((delOf xs k).map (·.1)).Nodup := by
  unfold delOf
  split
  · exact hn.sublist ((List.eraseIdx_sublist _ _).map _)
  · exact hn
theorem delOf_length {xs : List Ent} {k : NestedKey} : (delOf xs k).length ≤ xs.length := by
  unfold delOf
  split
  · exact (List.eraseIdx_sublist _ _).length_le
  · exact Nat.le_refl _
section
variable {prog : Program} {w : World} {A : Around} {E : Value → Shared → Prop} {s : Shared} {d : Addr} {xs : List Ent} {k : NestedKey} {key v : Value} {ep : Nat}
theorem hash_any {Q : Int → Shared → Prop} (hu : A.units + 8 < cLine) (hk : KIs s.heap k key) (h : Q (k.hash w) { s with toks := s.toks + k.draws }) : wpAny (model prog w) A (pyHash key) Q E s :=
  pyHash_key _ _ _ _ _ hk.1 (by have := hk.2; omega) h
theorem get_any {Q : Option Value → Shared → Prop} (hu : A.units + 8 < cLine) (hk : KIs s.heap k key) (hm : DO w d ep xs s.heap) (his : ∀ x ∈ xs, KIs s.heap x.1 x.2.1)
    (h : Q (valOf xs k) { s with toks := s.toks + k.draws }) : wpAny (model prog w) A (dictGet d key) Q E s := by
  obtain ⟨_, _, hn, o, es, ho, _, hd, he⟩ := hm
  unfold dictGet
  try with_reducible refine wpAny_holding ?_
  refine wpAny_bind (hash_any hu hk (wpAny_bind (find_any (s := { s with toks := s.toks + k.draws }) hu hk ho hd he his hn ?_)))
  unfold valOf at h
  cases hi : ixOf xs k with
  | none => rw [hi] at h; exact wpAny_pure h
  | some i =>
    rw [hi] at h
    refine wpAny_bind (wpAny_dictEntries (s := { s with toks := s.toks + k.draws }) ho hd ?_)
    rw [entG he i, Option.map_map]
    exact wpAny_pure h
theorem set_any {Q : Unit → Shared → Prop} (hu : A.units + 8 < cLine) (hk : KIs s.heap k key) (hm : DO w d ep xs s.heap) (his : ∀ x ∈ xs, KIs s.heap x.1 x.2.1) (hz : xs.length < sizeLine)
    (hQ : ∀ h', DO w d (putEp xs k ep) (putOf xs k key v) h' → Heap.SameBut d s.heap h' → Q () { s with heap := h', toks := s.toks + k.draws }) : wpAny (model prog w) A (dictSet d key v) Q E s := by
  obtain ⟨hdm, hsz, hn, o, es, ho, hc, hd, he⟩ := hm
  have hp1 := putOf_nodup (k := k) (key := key) (v := v) hn
  have hp2 := putOf_length (xs := xs) (k := k) (key := key) (v := v)
  unfold dictSet
  try with_reducible refine wpAny_holding ?_
  refine wpAny_bind (hash_any hu hk ?_)
  unfold dictSetHashed
  try with_reducible refine wpAny_holding ?_
  refine wpAny_bind (find_any (s := { s with toks := s.toks + k.draws }) hu hk ho hd he his hn ?_)
  have hes := entSz he
  unfold putEp at hQ
  cases hi : ixOf xs k with
  | none =>
    rw [hi] at hQ
    refine wpAny_bind (wpAny_rule (wpAny_updateDictKeys (hz := by omega) (s := { s with toks := s.toks + k.draws }) ho hd (hQ _ ⟨hdm, by omega, hp1, _, _, Heap.get?_update_self _ ho (Obj.isFreed_of_dict (Obj.data_mapDictKeys hd _)), hc.mapDictKeys _, Obj.data_mapDictKeys hd _, ?_⟩ (Heap.SameBut.update ..))))
    unfold putOf
    rw [hi]
    simp [he, ent]
  | some i =>
    rw [hi] at hQ
    refine wpAny_bind (wpAny_rule (wpAny_bind (wpAny_updateDict (s := { s with toks := s.toks + k.draws }) ho hd (wpAny_point (hQ _ ⟨hdm, by omega, hp1, _, _, Heap.get?_update_self _ ho (Obj.isFreed_of_dict (Obj.data_mapDict hd _)), hc.mapDict _, Obj.data_mapDict hd _, ?_⟩ (Heap.SameBut.update ..))))))
    unfold putOf
    rw [hi]
    obtain ⟨l⟩ := es
    have he : l = xs.map (ent w) := he
    simp only [List.modify_toArray, he]
    exact (modify_ent xs i).symm
  where modify_ent : ∀ (xs : List Ent) (i : Nat), (xs.modify i fun x => (x.1, x.2.1, v)).map (ent w) = (xs.map (ent w)).modify i fun e => { e with val := v }
    | [], i => by cases i <;> rfl
    | x :: xs, 0 => rfl
    | x :: xs, i + 1 => by rw [List.modify_succ_cons, List.map_cons, List.map_cons, List.modify_succ_cons, modify_ent xs i]
theorem setdef_any {dflt : Value} {Q : Value → Shared → Prop} (hu : A.units + 8 < cLine) (hk : KIs s.heap k key) (hm : DO w d ep xs s.heap) (his : ∀ x ∈ xs, KIs s.heap x.1 x.2.1) (hz : xs.length < sizeLine)
    (h1 : ∀ v, valOf xs k = some v → Q v { s with toks := s.toks + k.draws })
    (h2 : valOf xs k = none → ∀ h', DO w d (putEp xs k ep) (putOf xs k key dflt) h' → Heap.SameBut d s.heap h' → Q dflt { s with heap := h', toks := s.toks + k.draws }) : wpAny (model prog w) A (dictSetDefault d key dflt) Q E s := by
  obtain ⟨hdm, hsz, hn, o, es, ho, hc, hd, he⟩ := hm
  have hp1 := putOf_nodup (k := k) (key := key) (v := dflt) hn
  have hp2 := putOf_length (xs := xs) (k := k) (key := key) (v := dflt)
  unfold dictSetDefault
  try with_reducible refine wpAny_holding ?_
  refine wpAny_bind (hash_any hu hk ?_)
  refine wpAny_bind (find_any (s := { s with toks := s.toks + k.draws }) hu hk ho hd he his hn ?_)
  have hes := entSz he
  unfold valOf at h1 h2
  unfold putEp at h2
  cases hi : ixOf xs k with
  | none =>
    rw [hi] at h2
    refine wpAny_bind (wpAny_rule (wpAny_bind (wpAny_updateDictKeys (hz := by omega) (s := { s with toks := s.toks + k.draws }) ho hd (wpAny_pure (h2 rfl _ ⟨hdm, by omega, hp1, _, _, Heap.get?_update_self _ ho (Obj.isFreed_of_dict (Obj.data_mapDictKeys hd _)), hc.mapDictKeys _, Obj.data_mapDictKeys hd _, ?_⟩ (Heap.SameBut.update ..))))))
    unfold putOf
    rw [hi]
    simp [he, ent]
  | some i =>
    rw [hi] at h1
    obtain ⟨p, hp⟩ := ixOf_get hi
    refine wpAny_bind (wpAny_dictEntries (s := { s with toks := s.toks + k.draws }) ho hd ?_)
    rw [entG he i, hp]
    exact wpAny_bind (wpAny_rule (wpAny_pure (h1 _ (by simp only [Option.bind_some, hp, Option.map_some]; rfl))))
theorem takeOut_any {Q : Option DictEntry → Shared → Prop} (hu : A.units + 8 < cLine) (hk : KIs s.heap k key) (hm : DO w d ep xs s.heap) (his : ∀ x ∈ xs, KIs s.heap x.1 x.2.1)
    (h1 : valOf xs k = none → Q none { s with toks := s.toks + k.draws })
    (h2 : ∀ e, valOf xs k = some e.val → ∀ h', DO w d (delEp xs k ep) (delOf xs k) h' → Heap.SameBut d s.heap h' → Q (some e) { s with heap := h', toks := s.toks + k.draws }) : wpAny (model prog w) A (Builtin.Dict.takeOut d key) Q E s := by
  obtain ⟨hdm, hsz, hn, o, es, ho, hc, hd, he⟩ := hm
  have hp1 := delOf_nodup (k := k) hn
  have hp2 := delOf_length (xs := xs) (k := k)
  unfold Builtin.Dict.takeOut
  try with_reducible refine wpAny_holding ?_
  refine wpAny_bind (hash_any hu hk ?_)
  refine wpAny_bind (find_any (s := { s with toks := s.toks + k.draws }) hu hk ho hd he his hn ?_)
  have hes := entSz he
  unfold valOf at h1 h2
  unfold delEp at h2
  cases hi : ixOf xs k with
  | none =>
    rw [hi] at h1
    exact wpAny_pure (h1 rfl)
  | some i =>
    rw [hi] at h2
    obtain ⟨p, hp⟩ := ixOf_get hi
    refine wpAny_bind (wpAny_dictEntries (s := { s with toks := s.toks + k.draws }) ho hd ?_)
    rw [entG he i, hp]
    refine wpAny_bind (wpAny_updateDictKeys (hz := by omega) (s := { s with toks := s.toks + k.draws }) ho hd (wpAny_pure (h2 _ (by simp [hp, ent]) _ ⟨hdm, by omega, hp1, _, _, Heap.get?_update_self _ ho (Obj.isFreed_of_dict (Obj.data_mapDictKeys hd _)), hc.mapDictKeys _, Obj.data_mapDictKeys hd _, ?_⟩ (Heap.SameBut.update ..))))
    unfold delOf
    rw [hi]
    obtain ⟨l⟩ := es
    have he : l = xs.map (ent w) := he
    have := map_eraseIdx (ent w) xs i
    simp [he, this]
end
end U

set_option Elab.async false
set_option linter.all false
set_option maxRecDepth 100000
namespace U
open PySem L2

mutual
/-- a value of the layer is the key k -/
inductive NK (K : PySem.W.Frag) (H : Hp) : V → NestedKey → Prop
  | non : NK K H .non .none
  | bl (b : Bool) : NK K H (.bl b) (.num (if b = true then 1 else 0))
  | int (i : Int) : NK K H (.int i) (.num i)
  | str (z : Str) : NK K H (.str z) (.text z)
  | tup {a : Addr} {vs : List V} {ks : List NestedKey} : SqT K H a vs → NKs K H vs ks → NK K H (.ref a) (.tup ks)
inductive NKs (K : PySem.W.Frag) (H : Hp) : List V → List NestedKey → Prop
  | nil : NKs K H [] []
  | cons {v : V} {k : NestedKey} {vs : List V} {ks : List NestedKey} : NK K H v k → NKs K H vs ks → NKs K H (v :: vs) (k :: ks)
end
abbrev EnV := NestedKey × V × V
abbrev EnR : List EnV → List Ent → Prop := Paired fun e x => e.1 = x.1 ∧ RelV e.2.1 x.2.1 ∧ RelV e.2.2 x.2.2
/-- a dict's object, of the layer -/
def DH (w : World) (a : Addr) (ep : Nat) (es : List EnV) : HO := .ext fun h => ∃ xs, EnR es xs ∧ DO w a ep xs h
def DKs (K : PySem.W.Frag) (H : Hp) (es : List EnV) : Prop := ∀ e ∈ es, NK K H e.2.1 e.1 ∧ e.1.depth ≤ 8
def ixE (es : List EnV) (k : NestedKey) : Option Nat := es.findIdx? fun x => decide (x.1 = k)
def valE (es : List EnV) (k : NestedKey) : Option V := (ixE es k).bind fun i => (es[i]?).map (·.2.2)
def putE (es : List EnV) (k : NestedKey) (y v : V) : List EnV := match ixE es k with
  | some i => es.modify i fun x => (x.1, x.2.1, v)
  | none => es ++ [(k, y, v)]
def delE (es : List EnV) (k : NestedKey) : List EnV := match ixE es k with
  | some i => es.eraseIdx i
  | none => es
def putV (es : List EnV) (k : NestedKey) (ep : Nat) : Nat := match ixE es k with
  | some _ => ep
  | none => ep + 1
def delV (es : List EnV) (k : NestedKey) (ep : Nat) : Nat := match ixE es k with
  | some _ => ep + 1
  | none => ep
theorem EnR.ix {es : List EnV} {xs : List Ent} (h : EnR es xs) (k : NestedKey) : ixE es k = ixOf xs k := by
  unfold ixE ixOf
  unfold EnR at h
  induction h with
  | nil => rfl
  | cons a b ih => rw [List.findIdx?_cons, List.findIdx?_cons, ih, a.1]
theorem EnR.putV {es : List EnV} {xs : List Ent} (h : EnR es xs) (k : NestedKey) (ep : Nat) : putEp xs k ep = U.putV es k ep := by
  unfold putEp U.putV
  rw [h.ix k]
  try (cases ixOf xs k <;> rfl)
theorem EnR.delV {es : List EnV} {xs : List Ent} (h : EnR es xs) (k : NestedKey) (ep : Nat) : delEp xs k ep = U.delV es k ep := by
  unfold delEp U.delV
  rw [h.ix k]
  try (cases ixOf xs k <;> rfl)
theorem EnR.get {es : List EnV} {xs : List Ent} (h : EnR es xs) : ∀ (i : Nat), (es[i]? = none ∧ xs[i]? = none) ∨ ∃ e x, es[i]? = some e ∧ xs[i]? = some x ∧ e.1 = x.1 ∧ RelV e.2.1 x.2.1 ∧ RelV e.2.2 x.2.2 := by
  unfold EnR at h
  induction h with
  | nil => exact fun i => .inl ⟨by simp, by simp⟩
  | cons a b ih =>
    intro i
    cases i with
    | zero => exact .inr ⟨_, _, rfl, rfl, a⟩
    | succ i => simpa using ih i
theorem EnR.val {es : List EnV} {xs : List Ent} (h : EnR es xs) (k : NestedKey) : RelO (valE es k) (valOf xs k) := by
  unfold valE valOf
  rw [h.ix k]
  cases ixOf xs k with
  | none => exact True.intro
  | some i =>
    rcases h.get i with ⟨e1, e2⟩ | ⟨e, x, e1, e2, _, _, r⟩
    · simp only [Option.bind_some, e1, e2, Option.map_none]; exact True.intro
    · simp only [Option.bind_some, e1, e2, Option.map_some]; exact r
theorem EnR.modify {es : List EnV} {xs : List Ent} (h : EnR es xs) {v : V} {u : Value} (r : RelV v u) : ∀ i : Nat, EnR (es.modify i fun x => (x.1, x.2.1, v)) (xs.modify i fun x => (x.1, x.2.1, u)) := by
  unfold EnR at h ⊢
  induction h with
  | nil => intro i; cases i <;> exact .nil
  | cons a b ih =>
    intro i
    cases i with
    | zero => exact .cons ⟨a.1, a.2.1, r⟩ b
    | succ i => exact .cons a (ih i)
theorem EnR.erase {es : List EnV} {xs : List Ent} (h : EnR es xs) : ∀ i : Nat, EnR (es.eraseIdx i) (xs.eraseIdx i) := by
  unfold EnR at h ⊢
  induction h with
  | nil => intro i; exact .nil
  | cons a b ih =>
    intro i
    cases i with
    | zero => exact b
    | succ i => exact .cons a (ih i)
theorem EnR.put {es : List EnV} {xs : List Ent} (h : EnR es xs) (k : NestedKey) {y v : V} {key u : Value} (ry : RelV y key) (r : RelV v u) : EnR (putE es k y v) (putOf xs k key u) := by
  unfold putE putOf
  rw [h.ix k]
  cases ixOf xs k with
  | some i => exact h.modify r i
  | none => exact Paired.snoc h ⟨rfl, ry, r⟩
theorem EnR.del {es : List EnV} {xs : List Ent} (h : EnR es xs) (k : NestedKey) : EnR (delE es k) (delOf xs k) := by
  unfold delE delOf
  rw [h.ix k]
  cases ixOf xs k with
  | some i => exact h.erase i
  | none => exact h
section
variable {X : Cx} {pins : List (Addr × Obj)} {σ : St} {H : Hp} {s : Shared} {a : Addr} {es : List EnV} {k : NestedKey} {y v x : V} {u r : Value} {ep ep' : Nat} {A : Around} {E : Value → Shared → Prop}
mutual
theorem NK.is (I : Inv X pins σ H s) : ∀ {v : V} {k : NestedKey} {u : Value}, NK X.K H v k → RelV v u → NestedIs s.heap k u
  | _, _, _, .non, r => by cases r; exact .none
  | _, _, _, .bl b, r => by cases r; exact .bool rfl
  | _, _, _, .int i, r => by obtain ⟨t, rfl⟩ := r; exact .int i t
  | _, _, _, .str z, r => by obtain ⟨t, rfl⟩ := r; exact .text z t
  | _, _, _, .tup h hs, r => by
    cases r
    obtain ⟨its, rv, ⟨o, e, hc, n, hd⟩, _⟩ := I.tuple h
    exact .tup e hc hd (by simpa using NKs.is I hs rv)
theorem NKs.is (I : Inv X pins σ H s) : ∀ {vs : List V} {ks : List NestedKey} {us : List Value}, NKs X.K H vs ks → Vals vs us → NestedAll s.heap ks us
  | _, _, _, .nil, r => by cases r; exact .nil
  | _, _, _, .cons h hs, r => by
    cases r with
    | cons r1 r2 => exact .cons (NK.is I h r1) (NKs.is I hs r2)
end
/-- what stands at a dict's place -/
theorem dh_at (I : Inv X pins σ H s) (ha : H a = some (DH X.w a ep es)) (hk : DKs X.K H es) : ∃ xs, EnR es xs ∧ DO X.w a ep xs s.heap ∧ ∀ x ∈ xs, KIs s.heap x.1 x.2.1 := by
  obtain ⟨⟨xs, h1, h2⟩, _⟩ := (show ObjOk X.prog X.w H s.heap a (DH X.w a ep es) from I.hok a _ ha)
  refine ⟨xs, h1, h2, fun x hx => ?_⟩
  obtain ⟨i, hi⟩ := List.mem_iff_getElem?.mp hx
  rcases h1.get i with ⟨_, e2⟩ | ⟨e, x', e1, e2, e3, r1, _⟩
  · rw [hi] at e2; cases e2
  · rw [hi] at e2
    cases e2
    obtain ⟨n1, n2⟩ := hk e (List.mem_of_getElem? e1)
    rw [← e3]
    exact ⟨NK.is I n1 r1, n2⟩
theorem dh_mono {h1 h2 : Heap} (h : ∃ xs, EnR es xs ∧ DO X.w a ep xs h1) (k : ∀ o, h1.get? a = some o → h2.get? a = some o) : ∃ xs, EnR es xs ∧ DO X.w a ep xs h2 := by
  obtain ⟨xs, a1, a2, a3, a4, o, e1, b1, b2⟩ := h
  exact ⟨xs, a1, a2, a3, a4, o, e1, k o b1, b2⟩
theorem dh_new {h' : Heap} {H' : Hp} {xs : List Ent} (r : EnR es xs) (d : DO X.w a ep xs h') : ObjOk X.prog X.w H' h' a (DH X.w a ep es) :=
  ⟨⟨xs, r, d⟩, (by obtain ⟨_, _, _, o, _, e, _⟩ := d; exact ⟨o, e⟩), fun h1 h2 q k => dh_mono (X := X) q k⟩
theorem dh_write {h' : Heap} {t' : Nat} {es' : List EnV} {xs : List Ent} (I : Inv X pins σ H s) (ha : H a = some (DH X.w a ep es)) (hs : Heap.SameBut a s.heap h') (r : EnR es' xs) (d : DO X.w a ep' xs h') :
    Inv X pins σ (upd H a (DH X.w a ep' es')) { s with heap := h', toks := t' } :=
  d_write I (by rw [ha]; exact True.intro) hs (by obtain ⟨_, _, _, o, _, e, _⟩ := d; exact ⟨o, e⟩) (dh_new r d)
theorem DO.typeIs {w : World} {xs : List Ent} (h : DO w a ep xs s.heap) : s.TypeIs (.ref a) "dict" := by
  obtain ⟨_, _, _, o, _, e, c, _⟩ := h
  exact ⟨o, e, c.1⟩
theorem DO.noDict {w : World} {xs : List Ent} (h : DO w a ep xs s.heap) : ∀ b, Value.ref a = .ref b → ∃ ob, s.heap.get? b = some ob ∧ ob.dict = none := fun b q => by
  cases q
  obtain ⟨_, _, _, o, _, e, c, _⟩ := h
  exact ⟨o, e, c.2.1⟩
/-- a key of a look-up -/
def NKd (K : PySem.W.Frag) (H : Hp) (y : V) (k : NestedKey) : Prop := NK K H y k ∧ k.depth ≤ 8
theorem NKd.is (I : Inv X pins σ H s) (h : NKd X.K H y k) (r : RelV y u) : KIs s.heap k u := ⟨h.1.is I r, h.2⟩

def rDGet (K : PySem.W.Frag) (w : World) : R2 := fun x y H Q => ∃ a ep es k v, x = .ref a ∧ H a = some (DH w a ep es) ∧ DKs K H es ∧ NKd K H y k ∧ valE es k = some v ∧ Q v H
def rDIn (K : PySem.W.Frag) (w : World) (neg : Bool) : R2 := fun y x H Q => ∃ a ep es k, x = .ref a ∧ H a = some (DH w a ep es) ∧ DKs K H es ∧ NKd K H y k ∧ Q (.bl (if neg then !(valE es k).isSome else (valE es k).isSome)) H
theorem dh_contains {Q : Bool → Shared → Prop} (hu : A.units + 10 < cLine) (I : Inv X pins σ H s) (ha : H a = some (DH X.w a ep es)) (hk : DKs X.K H es) (hy : NKd X.K H y k) (ry : RelV y u) (h : ∀ s', Inv X pins σ H s' → Q (valE es k).isSome s') :
    wpAny (model X.prog X.w) A (contains (.ref a) u) Q E s := by
  obtain ⟨xs, r1, d1, d2⟩ := dh_at I ha hk
  have e := (r1.val k).isSome_eq
  refine wpAny_contains_slot d1.typeIs PySem.F.slot_dict_contains ?_
  refine call_meetsIn PySem.F.slot_dict_contains d1.typeIs PySem.F.entry_dict_contains (PySem.F.args_dict_contains_2 _ _) (S := fun A' R s' => A' = A ∧ s' = s ∧ ∀ t, R (.ok (.ret (.bool (valOf xs k).isSome))) { s with toks := t }) (.of_wp fun A' R s' hS => ?_) ⟨rfl, rfl, fun t => wpAny_truthy_bool ?_⟩
  · obtain ⟨rfl, rfl, hq⟩ := hS
    show wpAny _ _ (dictGet a u >>= _) _ _ _
    refine wpAny_bind (get_any (by simp only [Around.in1_units]; omega) (hy.is I ry) d1 d2 ?_)
    cases hv : valOf xs k with
    | some z =>
      rw [hv] at hq
      show wpAny _ _ (ret (.bool true)) _ _ _
      exact wpAny_pure ⟨_, rfl, hq _⟩
    | none =>
      rw [hv] at hq
      show wpAny _ _ (Builtin.Dict.pendingKey? a u >>= _) _ _ _
      exact wpAny_bind (wpAny_pendingKey_other d1.1 (wpAny_pure ⟨_, rfl, hq _⟩))
  · rw [← e]
    exact h _ (I.tok t)
theorem op_dIn (hu : X.A.units + 10 < cLine) : OpR X (compareOp .In) (rDIn X.K X.w false) := by
  intro pins s σ H y x u v Q I ry rx h
  obtain ⟨a, ep, es, k, rfl, ha, hk, hy, q⟩ := h
  cases rx
  show wpAny _ _ (do return Value.bool (← contains (.ref a) u)) _ _ s
  exact wpAny_bind (dh_contains hu I ha hk hy ry fun s' I' => wpAny_pure ⟨.bl (valE es k).isSome, H, I', rfl, q⟩)
theorem op_dNotIn (hu : X.A.units + 10 < cLine) : OpR X (compareOp .NotIn) (rDIn X.K X.w true) := by
  intro pins s σ H y x u v Q I ry rx h
  obtain ⟨a, ep, es, k, rfl, ha, hk, hy, q⟩ := h
  cases rx
  show wpAny _ _ (do return Value.bool (!(← contains (.ref a) u))) _ _ s
  exact wpAny_bind (dh_contains hu I ha hk hy ry fun s' I' => wpAny_pure ⟨.bl (!(valE es k).isSome), H, I', rfl, q⟩)
theorem dh_getItem {Q : Value → Shared → Prop} (hu : A.units + 10 < cLine) (I : Inv X pins σ H s) (ha : H a = some (DH X.w a ep es)) (hk : DKs X.K H es) (hy : NKd X.K H y k) (hv : valE es k = some v) (ry : RelV y u) (h : ∀ w' s', Inv X pins σ H s' → RelV v w' → Q w' s') :
    wpAny (model X.prog X.w) A (getItem (.ref a) u) Q E s := by
  obtain ⟨xs, r1, d1, d2⟩ := dh_at I ha hk
  obtain ⟨w', hw, rw'⟩ := RelO.some_of (v := v) (o := valOf xs k) (by rw [← hv]; exact r1.val k)
  unfold getItem
  try with_reducible refine wpAny_holding ?_
  refine wpAny_bind (wpAny_sequenceKey d1.typeIs (by decide) ?_)
  refine wpAny_bind (wpAny_callSpecial?_slot (name := Str.ofString "__getitem__") d1.typeIs slot_dict_getitem (wpAny_call_entry slot_dict_getitem d1.typeIs entry_dict_getitem ?_ (args_dict_getitem _ _)))
  show wpAny _ _ (dictGet a u >>= _) _ _ s
  refine wpAny_bind (get_any (by simp only [Around.in1_units]; omega) (hy.is I ry) d1 d2 ?_)
  rw [hw]
  exact wpAny_pure ⟨w', rfl, wpAny_pure (h w' _ (I.tok _) rw')⟩
theorem ix_dh (hu : X.A.units + 10 < cLine) : IxR X (rDGet X.K X.w) := by
  intro value slice pins s σ H x y v u Q I rx ry h hs
  obtain ⟨a, ep, es, k, z, rfl, ha, hk, hy, hv, q⟩ := h
  cases rx
  obtain ⟨xs, r1, d1, d2⟩ := dh_at I ha hk
  exact PyProof.Rows.tail_any d1.typeIs slot_dict_getitem.lookup (dh_getItem hu I ha hk hy hv ry fun w' s' I' rw' => ⟨z, H, I', rw', q⟩) hs
def rDPut (K : PySem.W.Frag) (w : World) : TSet := fun x y v H Q => ∃ a ep es k, x = .ref a ∧ H a = some (DH w a ep es) ∧ DKs K H es ∧ NKd K H y k ∧ es.length < sizeLine ∧ Q (upd H a (DH w a (putV es k ep) (putE es k y v)))
theorem EnR.length {es : List EnV} {xs : List Ent} (h : EnR es xs) : es.length = xs.length := Paired.length h
theorem set_dh (hu : X.A.units + 10 < cLine) : PSet X (rDPut X.K X.w) := by
  intro pins s σ H x y v ov iv u Q I rx ry rv h
  obtain ⟨a, ep, es, k, rfl, ha, hk, hy, hz, q⟩ := h
  cases rx
  obtain ⟨xs, r1, d1, d2⟩ := dh_at I ha hk
  unfold setItem
  try with_reducible refine wpAny_holding ?_
  refine wpAny_bind (wpAny_sequenceKey d1.typeIs (by decide) ?_)
  refine wpAny_bind (wpAny_callSpecial?_slot (name := Str.ofString "__setitem__") d1.typeIs slot_dict_setitem (wpAny_call_entry slot_dict_setitem d1.typeIs entry_dict_setitem ?_ (args_dict_setitem _ _ _)))
  show wpAny _ _ (Builtin.Dict.notOrdered "__setitem__" ⟨[.ref a, iv, u], []⟩ >>= _) _ _ s
  refine wpAny_bind (wpAny_notOrdered_dict d1.typeIs ?_)
  show wpAny _ _ (dictSet a iv u >>= _) _ _ s
  exact wpAny_bind (set_any (by simp only [Around.in1_units]; omega) (hy.is I ry) d1 d2 (by rw [← r1.length]; exact hz) fun h' d' hs => wpAny_pure ⟨.none, rfl, wpAny_pure ⟨_, dh_write I ha hs (r1.put k ry rv) (r1.putV k ep ▸ d'), q⟩⟩)
/-- d.get(y, z) -/
def rDGet2 (K : PySem.W.Frag) (w : World) : V → List V → Hp → VK → Prop := fun x xs H Q => ∃ a ep es k y z, x = .ref a ∧ xs = [y, z] ∧ H a = some (DH w a ep es) ∧ DKs K H es ∧ NKd K H y k ∧ Q ((valE es k).getD z) H
def rDGet1 (K : PySem.W.Frag) (w : World) : V → List V → Hp → VK → Prop := fun x xs H Q => ∃ a ep es k y, x = .ref a ∧ xs = [y] ∧ H a = some (DH w a ep es) ∧ DKs K H es ∧ NKd K H y k ∧ Q ((valE es k).getD .non) H
theorem RelO.getD' {o : Option V} {u : Option Value} {d : V} {d' : Value} (r : RelO o u) (rd : RelV d d') : RelV (o.getD d) (u.getD d') := r.getD rd
theorem vals_two {y z : V} {us : List Value} (h : Vals [y, z] us) : ∃ u1 u2, us = [u1, u2] ∧ RelV y u1 ∧ RelV z u2 := by
  cases h with
  | cons a b => cases b with
    | cons c d => cases d; exact ⟨_, _, rfl, a, c⟩
theorem vals_one {y : V} {us : List Value} (h : Vals [y] us) : ∃ u1, us = [u1] ∧ RelV y u1 := by
  cases h with
  | cons a b => cases b; exact ⟨_, rfl, a⟩
theorem mt_dget2 (hu : X.A.units + 10 < cLine) : MtR X "dict.get" (rDGet2 X.K X.w) := by
  intro pins s σ H x xs v us Q I rx rxs h
  obtain ⟨a, ep, es, k, y, z, rfl, rfl, ha, hk, hy, q⟩ := h
  cases rx
  obtain ⟨u1, u2, rfl, r1, r2⟩ := vals_two rxs
  obtain ⟨xs, rr, d1, d2⟩ := dh_at I ha hk
  refine call_meetsIn PySem.F.slot_dict_get d1.typeIs PySem.F.entry_dict_get (PySem.F.args_dict_get_3 _ _ _) (S := fun A' R s' => A' = X.A ∧ s' = s ∧ ∀ t, R (.ok (.ret ((valOf xs k).getD u2))) { s with toks := t }) (.of_wp fun A' R s' hS => ?_) ⟨rfl, rfl, fun t => ⟨_, H, I.tok t, (rr.val k).getD r2, q⟩⟩
  obtain ⟨rfl, rfl, hq⟩ := hS
  show wpAny _ _ (dictGet a u1 >>= _) _ _ _
  refine wpAny_bind (get_any (by simp only [Around.in1_units]; omega) (hy.is I r1) d1 d2 ?_)
  cases hv : valOf xs k with
  | some z =>
    rw [hv] at hq
    exact wpAny_pure ⟨_, rfl, hq _⟩
  | none =>
    rw [hv] at hq
    show wpAny _ _ (Builtin.Dict.missed a u1 >>= _) _ _ _
    exact wpAny_bind (wpAny_missed_other d1.1 (wpAny_pure ⟨_, rfl, hq _⟩))
theorem mt_dget1 (hu : X.A.units + 10 < cLine) : MtR X "dict.get" (rDGet1 X.K X.w) := by
  intro pins s σ H x xs v us Q I rx rxs h
  obtain ⟨a, ep, es, k, y, rfl, rfl, ha, hk, hy, q⟩ := h
  cases rx
  obtain ⟨u1, rfl, r1⟩ := vals_one rxs
  obtain ⟨xs, rr, d1, d2⟩ := dh_at I ha hk
  refine call_meetsIn PySem.F.slot_dict_get d1.typeIs PySem.F.entry_dict_get (PySem.F.args_dict_get_2 _ _) (S := fun A' R s' => A' = X.A ∧ s' = s ∧ ∀ t, R (.ok (.ret ((valOf xs k).getD .none))) { s with toks := t }) (.of_wp fun A' R s' hS => ?_) ⟨rfl, rfl, fun t => ⟨_, H, I.tok t, (rr.val k).getD (d := .non) rfl, q⟩⟩
  obtain ⟨rfl, rfl, hq⟩ := hS
  show wpAny _ _ (dictGet a u1 >>= _) _ _ _
  refine wpAny_bind (get_any (by simp only [Around.in1_units]; omega) (hy.is I r1) d1 d2 ?_)
  cases hv : valOf xs k with
  | some z =>
    rw [hv] at hq
    exact wpAny_pure ⟨_, rfl, hq _⟩
  | none =>
    rw [hv] at hq
    show wpAny _ _ (Builtin.Dict.missed a u1 >>= _) _ _ _
    exact wpAny_bind (wpAny_missed_other d1.1 (wpAny_pure ⟨_, rfl, hq _⟩))
/-- d.pop(y, z) -/
def rDPop (K : PySem.W.Frag) (w : World) : V → List V → Hp → VK → Prop := fun x xs H Q => ∃ a ep es i z, x = .ref a ∧ xs = [.int i, z] ∧ H a = some (DH w a ep es) ∧ DKs K H es ∧ (∀ v, valE es (.num i) = some v → Q v (upd H a (DH w a (delV es (.num i) ep) (delE es (.num i))))) ∧ (valE es (.num i) = none → Q z H)
theorem RelO.some_r {o : Option V} {u : Value} (r : RelO o (some u)) : ∃ v, o = some v ∧ RelV v u := by
  cases o with
  | none => exact (show False from r).elim
  | some v => exact ⟨v, rfl, r⟩
theorem RelO.none_r {o : Option V} (r : RelO o none) : o = none := by
  cases o with
  | none => rfl
  | some v => exact (show False from r).elim
theorem mt_dpop (hu : X.A.units + 10 < cLine) : MtR X "dict.pop" (rDPop X.K X.w) := by
  intro pins s σ H x xs v us Q I rx rxs h
  obtain ⟨a, ep, es, i, z, rfl, rfl, ha, hk, q1, q2⟩ := h
  cases rx
  obtain ⟨u1, u2, rfl, r1, r2⟩ := vals_two rxs
  obtain ⟨xs, rr, d1, d2⟩ := dh_at I ha hk
  have hval := rr.val (.num i)
  refine call_meetsIn PySem.F.slot_dict_pop d1.typeIs PySem.F.entry_dict_pop (PySem.F.args_dict_pop_3 _ _ _) (S := fun A' R s' => A' = X.A ∧ s' = s ∧ (∀ t, valOf xs (.num i) = none → R (.ok (.ret u2)) { s with toks := t }) ∧
      ∀ w' h' t, valOf xs (.num i) = some w' → DO X.w a (delV es (.num i) ep) (delOf xs (.num i)) h' → Heap.SameBut a s.heap h' → R (.ok (.ret w')) { s with heap := h', toks := t }) (.of_wp fun A' R s' hS => ?_) ⟨rfl, rfl, fun t hn => ?_, fun w' h' t hv d' hs => ?_⟩
  · obtain ⟨rfl, rfl, hq1, hq2⟩ := hS
    obtain ⟨t1, rfl⟩ := r1
    unfold Builtin.«dict.pop»
    refine wpAny_bind ?_
    unfold Builtin.Dict.keyAndDefault
    refine wpAny_bind (wpAny_notOrdered_dict d1.typeIs ?_)
    show wpAny _ _ (pure (a, Value.int i t1, some u2)) _ _ _
    refine wpAny_pure ?_
    simp only [keyPart, Option.isSome_some, if_true]
    refine wpAny_bind (wpAny_pure ?_)
    rw [if_neg Bool.false_ne_true]
    refine wpAny_bind (takeOut_any (k := .num i) (by simp only [Around.in1_units]; omega) ⟨.int i t1, by simp [NestedKey.depth]⟩ d1 d2 (fun hn => ?_) fun e he h' d' hs => ?_)
    · simp only [Option.isNone_none, if_true]
      refine wpAny_bind (wpAny_missedRemoval_other d1.1 ?_)
      exact wpAny_bind (wpAny_rule (wpAny_pure ⟨_, rfl, hq1 _ hn⟩))
    · simp only [Option.isNone_some, Bool.false_eq_true, if_false]
      exact wpAny_bind (wpAny_letGo (wpAny_pure ⟨_, rfl, hq2 _ _ _ he (rr.delV _ ep ▸ d') hs⟩))
  · rw [hn] at hval
    exact ⟨z, H, I.tok t, r2, q2 (RelO.none_r hval)⟩
  · rw [hv] at hval
    obtain ⟨v0, ev, rv⟩ := RelO.some_r hval
    exact ⟨v0, _, dh_write I ha hs (rr.del _) d', rv, q1 v0 ev⟩
/-- d.setdefault(i, z) -/
def rDDef (K : PySem.W.Frag) (w : World) : V → List V → Hp → VK → Prop := fun x xs H Q => ∃ a ep es i z, x = .ref a ∧ xs = [.int i, z] ∧ H a = some (DH w a ep es) ∧ DKs K H es ∧ es.length < sizeLine ∧ (∀ v, valE es (.num i) = some v → Q v H) ∧ (valE es (.num i) = none → Q z (upd H a (DH w a (putV es (.num i) ep) (putE es (.num i) (.int i) z))))
theorem mt_ddef (hu : X.A.units + 10 < cLine) : MtR X "dict.setdefault" (rDDef X.K X.w) := by
  intro pins s σ H x xs v us Q I rx rxs h
  obtain ⟨a, ep, es, i, z, rfl, rfl, ha, hk, hz, q1, q2⟩ := h
  cases rx
  obtain ⟨u1, u2, rfl, r1, r2⟩ := vals_two rxs
  obtain ⟨xs, rr, d1, d2⟩ := dh_at I ha hk
  have hval := rr.val (.num i)
  refine call_meetsIn PySem.F.slot_dict_setdefault d1.typeIs PySem.F.entry_dict_setdefault (PySem.F.args_dict_setdefault_3 _ _ _) (S := fun A' R s' => A' = X.A ∧ s' = s ∧ (∀ t w', valOf xs (.num i) = some w' → R (.ok (.ret w')) { s with toks := t }) ∧
      ∀ h' t, valOf xs (.num i) = none → DO X.w a (putV es (.num i) ep) (putOf xs (.num i) u1 u2) h' → Heap.SameBut a s.heap h' → R (.ok (.ret u2)) { s with heap := h', toks := t }) (.of_wp fun A' R s' hS => ?_) ⟨rfl, rfl, fun t w' hv => ?_, fun h' t hn d' hs => ?_⟩
  · obtain ⟨rfl, rfl, hq1, hq2⟩ := hS
    have ry : KIs s'.heap (.num i) u1 := by
      obtain ⟨t1, rfl⟩ := r1
      exact ⟨.int i t1, by simp [NestedKey.depth]⟩
    unfold Builtin.«dict.setdefault»
    refine wpAny_bind ?_
    unfold Builtin.Dict.keyAndDefault
    refine wpAny_bind (wpAny_notOrdered_dict d1.typeIs ?_)
    show wpAny _ _ (pure (a, u1, some u2)) _ _ _
    refine wpAny_pure ?_
    show wpAny _ _ (if (a == sysModules) = true then _ else (dictSetDefault a u1 u2 >>= _)) _ _ _
    rw [if_neg (by rw [d1.1]; exact Bool.false_ne_true)]
    exact wpAny_bind (setdef_any (by simp only [Around.in1_units]; omega) ry d1 d2 (by rw [← rr.length]; exact hz) (fun v hv => wpAny_pure ⟨_, rfl, hq1 _ _ hv⟩) fun hn h' d' hs => wpAny_pure ⟨_, rfl, hq2 _ _ hn (rr.putV _ ep ▸ d') hs⟩)
  · rw [hv] at hval
    obtain ⟨v0, ev, rv⟩ := RelO.some_r hval
    exact ⟨v0, H, I.tok t, rv, q1 v0 ev⟩
  · rw [hn] at hval
    exact ⟨z, _, dh_write I ha hs (rr.put _ r1 r2) d', r2, q2 (RelO.none_r hval)⟩
/-- {} -/
def tDNewE (w : World) : TE := fun _ H Q => ∀ p, H p = none → Q (.ref p) (upd H p (DH w p 0 []))
theorem do_empty {w : World} (h : Heap) (hb : sysModules < h.objs.size) : DO w h.objs.size 0 [] (h.push { cls := .type "dict", data := .dict #[] }) :=
  ⟨beq_eq_false_iff_ne.mpr (Ne.symm (Nat.ne_of_lt hb)), Nat.zero_le _, List.nodup_nil, _, #[], Heap.get?_push_size _ rfl, ⟨rfl, rfl, rfl⟩, rfl, rfl⟩
theorem pe_dnewE {pos : Pos} : PE X (.Dict [] [] pos) (tDNewE X.w) := ⟨fun pins s σ H Q I h =>
  wpAny_Dict_empty ⟨.ref s.heap.objs.size, _, I.laid (a := s.heap.objs.size) (o := DH X.w s.heap.objs.size 0 []) (t' := s.toks) (fun _ _ q => Heap.get?_push_of_some _ q) (Nat.le_refl _) (dh_new .nil (do_empty s.heap I.big)), rfl, h _ (I.hok.fresh (Nat.le_refl _))⟩⟩
end
end U

set_option Elab.async false
set_option linter.all false
set_option maxRecDepth 100000
namespace U
open PySem L2

/-- the keys of the dict at d, as it stands at each turn -/
def ItDk (w : World) (d : Addr) (ep n : Nat) : L2.It :=
  ⟨fun i H => ∃ es, H d = some (DH w d ep es) ∧ es.length = n ∧ i < n, fun i H x H' => H' = H ∧ ∀ es, H d = some (DH w d ep es) → ∃ k v, es[i]? = some (k, x, v), fun i H => ∃ es, H d = some (DH w d ep es) ∧ es.length = n ∧ n ≤ i⟩
/-- its pairs, each a new tuple -/
def ItDp (w : World) (d : Addr) (ep n : Nat) : L2.It :=
  ⟨fun i H => ∃ es, H d = some (DH w d ep es) ∧ es.length = n ∧ i < n, fun i H x H' => ∃ T y z, x = .ref T ∧ H T = none ∧ H' = upd H T (.tup [y, z]) ∧ ∀ es, H d = some (DH w d ep es) → ∃ k, es[i]? = some (k, y, z), fun i H => ∃ es, H d = some (DH w d ep es) ∧ es.length = n ∧ n ≤ i⟩
section
variable {X : Cx} {pins : List (Addr × Obj)} {σ : L2.St} {H : Hp} {s : Shared} {d : Addr} {ep n : Nat} {es : List EnV}
/-- the dict's own object -/
theorem dh_raw (I : Inv X pins σ H s) (hd : H d = some (DH X.w d ep es)) : ∃ (o : Obj) (ar : Array DictEntry), (d == sysModules) = false ∧ s.heap.get? d = some o ∧ o.ExactDict ∧ o.data = .dict ar ep ∧ ar.size = es.length ∧ ∀ (i : Nat) (en : DictEntry), ar[i]? = some en → ∃ k y v, es[i]? = some (k, y, v) ∧ RelV y en.key ∧ RelV v en.val := by
  obtain ⟨⟨xs, r, h1, h2, h3, o, ar, e, c, h4, h5⟩, _⟩ := (show ObjOk X.prog X.w H s.heap d (DH X.w d ep es) from I.hok d _ hd)
  refine ⟨o, ar, h1, e, c, h4, by rw [entSz h5, r.length], fun i en hen => ?_⟩
  rw [entG h5 i] at hen
  obtain ⟨x, hx, rfl⟩ := Option.map_eq_some_iff.mp hen
  rcases r.get i with ⟨_, e2⟩ | ⟨e', x', e1, e2, e3, r1, r2⟩
  · rw [hx] at e2; cases e2
  · rw [hx] at e2
    cases e2
    exact ⟨e'.1, e'.2.1, e'.2.2, e1, r1, r2⟩
theorem dh_same (I : Inv X pins σ H s) {o : Obj} {ar : Array DictEntry} (ho : s.heap.get? d = some o) (ha : o.data = .dict ar ep) {i : Nat} {en : DictEntry} (hen : ar[i]? = some en) {y v : V} (ry : RelV y en.key) (rv : RelV v en.val) : ∀ es, H d = some (DH X.w d ep es) → ∃ k, es[i]? = some (k, y, v) := fun es hd => by
  obtain ⟨o', ar', _, e, _, h4, _, h5⟩ := dh_raw I hd
  rw [ho] at e
  cases e
  rw [ha] at h4
  cases h4
  obtain ⟨k, y', v', h6, r1, r2⟩ := h5 i en hen
  cases RelV.inj r1 ry
  cases RelV.inj r2 rv
  exact ⟨k, h6⟩
end
section
variable {P : Program} {w : World} {K : PySem.W.Frag} {tg : Expr} {d : Addr} {ep n : Nat}
theorem turn_dk (it : Addr) : Turn P w K tg (ItDk w d ep n) [it] it (fun i h => h.IsKeyIter it d i n ep) where
  mem := by simp
  obj := fun i h st b hb => by
    have e : b = it := by simpa using hb
    subst e
    obtain ⟨oi, e, c, dd⟩ := st
    exact ⟨oi, e, fun v z => by rw [dd] at z; cases z⟩
  keep := fun i h h' st k => st.at fun oi e => k it (by simp) oi e
  item := by
    intro X hP hw hK hc i pins s σ H E I hf st hg
    subst hP hw hK
    obtain ⟨es, hd, hn, hi⟩ := hg
    obtain ⟨f0, f1, f2, f3, f4, f5⟩ := hf it (by simp)
    obtain ⟨o, ar, _, ho, _, ha, hsz, hall⟩ := dh_raw I hd
    have hlt : i < ar.size := by omega
    have hen : ar[i]? = some ar[i] := Array.getElem?_eq_getElem hlt
    obtain ⟨k, y, v, he, ry, rv⟩ := hall i _ hen
    refine next_key_item st ho ha (by omega) hen fun h' st' sb => ?_
    have I1 : Inv X pins σ H { s with heap := h' } := I.turned (t' := s.toks) (fun b ob hb e => (sb.2 b hb).trans e) f0 f1 f3 f4 f5
    obtain ⟨oi, e, c, dd⟩ := id st'
    exact ⟨_, rfl, go_of (s := { s with heap := h' }) e c dd (by decide) ⟨y, H, I1, ry, ⟨rfl, fun es' hd' => (dh_same I ho ha hen ry rv es' hd').elim fun k hk => ⟨k, v, hk⟩⟩, st', fun b hb => (hf b hb).1⟩⟩
  done := by
    intro X hP hw hK hc i pins s σ H E I hf st hg
    subst hP hw hK
    obtain ⟨es, hd, hn, hi⟩ := hg
    obtain ⟨f0, f1, f2, f3, f4, f5⟩ := hf it (by simp)
    obtain ⟨o, ar, _, ho, _, ha, hsz, hall⟩ := dh_raw I hd
    exact next_key_end (I.ok.hd hc) st ho ha (by omega) hi fun h' eb => ⟨rfl, I.turned (t' := s.toks) (fun b ob hb e => eb b ob hb e) f0 f1 f3 f4 f5⟩
  self := fun A i s Q E st h => by
    refine wpAny_pyIter_slot st.typeIs PySem.F.slot_dict_keyiterator_iter (wpAny_call_entry PySem.F.slot_dict_keyiterator_iter st.typeIs PySem.F.entry_dict_keyiterator_iter ?_ (PySem.F.args_dict_keyiterator_iter_1 _))
    show wpAny _ _ (ret (.ref it)) _ _ s
    exact wpAny_pure ⟨_, rfl, "dict_keyiterator", _, st.typeIs, PySem.F.slot_dict_keyiterator_next.lookup, h⟩
theorem turn_dp {elts : List Expr} {kk : Nat} {tpos : Pos} (it : Addr) : Turn P w K (.Tuple elts kk tpos) (ItDp w d ep n) [it] it (fun i h => ∃ ok ov, IsItemIter h it d i n ep ok ov) where
  mem := by simp
  obj := fun i h st b hb => by
    have e : b = it := by simpa using hb
    subst e
    obtain ⟨ok, ov, e⟩ := st
    exact ⟨_, e, fun v z => nomatch z⟩
  keep := fun i h h' st k => let ⟨ok, ov, e⟩ := st; ⟨ok, ov, k it (by simp) _ e⟩
  item := by
    intro X hP hw hK hc i pins s σ H E I hf st hg
    subst hP hw hK
    obtain ⟨es, hd, hn, hi⟩ := hg
    obtain ⟨o, ar, _, ho, hcd, ha, hsz, hall⟩ := dh_raw I hd
    have hlt : i < ar.size := by omega
    have hen : ar[i]? = some ar[i] := Array.getElem?_eq_getElem hlt
    obtain ⟨k, y, v, he, ry, rv⟩ := hall i _ hen
    obtain ⟨ok, ov, hit⟩ := st
    have hit' : IsItemIter s.heap it d i ar.size ep ok ov := by rw [show ar.size = n by omega]; exact hit
    have hil : it < s.heap.objs.size := Heap.lt_size hit
    refine DT.nextI hit' ⟨o, ho, hcd, ha⟩ hlt fun h' ho' hT hz hk => ?_
    refine ⟨_, rfl, wpAny_letOwnedTupleGo_items (s := { s with heap := h' }) ho' fun h'' he' sb => ?_⟩
    have hT2 : h''.get? s.heap.objs.size = some { cls := .type "tuple", data := .seq #[ar[i].key, ar[i].val] } := (sb.2 _ (Nat.ne_of_gt hil)).trans hT
    have new : ObjOk X.prog X.w (upd H s.heap.objs.size (.tup [y, v])) h'' s.heap.objs.size (.tup [y, v]) :=
      ⟨by show 2 ≤ sizeLine; decide, [ar[i].key, ar[i].val], .cons ry (.cons rv .nil), ⟨_, hT2, rfl, _, rfl⟩⟩
    have I1 : Inv X pins σ (upd H s.heap.objs.size (.tup [y, v])) { s with heap := h'' } :=
      I.turnedNew (t' := s.toks) (ch := [it]) (fun b ob hb e => (sb.2 b (by simpa using hb)).trans (hk b ob (by simpa using hb) e)) hf (Nat.le_refl _) new
    refine ⟨.ref s.heap.objs.size, _, I1, rfl, ⟨_, y, v, rfl, I.hok.fresh (Nat.le_refl _), rfl, dh_same I ho ha hen ry rv⟩, ⟨ar[i].key, ar[i].val, ?_⟩, fun b hb => ?_⟩
    · rw [← show ar.size = n by omega]; exact he'
    · have e : b = it := by simpa using hb
      rw [e, upd_ne (Nat.ne_of_lt hil)]
      exact (hf it (by simp)).1
  done := by
    intro X hP hw hK hc i pins s σ H E I hf st hg
    subst hP hw hK
    obtain ⟨es, hd, hn, hi⟩ := hg
    obtain ⟨f0, f1, f2, f3, f4, f5⟩ := hf it (by simp)
    obtain ⟨o, ar, _, ho, hcd, ha, hsz, hall⟩ := dh_raw I hd
    obtain ⟨ok, ov, hit⟩ := st
    have hit' : IsItemIter s.heap it d i ar.size ep ok ov := by rw [show ar.size = n by omega]; exact hit
    exact DT.endI (I.ok.hd hc) hit' ⟨o, ho, hcd, ha⟩ (by omega) fun h' eb => ⟨rfl, I.turned (t' := s.toks) (fun b ob hb e => eb b ob hb e) f0 f1 f3 f4 f5⟩
  self := fun A i s Q E st h => let ⟨_, _, e⟩ := st; PySem.W.kcp_self e h
end
/-- for k in d -/
def iDK (w : World) (td : TE) : TI := fun σ H R => td σ H fun x H1 => ∃ d ep es, x = .ref d ∧ H1 d = some (DH w d ep es) ∧ R (ItDk w d ep es.length) H1
def iDP (w : World) (td : TE) : TI := fun σ H R => td σ H fun x H1 => ∃ d ep es, x = .ref d ∧ H1 d = some (DH w d ep es) ∧ R (ItDp w d ep es.length) H1
section
variable {X : Cx} {tg e : Expr} {td : TE} {apos cpos : Pos}
theorem pi_dk (he : PE X e td) : PI X tg e (iDK X.w td) := by
  refine ⟨fun pins s σ H R I h => ?_⟩
  refine thn (he.run pins s σ H _ I h) fun u s1 ⟨x, H1, I1, rx, d, ep, es, ex, hd, q⟩ => ?_
  subst ex
  obtain rfl : u = Value.ref d := rx
  obtain ⟨o, ar, hs, ho, hcd, ha, hsz, hall⟩ := dh_raw I1 hd
  refine iter_keys hs ho hcd ha (pi_one (tk := s1.toks) I1 _ (turn_dk _) ⟨_, Heap.get?_push_size _ rfl, rfl, ?_⟩ q)
  rw [hsz] <;> rfl
theorem pi_dp {elts : List Expr} {kk : Nat} {tpos : Pos} (he : PE X e td) (hbase : attributeBase e "items" X.env (eval e X.env) = eval e X.env) (hline : (apos.endLine == cpos.line) = true) :
    PI X (.Tuple elts kk tpos) (.Call (.Attribute e "items" apos) [] [] cpos) (iDP X.w td) := by
  refine ⟨fun pins s σ H R I h => ?_⟩
  refine wpAny_Call_method (T := "dict") (id := "dict.items") hbase rfl hline PySem.F.plainAttrs_dict PySem.F.slot_dict_items PySem.F.type_dict_items (thn (he.run pins s σ H _ I h) fun u s1 ⟨x, H1, I1, rx, d, ep, es, ex, hd, q⟩ => ?_)
  subst ex
  obtain rfl : u = Value.ref d := rx
  obtain ⟨o, ar, hs, ho, hcd, ha, hsz, hall⟩ := dh_raw I1 hd
  have raw : DT.Raw s1.heap d ar ep := ⟨o, ho, hcd, ha⟩
  refine ⟨raw.typeIs, fun b q => by cases q; exact ⟨o, ho, hcd.2.1⟩, ?_⟩
  have I2 : Inv X pins σ H1 { s1 with heap := s1.heap.push { cls := .type "dict_items", data := .fields #[.ref d] } } := I1.kept (t' := s1.toks) fun b ob q => Heap.get?_push_of_some _ q
  have fin : wpAny (model X.prog X.w) X.A (pyIter (.ref s1.heap.objs.size)) (PIE X pins σ (.Tuple elts kk tpos) R) X.xe { s1 with heap := s1.heap.push { cls := .type "dict_items", data := .fields #[.ref d] } } := by
    refine DT.iterI (d := d) (es := ar) (ep := ep) ⟨_, Heap.get?_push_size _ rfl, rfl, rfl⟩ (raw.push _) (pi_one (tk := s1.toks) I2 _ (turn_dp _) ⟨.none, .none, ?_⟩ q)
    rw [← hsz]
    exact Heap.get?_push_size _ rfl
  show wpAny _ _ (callWith cpos (.builtin "dict.items") [.ref d] [] []) _ X.xe s1
  exact method_meetsIn PySem.F.slot_dict_items PySem.F.entry_dict_items rfl (PySem.evalArgs_none ⟨rfl, raw.typeIs, PySem.F.args_dict_items_1 _, _, DT.meetsItems (es := ar) (ep := ep) hs, raw, fin⟩)
end
end U

set_option Elab.async false
set_option linter.all false
set_option maxRecDepth 100000
namespace U
open PySem L2

def mrgO (ps : List Ent) (xs : List Ent) (ep : Nat) : List Ent × Nat := ps.foldl (fun z p => (putOf z.1 p.1 p.2.1 p.2.2, putEp z.1 p.1 z.2)) (xs, ep)
def mrgE (ps : List EnV) (es : List EnV) (ep : Nat) : List EnV × Nat := ps.foldl (fun z p => (putE z.1 p.1 p.2.1 p.2.2, putV z.1 p.1 z.2)) (es, ep)
theorem mrg_rel : ∀ (ps : List EnV) {qs : List Ent} {es : List EnV} {xs : List Ent} (ep : Nat), EnR ps qs → EnR es xs → EnR (mrgE ps es ep).1 (mrgO qs xs ep).1 ∧ (mrgE ps es ep).2 = (mrgO qs xs ep).2
  | [], _, es, xs, ep, hp, r => by cases hp; exact ⟨r, rfl⟩
  | p :: ps, _, es, xs, ep, hp, r => by
    cases hp with
    | @cons _ q _ qs h t =>
      obtain ⟨h1, h2, h3⟩ := h
      show EnR (mrgE ps (putE es p.1 p.2.1 p.2.2) (putV es p.1 ep)).1 (mrgO qs (putOf xs q.1 q.2.1 q.2.2) (putEp xs q.1 ep)).1 ∧ (mrgE ps (putE es p.1 p.2.1 p.2.2) (putV es p.1 ep)).2 = (mrgO qs (putOf xs q.1 q.2.1 q.2.2) (putEp xs q.1 ep)).2
      rw [← h1, r.putV]
      exact mrg_rel ps _ t (r.put p.1 h2 h3)
section
variable {prog : Program} {w : World} {A : Around} {E : Value → Shared → Prop}
theorem storeAll_any {d : Addr} (hu : A.units + 8 < cLine) : ∀ (vs : List (Value × Value)) (qs xs : List Ent) (ep : Nat) (s : Shared) (Q : PUnit → Shared → Prop), vs = qs.map (fun q => (q.2.1, q.2.2)) → (∀ x ∈ qs, KIs s.heap x.1 x.2.1) → (∀ x ∈ xs, KIs s.heap x.1 x.2.1) → DO w d ep xs s.heap → xs.length + qs.length ≤ sizeLine →
    (∀ h' t, DO w d (mrgO qs xs ep).2 (mrgO qs xs ep).1 h' → Heap.SameBut d s.heap h' → Q PUnit.unit { s with heap := h', toks := t }) →
    wpAny (model prog w) A (forIn vs PUnit.unit fun (x : Value × Value) (_ : PUnit) => (do dictSet d x.1 x.2; pure (ForInStep.yield PUnit.unit) : Sem (ForInStep PUnit))) Q E s
  | _, [], xs, ep, s, Q, e, _, _, hm, _, hQ => by
    subst e
    rw [List.map_nil, List.forIn_nil]
    exact wpAny_pure (hQ s.heap s.toks hm (Heap.SameBut.refl _ _))
  | _, q :: qs, xs, ep, s, Q, e, hq, hx, hm, hz, hQ => by
    subst e
    rw [List.length_cons] at hz
    rw [List.map_cons, List.forIn_cons]
    refine wpAny_bind (wpAny_bind (set_any hu (hq q List.mem_cons_self) hm hx (by omega) fun h1 d1 s1 => wpAny_pure ?_))
    obtain ⟨_, _, _, o, es, ho, _, hd, _⟩ := id hm
    have stay : ∀ k v, KIs s.heap k v → KIs h1 k v := fun k v hk => ⟨NestedIs.at (fun b ob us n hb hc => (s1.2 b (fun z => by subst z; rw [ho] at hb; cases hb; rw [hd] at hc; cases hc)).trans hb) k v hk.1, hk.2⟩
    refine storeAll_any hu _ qs (putOf xs q.1 q.2.1 q.2.2) (putEp xs q.1 ep) _ Q rfl (fun x hx' => stay _ _ (hq x (List.mem_cons_of_mem _ hx'))) (fun x hx' => ?_) d1 (by have := putOf_length (xs := xs) (k := q.1) (key := q.2.1) (v := q.2.2); omega) fun h' t d' s' => hQ h' t d' (s1.trans s')
    have : x ∈ xs ∨ (x.1 = q.1 ∧ x.2.1 = q.2.1) ∨ ∃ y ∈ xs, y.1 = x.1 ∧ y.2.1 = x.2.1 := by
      unfold putOf at hx'
      split at hx'
      · rename_i i hi
        obtain ⟨j, hj⟩ := List.mem_iff_getElem?.mp hx'
        rw [List.getElem?_modify] at hj
        obtain ⟨y, hy, hyx⟩ := Option.map_eq_some_iff.mp hj
        refine .inr (.inr ⟨y, List.mem_of_getElem? hy, ?_, ?_⟩)
        · split at hyx <;> rw [← hyx]
        · split at hyx <;> rw [← hyx]
      · rcases List.mem_append.mp hx' with h | h
        · exact .inl h
        · have e : x = (q.1, q.2.1, q.2.2) := by simpa using h
          exact .inr (.inl ⟨by rw [e], by rw [e]⟩)
    rcases this with h | ⟨h2, h3⟩ | ⟨y, hy, h2, h3⟩
    · exact stay _ _ (hx x h)
    · rw [h2, h3]; exact stay _ _ (hq q List.mem_cons_self)
    · rw [← h2, ← h3]; exact stay _ _ (hx y hy)
theorem subDict_any {s : Shared} {pairs : List (Sem Value × Sem Value)} {Q : Addr → Shared → Prop} (hu : A.units + 8 < cLine) (hlen : pairs.length ≤ 15)
    (h : wpAny (model prog w) A (evalPairs pairs) (fun vs s1 => ∃ qs : List Ent, vs = qs.map (fun q => (q.2.1, q.2.2)) ∧ (∀ x ∈ qs, KIs s1.heap x.1 x.2.1) ∧ DO w s.heap.objs.size 0 [] s1.heap ∧
      ∀ h' t, DO w s.heap.objs.size (mrgO qs [] 0).2 (mrgO qs [] 0).1 h' → Heap.SameBut s.heap.objs.size s1.heap h' → Q s.heap.objs.size { s1 with heap := h', toks := t }) E
      { s with heap := s.heap.push { cls := .type "dict", data := .dict #[] } }) : wpAny (model prog w) A (subDict pairs) Q E s := by
  unfold subDict
  refine wpAny_bind (wpAny_alloc ?_)
  refine wpAny_bind (wpAny_holding ?_)
  rw [if_pos hlen]
  refine wpAny_bind (wpAny_mono (wpAny_evalPairs_len h) (fun vs s1 h1 => ?_) fun _ _ e => e)
  obtain ⟨hvl, qs, e, hq, hm, hQ⟩ := h1
  refine wpAny_holding ?_
  exact wpAny_bind (storeAll_any hu vs qs [] 0 s1 _ e hq (fun x hx => by cases hx) hm (by have e2 := congrArg List.length e; rw [List.length_map] at e2; rw [sizeLine_eq, List.length_nil]; omega) fun h' t hm' hs' => wpAny_pure (wpAny_pure (hQ h' t hm' hs')))
end
/-- {k: v, ..} -/
def tDispE (K : PySem.W.Frag) (w : World) (trs : List (TE × TE)) : TE := fun σ H Q => ∀ p, H p = none → tPairs trs σ (upd H p (DH w p 0 [])) fun ps H2 => H2 p = some (DH w p 0 []) ∧ ∃ es : List EnV, ps = es.map (fun e => (e.2.1, e.2.2)) ∧ DKs K H2 es ∧ Q (.ref p) (upd H2 p (DH w p (mrgE es [] 0).2 (mrgE es [] 0).1))
theorem vv_of {es : List EnV} : ∀ {vs : List (Value × Value)}, VV (es.map fun e => (e.2.1, e.2.2)) vs → ∃ qs : List Ent, vs = qs.map (fun q => (q.2.1, q.2.2)) ∧ EnR es qs := by
  induction es with
  | nil => intro vs r; cases r; exact ⟨[], rfl, .nil⟩
  | cons e es ih =>
    intro vs r
    rw [List.map_cons] at r
    cases r with
    | @cons a b as bs h t =>
      obtain ⟨qs, e1, r1⟩ := ih t
      exact ⟨(e.1, b.1, b.2) :: qs, by rw [e1]; rfl, .cons ⟨rfl, h.1, h.2⟩ r1⟩
theorem pe_dispE {X : Cx} {pos : Pos} {keys : List (Option Expr)} {values : List Expr} {trs : List (TE × TE)} (hu : X.A.units + 10 < cLine) (h : PPs X pos keys values trs) (hall : keys.all (·.isSome) = true) (hl : keys.length = values.length) (h0 : keys ≠ [])
    (h15 : keys.length ≤ 15) : PE X (.Dict keys values pos) (tDispE X.K X.w trs) := by
  refine ⟨fun pins s σ H Q I q => ?_⟩
  have hn := I.hok.fresh (Nat.le_refl s.heap.objs.size)
  have I1 := I.laid (a := s.heap.objs.size) (o := DH X.w s.heap.objs.size 0 []) (h' := s.heap.push { cls := .type "dict", data := .dict #[] }) (t' := s.toks) (fun _ _ q => Heap.get?_push_of_some _ q) (Nat.le_refl _) (dh_new .nil (do_empty s.heap I.big))
  have hpl := pairTrees_length keys values X.env pos hall hl
  rw [arm_eval_Dict, zip_pairTrees keys values X.env pos hall hl, dictDisplay_pairs _ (fun z => h0 (by rw [z] at hpl; exact List.length_eq_zero_iff.mp hpl.symm)) (by omega)]
  refine wpAny_bind (wpAny_standAt (wpAny_bind (subDict_any (by omega) (by omega) (thn (h.run pins _ σ _ _ I1 (q _ hn)) fun vs s2 ⟨ps, H2, I2, rel, e, es, ep, hk, q2⟩ => ?_))))
  subst ep
  obtain ⟨qs, e1, rr⟩ := vv_of rel
  obtain ⟨xs, r0, d0, _⟩ := dh_at I2 e (fun e he => by cases he)
  cases r0
  refine ⟨qs, e1, fun x hx => ?_, d0, fun h' t d' hs => wpAny_pure ⟨.ref s.heap.objs.size, _, dh_write I2 e hs (mrg_rel es 0 rr .nil).1 ((mrg_rel es 0 rr .nil).2 ▸ d'), rfl, q2⟩⟩
  obtain ⟨i, hi⟩ := List.mem_iff_getElem?.mp hx
  rcases rr.get i with ⟨_, z⟩ | ⟨e', x', z1, z2, z3, z4, _⟩
  · rw [hi] at z; cases z
  · rw [hi] at z2
    cases z2
    obtain ⟨n1, n2⟩ := hk e' (List.mem_of_getElem? z1)
    rw [← z3]
    exact ⟨NK.is I2 n1 z4, n2⟩
end U

set_option Elab.async false
set_option linter.all false
set_option maxRecDepth 100000
namespace U
open PySem

/-- a value as data: strings are their code points; ref k: the k-th object of the store -/
inductive P where
  | non | bl (b : Bool) | int (i : Int) | str (x : List Nat) | tup (ps : List P) | lst (ps : List P) | dct (ks vs : List P) | ref (k : Nat) | scr (ns : List Int)
  deriving Inhabited
/-- a tree of objects that one place owns; its leaves are values -/
inductive O where
  | leaf (p : P) | lst (os : List O) | dct (ep : Nat) (ks vs : List P) | ins (c : Nat) (fs : List P)
  deriving Inhabited
/-- how a tree is held: new and owned by none, seen where it stays, seen in the store -/
inductive Sta where
  | own | stb | vol
  deriving DecidableEq
structure R where
  o : O
  s : Sta
abbrev R.p (p : P) : R := ⟨.leaf p, .stb⟩
abbrev Env := List (Option R)
/-- the store, and whether it was touched -/
structure AS where
  os : List O
  t : Bool

mutual
def O.val : O → Option P
  | .leaf p => some p
  | .lst os => (O.vals os).map P.lst
  | .dct _ _ _ => none
  | .ins _ _ => none
def O.vals : List O → Option (List P)
  | [] => some []
  | o :: os => match O.val o, O.vals os with
    | some p, some ps => some (p :: ps)
    | _, _ => none
end
def O.leafs : List O → Option (List P)
  | [] => some []
  | .leaf p :: os => (O.leafs os).map (p :: ·)
  | _ :: _ => none
/-- the items of a list whose items are values -/
def O.items : O → Option (List P)
  | .leaf (.lst ps) => some ps
  | .lst os => O.leafs os
  | _ => none
/-- the items of a list or tuple -/
def O.seq : O → Option (List P)
  | .leaf (.tup ps) => some ps
  | o => o.items
def O.tupl : O → Option (List P)
  | .leaf (.tup ps) => some ps
  | _ => none
def O.int? : O → Option Int
  | .leaf (.int i) => some i
  | _ => none
def O.bl? : O → Option Bool
  | .leaf (.bl b) => some b
  | _ => none
def O.str? : O → Option (List Nat)
  | .leaf (.str x) => some x
  | _ => none
/-- a value that may be kept -/
def R.keep (r : R) : Option P := match r.o with
  | .leaf p => some p
  | o => match r.s with
    | .own => o.val
    | _ => none
def mkL (ps : List P) : R := ⟨.lst (ps.map O.leaf), .own⟩
def sz (n : Nat) : Bool := decide (n ≤ 16777216)

mutual
def P.nk : P → Option NestedKey
  | .non => some .none
  | .bl b => some (.num (if b = true then 1 else 0))
  | .int i => some (.num i)
  | .str x => some (.text ⟨x.toArray⟩)
  | .tup ps => (P.nks ps).map .tup
  | .lst _ => none
  | .dct _ _ => none
  | .ref _ => none
  | .scr _ => none
def P.nks : List P → Option (List NestedKey)
  | [] => some []
  | p :: ps => match P.nk p, P.nks ps with
    | some k, some ks => some (k :: ks)
    | _, _ => none
end
def P.key (p : P) : Option NestedKey := match p.nk with
  | some k => if k.depth ≤ 8 then some k else none
  | none => none
/-- where a key stands -/
def ixK (ks : List P) (k : NestedKey) : Option Nat := ks.findIdx? fun q => decide (q.nk = some k)
def dGet (ks vs : List P) (k : NestedKey) : Option P := (ixK ks k).bind fun i => vs[i]?
def dPut (ep : Nat) (ks vs : List P) (k : NestedKey) (p q : P) : O := match ixK ks k with
  | some i => .dct ep ks (vs.set i q)
  | none => .dct (ep + 1) (ks ++ [p]) (vs ++ [q])
def dDel (ep : Nat) (ks vs : List P) (k : NestedKey) : O := match ixK ks k with
  | some i => .dct (ep + 1) (ks.eraseIdx i) (vs.eraseIdx i)
  | none => .dct ep ks vs

mutual
def P.data : P → Option PyData
  | .non => some .none
  | .bl b => some (.bool b)
  | .int i => some (.int i)
  | .str x => some (.str ⟨x.toArray⟩)
  | .tup ps => (P.datas ps).map .tuple
  | .lst ps => (P.datas ps).map .list
  | .dct _ _ => none
  | .ref _ => none
  | .scr _ => none
def P.datas : List P → Option (List PyData)
  | [] => some []
  | p :: ps => match P.data p, P.datas ps with
    | some d, some ds => some (d :: ds)
    | _, _ => none
end
def P.shp (p : P) : Option PyData := match p.data with
  | some d => if SeqAt.shaped d then some d else none
  | none => none
def eqP (a b : P) : Option Bool := match a.shp, b.shp with
  | some d, some e => some (d.eqv e)
  | _, _ => none
def flatP : P → Bool
  | .non => true
  | .bl _ => true
  | .int _ => true
  | .str _ => true
  | _ => false
def inP (x : P) (l : O) : Option Bool := match l with
  | .leaf (.tup ys) => if flatP x && ys.all flatP then match x.data, P.datas ys with
      | some d, some ds => some (ds.any fun z => PyData.eqv z d)
      | _, _ => none
    else none
  | o => match o.val with
    | some (.lst ys) => match x.shp, (P.lst ys).shp with
      | some d, some (.list ds) => some (ds.any fun z => PyData.eqv z d)
      | _, _ => none
    | _ => none

inductive BOp where
  | add | sub | mul | fdiv | mod | pow
  deriving DecidableEq
inductive COp where
  | eq | ne | lt | le | gt | ge | is | isn | isin | nin
  deriving DecidableEq
inductive Blt where
  | len | all | any | tuple | list | str | int | bool | min | max | sum | sum2 | sorted
  deriving DecidableEq
inductive Mt where
  | index
  deriving DecidableEq
/-- what a loop walks: a list or tuple, range(n), range(a, b), enumerate(xs), zip(xs, ys) -/
inductive It where
  | over | range1 | range2 | enum | zip | items
  deriving DecidableEq
inductive Tg where
  | nm (i : Nat) | tp (ts : List Tg)
inductive E where
  | lit (p : P)
  | loc (i : Nat)
  | glb (g : Nat)
  | tup (es : List E)
  | lst (es : List E)
  | bin (o : BOp) (a b : E)
  | neg (a : E)
  | cmp (o : COp) (a b : E)
  | cmp2 (o o' : COp) (a b c : E)
  | not (a : E)
  | and (es : List E)
  | or (es : List E)
  | ite (c a b : E)
  | call (f : Nat) (es : List E)
  | blt (b : Blt) (es : List E)
  | isa (a : E) (ts : List String)
  | sub (a i : E)
  | slc (a : E) (lo hi : Option E)
  | rev (a : E)
  | meth (m : Mt) (a : E) (es : List E)
  | idxG (g : Nat) (e : E)
  | new (e : E)
  | ntD (a : E)
  | newD (kvs : List E)
  | dget (a : E) (es : List E)
  | dpop (a : E) (es : List E)
  | ddef (a : E) (es : List E)
  | lpop (a : E) (fst : Bool)
  | dzip (ab : List E) (i : E)
  | comp (t : Tg) (vs : List Nat) (k : It) (src : List E) (cond : List E) (e : E)
inductive St where
  | set (i : Nat) (e : E)
  | par (is : List Nat) (es : List E)
  | unp (ts : List Tg) (e : E)
  | expr (e : E)
  | ret (e : E)
  | retV (i : Nat)
  | retN
  | ite (c : E) (a b : List St)
  | for (t : Tg) (k : It) (src : List E) (body : List St)
  | put (a i e : E)
  | app (i : Nat) (e : E)
  | frz (i : Nat)
  | while (c : E) (body : List St)
  | appR (a e : E)
  | never
end U

set_option Elab.async false
set_option linter.all false
set_option maxRecDepth 100000
namespace U
open PySem

def intText (i : Int) : List Nat := (toString i).toList.map Char.toNat
def addR (a b : R) : Option R := match a.o.int?, b.o.int? with
  | some i, some j => some (R.p (.int (i + j)))
  | _, _ => match a.o.str?, b.o.str? with
    | some x, some y => if sz (x.length + y.length) then some (R.p (.str (x ++ y))) else none
    | _, _ => match a.o.tupl, b.o.tupl with
      | some x, some y => if sz (x.length + y.length) then some (R.p (.tup (x ++ y))) else none
      | _, _ => match a.o.items, b.o.items with
        | some x, some y => if sz (x.length + y.length) then some (mkL (x ++ y)) else none
        | _, _ => none
def ltSmall (i : Int) : Bool := decide (-(2 ^ 64) < i) && decide (i < 2 ^ 64)
def mulR (a b : R) : Option R := match b.o.int? with
  | none => none
  | some j => match a.o.int? with
    | some i => if ltSmall i || ltSmall j then some (R.p (.int (i * j))) else none
    | none => match a.o.tupl with
      | some ps => if decide (ps.length ≤ 1000) && (decide (-1000 ≤ j) && decide (j ≤ 1000)) then some (R.p (.tup (List.replicate j.toNat ps).flatten)) else none
      | none => none
def binR : BOp → R → R → Option R
  | .add, a, b => addR a b
  | .mul, a, b => mulR a b
  | .sub, a, b => match a.o.int?, b.o.int? with
    | some i, some j => some (R.p (.int (i - j)))
    | _, _ => none
  | .fdiv, a, b => match a.o.int?, b.o.int? with
    | some i, some j => if decide (0 < j) && decide (j < 1073741824) then some (R.p (.int (i / j))) else none
    | _, _ => none
  | .mod, a, b => match a.o.int?, b.o.int? with
    | some i, some j => if decide (0 < j) then some (R.p (.int (i % j))) else none
    | _, _ => none
  | .pow, a, b => match a.o.int?, b.o.int? with
    | some i, some j => if decide (0 ≤ j) && (decide (j ≤ 1000000) && decide (i.natAbs < 2 ^ 64)) then some (R.p (.int (i ^ j.toNat))) else none
    | _, _ => none
def isNon : O → Bool
  | .leaf .non => true
  | _ => false
def intCmp (f : Int → Int → Bool) (a b : R) : Option Bool := match a.o.int?, b.o.int? with
  | some i, some j => some (f i j)
  | _, _ => none
def inA (p : P) (o : O) : Option Bool := match o with
  | .dct _ ks _ => p.key.map fun k => (ixK ks k).isSome
  | _ => inP p o
def cmpR : COp → R → R → Option Bool
  | .eq, a, b => match a.o.val, b.o.val with
    | some p, some q => eqP p q
    | _, _ => none
  | .ne, a, b => match a.o.val, b.o.val with
    | some p, some q => (eqP p q).map (!·)
    | _, _ => none
  | .lt, a, b => intCmp (fun i j => decide (i < j)) a b
  | .le, a, b => intCmp (fun i j => decide (i ≤ j)) a b
  | .gt, a, b => intCmp (fun i j => decide (j < i)) a b
  | .ge, a, b => intCmp (fun i j => decide (j ≤ i)) a b
  | .is, a, b => if isNon b.o then some (isNon a.o) else none
  | .isn, a, b => if isNon b.o then some (!isNon a.o) else none
  | .isin, a, b => match a.o.val with
    | some p => inA p b.o
    | none => none
  | .nin, a, b => match a.o.val with
    | some p => (inA p b.o).map (!·)
    | none => none
def tyName : O → Option String
  | .leaf .non => some "NoneType"
  | .leaf (.bl _) => some "bool"
  | .leaf (.int _) => some "int"
  | .leaf (.str _) => some "str"
  | .leaf (.tup _) => some "tuple"
  | .leaf (.lst _) => some "list"
  | .lst _ => some "list"
  | _ => none
def isaTy (n t : String) : Bool := n == t || (n == "bool" && t == "int")
def isaO (o : O) (ts : List String) : Option Bool := (tyName o).map fun n => ts.any (isaTy n)
def subD (a i : R) : Option R := match a.o, i.o with
  | .dct _ ks vs, .leaf p => match p.key with
    | some k => (dGet ks vs k).map R.p
    | none => none
  | _, _ => none
def subR (a i : R) : Option R := match i.o.int? with
  | none => none
  | some k => match a.o with
    | .leaf (.tup ps) => (L2.atI ps k).map R.p
    | .leaf (.lst ps) => (L2.atI ps k).map R.p
    | .leaf (.str x) => if sz x.length then (L2.atI x k).map fun c => R.p (.str [c]) else none
    | .lst os => (L2.atI os k).map fun o => match o with
      | .leaf p => R.p p
      | o => ⟨o, if a.s = .vol then .vol else .stb⟩
    | _ => none
def subA (a i : R) : Option R := match a.o with
  | .dct _ _ _ => subD a i
  | _ => subR a i
def cut {α : Type} (xs : List α) (lo hi : Option Int) : List α := (xs.drop (HT.sIx xs.length 0 lo)).take (HT.sIx xs.length xs.length hi - HT.sIx xs.length 0 lo)
def slcR (a : R) (lo hi : Option Int) : Option R := match a.o.tupl with
  | some ps => some (R.p (.tup (cut ps lo hi)))
  | none => match a.o.str? with
    | some x => if sz x.length then some (R.p (.str (cut x lo hi))) else none
    | none => match a.o.items with
      | some ps => some (mkL (cut ps lo hi))
      | none => match a.o with
        | .leaf (.scr ns) => some (mkL ((cut ns lo hi).map P.int))
        | _ => none
def revR (a : R) : Option R := match a.o.tupl with
  | some ps => some (R.p (.tup ps.reverse))
  | none => match a.o.items with
    | some ps => some (mkL ps.reverse)
    | none => none
def bools : List P → Option (List Bool)
  | [] => some []
  | .bl b :: ps => (bools ps).map (b :: ·)
  | _ :: _ => none
def lenO : O → Option Nat
  | .leaf (.tup ps) => some ps.length
  | .leaf (.lst ps) => some ps.length
  | .leaf (.str x) => if sz x.length then some x.length else none
  | .lst os => some os.length
  | _ => none
def one (f : R → Option R) : List R → Option R
  | [a] => f a
  | _ => none
def two (f : R → R → Option R) : List R → Option R
  | [a, b] => f a b
  | _ => none
def boolsR (f : List Bool → Bool) (a : R) : Option R := match a.o.items with
  | some ps => match bools ps with
    | some bs => some (R.p (.bl (f bs)))
    | none => none
  | none => none
def intR (a : R) : Option R := match a.o.bl? with
  | some b => some (R.p (.int (if b then 1 else 0)))
  | none => match a.o.str? with
    | some x => if decide (x.length ≤ 640) then (match PySem.intText? ⟨x.toArray⟩ with
      | some n => some (R.p (.int n))
      | none => none) else none
    | none => none
def strR (a : R) : Option R := match a.o.int? with
  | some i => if decide (i.natAbs < 1000000000000) then some (R.p (.str (intText i))) else none
  | none => none
def int2R (f : Int → Int → Int) (a b : R) : Option R := match a.o.int?, b.o.int? with
  | some i, some j => some (R.p (.int (f i j)))
  | _, _ => none
def bltR : Blt → List R → Option R
  | .len => one fun a => (lenO a.o).map fun (n : Nat) => R.p (.int (n : Int))
  | .all => one (boolsR fun bs => bs.all id)
  | .any => one (boolsR fun bs => bs.any id)
  | .tuple => one fun a => a.o.seq.map fun ps => R.p (.tup ps)
  | .list => one fun a => a.o.seq.map mkL
  | .str => one strR
  | .int => one intR
  | .bool => one fun a => a.o.bl?.map fun b => R.p (.bl b)
  | .min => two (int2R fun i j => if j < i then j else i)
  | .max => two (int2R fun i j => if j > i then j else i)
  | .sum => fun _ => none
  | .sum2 => fun _ => none
  | .sorted => fun _ => none
def strsOf : List P → Option (List (List Nat))
  | [] => some []
  | .str x :: ps => (strsOf ps).map (x :: ·)
  | _ :: _ => none
def findS (x : List Nat) : List (List Nat) → Nat → Option Nat
  | [], _ => none
  | y :: ys, n => if y = x then some n else findS x ys (n + 1)
/-- xs.index(x), strings all -/
def idxS (ps : List P) (o : O) : Option R := match strsOf ps, o.str? with
  | some ys, some x => (findS x ys 0).map fun (n : Nat) => R.p (.int (n : Int))
  | _, _ => none
def methR : Mt → R → List R → Option R
  | .index, a, [x] => match a.o.items with
    | some ps => idxS ps x.o
    | none => none
  | _, _, _ => none
def enumP : List P → Nat → List P
  | [], _ => []
  | p :: ps, n => .tup [.int n, p] :: enumP ps (n + 1)
def zipP : List P → List P → List P
  | p :: ps, q :: qs => .tup [p, q] :: zipP ps qs
  | _, _ => []
def inRange (i : Int) : Bool := decide (-(2 ^ 62) ≤ i) && decide (i < 2 ^ 62)
def rangeP (lo : Int) (n : Nat) : List P := (List.range n).map fun (k : Nat) => P.int (lo + (k : Int))
def itR : It → List R → Option (List P)
  | .over, [a] => match a.o with
    | .dct _ ks _ => if a.s = .vol then some ks else none
    | o => o.seq
  | .items, [a] => match a.o with
    | .dct _ ks vs => if a.s = .vol then some (zipP ks vs) else none
    | _ => none
  | .range1, [a] => match a.o.int? with
    | some n => if inRange n then some (rangeP 0 n.toNat) else none
    | none => none
  | .range2, [a, b] => match a.o.int?, b.o.int? with
    | some i, some j => if inRange i && inRange j then some (rangeP i (j - i).toNat) else none
    | _, _ => none
  | .enum, [a] => a.o.seq.map fun ps => enumP ps 0
  | .zip, [a, b] => match a.o.tupl, b.o.tupl with
    | some ps, some qs => some (zipP ps qs)
    | _, _ => match a.o.items, b.o.items with
      | some ps, some qs => some (zipP ps qs)
      | _, _ => none
  | _, _ => none
mutual
def asg : Tg → P → Env → Option Env
  | .nm i, p, ρ => if i < ρ.length then some (ρ.set i (some (R.p p))) else none
  | .tp ts, .tup ps, ρ => asgs ts ps ρ
  | _, _, _ => none
def asgs : List Tg → List P → Env → Option Env
  | [], [], ρ => some ρ
  | t :: ts, p :: ps, ρ => match asg t p ρ with
    | some ρ' => asgs ts ps ρ'
    | none => none
  | _, _, _ => none
end
/-- what stands in the store may be looked at while nothing in the store is touched -/
def guard {α : Type} (v : Bool) (f : AS → Option (α × AS)) (S : AS) : Option (α × AS) :=
  if v then match f ⟨S.os, false⟩ with
    | some (x, S') => if S'.t then none else some (x, S)
    | none => none
  else f S
def isVol (r : R) : Bool := match r.o with
  | .leaf _ => false
  | _ => r.s == .vol
def anyVol (rs : List R) : Bool := rs.any isVol
def keeps : List R → Option (List P)
  | [] => some []
  | r :: rs => match r.keep, keeps rs with
    | some p, some ps => some (p :: ps)
    | _, _ => none
/-- an argument: kept, or lent -/
def argR (r : R) : Option R := match r.keep with
  | some p => some (R.p p)
  | none => if r.s = .stb then some r else none
def wipeE (ρ : Env) : List Nat → Env
  | [] => ρ
  | v :: vs => (wipeE ρ vs).set v none
def compL (f : P → AS → Option (Option P × AS)) : List P → AS → Option (List P × AS)
  | [], S => some ([], S)
  | p :: ps, S => match f p S with
    | some (some q, S1) => match compL f ps S1 with
      | some (qs, S2) => some (q :: qs, S2)
      | none => none
    | some (none, S1) => compL f ps S1
    | none => none

/-- what is seen in the store may not be touched meanwhile -/
def chk {α : Type} (v : Bool) : Option (α × AS) → Option (α × AS)
  | some (x, S) => if v && S.t then none else some (x, S)
  | none => none

/-- an object of the store, looked at -/
def peek (S : AS) (x : R) : R := match x.o with
  | .leaf (.ref k) => match S.os[k]? with
    | some o => ⟨o, .vol⟩
    | none => x
  | _ => x
/-- a new object goes into the store -/
def newR (r : R) (S : AS) : Option (R × AS) := match r.s, r.o with
  | .own, .lst os => some (R.p (.ref S.os.length), ⟨S.os ++ [.lst os], true⟩)
  | _, _ => none

def refOf : O → Option Nat
  | .leaf (.ref k) => some k
  | _ => none
def isD (S : AS) (j : Nat) : Bool := match S.os[j]? with
  | some (.dct _ _ _) => true
  | _ => false
def isL (S : AS) (j : Nat) : Bool := match S.os[j]? with
  | some (.lst _) => true
  | _ => false
/-- a dict of the store, by its number -/
def refD (S : AS) (x : R) : Option Nat := match refOf x.o with
  | some j => if isD S j then some j else none
  | none => none
def refL (S : AS) (x : R) : Option Nat := match refOf x.o with
  | some j => if isL S j then some j else none
  | none => none
/-- the pairs of a display, one behind the other -/
def dMk : List P → O → Option O
  | [], o => some o
  | p :: q :: r, .dct ep ks vs => match p.key with
    | some k => dMk r (dPut ep ks vs k p q)
    | none => none
  | _, _ => none
def dPopR (S : AS) (j : Nat) (i : Int) (q : P) : Option (R × AS) := match S.os[j]? with
  | some (.dct ep ks vs) => match dGet ks vs (.num i) with
    | some v => some (R.p v, ⟨S.os.set j (dDel ep ks vs (.num i)), true⟩)
    | none => some (R.p q, S)
  | _ => none
def dDefR (S : AS) (j : Nat) (i : Int) (q : P) : Option (R × AS) := match S.os[j]? with
  | some (.dct ep ks vs) => if ks.length < 16777216 then match dGet ks vs (.num i) with
    | some v => some (R.p v, S)
    | none => some (R.p q, ⟨S.os.set j (dPut ep ks vs (.num i) (.int i) q), true⟩)
    else none
  | _ => none
def lPopR (S : AS) (j : Nat) (fst : Bool) : Option (R × AS) := match S.os[j]? with
  | some (.lst os) => if fst then match os with
      | .leaf p :: r => some (R.p p, ⟨S.os.set j (.lst r), true⟩)
      | _ => none
    else match os.getLast? with
      | some (.leaf p) => some (R.p p, ⟨S.os.set j (.lst os.dropLast), true⟩)
      | _ => none
  | _ => none
/-- dict(zip(ks, t))[x], the keys texts and unlike one another -/
def dzipR : List R → R → Option R
  | [k, t], x => match k.o.items, t.o.tupl, x.o.str? with
    | some ks, some ps, some z => match strsOf ks with
      | some ys => if decide (ys.Nodup) && decide (ps.length = ys.length) then match findS z ys 0 with
          | some j => (ps[j]?).map R.p
          | none => none
        else none
      | none => none
    | _, _, _ => none
  | _, _ => none
structure Ctx where
  call : Nat → List R → AS → Option (R × AS)
  glb : List P
mutual
def evE (C : Ctx) : E → Env → AS → Option (R × AS)
  | .lit p, _, S => some (R.p p, S)
  | .loc i, ρ, S => match ρ[i]? with
    | some (some r) => some (⟨r.o, .stb⟩, S)
    | _ => none
  | .glb g, _, S => (C.glb[g]?).map fun p => (R.p p, S)
  | .tup es, ρ, S => match evK C es ρ S with
    | some (ps, S1) => if sz ps.length then some (R.p (.tup ps), S1) else none
    | none => none
  | .lst es, ρ, S => match evK C es ρ S with
    | some (ps, S1) => if sz ps.length then some (mkL ps, S1) else none
    | none => none
  | .bin o a b, ρ, S => match evE C a ρ S with
    | some (x, S1) => match guard (isVol x) (evE C b ρ) S1 with
      | some (y, S2) => (binR o x y).map fun r => (r, S2)
      | none => none
    | none => none
  | .neg a, ρ, S => match evE C a ρ S with
    | some (x, S1) => x.o.int?.map fun i => (R.p (.int (-i)), S1)
    | none => none
  | .cmp o a b, ρ, S => match evE C a ρ S with
    | some (x, S1) => match guard (isVol x) (evE C b ρ) S1 with
      | some (y, S2) => (cmpR o (peek S2 x) (peek S2 y)).map fun r => (R.p (.bl r), S2)
      | none => none
    | none => none
  | .cmp2 o o' a b c, ρ, S => match evE C a ρ S with
    | some (x, S1) => match guard (isVol x) (evE C b ρ) S1 with
      | some (y, S2) => if isVol y then none else match cmpR o x y with
        | some true => match evE C c ρ S2 with
          | some (z, S3) => (cmpR o' y z).map fun r => (R.p (.bl r), S3)
          | none => none
        | some false => some (R.p (.bl false), S2)
        | none => none
      | none => none
    | none => none
  | .not a, ρ, S => match evE C a ρ S with
    | some (x, S1) => x.o.bl?.map fun b => (R.p (.bl (!b)), S1)
    | none => none
  | .and es, ρ, S => evAnd C es ρ S
  | .or es, ρ, S => evOr C es ρ S
  | .ite c a b, ρ, S => match evE C c ρ S with
    | some (x, S1) => match x.o.bl? with
      | some true => evE C a ρ S1
      | some false => evE C b ρ S1
      | none => none
    | none => none
  | .call f es, ρ, S => match evA C es ρ S with
    | some (as, S1) => C.call f as S1
    | none => none
  | .blt b es, ρ, S => match evR C es ρ S with
    | some (rs, S1) => (bltR b (rs.map (peek S1))).map fun r => (r, S1)
    | none => none
  | .isa a ts, ρ, S => match evE C a ρ S with
    | some (x, S1) => (isaO x.o ts).map fun b => (R.p (.bl b), S1)
    | none => none
  | .sub a i, ρ, S => match evE C a ρ S with
    | some (x, S1) => match guard (isVol x) (evE C i ρ) S1 with
      | some (y, S2) => (subA (peek S2 x) y).map fun r => (r, S2)
      | none => none
    | none => none
  | .slc a lo hi, ρ, S => match evE C a ρ S with
    | some (x, S1) => if isVol x then none else match evO C lo ρ S1 with
      | some (l, S2) => match evO C hi ρ S2 with
        | some (h, S3) => (slcR x l h).map fun r => (r, S3)
        | none => none
      | none => none
    | none => none
  | .rev a, ρ, S => match evE C a ρ S with
    | some (x, S1) => (revR x).map fun r => (r, S1)
    | none => none
  | .meth m a es, ρ, S => match evE C a ρ S with
    | some (x, S1) => match guard (isVol x) (evR C es ρ) S1 with
      | some (rs, S2) => (methR m x rs).map fun r => (r, S2)
      | none => none
    | none => none
  | .idxG g e, ρ, S => match C.glb[g]? with
    | some (.tup ps) => match evE C e ρ S with
      | some (x, S1) => (idxS ps x.o).map fun r => (r, S1)
      | none => none
    | _ => none
  | .new e, ρ, S => match evE C e ρ S with
    | some (r, S1) => newR r S1
    | none => none
  | .ntD a, ρ, S => match evE C a ρ S with
    | some (x, S1) => match (peek S1 x).o with
      | .dct _ ks _ => some (R.p (.bl (!ks.isEmpty)), S1)
      | _ => none
    | none => none
  | .newD kvs, ρ, S => match evK C kvs ρ S with
    | some (ps, S1) => (dMk ps (.dct 0 [] [])).map fun o => (R.p (.ref S1.os.length), ⟨S1.os ++ [o], true⟩)
    | none => none
  | .dget a es, ρ, S => match evE C a ρ S with
    | some (x, S1) => match refD S1 x with
      | some j => match evK C es ρ S1 with
        | some (p :: qs, S2) => match S2.os[j]?, p.key with
          | some (.dct _ ks vs), some k => some (R.p ((dGet ks vs k).getD (qs.head?.getD .non)), S2)
          | _, _ => none
        | _ => none
      | none => none
    | none => none
  | .dpop a es, ρ, S => match evE C a ρ S with
    | some (x, S1) => match refD S1 x with
      | some j => match evK C es ρ S1 with
        | some ([.int i, q], S2) => dPopR S2 j i q
        | _ => none
      | none => none
    | none => none
  | .ddef a es, ρ, S => match evE C a ρ S with
    | some (x, S1) => match refD S1 x with
      | some j => match evK C es ρ S1 with
        | some ([.int i, q], S2) => dDefR S2 j i q
        | _ => none
      | none => none
    | none => none
  | .lpop a fst, ρ, S => match evE C a ρ S with
    | some (x, S1) => match refL S1 x with
      | some j => lPopR S1 j fst
      | none => none
    | none => none
  | .dzip ab i, ρ, S => match evR C ab ρ S with
    | some (rs, S1) => if anyVol rs then none else match evE C i ρ S1 with
      | some (x, S2) => (dzipR rs x).map fun r => (r, S2)
      | none => none
    | none => none
  | .comp t vs k src cond e, ρ, S => match evR C src ρ S with
    | some (rs, S1) => match itR k (rs.map (peek S1)) with
      | some ps => match guard (anyVol (rs.map (peek S1))) (compL (fun p S => chk (anyVol (rs.map (peek S1))) (match asg t p (wipeE ρ vs) with
          | some ρ' => match evAnd1 C cond ρ' S with
            | some (true, S') => match evE C e ρ' S' with
              | some (r, S2) => r.keep.map fun q => (some q, S2)
              | none => none
            | some (false, S') => some (none, S')
            | none => none
          | none => none)) ps) S1 with
        | some (qs, S2) => if sz qs.length then some (mkL qs, S2) else none
        | none => none
      | none => none
    | none => none
/-- values from the left, none of them seen in the store -/
def evR (C : Ctx) : List E → Env → AS → Option (List R × AS)
  | [], _, S => some ([], S)
  | e :: es, ρ, S => match evE C e ρ S with
    | some (r, S1) => match guard (isVol r) (evR C es ρ) S1 with
      | some (rs, S2) => some (r :: rs, S2)
      | none => none
    | none => none
/-- arguments: kept, or lent -/
def evA (C : Ctx) : List E → Env → AS → Option (List R × AS)
  | [], _, S => some ([], S)
  | e :: es, ρ, S => match evE C e ρ S with
    | some (r, S1) => match argR r with
      | some a => match evA C es ρ S1 with
        | some (as, S2) => some (a :: as, S2)
        | none => none
      | none => none
    | none => none
/-- values to be kept -/
def evK (C : Ctx) : List E → Env → AS → Option (List P × AS)
  | [], _, S => some ([], S)
  | e :: es, ρ, S => match evE C e ρ S with
    | some (r, S1) => match r.keep with
      | some p => match evK C es ρ S1 with
        | some (ps, S2) => some (p :: ps, S2)
        | none => none
      | none => none
    | none => none
def evO (C : Ctx) : Option E → Env → AS → Option (Option Int × AS)
  | none, _, S => some (none, S)
  | some e, ρ, S => match evE C e ρ S with
    | some (r, S1) => r.o.int?.map fun i => (some i, S1)
    | none => none
def evAnd (C : Ctx) : List E → Env → AS → Option (R × AS)
  | [], _, _ => none
  | [e], ρ, S => evE C e ρ S
  | e :: es, ρ, S => match evE C e ρ S with
    | some (r, S1) => match r.o.bl? with
      | some true => evAnd C es ρ S1
      | some false => some (R.p (.bl false), S1)
      | none => none
    | none => none
def evOr (C : Ctx) : List E → Env → AS → Option (R × AS)
  | [], _, _ => none
  | [e], ρ, S => evE C e ρ S
  | e :: es, ρ, S => match evE C e ρ S with
    | some (r, S1) => match r.o.bl? with
      | some false => evOr C es ρ S1
      | some true => some (R.p (.bl true), S1)
      | none => none
    | none => none
/-- no test, or one -/
def evAnd1 (C : Ctx) : List E → Env → AS → Option (Bool × AS)
  | [], _, S => some (true, S)
  | e :: _, ρ, S => match evE C e ρ S with
    | some (r, S1) => r.o.bl?.map fun b => (b, S1)
    | none => none
end
end U

set_option Elab.async false
set_option linter.all false
set_option maxRecDepth 100000
namespace U
open PySem

inductive Fl where
  | nx (ρ : Env) (S : AS)
  | rt (r : R) (S : AS)
/-- what a name may hold: a value, or a tree of its own -/
def R.hold (r : R) : Option R := match r.o with
  | .leaf p => some (R.p p)
  | o => match r.s with
    | .own => some ⟨o, .own⟩
    | _ => none
def setS (i : Nat) (r : R) (ρ : Env) : Option Env := match r.hold with
  | some r' => if i < ρ.length then some (ρ.set i (some r')) else none
  | none => none
def setAll : List Nat → List R → Env → Option Env
  | [], [], ρ => some ρ
  | i :: is, r :: rs, ρ => match setS i r ρ with
    | some ρ' => setAll is rs ρ'
    | none => none
  | _, _, _ => none
/-- a list of the store with the item at an index set -/
def putO (o : O) (y : P) (p : P) : Option O := match o, y with
  | .lst os, .int i => (L2.ixN os.length i).map fun j => .lst (os.set j (.leaf p))
  | .dct ep ks vs, y => match y.key with
    | some k => if ks.length < 16777216 then some (dPut ep ks vs k y p) else none
    | none => none
  | _, _ => none
def forL (f : P → Env → AS → Option Fl) : List P → Env → AS → Option Fl
  | [], ρ, S => some (.nx ρ S)
  | p :: ps, ρ, S => match f p ρ S with
    | some (.nx ρ' S') => forL f ps ρ' S'
    | r => r
/-- a walk over an object of the store: its state, what is to come -/
def itL (k : It) (S : AS) (j : Nat) : Option (Option Nat × List P) := match S.os[j]? with
  | some (.dct ep ks vs) => match k with
    | .over => some (some ep, ks)
    | .items => some (some ep, zipP ks vs)
    | _ => none
  | some (.lst os) => match O.leafs os with
    | some qs => match k with
      | .over => some (none, qs)
      | .enum => some (none, enumP qs 0)
      | _ => none
    | none => none
  | _ => none
def forS (k : It) (j n : Nat) (ep : Option Nat) (f : P → Env → AS → Option Fl) : Nat → Env → AS → Option Fl
  | 0, ρ, S => match itL k S j with
    | some (ep', ps) => if ep' = ep ∧ ps.length = n then some (.nx ρ S) else none
    | none => none
  | m + 1, ρ, S => match itL k S j with
    | some (ep', ps) => if ep' = ep ∧ ps.length = n then match ps[n - (m + 1)]? with
        | some p => match f p ρ S with
          | some (.nx ρ' S') => forS k j n ep f m ρ' S'
          | r => r
        | none => none
      else none
    | none => none
def whileL (c : Env → AS → Option (R × AS)) (b : Env → AS → Option Fl) : Nat → Env → AS → Option Fl
  | 0, _, _ => none
  | n + 1, ρ, S => match c ρ S with
    | some (x, S1) => match x.o.bl? with
      | some true => match b ρ S1 with
        | some (.nx ρ' S') => whileL c b n ρ' S'
        | r => r
      | some false => some (.nx ρ S1)
      | none => none
    | none => none
def FUEL : Nat := 18446744073709551616
def refs : List R → Option Nat
  | [r] => refOf r.o
  | _ => none
/-- what a loop walks: seen (b false), or kept first -/
def evM (C : Ctx) : Bool → List E → Env → AS → Option (List R × AS)
  | false, es, ρ, S => evR C es ρ S
  | true, es, ρ, S => match evK C es ρ S with
    | some (ps, S1) => some (ps.map R.p, S1)
    | none => none
mutual
def exS (C : Ctx) : St → Env → AS → Option Fl
  | .set i e, ρ, S => match evE C e ρ S with
    | some (r, S1) => (setS i r ρ).map fun ρ' => .nx ρ' S1
    | none => none
  | .par is es, ρ, S => match evK C es ρ S with
    | some (ps, S1) => (setAll is (ps.map R.p) ρ).map fun ρ' => .nx ρ' S1
    | none => none
  | .unp ts e, ρ, S => match evE C e ρ S with
    | some (r, S1) => match r.o with
      | .leaf p => (asg (.tp ts) p ρ).map fun ρ' => .nx ρ' S1
      | _ => none
    | none => none
  | .expr e, ρ, S => match evE C e ρ S with
    | some (_, S1) => some (.nx ρ S1)
    | none => none
  | .ret e, ρ, S => match evE C e ρ S with
    | some (r, S1) => r.hold.map fun r' => .rt r' S1
    | none => none
  | .retV i, ρ, S => match ρ[i]? with
    | some (some r) => some (.rt r S)
    | _ => none
  | .retN, _, S => some (.rt (R.p .non) S)
  | .ite c a b, ρ, S => match evE C c ρ S with
    | some (x, S1) => match x.o.bl? with
      | some true => exL C a ρ S1
      | some false => exL C b ρ S1
      | none => none
    | none => none
  | .for t k src body, ρ, S => match evM C true src ρ S with
    | some (rs, S1) => match refs rs with
      | some j => match itL k S1 j with
        | some (ep, ps) => forS k j ps.length ep (fun p ρ S => match asg t p ρ with
          | some ρ' => exL C body ρ' S
          | none => none) ps.length ρ S1
        | none => none
      | none => match itR k rs with
        | some ps => forL (fun p ρ S => match asg t p ρ with
          | some ρ' => exL C body ρ' S
          | none => none) ps ρ S1
        | none => none
    | none => none
  | .while c body, ρ, S => whileL (evE C c) (exL C body) FUEL ρ S
  | .appR a e, ρ, S => match evE C a ρ S with
    | some (x, S1) => match refL S1 x with
      | some k => match evE C e ρ S1 with
        | some (r, S2) => match r.keep, S2.os[k]? with
          | some p, some (.lst os) => if decide (os.length < 16777216) then some (.nx ρ ⟨S2.os.set k (.lst (os ++ [.leaf p])), true⟩) else none
          | _, _ => none
        | none => none
      | none => none
    | none => none
  | .put a i e, ρ, S => match evE C e ρ S with
    | some (r, S1) => match r.keep with
      | some p => match evE C a ρ S1 with
        | some (x, S2) => match refOf x.o with
          | some k => match evE C i ρ S2 with
            | some (y, S3) => match y.keep, S3.os[k]? with
              | some j, some o => (putO o j p).map fun o' => .nx ρ ⟨S3.os.set k o', true⟩
              | _, _ => none
            | none => none
          | none => none
        | none => none
      | none => none
    | none => none
  | .app i e, ρ, S => match evE C e ρ S with
    | some (r, S1) => match r.keep with
      | some p => match ρ[i]? with
        | some (some ⟨.lst os, .own⟩) => if decide (os.length < 16777216) then some (.nx (ρ.set i (some ⟨.lst (os ++ [.leaf p]), .own⟩)) S1) else none
        | _ => none
      | none => none
    | none => none
  | .frz i, ρ, S => match ρ[i]? with
    | some (some r) => match r.keep with
      | some p => some (.nx (ρ.set i (some (R.p p))) S)
      | none => none
    | _ => none
  | .never, _, _ => none
def exL (C : Ctx) : List St → Env → AS → Option Fl
  | [], ρ, S => some (.nx ρ S)
  | s :: ss, ρ, S => match exS C s ρ S with
    | some (.nx ρ' S') => exL C ss ρ' S'
    | r => r
end
structure Def where
  np : Nat
  ns : Nat
  body : List St
structure Prg where
  defs : List Def
  glb : List P
/-- the def number f, called at most n deep -/
def callF (G : Prg) : Nat → Nat → List R → AS → Option (R × AS)
  | 0, _, _, _ => none
  | n + 1, f, args, S => match G.defs[f]? with
    | none => none
    | some d => if args.length = d.np then match exL ⟨callF G n, G.glb⟩ d.body (args.map some ++ List.replicate (d.ns - d.np) none) S with
        | some (.nx _ S') => some (R.p .non, S')
        | some (.rt r S') => some (r, S')
        | none => none
      else none
end U

set_option Elab.async false
set_option linter.all false
set_option maxRecDepth 100000
namespace U
open PySem L2

/-- the written part, and the world (for the hashes of keys) -/
structure KX where
  K : PySem.W.Frag
  w : World
instance : Coe KX PySem.W.Frag := ⟨KX.K⟩

abbrev _root_.L2.Cx.kx (X : Cx) : KX := ⟨X.K, X.w⟩
structure Wd where
  Z : Addr → Prop
  th : List Addr
  F : List (List Addr)
abbrev Wd.SF (W : Wd) : List Addr := W.F.flatten

section
variable (K : KX)
def WrT (a : Addr) (vs : List V) : Prop := ∃ (o : Obj) (its : Array Value) (n : Nat), K.K.lookup a = some o ∧ o.cls = .type "tuple" ∧ o.dict = none ∧ o.data = .seq its n ∧ its.size ≤ sizeLine ∧ Vals vs its.toList
def ZT (W : Wd) (H : Hp) (a : Addr) (vs : List V) : Prop := (W.Z a ∧ Rd H a (.tup vs)) ∨ WrT K a vs
def ZL (W : Wd) (H : Hp) (a : Addr) (vs : List V) : Prop := W.Z a ∧ H a = some (.lst vs)
def ZS (W : Wd) (H : Hp) (a : Addr) (vs : List V) : Prop := (W.Z a ∧ Rd H a (.lst vs)) ∨ ∃ (o : Obj) (its : Array Value) (n : Nat), K.K.lookup a = some o ∧ o.cls = .type "list" ∧ o.dict = none ∧ o.data = .seq its n ∧ its.size ≤ sizeLine ∧ Vals vs its.toList
mutual
inductive RP (W : Wd) (H : Hp) : V → P → Prop
  | non : RP W H .non .non
  | bl (b : Bool) : RP W H (.bl b) (.bl b)
  | int (i : Int) : RP W H (.int i) (.int i)
  | str (x : List Nat) : RP W H (.str ⟨x.toArray⟩) (.str x)
  | tup {a : Addr} {vs : List V} {ps : List P} : ZT K W H a vs → RPs W H vs ps → RP W H (.ref a) (.tup ps)
  | lst {a : Addr} {vs : List V} {ps : List P} : ZL W H a vs → RPs W H vs ps → RP W H (.ref a) (.lst ps)
  | ref {a : Addr} {k : Nat} : W.th[k]? = some a → RP W H (.ref a) (.ref k)
  | scr {a : Addr} {ns : List Int} : ZS K W H a (ns.map V.int) → RP W H (.ref a) (.scr ns)
inductive RPs (W : Wd) (H : Hp) : List V → List P → Prop
  | nil : RPs W H [] []
  | cons {v : V} {p : P} {vs : List V} {ps : List P} : RP W H v p → RPs W H vs ps → RPs W H (v :: vs) (p :: ps)
end
mutual
inductive RO (W : Wd) (H : Hp) : V → O → List Addr → Prop
  | leaf {v : V} {p : P} : RP K W H v p → RO W H v (.leaf p) []
  | lst {a : Addr} {vs : List V} {os : List O} {fp : List Addr} : H a = some (.lst vs) → ROs W H vs os fp → RO W H (.ref a) (.lst os) (a :: fp)
  | dct {a : Addr} {ep : Nat} {es : List EnV} {ks vs : List P} : H a = some (DH K.w a ep es) → RPs K W H (es.map (·.2.1)) ks → P.nks ks = some (es.map (·.1)) → (∀ e ∈ es, e.1.depth ≤ 8) → RPs K W H (es.map (·.2.2)) vs → RO W H (.ref a) (.dct ep ks vs) [a]
inductive ROs (W : Wd) (H : Hp) : List V → List O → List Addr → Prop
  | nil : ROs W H [] [] []
  | cons {v : V} {o : O} {vs : List V} {os : List O} {f fp : List Addr} : RO W H v o f → ROs W H vs os fp → ROs W H (v :: vs) (o :: os) (f ++ fp)
end
structure Sto (W : Wd) (H : Hp) (S : AS) : Prop where
  l1 : W.th.length = S.os.length
  l2 : W.F.length = S.os.length
  at_ : ∀ (k : Nat) (o : O), S.os[k]? = some o → ∃ (a : Addr) (fp : List Addr), W.th[k]? = some a ∧ W.F[k]? = some fp ∧ RO K W H (.ref a) o fp
  nd : W.SF.Nodup
  zf : ∀ a ∈ W.SF, ¬ W.Z a
  zt : ∀ a, W.Z a → ∃ o, H a = some o
structure Slo (W : Wd) (H : Hp) (σ : L2.St) (ρ : Env) (g : Nat → List Addr) : Prop where
  len : σ.length = ρ.length
  at_ : ∀ (i : Nat) (r : R), ρ[i]? = some (some r) → ∃ v, σ[i]? = some (some v) ∧ RO K W H v r.o (g i) ∧ r.s ≠ .vol
  sf : ∀ (i : Nat) (r : R), ρ[i]? = some (some r) → ∀ a ∈ g i, a ∉ W.SF
  own : ∀ (i : Nat) (r : R), ρ[i]? = some (some r) → r.s = .own → (g i).Nodup ∧ ∀ a ∈ g i, ¬ W.Z a
  dj : ∀ (i j : Nat) (r r' : R), ρ[i]? = some (some r) → ρ[j]? = some (some r') → r.s = .own → i ≠ j → ∀ a ∈ g i, a ∉ g j
/-- a value's way to be: new and owned by none, seen where it stays, seen in the store; H₀: the heap ahead -/
def RVs (H₀ : Hp) (W : Wd) (fp : List Addr) : Sta → Prop
  | .own => fp.Nodup ∧ ∀ a ∈ fp, ¬ W.Z a ∧ a ∉ W.SF ∧ H₀ a = none
  | .stb => ∀ a ∈ fp, a ∉ W.SF
  | .vol => True
def RV (H₀ : Hp) (W : Wd) (H : Hp) (v : V) (r : R) : Prop := ∃ fp, RO K W H v r.o fp ∧ RVs H₀ W fp r.s
end
structure Ext (W : Wd) (H : Hp) (S : AS) (W' : Wd) (H' : Hp) (S' : AS) : Prop where
  z : ∀ a, W.Z a → W'.Z a
  keep : ∀ a o, H a = some o → a ∉ W.SF → H' a = some o ∧ a ∉ W'.SF ∧ (W'.Z a → W.Z a)
  th : ∀ (k : Nat) (a : Addr), W.th[k]? = some a → W'.th[k]? = some a
  un : S.t = false → S'.t = false → W'.th = W.th ∧ W'.F = W.F ∧ S'.os = S.os ∧ ∀ a o, H a = some o → H' a = some o
  t : S.t = true → S'.t = true
  tr : ∀ a o, H a = some o → ∃ o', H' a = some o'

section
variable {K : KX} {W W' W2 : Wd} {H H' H2 H₀ : Hp} {S S' S2 : AS} {v : V} {p : P} {vs : List V} {ps : List P} {o : O} {os : List O} {fp : List Addr} {r : R}
theorem Ext.refl : Ext W H S W H S := ⟨fun _ z => z, fun _ _ h n => ⟨h, n, fun z => z⟩, fun _ _ h => h, fun _ _ => ⟨rfl, rfl, rfl, fun _ _ h => h⟩, fun h => h, fun _ o h => ⟨o, h⟩⟩
theorem Ext.trans (a : Ext W H S W' H' S') (b : Ext W' H' S' W2 H2 S2) : Ext W H S W2 H2 S2 where
  z := fun x h => b.z x (a.z x h)
  keep := fun x u h n => by
    obtain ⟨h1, n1, z1⟩ := a.keep x u h n
    obtain ⟨h2, n2, z2⟩ := b.keep x u h1 n1
    exact ⟨h2, n2, fun z => z1 (z2 z)⟩
  th := fun k x h => b.th k x (a.th k x h)
  un := fun h1 h2 => by
    cases e : S'.t with
    | true => have := b.t e; rw [h2] at this; cases this
    | false =>
      obtain ⟨t1, f1, o1, k1⟩ := a.un h1 e
      obtain ⟨t2, f2, o2, k2⟩ := b.un e h2
      exact ⟨t2.trans t1, f2.trans f1, o2.trans o1, fun x u h => k2 x u (k1 x u h)⟩
  t := fun h => b.t (a.t h)
  tr := fun x u h => by
    obtain ⟨u1, h1⟩ := a.tr x u h
    exact b.tr x u1 h1
theorem rd_mono {a : Addr} {u : HO} (h : Rd H a u) (k : ∀ o, H a = some o → H' a = some o) : Rd H' a u := by
  rcases h with h | ⟨o, h⟩
  · exact .inl (k _ h)
  · exact .inr ⟨o, k _ h⟩
/-- a value stays while what is frozen stays -/
structure Frm (W : Wd) (H : Hp) (W' : Wd) (H' : Hp) : Prop where
  z : ∀ a, W.Z a → W'.Z a ∧ ∀ o, H a = some o → H' a = some o
  th : ∀ (k : Nat) (a : Addr), W.th[k]? = some a → W'.th[k]? = some a
mutual
theorem RP.mono (f : Frm W H W' H') : ∀ {v : V} {p : P}, RP K W H v p → RP K W' H' v p
  | _, _, .non => .non
  | _, _, .bl b => .bl b
  | _, _, .int i => .int i
  | _, _, .str x => .str x
  | _, _, .tup h hs => .tup (by
      rcases h with ⟨hz, hr⟩ | h
      · exact .inl ⟨(f.z _ hz).1, rd_mono hr (f.z _ hz).2⟩
      · exact .inr h) (RPs.mono f hs)
  | _, _, .lst h hs => .lst ⟨(f.z _ h.1).1, (f.z _ h.1).2 _ h.2⟩ (RPs.mono f hs)
  | _, _, .ref h => .ref (f.th _ _ h)
  | _, _, .scr h => .scr (by
      rcases h with ⟨hz, hr⟩ | h
      · exact .inl ⟨(f.z _ hz).1, rd_mono hr (f.z _ hz).2⟩
      · exact .inr h)
theorem RPs.mono (f : Frm W H W' H') : ∀ {vs : List V} {ps : List P}, RPs K W H vs ps → RPs K W' H' vs ps
  | _, _, .nil => .nil
  | _, _, .cons h hs => .cons (RP.mono f h) (RPs.mono f hs)
end
mutual
theorem RO.mono (f : Frm W H W' H') : ∀ {v : V} {o : O} {fp : List Addr}, RO K W H v o fp → (∀ a ∈ fp, ∀ u, H a = some u → H' a = some u) → RO K W' H' v o fp
  | _, _, _, .leaf h, _ => .leaf (h.mono f)
  | _, _, _, .lst h hs, k => .lst (k _ List.mem_cons_self _ h) (ROs.mono f hs fun a ha => k a (List.mem_cons_of_mem _ ha))
  | _, _, _, .dct h h1 h2 h3 h4, k => .dct (k _ List.mem_cons_self _ h) (h1.mono f) h2 h3 (h4.mono f)
theorem ROs.mono (f : Frm W H W' H') : ∀ {vs : List V} {os : List O} {fp : List Addr}, ROs K W H vs os fp → (∀ a ∈ fp, ∀ u, H a = some u → H' a = some u) → ROs K W' H' vs os fp
  | _, _, _, .nil, _ => .nil
  | _, _, _, .cons h hs, k => .cons (RO.mono f h fun a ha => k a (List.mem_append_left _ ha)) (ROs.mono f hs fun a ha => k a (List.mem_append_right _ ha))
end
mutual
theorem RO.trk : ∀ {v : V} {o : O} {fp : List Addr}, RO K W H v o fp → ∀ a ∈ fp, ∃ u, H a = some u
  | _, _, _, .leaf _, a, h => by cases h
  | _, _, _, .lst h hs, a, ha => by
    rcases List.mem_cons.mp ha with e | ha
    · exact ⟨_, e ▸ h⟩
    · exact ROs.trk hs a ha
  | _, _, _, .dct h _ _ _ _, a, ha => by
    rcases List.mem_cons.mp ha with e | ha
    · exact ⟨_, e ▸ h⟩
    · cases ha
theorem ROs.trk : ∀ {vs : List V} {os : List O} {fp : List Addr}, ROs K W H vs os fp → ∀ a ∈ fp, ∃ u, H a = some u
  | _, _, _, .nil, a, h => by cases h
  | _, _, _, .cons h hs, a, ha => (List.mem_append.mp ha).elim (RO.trk h a) (ROs.trk hs a)
end
theorem Ext.frm (e : Ext W H S W' H' S') (s : Sto K W H S) : Frm W H W' H' where
  z := fun a hz => ⟨e.z a hz, fun o h => (e.keep a o h fun hs => s.zf a hs hz).1⟩
  th := e.th
theorem Slo.ext {σ : L2.St} {ρ : Env} {g : Nat → List Addr} (l : Slo K W H σ ρ g) (e : Ext W H S W' H' S') (s : Sto K W H S) : Slo K W' H' σ ρ g where
  len := l.len
  at_ := fun i r h => by
    obtain ⟨v, h1, h2, h3⟩ := l.at_ i r h
    exact ⟨v, h1, h2.mono (e.frm s) fun a ha u hu => (e.keep a u hu (l.sf i r h a ha)).1, h3⟩
  sf := fun i r h a ha => by
    obtain ⟨v, h1, h2, h3⟩ := l.at_ i r h
    obtain ⟨u, hu⟩ := h2.trk a ha
    exact (e.keep a u hu (l.sf i r h a ha)).2.1
  own := fun i r h ho => by
    obtain ⟨n, k⟩ := l.own i r h ho
    obtain ⟨v, h1, h2, h3⟩ := l.at_ i r h
    refine ⟨n, fun a ha hz => ?_⟩
    obtain ⟨u, hu⟩ := h2.trk a ha
    exact k a ha ((e.keep a u hu (l.sf i r h a ha)).2.2 hz)
  dj := l.dj
theorem isVol_of {r : R} {o : O} (h : r.o = o) (n : ∀ p, o ≠ .leaf p) (hs : r.s = .vol) : isVol r = true := by
  unfold isVol
  cases e : r.o with
  | leaf p => exact absurd (h ▸ e) (n p)
  | _ => rw [hs]; rfl
theorem RV.ext (h : RV K H₀ W H v r) (e : Ext W H S W' H' S') (s : Sto K W H S) (hv : isVol r = true → S.t = false ∧ S'.t = false) : RV K H₀ W' H' v r := by
  obtain ⟨fp, ho, hs⟩ := h
  cases hr : r.s with
  | own =>
    rw [hr] at hs
    obtain ⟨n, k⟩ := hs
    refine ⟨fp, ho.mono (e.frm s) fun a ha u hu => (e.keep a u hu (k a ha).2.1).1, ?_⟩
    rw [hr]
    refine ⟨n, fun a ha => ?_⟩
    obtain ⟨u, hu⟩ := ho.trk a ha
    obtain ⟨_, h2, h3⟩ := e.keep a u hu (k a ha).2.1
    exact ⟨fun z => (k a ha).1 (h3 z), h2, (k a ha).2.2⟩
  | stb =>
    rw [hr] at hs
    refine ⟨fp, ho.mono (e.frm s) fun a ha u hu => (e.keep a u hu (hs a ha)).1, ?_⟩
    rw [hr]
    intro a ha
    obtain ⟨u, hu⟩ := ho.trk a ha
    exact (e.keep a u hu (hs a ha)).2.1
  | vol =>
    refine ⟨fp, ho.mono (e.frm s) fun a ha u hu => ?_, by rw [hr]; trivial⟩
    cases ho' : r.o with
    | leaf p => rw [ho'] at ho; cases ho; cases ha
    | _ =>
      obtain ⟨h1, h2⟩ := hv (isVol_of ho' (fun _ z => by cases z) hr)
      exact (e.un h1 h2).2.2.2 a u hu
theorem Sto.os_ (s : Sto K W H S) (h : S'.os = S.os) : Sto K W H S' := ⟨h ▸ s.l1, h ▸ s.l2, h ▸ s.at_, s.nd, s.zf, s.zt⟩
/-- the guard of what is seen in the store -/
theorem guard_use {α : Type} {c : Bool} {f : AS → Option (α × AS)} {x : α} (h : guard c f S = some (x, S')) :
    ∃ S0 S0', f S0 = some (x, S0') ∧ S0.os = S.os ∧ ∀ (W : Wd) (H : Hp) (W' : Wd) (H' : Hp), Ext W H S0 W' H' S0' → Ext W H S W' H' S' ∧ S'.os = S0'.os ∧ (c = true → S0.t = false ∧ S0'.t = false) := by
  unfold guard at h
  cases c with
  | false =>
    refine ⟨S, S', h, rfl, fun W H W' H' e => ⟨e, rfl, fun z => by cases z⟩⟩
  | true =>
    simp only [if_true] at h
    cases hf : f ⟨S.os, false⟩ with
    | none => rw [hf] at h; cases h
    | some y =>
      obtain ⟨y, S0'⟩ := y
      rw [hf] at h
      simp only at h
      cases ht : S0'.t with
      | true => rw [ht] at h; simp at h
      | false =>
        rw [ht] at h
        simp only [Bool.false_eq_true, if_false, Option.some.injEq, Prod.mk.injEq] at h
        obtain ⟨h1, h2⟩ := h
        subst h1 h2
        refine ⟨⟨S.os, false⟩, S0', hf, rfl, fun W H W' H' e => ?_⟩
        obtain ⟨h1, h2, h3, h4⟩ := e.un rfl ht
        exact ⟨⟨e.z, e.keep, e.th, fun _ _ => ⟨h1, h2, rfl, h4⟩, fun h => h, e.tr⟩, h3.symm, fun _ => ⟨rfl, ht⟩⟩

theorem Ext.back (e : Ext W H S W' H' S') {a : Addr} (h : H' a = none) : H a = none := by
  cases q : H a with
  | none => rfl
  | some u =>
    obtain ⟨u', h'⟩ := e.tr a u q
    rw [h] at h'; cases h'
theorem Sto.sft (s : Sto K W H S) : ∀ a ∈ W.SF, ∃ u, H a = some u := fun a ha => by
  obtain ⟨fp, h1, h2⟩ := List.mem_flatten.mp ha
  obtain ⟨k, hk⟩ := List.mem_iff_getElem?.mp h1
  have hl : k < S.os.length := by rw [← s.l2]; exact (List.getElem?_eq_some_iff.mp hk).1
  obtain ⟨b, fp', _, h3, h4⟩ := s.at_ k S.os[k] (List.getElem?_eq_getElem hl)
  rw [hk] at h3; cases h3
  exact h4.trk a h2
/-- more of what is frozen -/
def Wd.fz (W : Wd) (fp : List Addr) : Wd := ⟨fun a => W.Z a ∨ a ∈ fp, W.th, W.F⟩
theorem frm_fz {fp : List Addr} : Frm W H (W.fz fp) H := ⟨fun _ z => ⟨.inl z, fun _ h => h⟩, fun _ _ h => h⟩
theorem Sto.fz (s : Sto K W H S) {fp : List Addr} (h1 : ∀ a ∈ fp, ∃ u, H a = some u) (h2 : ∀ a ∈ fp, a ∉ W.SF) : Sto K (W.fz fp) H S where
  l1 := s.l1
  l2 := s.l2
  at_ := fun k o h => by
    obtain ⟨a, f, h3, h4, h5⟩ := s.at_ k o h
    exact ⟨a, f, h3, h4, h5.mono frm_fz fun _ _ _ h => h⟩
  nd := s.nd
  zf := fun a ha z => z.elim (s.zf a ha) fun hm => h2 a hm ha
  zt := fun a z => z.elim (s.zt a) (h1 a)
theorem Ext.fz (e : Ext W H S W' H' S') {fp : List Addr} (h : ∀ a ∈ fp, H a = none) : Ext W H S (W'.fz fp) H' S' where
  z := fun a z => .inl (e.z a z)
  keep := fun a u hu hn => by
    obtain ⟨k1, k2, k3⟩ := e.keep a u hu hn
    refine ⟨k1, k2, fun z => z.elim k3 fun hm => ?_⟩
    have := h a hm
    rw [hu] at this; cases this
  th := e.th
  un := e.un
  t := e.t
  tr := e.tr
mutual
theorem RO.frz : ∀ {v : V} {o : O} {fp : List Addr} {p : P}, RO K W H v o fp → o.val = some p → (∀ a ∈ fp, W.Z a) → RP K W H v p
  | _, _, _, _, .leaf h, e, _ => by
    have e := e
    simp only [O.val, Option.some.injEq] at e
    exact e ▸ h
  | _, _, _, p, .lst (a := a) (vs := vs) (os := os) (fp := fp) h hs, e, z => by
    simp only [O.val] at e
    cases q : O.vals os with
    | none => rw [q] at e; cases e
    | some ps =>
      rw [q] at e
      have e : P.lst ps = p := Option.some.inj e
      exact e ▸ .lst ⟨z a List.mem_cons_self, h⟩ (ROs.frz hs q fun b hb => z b (List.mem_cons_of_mem _ hb))
  | _, _, _, p, .dct _ _ _ _ _, e, _ => by simp only [O.val] at e; cases e
theorem ROs.frz : ∀ {vs : List V} {os : List O} {fp : List Addr} {ps : List P}, ROs K W H vs os fp → O.vals os = some ps → (∀ a ∈ fp, W.Z a) → RPs K W H vs ps
  | _, _, _, _, .nil, e, _ => by
    have e := e
    simp only [O.vals, Option.some.injEq] at e
    exact e ▸ .nil
  | _, _, _, ps, .cons (v := v) (o := o) (vs := vs) (os := os) (f := f) (fp := fp) h hs, e, z => by
    simp only [O.vals] at e
    cases q : o.val with
    | none => rw [q] at e; cases e
    | some p =>
      cases q2 : O.vals os with
      | none => rw [q, q2] at e; cases e
      | some qs =>
        rw [q, q2] at e
        have e : p :: qs = ps := Option.some.inj e
        exact e ▸ .cons (RO.frz h q fun b hb => z b (List.mem_append_left _ hb)) (ROs.frz hs q2 fun b hb => z b (List.mem_append_right _ hb))
end
theorem keep_use {W0 : Wd} {S0 : AS} (e : Ext W0 H₀ S0 W H S) (s : Sto K W H S) (rv : RV K H₀ W H v r) (hk : r.keep = some p) :
    ∃ W', Ext W0 H₀ S0 W' H S ∧ Sto K W' H S ∧ RP K W' H v p ∧ Frm W H W' H := by
  obtain ⟨fp, ho, hs⟩ := rv
  unfold R.keep at hk
  cases hr : r.o with
  | leaf q =>
    rw [hr] at hk ho
    cases hk
    cases ho with
    | leaf h => exact ⟨W, e, s, h, ⟨fun _ z => ⟨z, fun _ h => h⟩, fun _ _ h => h⟩⟩
  | lst os =>
    rw [hr] at hk
    simp only at hk
    cases hst : r.s with
    | own =>
      rw [hst] at hk hs
      obtain ⟨n, k⟩ := hs
      refine ⟨W.fz fp, e.fz fun a ha => (k a ha).2.2, s.fz (ho.trk) fun a ha => (k a ha).2.1, ?_, frm_fz⟩
      rw [hr] at ho
      exact (ho.mono frm_fz fun _ _ _ h => h).frz hk fun a ha => .inr ha
    | stb => rw [hst] at hk; cases hk
    | vol => rw [hst] at hk; cases hk
  | dct ep ks vs =>
    rw [hr] at hk
    simp only at hk
    split at hk <;> cases hk
  | ins c fs => rw [hr] at ho; cases ho
theorem ext_new {a : Addr} {u : HO} (s : Sto K W H S) (h : H a = none) : Ext W H S W (upd H a u) S where
  z := fun _ z => z
  keep := fun b o hb hn => ⟨by rw [upd_ne (ne_of_none hb h)]; exact hb, hn, fun z => z⟩
  th := fun _ _ h => h
  un := fun _ _ => ⟨rfl, rfl, rfl, fun b o hb => by rw [upd_ne (ne_of_none hb h)]; exact hb⟩
  t := fun h => h
  tr := fun b o hb => ⟨o, by rw [upd_ne (ne_of_none hb h)]; exact hb⟩
theorem frm_new {a : Addr} {u : HO} (h : H a = none) : Frm W H W (upd H a u) := ⟨fun _ z => ⟨z, fun o hb => by rw [upd_ne (ne_of_none hb h)]; exact hb⟩, fun _ _ h => h⟩
theorem sto_new {a : Addr} {u : HO} (s : Sto K W H S) (h : H a = none) : Sto K W (upd H a u) S where
  l1 := s.l1
  l2 := s.l2
  at_ := fun k o hk => by
    obtain ⟨b, f, h3, h4, h5⟩ := s.at_ k o hk
    exact ⟨b, f, h3, h4, h5.mono (frm_new h) fun b _ o hb => by rw [upd_ne (ne_of_none hb h)]; exact hb⟩
  nd := s.nd
  zf := s.zf
  zt := fun b z => by
    obtain ⟨o, ho⟩ := s.zt b z
    exact ⟨o, by rw [upd_ne (ne_of_none ho h)]; exact ho⟩
theorem ros_leaf : ∀ {vs : List V} {ps : List P}, RPs K W H vs ps → ROs K W H vs (ps.map O.leaf) []
  | _, _, .nil => .nil
  | _, _, .cons h hs => .cons (f := []) (.leaf h) (ros_leaf hs)
theorem rv_newL {a : Addr} (s : Sto K W H S) (h : H a = none) (h0 : H₀ a = none) (hs : RPs K W H vs ps) : RV K H₀ W (upd H a (.lst vs)) (.ref a) (mkL ps) := by
  refine ⟨[a], .lst upd_same (ros_leaf (hs.mono (frm_new h))), ⟨List.nodup_cons.mpr ⟨(fun z => nomatch z), List.nodup_nil⟩, fun b hb => ?_⟩⟩
  have e : b = a := by simpa using hb
  subst e
  refine ⟨fun z => ?_, fun z => ?_, h0⟩
  · obtain ⟨o, ho⟩ := s.zt _ z
    rw [h] at ho; cases ho
  · obtain ⟨o, ho⟩ := s.sft _ z
    rw [h] at ho; cases ho
theorem rv_p (h : RP K W H v p) : RV K H₀ W H v (R.p p) := ⟨[], .leaf h, fun a ha => by cases ha⟩
theorem rv_newT {a : Addr} (s : Sto K W H S) (h : H a = none) (hs : RPs K W H vs ps) :
    Ext W H S (W.fz [a]) (upd H a (.tup vs)) S ∧ Sto K (W.fz [a]) (upd H a (.tup vs)) S ∧ RP K (W.fz [a]) (upd H a (.tup vs)) (.ref a) (.tup ps) := by
  have e1 : ∀ b ∈ [a], b = a := fun b hb => by simpa using hb
  refine ⟨(ext_new s h).fz fun b hb => by rw [e1 b hb]; exact h, (sto_new s h).fz (fun b hb => ⟨.tup vs, by rw [e1 b hb]; exact upd_same⟩) (fun b hb z => ?_), ?_⟩
  · rw [e1 b hb] at z
    obtain ⟨o, ho⟩ := s.sft _ z
    rw [h] at ho; cases ho
  · exact .tup (.inl ⟨.inr (by simp), .inl upd_same⟩) ((hs.mono (frm_new h)).mono frm_fz)
end
end U

set_option Elab.async false
set_option linter.all false
set_option maxRecDepth 100000
namespace U
open PySem L2

/-- the module: its defs and its constants by name, the built-in names that are free -/
structure Gm where
  fns : List (Str × Nat)
  glb : List (Str × Nat)
  fr : List Str
  nw : List Nat
  ar : List Nat
def vis (sc : Scope) (x : Str) : Bool := match sc.names.lookup x with
  | some .local => true
  | some .cell => true
  | some .free => true
  | _ => false
def isGl (sc : Scope) (x : Str) : Bool := decide (sc.names.lookup x = some .globalImplicit)
def okName (x : Str) : Bool := (x == ("__debug__" : Str)) == false && (x == ("__classdict__" : Str)) == false
def idx : List Str → Str → Nat → Option Nat
  | [], _, _ => none
  | y :: ys, x, n => if y = x then some n else idx ys x (n + 1)
def cLit : Const → Option P
  | .none => some .non
  | .bool b => some (.bl b)
  | .int i => some (.int i)
  | .str s => some (.str s.cps.toList)
  | _ => none
def cB : Operator → Option BOp
  | .Add => some .add
  | .Sub => some .sub
  | .Mult => some .mul
  | .FloorDiv => some .fdiv
  | .Mod => some .mod
  | .Pow => some .pow
  | _ => none
def cC : CmpOp → COp
  | .Eq => .eq
  | .NotEq => .ne
  | .Lt => .lt
  | .LtE => .le
  | .Gt => .gt
  | .GtE => .ge
  | .Is => .is
  | .IsNot => .isn
  | .In => .isin
  | .NotIn => .nin
def notSet : Expr → Bool
  | .Set _ _ _ => false
  | _ => true
def okBase : Expr → Bool
  | .Call _ _ _ _ => false
  | _ => true
/-- the base of a method call: no call without arguments (super()) -/
def okBase2 : Expr → Bool
  | .Call _ [] _ _ => false
  | _ => true
/-- dict(zip(x, y)), by the names that stand there -/
def dzArgs : Expr → Option (Str × Str × Expr × Expr)
  | .Call (.Name d _) [.Call (.Name z _) [x, y] [] _] [] _ => some (d, z, x, y)
  | _ => none
def posK (p : Pos) : Nat := p.line * 1000 + p.col
def flatD (f : Expr → Option E) : List (Option Expr) → List Expr → Option (List E)
  | [], [] => some []
  | some k :: ks, v :: vs => match f k, f v, flatD f ks vs with
    | some a, some b, some r => some (a :: b :: r)
    | _, _, _ => none
  | _, _ => none
def isZero : Expr → Bool
  | .Constant (.int i) _ _ => decide (i = 0)
  | _ => false
def isName : Expr → Bool
  | .Name _ _ => true
  | _ => false
def isM1 : Option Expr → Option Expr → Expr → Bool
  | none, none, .UnaryOp .USub (.Constant (.int i) _ _) _ => decide (i = 1)
  | _, _, _ => false
def plainIx : Expr → Bool
  | .Name _ _ => true
  | .Constant _ _ _ => true
  | .BinOp _ _ _ _ => true
  | .UnaryOp _ _ _ => true
  | .Call _ _ _ _ => true
  | .Subscript _ _ _ => true
  | _ => false
def nmB (x : Str) : Option Blt :=
  if x = ("len" : Str) then some .len else if x = ("all" : Str) then some .all else if x = ("any" : Str) then some .any else
  if x = ("tuple" : Str) then some .tuple else if x = ("list" : Str) then some .list else if x = ("str" : Str) then some .str else
  if x = ("int" : Str) then some .int else if x = ("bool" : Str) then some .bool else if x = ("min" : Str) then some .min else
  if x = ("max" : Str) then some .max else none
def nmT (x : Str) : Option String :=
  if x = ("tuple" : Str) then some "tuple" else if x = ("list" : Str) then some "list" else if x = ("str" : Str) then some "str" else
  if x = ("int" : Str) then some "int" else if x = ("bool" : Str) then some "bool" else none
def cTy (g : Gm) (sc : Scope) : Expr → Option String
  | .Name x _ => if isGl sc x && g.fr.contains x then nmT x else none
  | _ => none
def cTys (g : Gm) (sc : Scope) : List Expr → Option (List String)
  | [] => some []
  | e :: es => match cTy g sc e, cTys g sc es with
    | some t, some ts => some (t :: ts)
    | _, _ => none
mutual
def okT : E → Bool
  | .ite _ _ _ => false
  | .not a => okT a
  | .and es => okTs es
  | .or es => okTs es
  | _ => true
def okTs : List E → Bool
  | [] => true
  | e :: es => okT e && okTs es
end
mutual
def Tg.slots : Tg → List Nat
  | .nm i => [i]
  | .tp ts => Tg.slotss ts
def Tg.slotss : List Tg → List Nat
  | [] => []
  | t :: ts => Tg.slots t ++ Tg.slotss ts
end
def cL (f : Expr → Option E) : List Expr → Option (List E)
  | [] => some []
  | e :: es => match f e, cL f es with
    | some a, some as => some (a :: as)
    | _, _ => none
def cOpt (f : Expr → Option E) : Option Expr → Option (Option E)
  | none => some none
  | some e => (f e).map some
def cTL (f : Expr → Option Tg) : List Expr → Option (List Tg)
  | [] => some []
  | e :: es => match f e, cTL f es with
    | some a, some as => some (a :: as)
    | _, _ => none
/-- a target: names that may be stored -/
def cTg (N : List Str) (own : Str → Bool) : Nat → Expr → Option Tg
  | 0, _ => none
  | n + 1, e => match e with
    | .Name x _ => if own x then (idx N x 0).map .nm else none
    | .Tuple es _ _ => (cTL (cTg N own n) es).map .tp
    | _ => none
def ownOf (N : List Str) : List (Str × NameKind) → List (Str × Nat)
  | [] => []
  | (x, k) :: r => match k with
    | .local | .cell => (match idx N x 0 with
      | some i => (x, i) :: ownOf N r
      | none => ownOf N r)
    | _ => ownOf N r
def isLoc (sc : Scope) (x : Str) : Bool := match sc.names.lookup x with
  | some .local => true
  | some .cell => true
  | _ => false
/-- what a loop walks -/
def cIt (f : Expr → Option E) (g : Gm) (sc : Scope) (tg : Expr) (e : Expr) : Option (It × List E) := match e with
  | .Call (.Name x _) as [] _ => if isGl sc x && g.fr.contains x then
      if x = ("range" : Str) then match as with
        | [a] => (f a).map fun a => (.range1, [a])
        | [a, b] => match f a, f b with
          | some a, some b => some (.range2, [a, b])
          | _, _ => none
        | _ => none
      else if x = ("enumerate" : Str) then match as, tg with
        | [a], .Tuple _ _ _ => (f a).map fun a => (.enum, [a])
        | _, _ => none
      else if x = ("zip" : Str) then match as, tg with
        | [a, b], .Tuple _ _ _ => match f a, f b with
          | some a, some b => some (.zip, [a, b])
          | _, _ => none
        | _, _ => none
      else (f e).map fun a => (.over, [a])
    else (f e).map fun a => (.over, [a])
  | .Call (.Attribute o m ap) [] [] cp => if m = ("items" : Str) && ap.endLine == cp.line && okBase2 o then match tg with
      | .Tuple _ _ _ => (f o).map fun a => (.items, [a])
      | _ => none
    else (f e).map fun a => (.over, [a])
  | _ => if notSet e then (f e).map fun a => (.over, [a]) else none
def subset (xs ys : List Nat) : Bool := xs.all fun x => ys.contains x
def cSub (f : Expr → Option E) (a i : Expr) : Option E := if plainIx i then match f a, f i with
    | some x, some y => some (.sub x y)
    | _, _ => none
  else none
def cE (g : Gm) (N : List Str) : Nat → Scope → Expr → Option E
  | 0, _, _ => none
  | n + 1, sc, e => match e with
    | .Constant c _ _ => (cLit c).map .lit
    | .Name x _ => if okName x then
        if vis sc x then (idx N x 0).map .loc
        else if isGl sc x then (g.glb.lookup x).map .glb else none
      else none
    | .Tuple es _ _ => (cL (cE g N n sc) es).map .tup
    | .List es p => (cL (cE g N n sc) es).map fun as => if g.nw.contains (posK p) then .new (.lst as) else .lst as
    | .Dict ks vs _ => if decide (ks.length ≤ 15) then (flatD (cE g N n sc) ks vs).map .newD else none
    | .BinOp a op b _ => match cB op, cE g N n sc a, cE g N n sc b with
      | some o, some x, some y => some (.bin o x y)
      | _, _, _ => none
    | .UnaryOp .USub a _ => (cE g N n sc a).map .neg
    | .UnaryOp .Not a _ => (cE g N n sc a).map .not
    | .BoolOp op es _ => match cL (cE g N n sc) es with
      | some (x :: xs) => some (match op with
        | .And => .and (x :: xs)
        | .Or => .or (x :: xs))
      | _ => none
    | .Compare a [op] [b] _ => if notSet b then match cE g N n sc a, cE g N n sc b with
        | some x, some y => some (.cmp (cC op) x y)
        | _, _ => none
      else none
    | .Compare a [op, op'] [b, c] _ => if notSet b && notSet c then match cE g N n sc a, cE g N n sc b, cE g N n sc c with
        | some x, some y, some z => some (.cmp2 (cC op) (cC op') x y z)
        | _, _, _ => none
      else none
    | .IfExp c a b _ => match cE g N n sc c, cE g N n sc a, cE g N n sc b with
      | some z, some x, some y => if okT z then some (.ite z x y) else none
      | _, _, _ => none
    | .Call (.Name x _) as [] _ => if okName x && isGl sc x then
        match g.fns.lookup x with
        | some f => (cL (cE g N n sc) as).map (.call f)
        | none => if g.fr.contains x then
            if x = ("isinstance" : Str) then match as with
              | [a, .Tuple ts _ _] => match cE g N n sc a, cTys g sc ts with
                | some y, some ts => if sz ts.length then some (.isa y ts) else none
                | _, _ => none
              | [a, t] => match cE g N n sc a, cTy g sc t with
                | some y, some t => some (.isa y [t])
                | _, _ => none
              | _ => none
            else match nmB x, cL (cE g N n sc) as with
              | some b, some (y :: ys) => some (.blt b (y :: ys))
              | _, _ => none
          else none
      else none
    | .Call (.Attribute o m ap) as [] p => if m = ("index" : Str) && ap.endLine == p.line && okBase o then match cE g N n sc o, cL (cE g N n sc) as with
        | some x, some [y] => (match x with
          | .glb j => if isName o then some (.idxG j y) else none
          | x => some (.meth .index x [y]))
        | _, _ => none
      else if ap.endLine == p.line && okBase2 o then
        if m = ("get" : Str) then match cE g N n sc o, cL (cE g N n sc) as with
          | some x, some [y] => some (.dget x [y])
          | some x, some [y, z] => some (.dget x [y, z])
          | _, _ => none
        else if m = ("pop" : Str) then match as with
          | [] => (cE g N n sc o).map fun x => .lpop x false
          | [a, b] => match cE g N n sc o, cE g N n sc a, cE g N n sc b with
            | some x, some y, some z => some (.dpop x [y, z])
            | _, _, _ => none
          | _ => none
        else if m = ("setdefault" : Str) then match as with
          | [a, b] => match cE g N n sc o, cE g N n sc a, cE g N n sc b with
            | some x, some y, some z => some (.ddef x [y, z])
            | _, _, _ => none
          | _ => none
        else none
      else none
    | .Subscript a (.Slice lo hi none _) _ => match cE g N n sc a, cOpt (cE g N n sc) lo, cOpt (cE g N n sc) hi with
      | some x, some l, some h => some (.slc x l h)
      | _, _, _ => none
    | .Subscript a (.Slice lo hi (some st) _) _ => if isM1 lo hi st then (cE g N n sc a).map .rev else none
    | .Subscript a i _ => match dzArgs a with
      | some (d, z, x, y) => if decide (d = ("dict" : Str)) && (decide (z = ("zip" : Str)) && (isGl sc d && (isGl sc z && (g.fr.contains d && (g.fr.contains z && plainIx i))))) then
          match cL (cE g N n sc) [x, y], cE g N n sc i with
          | some xs, some y => some (.dzip xs y)
          | _, _ => none
        else none
      | none => cSub (cE g N n sc) a i
    | .ListComp elt [⟨tg, iter, ifs, ay⟩] scope _ =>
      if decide (ay = 0) && blkC N sc scope (ownOf N scope.names) then
        match cIt (cE g N n sc) g sc tg iter, cTg N (isLoc scope) n tg, cL (cE g N n (relS scope sc)) ifs, cE g N n (relS scope sc) elt with
        | some (k, src), some t, some cs, some x => if subset t.slots ((ownOf N scope.names).map (·.2)) && okTs cs && decide (cs.length ≤ 1) then some (.comp t ((ownOf N scope.names).map (·.2)) k src cs x) else none
        | _, _, _, _ => none
      else none
    | _ => none
end U

set_option Elab.async false
set_option linter.all false
set_option maxRecDepth 100000
namespace U
open PySem L2

/-- what a def promises: what the small language computes of it -/
def spF (K : KX) (C : Ctx) (f np : Nat) : Sp := fun vs H Q _ => vs.length = np ∧ ∃ (W : Wd) (S : AS) (args : List R) (r : R) (S' : AS), Sto K W H S ∧ Paired (fun v r => RV K H W H v r ∧ r.s = .stb) vs args ∧
  C.call f args S = some (r, S') ∧ ∀ (W' : Wd) (H' : Hp) (v : V), Ext W H S W' H' S' → Sto K W' H' S' → RV K H W' H' v r → Q v H'
/-- a constant of the module -/
def GlbOk (K : KX) (v : V) (p : P) : Prop := (∀ W H, RP K W H v p) ∧ ∀ ps, p = .tup ps → ∃ a vs, v = .ref a ∧ WrT K a vs ∧ ∀ W H, RPs K W H vs ps
structure Good (g : Gm) (C : Ctx) (k : Nat) (N : List Str) (sc : Scope) (X : Cx) : Prop where
  N : X.N = N
  sc : X.env.scope = sc
  nd : X.N.Nodup
  calm : X.calm = true
  room : Room k X.A
  fns : ∀ (x : Str) (f : Nat), g.fns.lookup x = some f → ∃ (fa : Addr) (fd : FuncData) (ps : List Str), X.mg x = some (.ref fa) ∧ PySem.W.keepIn X.kx (.ref fa) = true ∧ Binds X.kx fd ps [] ∧ FnOk X.prog X.w X.kx X.mg X.base CX0 k fa fd ps (spF X.kx C f ps.length) ∧ ∀ (args : List R) (S : AS) (z : R × AS), C.call f args S = some z → args.length = ps.length
  glb : ∀ (x : Str) (j : Nat), g.glb.lookup x = some j → ∃ (p : P) (u : Value) (v : V), C.glb[j]? = some p ∧ X.mg x = some u ∧ RelV v u ∧ GlbOk X.kx v p
  fr : ∀ x ∈ g.fr, X.mg x = none

def TvE (K : KX) (C : Ctx) (e : E) : TE := fun σ H Q => ∃ (W : Wd) (ρ : Env) (S : AS) (gf : Nat → List Addr) (r : R) (S' : AS), Sto K W H S ∧ Slo K W H σ ρ gf ∧ evE C e ρ S = some (r, S') ∧
  ∀ (W' : Wd) (H' : Hp) (v : V), Ext W H S W' H' S' → Sto K W' H' S' → RV K H W' H' v r → Q v H'
def TvT (K : KX) (C : Ctx) (e : E) : TT := fun σ H Q => ∃ (W : Wd) (ρ : Env) (S : AS) (gf : Nat → List Addr) (r : R) (b : Bool) (S' : AS), Sto K W H S ∧ Slo K W H σ ρ gf ∧ evE C e ρ S = some (r, S') ∧ r.o.bl? = some b ∧
  ∀ (W' : Wd) (H' : Hp), Ext W H S W' H' S' → Sto K W' H' S' → Q b H'
def TvR (K : KX) (C : Ctx) (es : List E) : TA := fun σ H Q => ∃ (W : Wd) (ρ : Env) (S : AS) (gf : Nat → List Addr) (rs : List R) (S' : AS), Sto K W H S ∧ Slo K W H σ ρ gf ∧ evR C es ρ S = some (rs, S') ∧
  ∀ (W' : Wd) (H' : Hp) (vs : List V), Ext W H S W' H' S' → Sto K W' H' S' → Paired (RV K H W' H') vs rs → Q vs H'
def TvK (K : KX) (C : Ctx) (es : List E) : TA := fun σ H Q => ∃ (W : Wd) (ρ : Env) (S : AS) (gf : Nat → List Addr) (ps : List P) (S' : AS), Sto K W H S ∧ Slo K W H σ ρ gf ∧ evK C es ρ S = some (ps, S') ∧
  ∀ (W' : Wd) (H' : Hp) (vs : List V), Ext W H S W' H' S' → Sto K W' H' S' → RPs K W' H' vs ps → Q vs H'
def TvA (K : KX) (C : Ctx) (es : List E) : TA := fun σ H Q => ∃ (W : Wd) (ρ : Env) (S : AS) (gf : Nat → List Addr) (rs : List R) (S' : AS), Sto K W H S ∧ Slo K W H σ ρ gf ∧ evA C es ρ S = some (rs, S') ∧
  ∀ (W' : Wd) (H' : Hp) (vs : List V), Ext W H S W' H' S' → Sto K W' H' S' → Paired (fun v r => RV K H' W' H' v r ∧ r.s = .stb) vs rs → Q vs H'

theorem _root_.L2.PE.imp {X : Cx} {e : Expr} {t t' : TE} (h : PE X e t) (i : ∀ σ H Q, t' σ H Q → t σ H Q) : PE X e t' := ⟨fun pins s σ H Q I q => h.run pins s σ H Q I (i σ H Q q)⟩
theorem _root_.L2.PT.imp {X : Cx} {e : Expr} {t t' : TT} (h : PT X e t) (i : ∀ σ H Q, t' σ H Q → t σ H Q) : PT X e t' := ⟨fun pins s σ H Q I q => h.run pins s σ H Q I (i σ H Q q)⟩
theorem _root_.L2.PW.imp {X : Cx} {e : Expr} {t t' : TT} (h : PW X e t) (i : ∀ σ H Q, t' σ H Q → t σ H Q) : PW X e t' := ⟨fun w pins s σ H Q I q => h.run w pins s σ H Q I (i σ H Q q)⟩
theorem _root_.L2.PA.imp {X : Cx} {es : List Expr} {t t' : TA} (h : PA X es t) (i : ∀ σ H Q, t' σ H Q → t σ H Q) : PA X es t' := ⟨fun pos pins s σ H Q I q => h.run pos pins s σ H Q I (i σ H Q q)⟩

section
variable {K : KX} {C : Ctx} {W W' : Wd} {H H' H₀ : Hp} {S S' : AS} {v u : V} {r x y : R} {σ : L2.St} {ρ : Env} {gf : Nat → List Addr} {Q : VK}
/-- a second part behind a first one that may be seen in the store -/
theorem then_ok {α : Type} {c : Bool} {f : AS → Option (α × AS)} {z : α} {S2 : AS} (hg : guard c f S' = some (z, S2)) (e : Ext W H S W' H' S') (s : Sto K W' H' S') :
    ∃ S0 S0', f S0 = some (z, S0') ∧ Sto K W' H' S0 ∧ ∀ (W2 : Wd) (H2 : Hp), Ext W' H' S0 W2 H2 S0' → Sto K W2 H2 S0' → Ext W H S W2 H2 S2 ∧ Ext W' H' S' W2 H2 S2 ∧ Sto K W2 H2 S2 ∧ ∀ (v : V) (r : R) (Hs : Hp), RV K Hs W' H' v r → (isVol r = true → c = true) → RV K Hs W2 H2 v r := by
  obtain ⟨S0, S0', hf, ho, k⟩ := guard_use hg
  refine ⟨S0, S0', hf, s.os_ ho, fun W2 H2 e2 s2 => ?_⟩
  obtain ⟨k1, k2, k3⟩ := k _ _ _ _ e2
  exact ⟨e.trans k1, k1, s2.os_ k2, fun v r Hs rv hv => rv.ext e2 (s.os_ ho) fun z => k3 (hv z)⟩
theorem rv_int (h : RV K H₀ W H v r) {i : Int} (e : r.o.int? = some i) : v = .int i := by
  obtain ⟨fp, ho, _⟩ := h
  unfold O.int? at e
  split at e
  · rename_i j hj
    cases e
    rw [hj] at ho
    cases ho with
    | leaf h => cases h; rfl
  · cases e
theorem rv_bl (h : RV K H₀ W H v r) {b : Bool} (e : r.o.bl? = some b) : v = .bl b := by
  obtain ⟨fp, ho, _⟩ := h
  unfold O.bl? at e
  split at e
  · rename_i j hj
    cases e
    rw [hj] at ho
    cases ho with
    | leaf h => cases h; rfl
  · cases e
theorem rv_str (h : RV K H₀ W H v r) {b : List Nat} (e : r.o.str? = some b) : v = .str ⟨b.toArray⟩ := by
  obtain ⟨fp, ho, _⟩ := h
  unfold O.str? at e
  split at e
  · rename_i j hj
    cases e
    rw [hj] at ho
    cases ho with
    | leaf h => cases h; rfl
  · cases e
theorem zt_t {a : Addr} {vs : List V} (h : ZT K W H a vs) : SqT K H a vs := by
  rcases h with h | h
  · exact .inl h.2
  · obtain ⟨o, its, n, h1, h2, _, h4⟩ := h
    exact .inr ⟨o, its, n, h1, h2, h4⟩
theorem rv_tup (h : RV K H₀ W H v r) {ps : List P} (e : r.o.tupl = some ps) : ∃ a vs, v = .ref a ∧ SqT K H a vs ∧ RPs K W H vs ps := by
  obtain ⟨fp, ho, _⟩ := h
  unfold O.tupl at e
  split at e
  · rename_i qs hj
    cases e
    rw [hj] at ho
    cases ho with
    | leaf h => cases h with
      | tup h1 h2 => exact ⟨_, _, rfl, zt_t h1, h2⟩
  · cases e
theorem ros_leafs : ∀ {vs : List V} {os : List O} {fp : List Addr} {ps : List P}, ROs K W H vs os fp → O.leafs os = some ps → RPs K W H vs ps
  | _, _, _, _, .nil, e => by
    have e := e
    simp only [O.leafs, Option.some.injEq] at e
    exact e ▸ .nil
  | _, _, _, ps, .cons (v := v) (o := o) (vs := vs) (os := os) (f := f) (fp := fp) h hs, e => by
    cases h with
    | leaf h =>
      simp only [O.leafs] at e
      cases q : O.leafs os with
      | none => rw [q] at e; cases e
      | some qs =>
        rw [q] at e
        have e := Option.some.inj e
        exact e ▸ .cons h (ros_leafs hs q)
    | lst _ _ => simp only [O.leafs] at e; cases e
    | dct _ _ _ _ _ => simp only [O.leafs] at e; cases e
theorem rv_items (h : RV K H₀ W H v r) {ps : List P} (e : r.o.items = some ps) : ∃ a vs, v = .ref a ∧ H a = some (.lst vs) ∧ RPs K W H vs ps := by
  obtain ⟨fp, ho, _⟩ := h
  unfold O.items at e
  split at e
  · rename_i qs hj
    cases e
    rw [hj] at ho
    cases ho with
    | leaf h => cases h with
      | lst h1 h2 => exact ⟨_, _, rfl, h1.2, h2⟩
  · rename_i os hj
    rw [hj] at ho
    cases ho with
    | lst h1 h2 => exact ⟨_, _, rfl, h1, ros_leafs h2 e⟩
  · cases e
theorem rps_length : ∀ {vs : List V} {ps : List P}, RPs K W H vs ps → vs.length = ps.length
  | _, _, .nil => rfl
  | _, _, .cons _ h => by rw [List.length_cons, List.length_cons, rps_length h]
theorem rps_append : ∀ {vs us : List V} {ps qs : List P}, RPs K W H vs ps → RPs K W H us qs → RPs K W H (vs ++ us) (ps ++ qs)
  | _, _, _, _, .nil, h => h
  | _, _, _, _, .cons a b, h => .cons a (rps_append b h)
theorem sz_ok {n : Nat} (h : sz n = true) : n ≤ sizeLine := by
  have := of_decide_eq_true h
  rw [sizeLine_eq]; exact this
/-- a new list, a new tuple -/
theorem fin_L (e : Ext W H₀ S W' H' S') (s : Sto K W' H' S') {vs : List V} {ps : List P} (hs : RPs K W' H' vs ps) (k : ∀ (W2 : Wd) (H2 : Hp) (v : V), Ext W H₀ S W2 H2 S' → Sto K W2 H2 S' → RV K H₀ W2 H2 v (mkL ps) → Q v H2) :
    ∀ p, H' p = none → Q (.ref p) (upd H' p (.lst vs)) := fun p hp =>
  k W' _ _ (e.trans (ext_new s hp)) (sto_new s hp) (rv_newL s hp (e.back hp) hs)
theorem fin_T (e : Ext W H₀ S W' H' S') (s : Sto K W' H' S') {vs : List V} {ps : List P} (hs : RPs K W' H' vs ps) (k : ∀ (W2 : Wd) (H2 : Hp) (v : V), Ext W H₀ S W2 H2 S' → Sto K W2 H2 S' → RV K H₀ W2 H2 v (R.p (.tup ps)) → Q v H2) :
    ∀ p, H' p = none → Q (.ref p) (upd H' p (.tup vs)) := fun p hp => by
  obtain ⟨h1, h2, h3⟩ := rv_newT s hp hs
  exact k _ _ _ (e.trans h1) h2 (rv_p h3)
end

section
variable {X : Cx} {K : KX} {W W' : Wd} {H H' H₀ : Hp} {S S' : AS} {v u : V} {r x y : R} {Q : VK}
/-- what is wanted behind a step that gives r -/
abbrev Kp (K : KX) (H₀ : Hp) (W : Wd) (S S' : AS) (r : R) (Q : VK) : Prop := ∀ (W2 : Wd) (H2 : Hp) (v : V), Ext W H₀ S W2 H2 S' → Sto K W2 H2 S' → RV K H₀ W2 H2 v r → Q v H2
abbrev rAdd (K : KX) : R2 := fun v u H Q => (rI0 fun i j => .int (i + j)) v u H Q ∨ (∃ i j : Str, v = .str i ∧ u = .str j ∧ i.length + j.length ≤ sizeLine ∧ Q (.str (i ++ j)) H) ∨ rCatA K v u H Q ∨ rCat v u H Q
theorem opr_add : OpR X (binaryOp .Add) (rAdd X.kx) := op_add.or (op_add_str.or (op_catA.or op_cat))
theorem str_app (a b : List Nat) : (⟨a.toArray⟩ : Str) ++ (⟨b.toArray⟩ : Str) = ⟨(a ++ b).toArray⟩ := by
  show Str.append _ _ = _
  unfold Str.append
  simp
theorem add_ok (h : addR x y = some r) (e : Ext W H₀ S W' H S') (s : Sto K W' H S') (rx : RV K H₀ W' H v x) {Hy : Hp} (ry : RV K Hy W' H u y) (k : Kp K H₀ W S S' r Q) : rAdd K v u H Q := by
  unfold addR at h
  split at h
  · rename_i i j hi hj
    cases h
    exact .inl ⟨i, j, rv_int rx hi, rv_int ry hj, k _ _ _ e s (rv_p (.int _))⟩
  · split at h
    · rename_i a b ha hb
      split at h
      · rename_i hz
        cases h
        refine .inr (.inl ⟨_, _, rv_str rx ha, rv_str ry hb, ?_, ?_⟩)
        · have := sz_ok hz
          simpa [Str.length] using this
        · rw [str_app]
          exact k _ _ _ e s (rv_p (.str _))
      · cases h
    · split at h
      · rename_i a b ha hb
        split at h
        · rename_i hz
          cases h
          obtain ⟨p, vs, rfl, h1, h2⟩ := rv_tup rx ha
          obtain ⟨q, us, rfl, h3, h4⟩ := rv_tup ry hb
          have hl := sz_ok hz
          refine .inr (.inr (.inl ⟨p, q, vs, us, rfl, rfl, h1, h3, by rw [rps_length h2, rps_length h4]; exact hl, fun z => ?_, fun _ z => ?_, fun _ _ => fin_T e s (rps_append h2 h4) k⟩))
          · subst z
            cases h2
            obtain ⟨fp, ho, _⟩ := ry
            have : y.o = .leaf (.tup b) := by
              unfold O.tupl at hb
              split at hb
              · rename_i w hw; cases hb; exact hw
              · cases hb
            rw [this] at ho
            cases ho with
            | leaf h => exact k _ _ _ e s (rv_p h)
          · subst z
            cases h4
            obtain ⟨fp, ho, _⟩ := rx
            have : x.o = .leaf (.tup a) := by
              unfold O.tupl at ha
              split at ha
              · rename_i w hw; cases ha; exact hw
              · cases ha
            rw [this] at ho
            cases ho with
            | leaf h =>
              refine k _ _ _ e s (rv_p ?_)
              rw [List.append_nil]
              exact h
        · cases h
      · split at h
        · rename_i a b ha hb
          split at h
          · rename_i hz
            cases h
            obtain ⟨p, vs, rfl, h1, h2⟩ := rv_items rx ha
            obtain ⟨q, us, rfl, h3, h4⟩ := rv_items ry hb
            have hl := sz_ok hz
            exact .inr (.inr (.inr ⟨p, q, vs, us, rfl, rfl, h1, h3, by rw [rps_length h2, rps_length h4]; exact hl, fin_L e s (rps_append h2 h4) k⟩))
          · cases h
        · cases h
end
end U

set_option Elab.async false
set_option linter.all false
set_option maxRecDepth 100000
namespace U
open PySem L2

section
variable {K : KX} {W W' : Wd} {H H' H₀ Hy : Hp} {S S' : AS} {v u : V} {r x y : R} {Q : VK} {p q : P} {d e : PyData}
mutual
theorem RP.dp : ∀ {v : V} {p : P} {d : PyData}, RP K W H v p → p.data = some d → Dp K H v d
  | _, _, _, .non, h => by simp only [P.data, Option.some.injEq] at h; exact h ▸ .non
  | _, _, _, .bl b, h => by simp only [P.data, Option.some.injEq] at h; exact h ▸ .bl b
  | _, _, _, .int i, h => by simp only [P.data, Option.some.injEq] at h; exact h ▸ .int i
  | _, _, _, .str x, h => by simp only [P.data, Option.some.injEq] at h; exact h ▸ .str _
  | _, _, d, .tup (ps := ps) h1 h2, h => by
    simp only [P.data] at h
    cases q : P.datas ps with
    | none => rw [q] at h; cases h
    | some ds =>
      rw [q] at h
      have h := Option.some.inj h
      exact h ▸ .tup (zt_t h1) (RPs.dp h2 q)
  | _, _, d, .lst (ps := ps) h1 h2, h => by
    simp only [P.data] at h
    cases q : P.datas ps with
    | none => rw [q] at h; cases h
    | some ds =>
      rw [q] at h
      have h := Option.some.inj h
      exact h ▸ .lst (.inl (.inl h1.2)) (RPs.dp h2 q)
  | _, _, _, .ref _, h => by simp only [P.data] at h; cases h
  | _, _, _, .scr _, h => by simp only [P.data] at h; cases h
theorem RPs.dp : ∀ {vs : List V} {ps : List P} {ds : List PyData}, RPs K W H vs ps → P.datas ps = some ds → DpAll K H vs ds
  | _, _, _, .nil, h => by simp only [P.datas, Option.some.injEq] at h; exact h ▸ .nil
  | _, _, ds, .cons (p := p) (ps := ps) h1 h2, h => by
    simp only [P.datas] at h
    cases q : p.data with
    | none => rw [q] at h; cases h
    | some d =>
      cases q2 : P.datas ps with
      | none => rw [q, q2] at h; cases h
      | some es =>
        rw [q, q2] at h
        have h := Option.some.inj h
        exact h ▸ .cons (RP.dp h1 q) (RPs.dp h2 q2)
end
mutual
theorem RO.dp : ∀ {v : V} {o : O} {fp : List Addr} {p : P} {d : PyData}, RO K W H v o fp → o.val = some p → p.data = some d → Dp K H v d
  | _, _, _, _, _, .leaf h, e, h2 => by
    simp only [O.val, Option.some.injEq] at e
    subst e
    exact h.dp h2
  | _, _, _, p, d, .lst (os := os) h hs, e, h2 => by
    simp only [O.val] at e
    cases q : O.vals os with
    | none => rw [q] at e; cases e
    | some ps =>
      rw [q] at e
      have e := Option.some.inj e
      subst e
      simp only [P.data] at h2
      cases q2 : P.datas ps with
      | none => rw [q2] at h2; cases h2
      | some ds =>
        rw [q2] at h2
        have h2 := Option.some.inj h2
        exact h2 ▸ .lst (.inl (.inl h)) (ROs.dp hs q q2)
theorem ROs.dp : ∀ {vs : List V} {os : List O} {fp : List Addr} {ps : List P} {ds : List PyData}, ROs K W H vs os fp → O.vals os = some ps → P.datas ps = some ds → DpAll K H vs ds
  | _, _, _, _, _, .nil, e, h2 => by
    simp only [O.vals, Option.some.injEq] at e
    subst e
    simp only [P.datas, Option.some.injEq] at h2
    exact h2 ▸ .nil
  | _, _, _, ps, ds, .cons (o := o) (os := os) h hs, e, h2 => by
    simp only [O.vals] at e
    cases q : o.val with
    | none => rw [q] at e; cases e
    | some p =>
      cases q2 : O.vals os with
      | none => rw [q, q2] at e; cases e
      | some qs =>
        rw [q, q2] at e
        have e := Option.some.inj e
        subst e
        simp only [P.datas] at h2
        cases q3 : p.data with
        | none => rw [q3] at h2; cases h2
        | some d =>
          cases q4 : P.datas qs with
          | none => rw [q3, q4] at h2; cases h2
          | some es =>
            rw [q3, q4] at h2
            have h2 := Option.some.inj h2
            exact h2 ▸ .cons (RO.dp h q q3) (ROs.dp hs q2 q4)
end
theorem rps_at : ∀ {vs : List V} {ps : List P}, RPs K W H vs ps → ∀ i : Nat, (vs[i]? = none ∧ ps[i]? = none) ∨ ∃ v p, vs[i]? = some v ∧ ps[i]? = some p ∧ RP K W H v p
  | _, _, .nil, i => .inl ⟨by simp, by simp⟩
  | _, _, .cons h hs, 0 => .inr ⟨_, _, rfl, rfl, h⟩
  | _, _, .cons h hs, i + 1 => by simpa using rps_at hs i
mutual
theorem RP.nk_ : ∀ {v : V} {p : P} {k : NestedKey}, RP K W H v p → p.nk = some k → NK K.K H v k
  | _, _, _, .non, e => by simp only [P.nk, Option.some.injEq] at e; subst e; exact .non
  | _, _, _, .bl b, e => by simp only [P.nk, Option.some.injEq] at e; subst e; exact .bl b
  | _, _, _, .int i, e => by simp only [P.nk, Option.some.injEq] at e; subst e; exact .int i
  | _, _, _, .str x, e => by simp only [P.nk, Option.some.injEq] at e; subst e; exact .str _
  | _, _, _, .tup h hs, e => by
    simp only [P.nk] at e
    obtain ⟨ks, h1, rfl⟩ := Option.map_eq_some_iff.mp e
    exact .tup (zt_t h) (RPs.nk_ hs h1)
  | _, _, _, .lst _ _, e => by simp only [P.nk] at e; cases e
  | _, _, _, .ref _, e => by simp only [P.nk] at e; cases e
  | _, _, _, .scr _, e => by simp only [P.nk] at e; cases e
theorem RPs.nk_ : ∀ {vs : List V} {ps : List P} {ks : List NestedKey}, RPs K W H vs ps → P.nks ps = some ks → NKs K.K H vs ks
  | _, _, _, .nil, e => by simp only [P.nks, Option.some.injEq] at e; subst e; exact .nil
  | _, _, _, .cons h hs, e => by
    simp only [P.nks] at e
    split at e
    · rename_i k ks h1 h2
      cases e
      exact .cons (RP.nk_ h h1) (RPs.nk_ hs h2)
    · cases e
end
theorem key_nk {k : NestedKey} (h : p.key = some k) : p.nk = some k ∧ k.depth ≤ 8 := by
  unfold P.key at h
  split at h
  · rename_i k' h1
    split at h
    · rename_i h2
      cases h
      exact ⟨h1, h2⟩
    · cases h
  · cases h
theorem rp_key {k : NestedKey} (h : RP K W H v p) (e : p.key = some k) : NKd K.K H v k := ⟨h.nk_ (key_nk e).1, (key_nk e).2⟩
theorem dks_of : ∀ {es : List EnV} {ks : List P}, RPs K W H (es.map (·.2.1)) ks → P.nks ks = some (es.map (·.1)) → (∀ e ∈ es, e.1.depth ≤ 8) → DKs K.K H es
  | [], _, _, _, _ => fun e h => by cases h
  | e :: es, [], h, _, _ => by rw [List.map_cons] at h; cases h
  | e :: es, k :: ks, h, e1, e2 => by
    rw [List.map_cons] at h
    cases h with
    | cons h1 h2 =>
      simp only [P.nks] at e1
      split at e1
      · rename_i q qs h3 h4
        rw [List.map_cons] at e1
        have e1 := Option.some.inj e1
        injection e1 with e3 e4
        intro x hx
        rcases List.mem_cons.mp hx with rfl | hx
        · exact ⟨e3 ▸ h1.nk_ h3, e2 _ List.mem_cons_self⟩
        · exact dks_of h2 (e4 ▸ h4) (fun y hy => e2 y (List.mem_cons_of_mem _ hy)) x hx
      · cases e1
theorem ixK_ixE : ∀ {es : List EnV} {ks : List P} (k : NestedKey), P.nks ks = some (es.map (·.1)) → ixK ks k = ixE es k
  | [], [], k, _ => rfl
  | [], p :: ks, k, e => by
    simp only [P.nks] at e
    split at e <;> cases e
  | e :: es, [], k, h => by simp only [P.nks, List.map_cons, Option.some.injEq] at h; cases h
  | e :: es, p :: ks, k, h => by
    simp only [P.nks] at h
    split at h
    · rename_i q qs h3 h4
      rw [List.map_cons] at h
      have h := Option.some.inj h
      injection h with e3 e4
      have ih := ixK_ixE (es := es) (ks := ks) k (e4 ▸ h4)
      unfold ixK ixE at ih ⊢
      rw [List.findIdx?_cons, List.findIdx?_cons, ih, h3, e3]
      have : decide ((some e.1 : Option NestedKey) = some k) = decide (e.1 = k) := by
        by_cases hh : e.1 = k
        · simp [hh]
        · simp [hh]
      rw [this]
    · cases h
theorem dGet_val {es : List EnV} {ks qs : List P} {k : NestedKey} (h1 : P.nks ks = some (es.map (·.1))) (h2 : RPs K W H (es.map (·.2.2)) qs) : (dGet ks qs k = none ∧ valE es k = none) ∨ ∃ q v, dGet ks qs k = some q ∧ valE es k = some v ∧ RP K W H v q := by
  unfold dGet valE
  rw [ixK_ixE k h1]
  cases ixE es k with
  | none => exact .inl ⟨rfl, rfl⟩
  | some i =>
    simp only [Option.bind_some]
    have := rps_at h2 i
    rcases this with ⟨e1, e2⟩ | ⟨v, q, e1, e2, r⟩
    · rw [List.getElem?_map] at e1
      exact .inl ⟨e2, by rw [Option.map_eq_none_iff] at e1 ⊢; exact e1⟩
    · rw [List.getElem?_map] at e1
      refine .inr ⟨q, v, e2, ?_, r⟩
      exact e1
theorem shp_of (h : p.shp = some d) : p.data = some d ∧ SeqAt.shaped d = true := by
  unfold P.shp at h
  split at h
  · rename_i e he
    split at h
    · rename_i hs
      cases h
      exact ⟨he, hs⟩
    · cases h
  · cases h
theorem rv_dp (h : RV K H₀ W H v r) (e : r.o.val = some p) (h2 : p.shp = some d) : Dp K H v d ∧ SeqAt.shaped d = true := by
  obtain ⟨fp, ho, _⟩ := h
  obtain ⟨h3, h4⟩ := shp_of h2
  exact ⟨ho.dp e h3, h4⟩
theorem eqP_of (h : eqP p q = some b) : ∃ d e, p.shp = some d ∧ q.shp = some e ∧ b = d.eqv e := by
  unfold eqP at h
  split at h
  · rename_i d e h1 h2
    cases h
    exact ⟨d, e, h1, h2, rfl⟩
  · cases h
theorem isNon_eq (h : RV K H₀ W H v r) : isNon r.o = decide (v = .non) := by
  obtain ⟨fp, ho, _⟩ := h
  cases hr : r.o with
  | leaf p =>
    rw [hr] at ho
    cases ho with
    | leaf h => cases h <;> rfl
  | lst os => rw [hr] at ho; cases ho; rfl
  | dct ep ks vs => rw [hr] at ho; cases ho; rfl
  | ins c fs => rw [hr] at ho; cases ho
theorem isNon_non (h : RV K H₀ W H v r) (e : isNon r.o = true) : v = .non := by
  rw [isNon_eq h] at e
  exact of_decide_eq_true e
theorem flat_dp : ∀ {v : V} {p : P} {d : PyData}, RP K W H v p → flatP p = true → p.data = some d → flatV v = true
  | _, _, _, .non, _, _ => rfl
  | _, _, _, .bl _, _, _ => rfl
  | _, _, _, .int _, _, _ => rfl
  | _, _, _, .str _, _, _ => rfl
  | _, _, _, .tup _ _, h, _ => by cases h
  | _, _, _, .lst _ _, h, _ => by cases h
  | _, _, _, .ref _, h, _ => by cases h
  | _, _, _, .scr _, h, _ => by cases h
theorem flat_eqV : ∀ {v u : V} {p q : P} {d e : PyData}, RP K W H v p → RP K W H u q → flatP p = true → flatP q = true → p.data = some d → q.data = some e → eqV v u = d.eqv e := by
  intro v u p q d e h1 h2 f1 f2 d1 d2
  cases h1 <;> first
    | (cases f1; done)
    | (cases h2 <;> first
      | (cases f2; done)
      | (simp only [P.data, Option.some.injEq] at d1 d2; subst d1 d2; rfl))
theorem flat_all : ∀ {vs : List V} {ps : List P}, RPs K W H vs ps → ps.all flatP = true → (∃ ds, P.datas ps = some ds) → vs.all flatV = true
  | _, _, .nil, _, _ => rfl
  | _, _, .cons (p := p) (ps := ps) h hs, f, ⟨ds, e⟩ => by
    simp only [List.all_cons, Bool.and_eq_true] at f ⊢
    simp only [P.datas] at e
    cases q : p.data with
    | none => rw [q] at e; cases e
    | some d =>
      cases q2 : P.datas ps with
      | none => rw [q, q2] at e; cases e
      | some es => exact ⟨flat_dp h f.1 q, flat_all hs f.2 ⟨es, q2⟩⟩
theorem flat_any {v : V} {p : P} {d : PyData} (h : RP K W H v p) (f : flatP p = true) (hd : p.data = some d) : ∀ {vs : List V} {ps : List P} {ds : List PyData}, RPs K W H vs ps → ps.all flatP = true → P.datas ps = some ds → inV v vs = ds.any fun z => PyData.eqv z d
  | _, _, _, .nil, _, e => by simp only [P.datas, Option.some.injEq] at e; subst e; rfl
  | _, _, ds, .cons (p := q) (ps := ps) h1 hs, g, e => by
    simp only [List.all_cons, Bool.and_eq_true] at g
    simp only [P.datas] at e
    cases q1 : q.data with
    | none => rw [q1] at e; cases e
    | some d1 =>
      cases q2 : P.datas ps with
      | none => rw [q1, q2] at e; cases e
      | some es =>
        rw [q1, q2] at e
        have e := Option.some.inj e
        subst e
        have ih := flat_any h f hd hs g.2 q2
        unfold inV at ih ⊢
        rw [List.any_cons, List.any_cons, ih, flat_eqV h1 h g.1 f q1 hd]
theorem rv_val_leaf {p : P} (h : RV K H₀ W H v r) (e : r.o.val = some p) (f : flatP p = true) : RP K W H v p := by
  obtain ⟨fp, ho, _⟩ := h
  cases hr : r.o with
  | leaf q =>
    rw [hr] at ho e
    simp only [O.val, Option.some.injEq] at e
    subst e
    cases ho with
    | leaf h => exact h
  | lst os =>
    rw [hr] at e
    simp only [O.val] at e
    cases q : O.vals os with
    | none => rw [q] at e; cases e
    | some ps => rw [q] at e; have e := Option.some.inj e; subst e; cases f
  | dct ep ks vs => rw [hr] at e; simp only [O.val] at e; cases e
  | ins c fs => rw [hr] at ho; cases ho

abbrev rIsIn (K : KX) : R2 := fun v u H Q => rIn K false v u H Q ∨ rInD K v u H Q
abbrev rNotIn (K : KX) : R2 := fun v u H Q => rIn K true v u H Q ∨ rNotInD K v u H Q
abbrev rIs : R2 := fun x y H Q => y = .non ∧ Q (.bl (decide (x = .non))) H
abbrev rIsN : R2 := fun x y H Q => y = .non ∧ Q (.bl (!decide (x = .non))) H
def rC (K : KX) : COp → R2
  | .eq => rEqD K
  | .ne => rNeD K
  | .lt => rI0 fun i j => .bl (decide (i < j))
  | .le => rI0 fun i j => .bl (decide (i ≤ j))
  | .gt => rI0 fun i j => .bl (decide (j < i))
  | .ge => rI0 fun i j => .bl (decide (j ≤ i))
  | .is => rIs
  | .isn => rIsN
  | .isin => fun v u H Q => rIsIn K v u H Q ∨ rDIn K.K K.w false v u H Q
  | .nin => fun v u H Q => rNotIn K v u H Q ∨ rDIn K.K K.w true v u H Q
theorem opr_cmp {X : Cx} {k : Nat} (hr : Room k X.A) (op : CmpOp) : OpR X (compareOp op) (rC X.kx (cC op)) := by
  have h1 : X.A.units + 64 < cLine := hr.units
  have h2 : X.A.units + 65 < cLine := by have := hr.un; omega
  cases op with
  | Eq => exact op_eqD h1
  | NotEq => exact op_neD h1
  | Lt => exact op_lt
  | LtE => exact op_le
  | Gt => exact op_gt
  | GtE => exact op_ge
  | Is => exact op_isN
  | IsNot => exact op_notN
  | In => exact (op_in_seq.or (op_inD h2)).or (op_dIn (by omega))
  | NotIn => exact (op_notIn_seq.or (op_notInD h2)).or (op_dNotIn (by omega))
theorem inP_ok {b : Bool} (h : inP p y.o = some b) (hx : x.o.val = some p) (rx : RV K H₀ W H v x) (ry : RV K Hy W H u y) (neg : Bool) (k : Q (.bl (if neg then !b else b)) H) :
    rIn K neg v u H Q ∨ (∃ d ds, Dp K H v d ∧ Dp K H u (.list ds) ∧ SeqAt.shaped d = true ∧ SeqAt.shaped (.list ds) = true ∧ b = ds.any fun z => PyData.eqv z d) := by
  have go : ∀ (o : O), y.o = o → (match o.val with
    | some (.lst ys) => match p.shp, (P.lst ys).shp with
      | some d, some (.list ds) => some (ds.any fun z => PyData.eqv z d)
      | _, _ => none
    | _ => none) = some b → (∃ d ds, Dp K H v d ∧ Dp K H u (.list ds) ∧ SeqAt.shaped d = true ∧ SeqAt.shaped (.list ds) = true ∧ b = ds.any fun z => PyData.eqv z d) := fun o ho h => by
    split at h
    · rename_i ys hv
      split at h
      · rename_i d ds h1 h2
        cases h
        obtain ⟨a1, a2⟩ := rv_dp rx hx h1
        obtain ⟨b1, b2⟩ := rv_dp ry (by rw [ho]; exact hv) h2
        exact ⟨d, ds, a1, b1, a2, b2, rfl⟩
      · cases h
    · cases h
  unfold inP at h
  split at h
  · rename_i ys hy
    split at h
    · rename_i hf
      split at h
      · rename_i d ds h1 h2
        cases h
        left
        simp only [Bool.and_eq_true] at hf
        obtain ⟨a, us, rfl, h3, h4⟩ := rv_tup ry (ps := ys) (by rw [hy]; rfl)
        have hv := rv_val_leaf rx hx hf.1
        refine ⟨a, us, rfl, .inr h3, flat_dp hv hf.1 h1, flat_all h4 hf.2 ⟨ds, h2⟩, ?_⟩
        rw [flat_any hv hf.1 h1 h4 hf.2 h2]
        exact k
      · cases h
    · cases h
  · exact .inr (go _ rfl h)
theorem inD_ok {b : Bool} {ep : Nat} {ks qs : List P} (hy : y.o = .dct ep ks qs) (h : (p.key.map fun k => (ixK ks k).isSome) = some b) (hx : x.o.val = some p) (rx : RV K H₀ W H v x) (ry : RV K Hy W H u y) :
    ∃ a ep es k, u = .ref a ∧ H a = some (DH K.w a ep es) ∧ DKs K.K H es ∧ NKd K.K H v k ∧ b = (valE es k).isSome := by
  obtain ⟨k, h1, h2⟩ := Option.map_eq_some_iff.mp h
  obtain ⟨fp, ho, _⟩ := ry
  rw [hy] at ho
  cases ho with
  | dct g1 g2 g3 g4 g5 =>
    obtain ⟨f2, hv, _⟩ := rx
    have hp : x.o = .leaf p := by
      cases hr : x.o with
      | leaf q => rw [hr] at hx; simp only [O.val, Option.some.injEq] at hx; rw [hx]
      | lst os =>
        rw [hr] at hx
        simp only [O.val] at hx
        cases q : O.vals os with
        | none => rw [q] at hx; cases hx
        | some ps =>
          rw [q] at hx
          have hx := Option.some.inj hx
          subst hx
          have := (key_nk h1).1
          simp only [P.nk] at this; cases this
      | dct ep ks vs => rw [hr] at hx; simp only [O.val] at hx; cases hx
      | ins c fs => rw [hr] at hx; simp only [O.val] at hx; cases hx
    rw [hp] at hv
    cases hv with
    | leaf hv =>
      refine ⟨_, _, _, k, rfl, g1, dks_of g2 g3 g4, rp_key hv h1, ?_⟩
      rw [← h2, ixK_ixE k g3]
      unfold valE
      cases hi : ixE _ k with
      | none => rfl
      | some i =>
        simp only [Option.isSome_some, Option.bind_some, Option.isSome_map]
        unfold ixE at hi
        obtain ⟨hl, _⟩ := List.findIdx?_eq_some_iff_getElem.mp hi
        rw [List.getElem?_eq_getElem hl]; rfl
theorem inA_ok {b : Bool} (h : inA p y.o = some b) (hx : x.o.val = some p) (rx : RV K H₀ W H v x) (ry : RV K Hy W H u y) (neg : Bool) (k : Q (.bl (if neg then !b else b)) H) :
    (rIn K.K neg v u H Q ∨ (∃ d ds, Dp K.K H v d ∧ Dp K.K H u (.list ds) ∧ SeqAt.shaped d = true ∧ SeqAt.shaped (.list ds) = true ∧ b = ds.any fun z => PyData.eqv z d)) ∨ rDIn K.K K.w neg v u H Q := by
  unfold inA at h
  split at h
  · rename_i ep ks vs hy
    obtain ⟨a, ep, es, k2, h1, h2, h3, h4, h5⟩ := inD_ok hy h hx rx ry
    refine .inr ⟨a, ep, es, k2, h1, h2, h3, h4, ?_⟩
    rw [← h5]; exact k
  · exact .inl (inP_ok h hx rx ry neg k)
theorem cmp_ok {o : COp} {b : Bool} (h : cmpR o x y = some b) (rx : RV K H₀ W H v x) (ry : RV K Hy W H u y) (k : Q (.bl b) H) : rC K o v u H Q := by
  cases o with
  | eq =>
    simp only [cmpR] at h
    split at h
    · rename_i p q h1 h2
      obtain ⟨d, e, h3, h4, rfl⟩ := eqP_of h
      obtain ⟨a1, a2⟩ := rv_dp rx h1 h3
      obtain ⟨b1, b2⟩ := rv_dp ry h2 h4
      exact ⟨d, e, a1, b1, a2, b2, k⟩
    · cases h
  | ne =>
    simp only [cmpR] at h
    split at h
    · rename_i p q h1 h2
      cases he : eqP p q with
      | none => rw [he] at h; cases h
      | some c =>
        rw [he] at h
        have h := Option.some.inj h
        obtain ⟨d, e, h3, h4, rfl⟩ := eqP_of he
        obtain ⟨a1, a2⟩ := rv_dp rx h1 h3
        obtain ⟨b1, b2⟩ := rv_dp ry h2 h4
        subst h
        exact ⟨d, e, a1, b1, a2, b2, k⟩
    · cases h
  | lt | le | gt | ge =>
    simp only [cmpR, intCmp] at h
    split at h
    · rename_i i j h1 h2
      cases h
      exact ⟨i, j, rv_int rx h1, rv_int ry h2, k⟩
    · cases h
  | is =>
    simp only [cmpR] at h
    split at h
    · rename_i hn
      cases h
      rw [isNon_eq rx] at k
      exact ⟨isNon_non ry hn, k⟩
    · cases h
  | isn =>
    simp only [cmpR] at h
    split at h
    · rename_i hn
      cases h
      rw [isNon_eq rx] at k
      exact ⟨isNon_non ry hn, k⟩
    · cases h
  | isin =>
    simp only [cmpR] at h
    split at h
    · rename_i p hp
      rcases inA_ok h hp rx ry false k with (h | ⟨d, ds, h1, h2, h3, h4, rfl⟩) | h
      · exact .inl (.inl h)
      · exact .inl (.inr ⟨d, ds, h1, h2, h3, h4, k⟩)
      · exact .inr h
    · cases h
  | nin =>
    simp only [cmpR] at h
    split at h
    · rename_i p hp
      cases he : inA p y.o with
      | none => rw [he] at h; cases h
      | some c =>
        rw [he] at h
        have h := Option.some.inj h
        subst h
        rcases inA_ok he hp rx ry true k with (h | ⟨d, ds, h1, h2, h3, h4, rfl⟩) | h
        · exact .inl (.inl h)
        · exact .inl (.inr ⟨d, ds, h1, h2, h3, h4, k⟩)
        · exact .inr h
    · cases h
end
end U

set_option Elab.async false
set_option linter.all false
set_option maxRecDepth 100000
namespace U
open PySem L2 PySem.Spec PyProof.Rows

theorem tup_mul_same (l : Addr) (its : Array Value) (n : Nat) (dd : Option Addr) (sl : Array (Option Value)) (x : Int) (u : Tok) (c0 : (decide (x < -(2 ^ 63)) || decide (x ≥ 2 ^ 63)) = false) (c1 : (its.isEmpty || x == 1) = true) :
    Meets (Builtin.«tuple.__mul__» ⟨[.ref l, .int x u], []⟩) (fun _ R s => s.heap.get? l = some { cls := .type "tuple", dict := dd, data := .seq its n, slots := sl } ∧ R (.ok (.ret (Value.ref l))) s) :=
  .of_wp fun prog w A R s h => by
    obtain ⟨hp, gg, dr, tk, os⟩ := s
    obtain ⟨hl, h⟩ := h
    have f1 := AutoSeq1.idx_int
    wp_walk using wpAny_loadPart' hl
    repeat (first
      | (refine wpAny_ite_false (decide_eq_false (by rw [c0]; exact Bool.false_ne_true)) ?_; wp_walk using wpAny_loadPart' hl)
      | (refine wpAny_ite_true (decide_eq_true (by rw [c1])) ?_; wp_walk using wpAny_loadPart' hl))
    exact ⟨_, rfl, h⟩
theorem tup_mul_none (l : Addr) (its : Array Value) (n : Nat) (dd : Option Addr) (sl : Array (Option Value)) (x : Int) (u : Tok) (c0 : (decide (x < -(2 ^ 63)) || decide (x ≥ 2 ^ 63)) = false) (c1 : (its.isEmpty || x == 1) = false) (c2 : (decide (x ≤ 0) || its.isEmpty) = true) :
    Meets (Builtin.«tuple.__mul__» ⟨[.ref l, .int x u], []⟩) (fun _ R s => s.heap.get? l = some { cls := .type "tuple", dict := dd, data := .seq its n, slots := sl } ∧
      R (.ok (.ret (Value.ref s.heap.objs.size))) { s with heap := s.heap.push { cls := Value.type "tuple", data := Data.seq #[] }, toks := s.toks }) :=
  .of_wp fun prog w A R s h => by
    obtain ⟨hp, gg, dr, tk, os⟩ := s
    obtain ⟨hl, h⟩ := h
    have f1 := AutoSeq1.idx_int
    wp_walk using wpAny_loadPart' hl
    repeat (first
      | (refine wpAny_ite_false (decide_eq_false (by rw [c0]; exact Bool.false_ne_true)) ?_; wp_walk using wpAny_loadPart' hl)
      | (refine wpAny_ite_false (decide_eq_false (by rw [c1]; exact Bool.false_ne_true)) ?_; wp_walk using wpAny_loadPart' hl)
      | (refine wpAny_ite_true (decide_eq_true (by rw [c2])) ?_; wp_walk using wpAny_loadPart' hl))
    exact ⟨_, rfl, h⟩
/-- a tuple times a number: itself, nothing, or a new one -/
def rRepS (K : KX) : R2 := fun x y H Q => ∃ l k xs, x = .ref l ∧ y = .int k ∧ SqT K H l xs ∧ -1000 ≤ k ∧ k ≤ 1000 ∧
  (xs = [] ∨ k ≤ 1) ∧ ((xs = [] ∨ k = 1) → Q (.ref l) H) ∧ (xs ≠ [] → k ≤ 0 → ∀ p, H p = none → Q (.ref p) (upd H p (.tup [])))
theorem op_repS {X : Cx} : OpR X (binaryOp .Mult) (rRepS X.kx) := by
  intro pins s σ H x y v u Q I rx ry h
  obtain ⟨l, k, xs, rfl, rfl, hT, h1, h2, h3, q1, q2⟩ := h
  cases rx
  obtain ⟨t, rfl⟩ := ry
  obtain ⟨its, r, ⟨⟨cls, dd, data, sl⟩, ho, hc, n, hd⟩, hs⟩ := I.tuple hT
  simp only at hc hd
  subst hc hd
  have c0 : (decide (k < -(2 ^ 63)) || decide (k ≥ 2 ^ 63)) = false := by
    rw [decide_eq_false (by omega), decide_eq_false (by omega)] <;> rfl
  have hem : its.toArray.isEmpty = decide (xs = []) := by
    cases r with
    | nil => rfl
    | cons a b => simp
  have main : wpAny (model X.prog X.w) X.A (call (.builtin "tuple.__mul__") [.ref l, .int k t]) (EP X pins σ Q) X.xe s := by
    by_cases hsame : xs = [] ∨ k = 1
    · have c1 : (its.toArray.isEmpty || k == 1) = true := by
        rw [hem]
        rcases hsame with e | e
        · simp [e]
        · simp [e]
      exact call_meets F.slot_tuple_mul ⟨_, ho, rfl⟩ F.entry_tuple_mul (F.args_tuple_mul_2 _ _) (tup_mul_same l its.toArray n dd sl k t c0 c1) ⟨ho, .ref l, H, I, rfl, q1 hsame⟩
    · simp only [not_or] at hsame
      have c1 : (its.toArray.isEmpty || k == 1) = false := by
        rw [hem]
        simp [hsame.1, hsame.2]
      by_cases hk : k ≤ 0
      · have c2 : (decide (k ≤ 0) || its.toArray.isEmpty) = true := by simp [hk]
        refine call_meets F.slot_tuple_mul ⟨_, ho, rfl⟩ F.entry_tuple_mul (F.args_tuple_mul_2 _ _) (tup_mul_none l its.toArray n dd sl k t c0 c1 c2) ⟨ho, ?_⟩
        refine ⟨.ref s.heap.objs.size, _, I.laid (t' := s.toks) (o := .tup []) (fun b ob q => Heap.get?_push_of_some _ q) (Nat.le_refl _) ?_, rfl, q2 hsame.1 hk _ (I.hok.fresh (Nat.le_refl _))⟩
        exact ⟨Nat.zero_le _, [], .nil, IsTup.new _ _⟩
      · rcases h3 with e | e
        · exact absurd e hsame.1
        · exact absurd (show k = 1 by omega) hsame.2
  exact wpAny_binaryOp_repeat_ref (T := "tuple") (U := "int") (by decide) ⟨_, ho, rfl⟩ (fun s' => typeIs_int s' k t) noFill_tuple_mul F.fills_int_mul F.slot_int_rmul repeat_tuple F.slot_int_index.lookup
    (call_meets F.slot_int_rmul (typeIs_int s k t) F.entry_int_rmul (F.args_int_rmul_2 _ _) (int_rmul_tuple k t l its.toArray n dd sl) ⟨ho, rfl, ⟨_, ho, rfl⟩, main⟩)

section
variable {K : KX} {W W' : Wd} {H H' H₀ Hy : Hp} {S S' : AS} {v u : V} {r x y : R} {Q : VK}
theorem rps_flatten {vs : List V} {ps : List P} (h : RPs K W H vs ps) : ∀ n : Nat, RPs K W H (List.replicate n vs).flatten (List.replicate n ps).flatten
  | 0 => .nil
  | n + 1 => by
    rw [List.replicate_succ, List.replicate_succ, List.flatten_cons, List.flatten_cons]
    exact rps_append h (rps_flatten h n)
theorem o_tupl {o : O} {ps : List P} (h : o.tupl = some ps) : o = .leaf (.tup ps) := by
  unfold O.tupl at h
  split at h
  · cases h; rfl
  · cases h
/-- a tuple as a value -/
theorem rv_tupv (h : RV K H₀ W H v r) {ps : List P} (e : r.o.tupl = some ps) : RP K W H v (.tup ps) := by
  obtain ⟨fp, ho, _⟩ := h
  rw [o_tupl e] at ho
  cases ho with
  | leaf h => exact h
def rB (K : KX) : BOp → R2
  | .add => rAdd K
  | .sub => rI0 fun i j => .int (i - j)
  | .mul => fun x y H Q => (rI CMul fun i j => .int (i * j)) x y H Q ∨ rRepT K x y H Q ∨ rRepS K x y H Q
  | .fdiv => rI CDiv fun i j => .int (i / j)
  | .mod => rI (fun _ j => 0 < j) fun i j => .int (i % j)
  | .pow => rI CPow fun i j => .int (i ^ j.toNat)
theorem opr_bin {X : Cx} {op : Operator} {o : BOp} (h : cB op = some o) : OpR X (binaryOp op) (rB X.kx o) := by
  cases op <;> first
    | (cases h; done)
    | (cases h; first | exact opr_add | exact op_sub | exact op_mul.or (op_repT.or op_repS) | exact op_fdiv | exact op_mod | exact op_pow)
theorem lt_small {i : Int} (h : ltSmall i = true) : -(2 ^ 64) < i ∧ i < 2 ^ 64 := by
  unfold ltSmall at h
  simp only [Bool.and_eq_true, decide_eq_true_eq] at h
  exact h
theorem mul_ok (h : mulR x y = some r) (e : Ext W H₀ S W' H S') (s : Sto K W' H S') (rx : RV K H₀ W' H v x) (ry : RV K Hy W' H u y) (k : Kp K H₀ W S S' r Q) : rB K .mul v u H Q := by
  unfold mulR at h
  split at h
  · cases h
  · rename_i j hj
    have eu := rv_int ry hj
    subst eu
    split at h
    · rename_i i hi
      have ev := rv_int rx hi
      subst ev
      split at h
      · rename_i hb
        cases h
        refine .inl ⟨i, j, rfl, rfl, ?_, k _ _ _ e s (rv_p (.int _))⟩
        rw [Bool.or_eq_true] at hb
        rcases hb with hb | hb
        · exact .inl (lt_small hb)
        · exact .inr (lt_small hb)
      · cases h
    · split at h
      · rename_i ps hp
        split at h
        · rename_i hb
          cases h
          simp only [Bool.and_eq_true, decide_eq_true_eq] at hb
          obtain ⟨hb1, hb2, hb3⟩ := hb
          obtain ⟨a, vs, rfl, h1, h2⟩ := rv_tup rx hp
          have hl := rps_length h2
          right
          by_cases hc : vs = [] ∨ j ≤ 1
          · refine .inr ⟨a, j, vs, rfl, rfl, h1, hb2, hb3, hc, fun hz => ?_, fun _ hk => ?_⟩
            · refine k _ _ _ e s (rv_p ?_)
              have hv := rv_tupv rx hp
              rcases hz with z | z
              · subst z
                cases h2
                have : (List.replicate j.toNat ([] : List P)).flatten = [] := by simp
                rw [this]
                exact hv
              · subst z
                show RP K W' H _ (.tup (List.replicate 1 ps).flatten)
                rw [List.replicate_one, List.flatten_cons, List.flatten_nil, List.append_nil]
                exact hv
            · have hj0 : j.toNat = 0 := by omega
              rw [hj0] at k
              exact fin_T e s .nil k
          · simp only [not_or] at hc
            exact .inl ⟨a, j, vs, rfl, rfl, h1, hc.1, by omega, hb3, by omega, fin_T e s (rps_flatten h2 j.toNat) k⟩
        · cases h
      · cases h
theorem bin_ok {o : BOp} (h : binR o x y = some r) (e : Ext W H₀ S W' H S') (s : Sto K W' H S') (rx : RV K H₀ W' H v x) (ry : RV K Hy W' H u y) (k : Kp K H₀ W S S' r Q) : rB K o v u H Q := by
  cases o with
  | add => exact add_ok h e s rx ry k
  | mul => exact mul_ok h e s rx ry k
  | sub =>
    simp only [binR] at h
    split at h
    · rename_i i j hi hj
      cases h
      exact ⟨i, j, rv_int rx hi, rv_int ry hj, k _ _ _ e s (rv_p (.int _))⟩
    · cases h
  | fdiv =>
    simp only [binR] at h
    split at h
    · rename_i i j hi hj
      split at h
      · rename_i hb
        cases h
        simp only [Bool.and_eq_true, decide_eq_true_eq] at hb
        exact ⟨i, j, rv_int rx hi, rv_int ry hj, hb, k _ _ _ e s (rv_p (.int _))⟩
      · cases h
    · cases h
  | mod =>
    simp only [binR] at h
    split at h
    · rename_i i j hi hj
      split at h
      · rename_i hb
        cases h
        exact ⟨i, j, rv_int rx hi, rv_int ry hj, of_decide_eq_true hb, k _ _ _ e s (rv_p (.int _))⟩
      · cases h
    · cases h
  | pow =>
    simp only [binR] at h
    split at h
    · rename_i i j hi hj
      split at h
      · rename_i hb
        cases h
        simp only [Bool.and_eq_true, decide_eq_true_eq] at hb
        exact ⟨i, j, rv_int rx hi, rv_int ry hj, hb, k _ _ _ e s (rv_p (.int _))⟩
      · cases h
    · cases h

theorem rps_get : ∀ {vs : List V} {ps : List P} {j : Nat} {p : P}, RPs K W H vs ps → ps[j]? = some p → ∃ v, vs[j]? = some v ∧ RP K W H v p
  | _, _, _, _, .nil, h => by simp at h
  | _, _, 0, _, .cons a b, h => by
    simp only [List.getElem?_cons_zero, Option.some.injEq] at h
    subst h
    exact ⟨_, rfl, a⟩
  | _, _, j + 1, _, .cons a b, h => by
    simp only [List.getElem?_cons_succ] at h ⊢
    exact rps_get b h
theorem ros_length : ∀ {vs : List V} {os : List O} {fp : List Addr}, ROs K W H vs os fp → vs.length = os.length
  | _, _, _, .nil => rfl
  | _, _, _, .cons _ h => by rw [List.length_cons, List.length_cons, ros_length h]
theorem ros_get : ∀ {vs : List V} {os : List O} {fp : List Addr} {j : Nat} {o : O}, ROs K W H vs os fp → os[j]? = some o → ∃ v f, vs[j]? = some v ∧ RO K W H v o f ∧ ∀ a ∈ f, a ∈ fp
  | _, _, _, _, _, .nil, h => by simp at h
  | _, _, _, 0, _, .cons a b, h => by
    simp only [List.getElem?_cons_zero, Option.some.injEq] at h
    subst h
    exact ⟨_, _, rfl, a, fun c hc => List.mem_append_left _ hc⟩
  | _, _, _, j + 1, _, .cons a b, h => by
    simp only [List.getElem?_cons_succ] at h ⊢
    obtain ⟨v, f, h1, h2, h3⟩ := ros_get b h
    exact ⟨v, f, h1, h2, fun c hc => List.mem_append_right _ (h3 c hc)⟩
theorem atI_some {α : Type} {xs : List α} {i : Int} {z : α} (h : atI xs i = some z) : ∃ j, ixN xs.length i = some j ∧ xs[j]? = some z := by
  unfold atI at h
  cases e : ixN xs.length i with
  | none => rw [e] at h; cases h
  | some j => rw [e] at h; exact ⟨j, rfl, h⟩
theorem atI_of {α : Type} {xs : List α} {i : Int} {z : α} {j : Nat} (h : ixN xs.length i = some j) (h2 : xs[j]? = some z) : atI xs i = some z := by
  unfold atI
  rw [h]
  exact h2
theorem sub_ok (h : subR x y = some r) (e : Ext W H₀ S W' H S') (s : Sto K W' H S') (rx : RV K H₀ W' H v x) (ry : RV K Hy W' H u y) (k : Kp K H₀ W S S' r Q) : rIx K v u H Q := by
  unfold subR at h
  split at h
  · cases h
  · rename_i i hi
    have eu := rv_int ry hi
    subst eu
    obtain ⟨fp, ho, hs⟩ := rx
    split at h
    · rename_i ps hx
      rw [hx] at ho
      cases ho with
      | leaf ho =>
        cases ho with
        | tup h1 h2 =>
          obtain ⟨p, hp, rfl⟩ := Option.map_eq_some_iff.mp h
          obtain ⟨j, h3, h4⟩ := atI_some hp
          obtain ⟨v, h5, h6⟩ := rps_get h2 h4
          exact .inr (.inl ⟨_, _, i, v, rfl, rfl, zt_t h1, atI_of (by rw [rps_length h2]; exact h3) h5, k _ _ _ e s (rv_p h6)⟩)
    · rename_i ps hx
      rw [hx] at ho
      cases ho with
      | leaf ho =>
        cases ho with
        | lst h1 h2 =>
          obtain ⟨p, hp, rfl⟩ := Option.map_eq_some_iff.mp h
          obtain ⟨j, h3, h4⟩ := atI_some hp
          obtain ⟨v, h5, h6⟩ := rps_get h2 h4
          exact .inl ⟨_, _, i, v, rfl, rfl, SqL.of h1.2, atI_of (by rw [rps_length h2]; exact h3) h5, k _ _ _ e s (rv_p h6)⟩
    · rename_i z hx
      rw [hx] at ho
      split at h
      · rename_i hz
        cases ho with
        | leaf ho =>
          cases ho with
          | str =>
            obtain ⟨c, hc, rfl⟩ := Option.map_eq_some_iff.mp h
            exact .inr (.inr ⟨_, i, c, rfl, rfl, by simpa [Str.length] using sz_ok hz, by simpa using hc, k _ _ _ e s (rv_p (.str [c]))⟩)
      · cases h
    · rename_i os hx
      rw [hx] at ho
      cases ho with
      | lst h1 h2 =>
        obtain ⟨o, hp, hr⟩ := Option.map_eq_some_iff.mp h
        obtain ⟨j, h3, h4⟩ := atI_some hp
        obtain ⟨v, f, h5, h6, h7⟩ := ros_get h2 h4
        refine .inl ⟨_, _, i, v, rfl, rfl, SqL.of h1, atI_of (by rw [ros_length h2]; exact h3) h5, k _ _ _ e s ?_⟩
        cases o with
        | leaf p =>
          simp only at hr
          subst hr
          cases h6 with
          | leaf h6 => exact rv_p h6
        | lst os' =>
          simp only at hr
          subst hr
          refine ⟨f, h6, ?_⟩
          by_cases hv : x.s = .vol
          · simp only [hv, if_true]
            trivial
          · simp only [hv, if_false]
            intro a ha
            have hm := h7 a ha
            cases hst : x.s with
            | own => rw [hst] at hs; exact (hs.2 a (List.mem_cons_of_mem _ hm)).2.1
            | stb => rw [hst] at hs; exact hs a (List.mem_cons_of_mem _ hm)
            | vol => exact absurd hst hv
        | dct ep ks qs =>
          simp only at hr
          subst hr
          refine ⟨f, h6, ?_⟩
          by_cases hv : x.s = .vol
          · simp only [hv, if_true]
            trivial
          · simp only [hv, if_false]
            intro a ha
            have hm := h7 a ha
            cases hst : x.s with
            | own => rw [hst] at hs; exact (hs.2 a (List.mem_cons_of_mem _ hm)).2.1
            | stb => rw [hst] at hs; exact hs a (List.mem_cons_of_mem _ hm)
            | vol => exact absurd hst hv
        | ins _ _ => cases h6
    · cases h
theorem subA_ok (h : subA x y = some r) (e : Ext W H₀ S W' H S') (s : Sto K W' H S') (rx : RV K H₀ W' H v x) (ry : RV K Hy W' H u y) (k : Kp K H₀ W S S' r Q) : rIx K v u H Q ∨ rDGet K.K K.w v u H Q := by
  unfold subA at h
  split at h
  · rename_i ep ks qs hx
    unfold subD at h
    split at h
    · rename_i ep' ks' qs' p hx' hy
      rw [hx] at hx'
      cases hx'
      split at h
      · rename_i kk hk
        obtain ⟨q, hq, rfl⟩ := Option.map_eq_some_iff.mp h
        obtain ⟨fp, ho, hs⟩ := rx
        rw [hx] at ho
        obtain ⟨f2, hoy, _⟩ := ry
        rw [hy] at hoy
        cases hoy with
        | leaf hoy =>
          cases ho with
          | dct g1 g2 g3 g4 g5 =>
            rcases dGet_val (k := kk) g3 g5 with ⟨z, _⟩ | ⟨q', v', z1, z2, z3⟩
            · rw [hq] at z; cases z
            · rw [hq] at z1
              cases z1
              exact .inr ⟨_, _, _, kk, v', rfl, g1, dks_of g2 g3 g4, rp_key hoy hk, z2, k _ _ _ e s (rv_p z3)⟩
      · cases h
    · cases h
  · exact .inl (sub_ok h e s rx ry k)
theorem rps_take : ∀ {vs : List V} {ps : List P} (n : Nat), RPs K W H vs ps → RPs K W H (vs.take n) (ps.take n)
  | _, _, 0, _ => .nil
  | _, _, _ + 1, .nil => .nil
  | _, _, n + 1, .cons a b => .cons a (rps_take n b)
theorem rps_drop : ∀ {vs : List V} {ps : List P} (n : Nat), RPs K W H vs ps → RPs K W H (vs.drop n) (ps.drop n)
  | _, _, 0, h => h
  | _, _, _ + 1, .nil => .nil
  | _, _, n + 1, .cons a b => rps_drop n b
theorem rps_cut {vs : List V} {ps : List P} {lo hi : Option Int} (h : RPs K W H vs ps) : RPs K W H (cutV vs lo hi) (cut ps lo hi) := by
  unfold cutV cut
  rw [rps_length h]
  exact rps_take _ (rps_drop _ h)
theorem rps_ints : ∀ ns : List Int, RPs K W H (ns.map V.int) (ns.map P.int)
  | [] => .nil
  | n :: ns => .cons (.int n) (rps_ints ns)
abbrev rSlc (K : KX) : V → Option Int → Option Int → Hp → VK → Prop := fun x lo hi H Q => rSlA K x lo hi H Q ∨ rSlS x lo hi H Q ∨ rSlL K x lo hi H Q
theorem slr {X : Cx} : SlR X (rSlc X.kx) := sl_tupA.or (sl_str.or sl_list)
theorem zs_l {a : Addr} {vs : List V} (h : ZS K W H a vs) : SqL K H a vs := by
  rcases h with h | h
  · exact .inl h.2
  · exact .inr h
theorem slc_ok {lo hi : Option Int} (h : slcR x lo hi = some r) (e : Ext W H₀ S W' H S') (s : Sto K W' H S') (rx : RV K H₀ W' H v x) (k : Kp K H₀ W S S' r Q) : rSlc K v lo hi H Q := by
  unfold slcR at h
  split at h
  · rename_i ps hp
    cases h
    obtain ⟨a, vs, rfl, h1, h2⟩ := rv_tup rx hp
    refine .inl ⟨a, vs, rfl, h1, fun ⟨z1, z2⟩ => ?_, fun _ => fin_T e s (rps_cut h2) k⟩
    have hc : cut ps lo hi = ps := by
      unfold cut
      rw [← rps_length h2, z1, z2, List.drop_zero, Nat.sub_zero, rps_length h2, List.take_length]
    rw [hc] at k
    exact k _ _ _ e s (rv_p (rv_tupv rx hp))
  · split at h
    · rename_i z hz
      split at h
      · rename_i hs
        cases h
        have ev := rv_str rx hz
        subst ev
        refine .inr (.inl ⟨_, rfl, by simpa [Str.length] using sz_ok hs, ?_⟩)
        have : cutS ⟨z.toArray⟩ lo hi = ⟨(cut z lo hi).toArray⟩ := by
          unfold cutS cut
          simp [Str.length]
        rw [this]
        exact k _ _ _ e s (rv_p (.str _))
      · cases h
    · split at h
      · rename_i ps hp
        cases h
        obtain ⟨a, vs, rfl, h1, h2⟩ := rv_items rx hp
        exact .inr (.inr ⟨a, vs, rfl, SqL.of h1, fin_L e s (rps_cut h2) k⟩)
      · split at h
        · rename_i ns hx
          cases h
          obtain ⟨fp, ho, _⟩ := rx
          rw [hx] at ho
          cases ho with
          | leaf ho =>
            cases ho with
            | scr hz =>
              refine .inr (.inr ⟨_, _, rfl, zs_l hz, ?_⟩)
              have : cutV (ns.map V.int) lo hi = (cut ns lo hi).map V.int := by
                unfold cutV cut
                rw [List.length_map, List.map_take, List.map_drop]
              rw [this]
              exact fin_L e s (rps_ints _) k
        · cases h
end
end U

set_option Elab.async false
set_option linter.all false
set_option maxRecDepth 100000
namespace U
open PySem L2

theorem CallR.or {X : Cx} {f : Value} {r r' : List V → Hp → VK → Prop} (h : CallR X f r) (h' : CallR X f r') : CallR X f (fun xs H Q => r xs H Q ∨ r' xs H Q) := by
  intro pins s σ H xs us Q I rx q
  rcases q with q | q
  · exact h pins s σ H xs us Q I rx q
  · exact h' pins s σ H xs us Q I rx q
def bltV : Blt → Value
  | .len => .builtin "len"
  | .all => .builtin "all"
  | .any => .builtin "any"
  | .tuple => .type "tuple"
  | .list => .type "list"
  | .str => .type "str"
  | .int => .type "int"
  | .bool => .type "bool"
  | .min => .builtin "min"
  | .max => .builtin "max"
  | .sum => .builtin "sum"
  | .sum2 => .builtin "sum"
  | .sorted => .builtin "sorted"
theorem boot_of {x : Str} {b : Blt} (h : nmB x = some b) : bootBuiltins x = some (bltV b) ∧ x ≠ "__name__" := by
  unfold nmB at h
  repeat' (split at h)
  all_goals first
    | (rename_i e; cases h; subst e; exact ⟨by decide +kernel, by decide +kernel⟩)
    | (cases h; done)
theorem bootT_of {x : Str} {n : String} (h : nmT x = some n) : bootBuiltins x = some (.type n) ∧ x ≠ "__name__" ∧ n ∈ ["tuple", "list", "str", "int", "bool"] ∧ (x == ("__debug__" : Str)) = false := by
  unfold nmT at h
  repeat' (split at h)
  all_goals first
    | (rename_i e; cases h; subst e; exact ⟨by decide +kernel, by decide +kernel, by decide, by decide +kernel⟩)
    | (cases h; done)
section
variable {K : KX} {W W' : Wd} {H H' H₀ Hy : Hp} {S S' : AS} {v u : V} {r x y : R} {Q : VK} {vs : List V} {rs : List R}
abbrev rLen (K : KX) : List V → Hp → VK → Prop := fun xs H Q => (∃ p ys, xs = [.ref p] ∧ (SqL K H p ys ∨ SqT K H p ys) ∧ Q (.int ys.length) H) ∨ ∃ z, xs = [.str z] ∧ z.length ≤ sizeLine ∧ Q (.int z.length) H
def rBlt (K : KX) : Blt → List V → Hp → VK → Prop
  | .len => rLen K
  | .all => rAll K
  | .any => rAny K
  | .tuple => fun xs H Q => ∃ p ys, xs = [.ref p] ∧ ((SqL K H p ys ∧ ∀ l, H l = none → Q (.ref l) (upd H l (.tup ys))) ∨ (SqT K H p ys ∧ Q (.ref p) H))
  | .list => fun xs H Q => ∃ p ys, xs = [.ref p] ∧ (SqL K H p ys ∨ SqT K H p ys) ∧ ∀ l, H l = none → Q (.ref l) (upd H l (.lst ys))
  | .str => fun xs H Q => ∃ i : Int, xs = [.int i] ∧ i.natAbs.log2 < 1920 ∧ Q (.str (toString i)) H
  | .int => fun xs H Q => ((∃ i, xs = [.int i] ∧ Q (.int i) H) ∨ ∃ k, xs = [.bl k] ∧ Q (.int (if k then 1 else 0)) H) ∨ ∃ a n, xs = [.str a] ∧ PySem.intText? a = some n ∧ a.length ≤ 640 ∧ Q (.int n) H
  | .bool => fun xs H Q => (∃ i, xs = [.int i] ∧ Q (.bl (i != 0)) H) ∨ ∃ k, xs = [.bl k] ∧ Q (.bl k) H
  | .min => fun xs H Q => ∃ i j, xs = [.int i, .int j] ∧ Q (.int (if j < i then j else i)) H
  | .max => fun xs H Q => ∃ i j, xs = [.int i, .int j] ∧ Q (.int (if j > i then j else i)) H
  | .sum => fun _ _ _ => False
  | .sum2 => fun _ _ _ => False
  | .sorted => fun _ _ _ => False
theorem callr_blt {X : Cx} (hc : X.calm = true) (b : Blt) : CallR X (bltV b) (rBlt X.kx b) := by
  cases b with
  | len => exact call_len_seq.or call_len_str
  | all => exact cr_all hc
  | any => exact cr_any hc
  | tuple => exact call_tuple_of
  | list => exact call_list_of
  | str => exact call_str_int
  | int => exact call_int1.or call_int_str
  | bool => exact call_bool1
  | min => exact call_min2 hc
  | max => exact call_max2 hc
  | sum | sum2 | sorted => exact fun _ _ _ _ _ _ _ _ _ h => False.elim h
theorem bools_of : ∀ {vs : List V} {ps : List P} {bs : List Bool}, RPs K W H vs ps → bools ps = some bs → vs = bs.map V.bl
  | _, _, _, .nil, h => by simp only [bools, Option.some.injEq] at h; subst h; rfl
  | _, _, bs, .cons (p := p) (ps := ps) a b, h => by
    cases a <;> simp only [bools] at h <;> first
      | (cases h; done)
      | (cases e : bools ps with
        | none => rw [e] at h; cases h
        | some cs =>
          rw [e] at h
          have h := Option.some.inj h
          subst h
          rw [bools_of b e]
          rfl)
/-- the items of a list or tuple -/
theorem rv_seq (h : RV K H₀ W H v r) {ps : List P} (e : r.o.seq = some ps) : ∃ a vs, v = .ref a ∧ RPs K W H vs ps ∧ (H a = some (.lst vs) ∨ (SqT K H a vs ∧ RP K W H v (.tup ps))) := by
  unfold O.seq at e
  split at e
  · rename_i qs hq
    cases e
    obtain ⟨a, vs, rfl, h1, h2⟩ := rv_tup h (ps := ps) (by rw [hq]; rfl)
    exact ⟨a, vs, rfl, h2, .inr ⟨h1, rv_tupv h (by rw [hq]; rfl)⟩⟩
  · obtain ⟨a, vs, rfl, h1, h2⟩ := rv_items h e
    exact ⟨a, vs, rfl, h2, .inl h1⟩
theorem paired1 {α β : Type} {R' : α → β → Prop} {xs : List α} {y : β} (h : Paired R' xs [y]) : ∃ x, xs = [x] ∧ R' x y := by
  cases h with
  | cons a b => cases b; exact ⟨_, rfl, a⟩
theorem paired2 {α β : Type} {R' : α → β → Prop} {xs : List α} {y z : β} (h : Paired R' xs [y, z]) : ∃ x w, xs = [x, w] ∧ R' x y ∧ R' w z := by
  cases h with
  | cons a b =>
    obtain ⟨w, rfl, c⟩ := paired1 b
    exact ⟨_, _, rfl, a, c⟩
theorem lenO_ok {n : Nat} (h : lenO x.o = some n) (rx : RV K H₀ W H v x) : (∃ p ys, v = .ref p ∧ (SqL K H p ys ∨ SqT K H p ys) ∧ ys.length = n) ∨ ∃ z : Str, v = .str z ∧ z.length ≤ sizeLine ∧ z.length = n := by
  obtain ⟨fp, ho, _⟩ := rx
  unfold lenO at h
  split at h
  · rename_i ps hx
    cases h
    rw [hx] at ho
    cases ho with
    | leaf ho => cases ho with
      | tup h1 h2 => exact .inl ⟨_, _, rfl, .inr (zt_t h1), rps_length h2⟩
  · rename_i ps hx
    cases h
    rw [hx] at ho
    cases ho with
    | leaf ho => cases ho with
      | lst h1 h2 => exact .inl ⟨_, _, rfl, .inl (SqL.of h1.2), rps_length h2⟩
  · rename_i z hx
    split at h
    · rename_i hz
      cases h
      rw [hx] at ho
      cases ho with
      | leaf ho => cases ho with
        | str => exact .inr ⟨_, rfl, by simpa [Str.length] using sz_ok hz, by simp [Str.length]⟩
    · cases h
  · rename_i os hx
    cases h
    rw [hx] at ho
    cases ho with
    | lst h1 h2 => exact .inl ⟨_, _, rfl, .inl (SqL.of h1), ros_length h2⟩
  · cases h
theorem intText_eq (i : Int) : (⟨(intText i).toArray⟩ : Str) = Str.ofString (toString i) := by
  rw [Str.ofString_eq_toList]
  rfl
theorem one_of {f : R → Option R} (h : one f rs = some r) (rx : Paired (RV K H₀ W H) vs rs) : ∃ v x, vs = [v] ∧ f x = some r ∧ RV K H₀ W H v x := by
  unfold one at h
  split at h
  · obtain ⟨v, rfl, rv⟩ := paired1 rx
    exact ⟨v, _, rfl, h, rv⟩
  · cases h
theorem two_of {f : R → R → Option R} (h : two f rs = some r) (rx : Paired (RV K H₀ W H) vs rs) : ∃ v x u y, vs = [v, u] ∧ f x y = some r ∧ RV K H₀ W H v x ∧ RV K H₀ W H u y := by
  unfold two at h
  split at h
  · obtain ⟨v, u, rfl, rv, ru⟩ := paired2 rx
    exact ⟨v, _, u, _, rfl, h, rv, ru⟩
  · cases h
theorem boolsR_of {f : List Bool → Bool} (h : boolsR f x = some r) (rx : RV K H₀ W H v x) : ∃ a bs, v = .ref a ∧ SqL K H a (bs.map V.bl) ∧ r = R.p (.bl (f bs)) := by
  unfold boolsR at h
  split at h
  · rename_i ps hp
    split at h
    · rename_i bs hb
      cases h
      obtain ⟨a, vs, rfl, h1, h2⟩ := rv_items rx hp
      rw [bools_of h2 hb] at h1
      exact ⟨a, bs, rfl, SqL.of h1, rfl⟩
    · cases h
  · cases h
theorem int2R_of {f : Int → Int → Int} (h : int2R f x y = some r) (rx : RV K H₀ W H v x) (ry : RV K Hy W H u y) : ∃ i j, v = .int i ∧ u = .int j ∧ r = R.p (.int (f i j)) := by
  unfold int2R at h
  split at h
  · rename_i i j hi hj
    cases h
    exact ⟨i, j, rv_int rx hi, rv_int ry hj, rfl⟩
  · cases h
theorem blt_ok {b : Blt} (h : bltR b rs = some r) (e : Ext W H₀ S W' H S') (s : Sto K W' H S') (rx : Paired (RV K H₀ W' H) vs rs) (k : Kp K H₀ W S S' r Q) : rBlt K b vs H Q := by
  cases b with
  | len =>
    obtain ⟨v, x, rfl, h, rv⟩ := one_of h rx
    obtain ⟨n, hn, rfl⟩ := Option.map_eq_some_iff.mp h
    rcases lenO_ok hn rv with ⟨p, ys, rfl, h1, h2⟩ | ⟨z, rfl, h1, h2⟩
    · exact .inl ⟨p, ys, rfl, h1, by rw [h2]; exact k _ _ _ e s (rv_p (.int _))⟩
    · exact .inr ⟨z, rfl, h1, by rw [h2]; exact k _ _ _ e s (rv_p (.int _))⟩
  | all =>
    obtain ⟨v, x, rfl, h, rv⟩ := one_of h rx
    obtain ⟨a, bs, rfl, h1, rfl⟩ := boolsR_of h rv
    exact ⟨a, bs, rfl, h1, k _ _ _ e s (rv_p (.bl _))⟩
  | any =>
    obtain ⟨v, x, rfl, h, rv⟩ := one_of h rx
    obtain ⟨a, bs, rfl, h1, rfl⟩ := boolsR_of h rv
    exact ⟨a, bs, rfl, h1, k _ _ _ e s (rv_p (.bl _))⟩
  | tuple =>
    obtain ⟨v, x, rfl, h, rv⟩ := one_of h rx
    obtain ⟨ps, hp, rfl⟩ := Option.map_eq_some_iff.mp h
    obtain ⟨a, vs, rfl, h1, h2⟩ := rv_seq rv hp
    rcases h2 with h2 | ⟨h2, h3⟩
    · exact ⟨a, vs, rfl, .inl ⟨SqL.of h2, fin_T e s h1 k⟩⟩
    · exact ⟨a, vs, rfl, .inr ⟨h2, k _ _ _ e s (rv_p h3)⟩⟩
  | list =>
    obtain ⟨v, x, rfl, h, rv⟩ := one_of h rx
    obtain ⟨ps, hp, rfl⟩ := Option.map_eq_some_iff.mp h
    obtain ⟨a, vs, rfl, h1, h2⟩ := rv_seq rv hp
    exact ⟨a, vs, rfl, h2.elim (fun z => .inl (SqL.of z)) (fun z => .inr z.1), fin_L e s h1 k⟩
  | str =>
    obtain ⟨v, x, rfl, h, rv⟩ := one_of h rx
    unfold strR at h
    split at h
    · rename_i i hi
      split at h
      · rename_i hb
        cases h
        refine ⟨i, by rw [rv_int rv hi], ?_, ?_⟩
        · have hb := of_decide_eq_true hb
          by_cases h0 : i.natAbs = 0
          · rw [h0]; decide
          · refine Nat.lt_trans ((Nat.log2_lt h0).mpr (Nat.lt_trans hb (by decide : 1000000000000 < 2 ^ 40))) (by decide)
        · have z := k _ _ _ e s (rv_p (.str (intText i)))
          rw [intText_eq] at z
          exact z
      · cases h
    · cases h
  | int =>
    obtain ⟨v, x, rfl, h, rv⟩ := one_of h rx
    unfold intR at h
    split at h
    · rename_i b hb
      cases h
      exact .inl (.inr ⟨b, by rw [rv_bl rv hb], k _ _ _ e s (rv_p (.int _))⟩)
    · split at h
      · rename_i z hz
        split at h
        · rename_i hl
          split at h
          · rename_i n hn
            cases h
            exact .inr ⟨_, n, by rw [rv_str rv hz], hn, by simpa [Str.length] using of_decide_eq_true hl, k _ _ _ e s (rv_p (.int _))⟩
          · cases h
        · cases h
      · cases h
  | bool =>
    obtain ⟨v, x, rfl, h, rv⟩ := one_of h rx
    obtain ⟨b, hb, rfl⟩ := Option.map_eq_some_iff.mp h
    exact .inr ⟨b, by rw [rv_bl rv hb], k _ _ _ e s (rv_p (.bl _))⟩
  | min =>
    obtain ⟨v, x, u, y, rfl, h, rv, ru⟩ := two_of h rx
    obtain ⟨i, j, rfl, rfl, rfl⟩ := int2R_of h rv ru
    exact ⟨i, j, rfl, k _ _ _ e s (rv_p (.int _))⟩
  | max =>
    obtain ⟨v, x, u, y, rfl, h, rv, ru⟩ := two_of h rx
    obtain ⟨i, j, rfl, rfl, rfl⟩ := int2R_of h rv ru
    exact ⟨i, j, rfl, k _ _ _ e s (rv_p (.int _))⟩
  | sum | sum2 | sorted => cases h

theorem ty_ok {n : String} (h : tyName x.o = some n) (rx : RV K H₀ W H v x) : TyX K H v (.type n) ∧ n ∈ ["NoneType", "bool", "int", "str", "tuple", "list"] := by
  obtain ⟨fp, ho, _⟩ := rx
  unfold tyName at h
  split at h <;> first
    | (cases h; done)
    | skip
  all_goals (rename_i hx; rw [hx] at ho; cases h)
  · cases ho with | leaf ho => cases ho; exact ⟨.base .non, by decide⟩
  · cases ho with | leaf ho => cases ho; exact ⟨.base (.bl _), by decide⟩
  · cases ho with | leaf ho => cases ho; exact ⟨.base (.int _), by decide⟩
  · cases ho with | leaf ho => cases ho; exact ⟨.base (.str _), by decide⟩
  · cases ho with
    | leaf ho => cases ho with
      | tup h1 h2 =>
        refine ⟨?_, by decide⟩
        rcases h1 with ⟨_, h1 | ⟨o, h1⟩⟩ | ⟨o, its, n, h1, h3, _⟩
        · exact .base (.tup h1)
        · exact .fTuple h1
        · exact .kTuple h1 h3
  · cases ho with
    | leaf ho => cases ho with
      | lst h1 h2 => exact ⟨.base (.lst h1.2), by decide⟩
  · cases ho with
    | lst h1 h2 => exact ⟨.base (.lst h1), by decide⟩
theorem kit_all : ∀ n ∈ ["NoneType", "bool", "int", "str", "tuple", "list"], ∀ t ∈ ["tuple", "list", "str", "int", "bool"], kitB n t = some (isaTy n t) := by decide +kernel
theorem kit_any {n : String} (hn : n ∈ ["NoneType", "bool", "int", "str", "tuple", "list"]) : ∀ ts : List String, (∀ t ∈ ts, t ∈ ["tuple", "list", "str", "int", "bool"]) → PySem.W.kitAny K (.type n) (ts.map Value.type) = some (ts.any (isaTy n))
  | [], _ => kitAny_nil
  | t :: ts, h => by
    refine kitAny_cons (kit_ty (kit_all n hn t (h t List.mem_cons_self))) (fun hf => ?_) fun ht => ?_
    · rw [List.any_cons, hf, Bool.false_or]
      exact kit_any hn ts fun u hu => h u (List.mem_cons_of_mem _ hu)
    · rw [List.any_cons, ht, Bool.true_or]
end
end U

set_option Elab.async false
set_option linter.all false
set_option maxRecDepth 100000
namespace U
open PySem L2

structure SndE (g : Gm) (C : Ctx) (k : Nat) (N : List Str) (n : Nat) : Prop where
  pe : ∀ (sc : Scope) (X : Cx) (e : Expr) (ie : E), Good g C k N sc X → cE g N n sc e = some ie → PE X e (TvE X.kx C ie)
  pt : ∀ (sc : Scope) (X : Cx) (e : Expr) (ie : E), Good g C k N sc X → cE g N n sc e = some ie → okT ie = true → PT X e (TvT X.kx C ie)

section
variable {g : Gm} {C : Ctx} {k n : Nat} {N : List Str} {sc : Scope} {X : Cx} {e : Expr} {ie : E} {es : List Expr} {ies : List E}
theorem star_of (h : cE g N n sc e = some ie) (env : PySem.Env) (r : List Expr) : starEach (e :: r) env = (false, eval e env) :: starEach r env := by
  cases n with
  | zero => cases h
  | succ n =>
    cases e <;> first
      | rfl
      | (simp only [cE] at h; cases h)
theorem cL_cons {f : Expr → Option E} (h : cL f (e :: es) = some ies) : ∃ a as, f e = some a ∧ cL f es = some as ∧ ies = a :: as := by
  unfold cL at h
  split at h
  · rename_i a as h1 h2
    cases h
    exact ⟨a, as, h1, h2, rfl⟩
  · cases h
theorem nostar : ∀ {es : List Expr} {ies : List E}, cL (cE g N n sc) es = some ies → ∀ (pos : Pos) (env : PySem.Env), (backTo pos (starEach es env)).any (·.1) = false
  | [], _, _, _, _ => rfl
  | e :: es, _, h, pos, env => by
    obtain ⟨a, as, h1, h2, rfl⟩ := cL_cons h
    rw [star_of h1]
    show ((false, _) :: backTo pos (starEach es env)).any (·.1) = false
    rw [List.any_cons, nostar h2 pos env]
    rfl
theorem pa_K (ih : SndE g C k N n) (G : Good g C k N sc X) : ∀ {es : List Expr} {ies : List E}, cL (cE g N n sc) es = some ies → PA X es (TvK X.kx C ies)
  | [], _, h => by
    cases h
    refine pa_nil.imp fun σ H Q q => ?_
    obtain ⟨W, ρ, S, gf, ps, S', hs, hl, he, q⟩ := q
    simp only [evK, Option.some.injEq, Prod.mk.injEq] at he
    obtain ⟨rfl, rfl⟩ := he
    exact q _ _ _ Ext.refl hs .nil
  | e :: es, _, h => by
    obtain ⟨a, as, h1, h2, rfl⟩ := cL_cons h
    refine (pa_cons (ih.pe sc X e a G h1) (pa_K ih G h2) (star_of h1 _ _)).imp fun σ H Q q => ?_
    obtain ⟨W, ρ, S, gf, ps, S', hs, hl, he, q⟩ := q
    simp only [evK] at he
    split at he
    · rename_i r S1 h3
      split at he
      · rename_i p h4
        split at he
        · rename_i qs S2 h5
          cases he
          refine ⟨W, ρ, S, gf, r, S1, hs, hl, h3, fun W1 H1 v e1 s1 rv => ?_⟩
          obtain ⟨W', e1', s1', rp, _⟩ := keep_use e1 s1 rv h4
          exact ⟨W', ρ, S1, gf, qs, S', s1', hl.ext e1' hs, h5, fun W2 H2 vs e2 s2 rps => q W2 H2 (v :: vs) (e1'.trans e2) s2 (.cons (rp.mono (e2.frm s1')) rps)⟩
        · cases he
      · cases he
    · cases he
theorem argR_use {K : KX} {W W0 : Wd} {H H₀ : Hp} {S0 S : AS} {v : V} {r a : R} (e : Ext W0 H₀ S0 W H S) (s : Sto K W H S) (rv : RV K H₀ W H v r) (hk : argR r = some a) :
    ∃ W', Ext W0 H₀ S0 W' H S ∧ Sto K W' H S ∧ (∀ Hs : Hp, RV K Hs W' H v a) ∧ a.s = .stb := by
  unfold argR at hk
  split at hk
  · rename_i p hp
    cases hk
    obtain ⟨W', e', s', rp, _⟩ := keep_use e s rv hp
    exact ⟨W', e', s', fun Hs => rv_p rp, rfl⟩
  · split at hk
    · rename_i hst
      cases hk
      obtain ⟨fp, ho, hs⟩ := rv
      rw [hst] at hs
      exact ⟨W, e, s, fun Hs => ⟨fp, ho, by rw [hst]; exact hs⟩, hst⟩
    · cases hk
theorem isVol_stb {r : R} (h : r.s = .stb) : isVol r = false := by
  unfold isVol
  split
  · rfl
  · rw [h]; rfl
theorem pa_A (ih : SndE g C k N n) (G : Good g C k N sc X) : ∀ {es : List Expr} {ies : List E}, cL (cE g N n sc) es = some ies → PA X es (TvA X.kx C ies)
  | [], _, h => by
    cases h
    refine pa_nil.imp fun σ H Q q => ?_
    obtain ⟨W, ρ, S, gf, ps, S', hs, hl, he, q⟩ := q
    simp only [evA, Option.some.injEq, Prod.mk.injEq] at he
    obtain ⟨rfl, rfl⟩ := he
    exact q _ _ _ Ext.refl hs .nil
  | e :: es, _, h => by
    obtain ⟨a, as, h1, h2, rfl⟩ := cL_cons h
    refine (pa_cons (ih.pe sc X e a G h1) (pa_A ih G h2) (star_of h1 _ _)).imp fun σ H Q q => ?_
    obtain ⟨W, ρ, S, gf, ps, S', hs, hl, he, q⟩ := q
    simp only [evA] at he
    split at he
    · rename_i r S1 h3
      split at he
      · rename_i p h4
        split at he
        · rename_i qs S2 h5
          cases he
          refine ⟨W, ρ, S, gf, r, S1, hs, hl, h3, fun W1 H1 v e1 s1 rv => ?_⟩
          obtain ⟨W', e1', s1', ra, hst⟩ := argR_use e1 s1 rv h4
          exact ⟨W', ρ, S1, gf, qs, S', s1', hl.ext e1' hs, h5, fun W2 H2 vs e2 s2 rps => q W2 H2 (v :: vs) (e1'.trans e2) s2 (.cons ⟨(ra H2).ext e2 s1' (fun z => by rw [isVol_stb hst] at z; cases z), hst⟩ rps)⟩
        · cases he
      · cases he
    · cases he
theorem RV.older {K : KX} {W : Wd} {H Ha Hb : Hp} {v : V} {r : R} (h : RV K Hb W H v r) (o : ∀ a, Hb a = none → Ha a = none) : RV K Ha W H v r := by
  obtain ⟨fp, ho, hs⟩ := h
  refine ⟨fp, ho, ?_⟩
  cases hst : r.s with
  | own =>
    rw [hst] at hs
    exact ⟨hs.1, fun a ha => ⟨(hs.2 a ha).1, (hs.2 a ha).2.1, o a (hs.2 a ha).2.2⟩⟩
  | stb => rw [hst] at hs; exact hs
  | vol => trivial
theorem paired_older {K : KX} {W : Wd} {H Ha Hb : Hp} (o : ∀ a, Hb a = none → Ha a = none) : ∀ {vs : List V} {rs : List R}, Paired (RV K Hb W H) vs rs → Paired (RV K Ha W H) vs rs
  | _, _, .nil => .nil
  | _, _, .cons a b => .cons (a.older o) (paired_older o b)
theorem pa_R (ih : SndE g C k N n) (G : Good g C k N sc X) : ∀ {es : List Expr} {ies : List E}, cL (cE g N n sc) es = some ies → PA X es (TvR X.kx C ies)
  | [], _, h => by
    cases h
    refine pa_nil.imp fun σ H Q q => ?_
    obtain ⟨W, ρ, S, gf, ps, S', hs, hl, he, q⟩ := q
    simp only [evR, Option.some.injEq, Prod.mk.injEq] at he
    obtain ⟨rfl, rfl⟩ := he
    exact q _ _ _ Ext.refl hs .nil
  | e :: es, _, h => by
    obtain ⟨a, as, h1, h2, rfl⟩ := cL_cons h
    refine (pa_cons (ih.pe sc X e a G h1) (pa_R ih G h2) (star_of h1 _ _)).imp fun σ H Q q => ?_
    obtain ⟨W, ρ, S, gf, ps, S', hs, hl, he, q⟩ := q
    simp only [evR] at he
    split at he
    · rename_i r S1 h3
      split at he
      · rename_i rs S2 h4
        cases he
        refine ⟨W, ρ, S, gf, r, S1, hs, hl, h3, fun W1 H1 v e1 s1 rv => ?_⟩
        obtain ⟨S0, S0', h5, s0, kk⟩ := then_ok h4 e1 s1
        refine ⟨W1, ρ, S0, gf, rs, S0', s0, hl.ext e1 hs, h5, fun W2 H2 vs e2 s2 rps => ?_⟩
        obtain ⟨k1, k2, k3, k4⟩ := kk W2 H2 e2 s2
        exact q W2 H2 (v :: vs) k1 k3 (.cons (k4 v r H rv id) (paired_older (fun a ha => e1.back ha) rps))
      · cases he
    · cases he
end
end U

set_option Elab.async false
set_option linter.all false
set_option maxRecDepth 100000
namespace U
open PySem L2

section
variable {g : Gm} {C : Ctx} {k n : Nat} {N : List Str} {sc : Scope} {X : Cx} {e a b c : Expr} {ie x y z : E} {es : List Expr} {ies : List E} {pos : Pos}
theorem idx_ge : ∀ {N : List Str} {x : Str} {n i : Nat}, idx N x n = some i → n ≤ i
  | [], _, _, _, h => by cases h
  | y :: ys, x, n, i, h => by
    unfold idx at h
    split at h
    · cases h; exact Nat.le_refl _
    · exact Nat.le_of_succ_le (idx_ge h)
theorem idx_get : ∀ {N : List Str} {x : Str} {n i : Nat}, idx N x n = some i → N[i - n]? = some x
  | [], _, _, _, h => by cases h
  | y :: ys, x, n, i, h => by
    have hg := idx_ge h
    unfold idx at h
    split at h
    · rename_i e
      cases h
      rw [Nat.sub_self, e]
      rfl
    · have h1 := idx_ge h
      have h2 := idx_get h
      have e : i - n = (i - (n + 1)) + 1 := by omega
      rw [e, List.getElem?_cons_succ]
      exact h2
theorem idx_at {N : List Str} {x : Str} {i : Nat} (h : idx N x 0 = some i) : N[i]? = some x := by
  have := idx_get h
  rwa [Nat.sub_zero] at this
theorem vis_of (G : Good g C k N sc X) {x : Str} (h : vis sc x = true) : Vis X.env.scope x := by
  unfold vis at h
  rw [G.sc]
  split at h
  · exact .inl (by assumption)
  · exact .inr (.inl (by assumption))
  · exact .inr (.inr (by assumption))
  · cases h
theorem gl_of (G : Good g C k N sc X) {x : Str} (h : isGl sc x = true) : Gl X x := by
  have := of_decide_eq_true h
  show X.env.scope.names.lookup x = _
  rw [G.sc]
  exact this
theorem name_of {x : Str} (h : okName x = true) : (x == ("__debug__" : Str)) = false ∧ (x == ("__classdict__" : Str)) = false := by
  unfold okName at h
  simp only [Bool.and_eq_true, beq_iff_eq] at h
  exact h
theorem pe_lit {p : P} {v : V} (h : PE X e (tC v)) (hv : ∀ W H, RP X.kx W H v p) : PE X e (TvE X.kx C (.lit p)) := h.imp fun σ H Q q => by
  obtain ⟨W, ρ, S, gf, r, S', hs, hl, he, q⟩ := q
  simp only [evE, Option.some.injEq, Prod.mk.injEq] at he
  obtain ⟨rfl, rfl⟩ := he
  exact q _ _ _ Ext.refl hs (rv_p (hv _ _))
theorem rp_str {K : KX} {W : Wd} {H : Hp} (s : Str) : RP K W H (.str s) (.str s.cps.toList) := by
  have e : (V.str s) = V.str ⟨s.cps.toList.toArray⟩ := by simp
  rw [e]
  exact .str _
theorem case_const {c : Const} {j : Nat} (h : cE g N (n + 1) sc (.Constant c j pos) = some ie) : PE X (.Constant c j pos) (TvE X.kx C ie) := by
  simp only [cE] at h
  cases c <;> simp only [cLit, Option.map_some, Option.map_none, Option.some.injEq] at h <;> first
    | (cases h; done)
    | (subst h; first
      | exact pe_lit pe_non fun _ _ => .non
      | exact pe_lit pe_bl fun _ _ => .bl _
      | exact pe_lit pe_int fun _ _ => .int _
      | exact pe_lit pe_str fun _ _ => rp_str _)
theorem case_name {x : Str} (G : Good g C k N sc X) (h : cE g N (n + 1) sc (.Name x pos) = some ie) : PE X (.Name x pos) (TvE X.kx C ie) := by
  simp only [cE] at h
  split at h
  · rename_i hn
    obtain ⟨n1, n2⟩ := name_of hn
    split at h
    · rename_i hv
      obtain ⟨i, hi, rfl⟩ := Option.map_eq_some_iff.mp h
      refine (pe_var (i := i) (by rw [G.N]; exact idx_at hi) (vis_of G hv) n1 n2).imp fun σ H Q q => ?_
      obtain ⟨W, ρ, S, gf, r, S', hs, hl, he, q⟩ := q
      simp only [evE] at he
      split at he
      · rename_i r0 hr0
        cases he
        obtain ⟨v, h1, h2, h3⟩ := hl.at_ i r0 hr0
        exact ⟨v, h1, q _ _ _ Ext.refl hs ⟨gf i, h2, hl.sf i r0 hr0⟩⟩
      · cases he
    · split at h
      · rename_i hg
        obtain ⟨j, hj, rfl⟩ := Option.map_eq_some_iff.mp h
        obtain ⟨p, u, v, h1, h2, h3, h4⟩ := G.glb x j hj
        refine (pe_glob (gl_of G hg) h2 h3 n1).imp fun σ H Q q => ?_
        obtain ⟨W, ρ, S, gf, r, S', hs, hl, he, q⟩ := q
        simp only [evE, h1, Option.map_some, Option.some.injEq, Prod.mk.injEq] at he
        obtain ⟨rfl, rfl⟩ := he
        exact q _ _ _ Ext.refl hs (rv_p (h4.1 _ _))
      · cases h
  · cases h
theorem case_tup (ih : SndE g C k N n) (G : Good g C k N sc X) {j : Nat} (h : cL (cE g N n sc) es = some ies) : PE X (.Tuple es j pos) (TvE X.kx C (.tup ies)) := by
  refine (pe_tup (pa_K ih G h)).imp fun σ H Q q => ?_
  obtain ⟨W, ρ, S, gf, r, S', hs, hl, he, q⟩ := q
  simp only [evE] at he
  split at he
  · rename_i ps S1 h1
    split at he
    · rename_i hz
      cases he
      refine ⟨W, ρ, S, gf, ps, S', hs, hl, h1, fun W1 H1 vs e1 s1 rps => ⟨by rw [rps_length rps]; exact sz_ok hz, fin_T e1 s1 rps q⟩⟩
    · cases he
  · cases he
theorem case_lst (ih : SndE g C k N n) (G : Good g C k N sc X) (h : cL (cE g N n sc) es = some ies) : PE X (.List es pos) (TvE X.kx C (.lst ies)) := by
  refine (pe_lst (pa_K ih G h)).imp fun σ H Q q => ?_
  obtain ⟨W, ρ, S, gf, r, S', hs, hl, he, q⟩ := q
  simp only [evE] at he
  split at he
  · rename_i ps S1 h1
    split at he
    · rename_i hz
      cases he
      refine ⟨W, ρ, S, gf, ps, S', hs, hl, h1, fun W1 H1 vs e1 s1 rps => ⟨by rw [rps_length rps]; exact sz_ok hz, fin_L e1 s1 rps q⟩⟩
    · cases he
  · cases he
/-- two parts, then a step -/
theorem two_parts {K : KX} {σ : L2.St} {H : Hp} {W : Wd} {ρ : Env} {S S2 : AS} {gf : Nat → List Addr} {rx ry : R} {S1 : AS} {R' : V → V → Hp → Prop} (hs : Sto K W H S) (hl : Slo K W H σ ρ gf)
    (h1 : evE C x ρ S = some (rx, S1)) (h2 : guard (isVol rx) (evE C y ρ) S1 = some (ry, S2))
    (q : ∀ (W2 : Wd) (H1 H2 : Hp) (v u : V), Ext W H S W2 H2 S2 → Sto K W2 H2 S2 → RV K H W2 H2 v rx → RV K H1 W2 H2 u ry → (∀ a, H1 a = none → H a = none) → R' v u H2) :
    TvE K C x σ H fun v H1 => TvE K C y σ H1 fun u H2 => R' v u H2 := by
  refine ⟨W, ρ, S, gf, rx, S1, hs, hl, h1, fun W1 H1 v e1 s1 rv => ?_⟩
  obtain ⟨S0, S0', h3, s0, kk⟩ := then_ok h2 e1 s1
  refine ⟨W1, ρ, S0, gf, ry, S0', s0, hl.ext e1 hs, h3, fun W2 H2 u e2 s2 ru => ?_⟩
  obtain ⟨k1, k2, k3, k4⟩ := kk W2 H2 e2 s2
  exact q W2 H1 H2 v u k1 k3 (k4 v rx H rv id) ru fun a ha => e1.back ha
theorem case_bin (ih : SndE g C k N n) (G : Good g C k N sc X) {op : Operator} {o : BOp} (ho : cB op = some o) (ha : cE g N n sc a = some x) (hb : cE g N n sc b = some y) : PE X (.BinOp a op b pos) (TvE X.kx C (.bin o x y)) := by
  refine (pe_op (opr_bin ho) (ih.pe sc X a x G ha) (ih.pe sc X b y G hb)).imp fun σ H Q q => ?_
  obtain ⟨W, ρ, S, gf, r, S', hs, hl, he, q⟩ := q
  simp only [evE] at he
  split at he
  · rename_i rx S1 h1
    split at he
    · rename_i ry S2 h2
      obtain ⟨r', h3, h4⟩ := Option.map_eq_some_iff.mp he
      cases h4
      exact two_parts hs hl h1 h2 fun W2 H1 H2 v u e2 s2 rv ru _ => bin_ok h3 e2 s2 rv ru q
    · cases he
  · cases he
theorem case_neg (ih : SndE g C k N n) (G : Good g C k N sc X) (ha : cE g N n sc a = some x) : PE X (.UnaryOp .USub a pos) (TvE X.kx C (.neg x)) := by
  refine (pe_un un_neg (ih.pe sc X a x G ha)).imp fun σ H Q q => ?_
  obtain ⟨W, ρ, S, gf, r, S', hs, hl, he, q⟩ := q
  simp only [evE] at he
  split at he
  · rename_i rx S1 h1
    obtain ⟨i, h2, h3⟩ := Option.map_eq_some_iff.mp he
    cases h3
    exact ⟨W, ρ, S, gf, rx, S', hs, hl, h1, fun W1 H1 v e1 s1 rv => ⟨i, rv_int rv h2, q _ _ _ e1 s1 (rv_p (.int _))⟩⟩
  · cases he
theorem case_not (ih : SndE g C k N n) (G : Good g C k N sc X) (ha : cE g N n sc a = some x) : PE X (.UnaryOp .Not a pos) (TvE X.kx C (.not x)) := by
  refine (pe_not (ih.pe sc X a x G ha)).imp fun σ H Q q => ?_
  obtain ⟨W, ρ, S, gf, r, S', hs, hl, he, q⟩ := q
  simp only [evE] at he
  split at he
  · rename_i rx S1 h1
    obtain ⟨b, h2, h3⟩ := Option.map_eq_some_iff.mp he
    cases h3
    exact ⟨W, ρ, S, gf, rx, S', hs, hl, h1, fun W1 H1 v e1 s1 rv => ⟨b, rv_bl rv h2, q _ _ _ e1 s1 (rv_p (.bl _))⟩⟩
  · cases he
theorem case_notT (ih : SndE g C k N n) (G : Good g C k N sc X) (ha : cE g N n sc a = some x) (ht : okT x = true) : PT X (.UnaryOp .Not a pos) (TvT X.kx C (.not x)) := by
  refine (pt_not (ih.pt sc X a x G ha ht)).imp fun σ H Q q => ?_
  obtain ⟨W, ρ, S, gf, r, c, S', hs, hl, he, hb, q⟩ := q
  simp only [evE] at he
  split at he
  · rename_i rx S1 h1
    obtain ⟨b, h2, h3⟩ := Option.map_eq_some_iff.mp he
    cases h3
    have e : (!b) = c := Option.some.inj hb
    exact ⟨W, ρ, S, gf, rx, b, S', hs, hl, h1, h2, fun W1 H1 e1 s1 => by
      show Q (!b) H1
      rw [e]
      exact q _ _ e1 s1⟩
  · cases he
theorem case_and (ih : SndE g C k N n) (G : Good g C k N sc X) : ∀ {es : List Expr} {ies : List E}, cL (cE g N n sc) es = some ies → es ≠ [] → PE X (.BoolOp .And es pos) (TvE X.kx C (.and ies))
  | [], _, _, h => absurd rfl h
  | [a], _, h, _ => by
    obtain ⟨x, as, h1, h2, rfl⟩ := cL_cons h
    cases h2
    refine (pe_one (ih.pe sc X a x G h1)).imp fun σ H Q q => ?_
    obtain ⟨W, ρ, S, gf, r, S', hs, hl, he, q⟩ := q
    simp only [evE, evAnd] at he
    exact ⟨W, ρ, S, gf, r, S', hs, hl, he, q⟩
  | a :: b :: es, _, h, _ => by
    obtain ⟨x, as, h1, h2, rfl⟩ := cL_cons h
    obtain ⟨y, bs, h3, h4, rfl⟩ := cL_cons h2
    refine (pe_and (ih.pe sc X a x G h1) (case_and ih G (es := b :: es) h2 (by simp))).imp fun σ H Q q => ?_
    obtain ⟨W, ρ, S, gf, r, S', hs, hl, he, q⟩ := q
    simp only [evE] at he
    rw [evAnd] at he
    · split at he
      · rename_i rx S1 h5
        refine ⟨W, ρ, S, gf, rx, S1, hs, hl, h5, fun W1 H1 v e1 s1 rv => ?_⟩
        split at he
        · rename_i hb
          refine ⟨true, rv_bl rv hb, ?_⟩
          rw [if_pos rfl]
          exact ⟨W1, ρ, S1, gf, r, S', s1, hl.ext e1 hs, by simp only [evE]; exact he, fun W2 H2 v e2 s2 rv => q _ _ _ (e1.trans e2) s2 (rv.older fun a ha => e1.back ha)⟩
        · rename_i hb
          cases he
          refine ⟨false, rv_bl rv hb, ?_⟩
          rw [if_neg (by decide)]
          exact q _ _ _ e1 s1 (rv_p (.bl _))
        · cases he
      · cases he
    · simp
theorem case_or (ih : SndE g C k N n) (G : Good g C k N sc X) : ∀ {es : List Expr} {ies : List E}, cL (cE g N n sc) es = some ies → es ≠ [] → PE X (.BoolOp .Or es pos) (TvE X.kx C (.or ies))
  | [], _, _, h => absurd rfl h
  | [a], _, h, _ => by
    obtain ⟨x, as, h1, h2, rfl⟩ := cL_cons h
    cases h2
    refine (pe_one (ih.pe sc X a x G h1)).imp fun σ H Q q => ?_
    obtain ⟨W, ρ, S, gf, r, S', hs, hl, he, q⟩ := q
    simp only [evE, evOr] at he
    exact ⟨W, ρ, S, gf, r, S', hs, hl, he, q⟩
  | a :: b :: es, _, h, _ => by
    obtain ⟨x, as, h1, h2, rfl⟩ := cL_cons h
    obtain ⟨y, bs, h3, h4, rfl⟩ := cL_cons h2
    refine (pe_or (ih.pe sc X a x G h1) (case_or ih G (es := b :: es) h2 (by simp))).imp fun σ H Q q => ?_
    obtain ⟨W, ρ, S, gf, r, S', hs, hl, he, q⟩ := q
    simp only [evE] at he
    rw [evOr] at he
    · split at he
      · rename_i rx S1 h5
        refine ⟨W, ρ, S, gf, rx, S1, hs, hl, h5, fun W1 H1 v e1 s1 rv => ?_⟩
        split at he
        · rename_i hb
          refine ⟨false, rv_bl rv hb, ?_⟩
          rw [if_neg (by decide)]
          exact ⟨W1, ρ, S1, gf, r, S', s1, hl.ext e1 hs, by simp only [evE]; exact he, fun W2 H2 v e2 s2 rv => q _ _ _ (e1.trans e2) s2 (rv.older fun a ha => e1.back ha)⟩
        · rename_i hb
          cases he
          refine ⟨true, rv_bl rv hb, ?_⟩
          rw [if_pos rfl]
          exact q _ _ _ e1 s1 (rv_p (.bl _))
        · cases he
      · cases he
    · simp
end
end U

set_option Elab.async false
set_option linter.all false
set_option maxRecDepth 100000
namespace U
open PySem L2

section
variable {g : Gm} {C : Ctx} {k n : Nat} {N : List Str} {sc : Scope} {X : Cx} {e a b c : Expr} {ie x y z : E} {es : List Expr} {ies : List E} {pos : Pos}
theorem okTs_cons (h : okTs (x :: ies) = true) : okT x = true ∧ okTs ies = true := by
  simpa only [okTs, Bool.and_eq_true] using h
theorem case_andT (ih : SndE g C k N n) (G : Good g C k N sc X) : ∀ {es : List Expr} {ies : List E}, cL (cE g N n sc) es = some ies → es ≠ [] → okTs ies = true → PW X (.BoolOp .And es pos) (TvT X.kx C (.and ies))
  | [], _, _, h, _ => absurd rfl h
  | [a], _, h, _, ht => by
    obtain ⟨x, as, h1, h2, rfl⟩ := cL_cons h
    cases h2
    refine (pw_and1 (ih.pt sc X a x G h1 (okTs_cons ht).1)).imp fun σ H Q q => ?_
    obtain ⟨W, ρ, S, gf, r, c, S', hs, hl, he, q⟩ := q
    simp only [evE, evAnd] at he
    exact ⟨W, ρ, S, gf, r, c, S', hs, hl, he, q⟩
  | a :: b :: es, _, h, _, ht => by
    obtain ⟨x, as, h1, h2, rfl⟩ := cL_cons h
    obtain ⟨y, bs, h3, h4, rfl⟩ := cL_cons h2
    refine (pw_and (ih.pt sc X a x G h1 (okTs_cons ht).1) (case_andT ih G (es := b :: es) h2 (by simp) (okTs_cons ht).2)).imp fun σ H Q q => ?_
    obtain ⟨W, ρ, S, gf, r, c, S', hs, hl, he, hc, q⟩ := q
    simp only [evE] at he
    rw [evAnd] at he
    · split at he
      · rename_i rx S1 h5
        split at he
        · rename_i hb
          refine ⟨W, ρ, S, gf, rx, true, S1, hs, hl, h5, hb, fun W1 H1 e1 s1 => ?_⟩
          refine iteT ?_
          exact ⟨W1, ρ, S1, gf, r, c, S', s1, hl.ext e1 hs, by simp only [evE]; exact he, hc, fun W2 H2 e2 s2 => q _ _ (e1.trans e2) s2⟩
        · rename_i hb
          cases he
          have ec : false = c := Option.some.inj hc
          subst ec
          refine ⟨W, ρ, S, gf, rx, false, S', hs, hl, h5, hb, fun W1 H1 e1 s1 => ?_⟩
          refine iteF ?_
          exact q _ _ e1 s1
        · cases he
      · cases he
    · simp
theorem case_orT (ih : SndE g C k N n) (G : Good g C k N sc X) : ∀ {es : List Expr} {ies : List E}, cL (cE g N n sc) es = some ies → es ≠ [] → okTs ies = true → PW X (.BoolOp .Or es pos) (TvT X.kx C (.or ies))
  | [], _, _, h, _ => absurd rfl h
  | [a], _, h, _, ht => by
    obtain ⟨x, as, h1, h2, rfl⟩ := cL_cons h
    cases h2
    refine (pw_or1 (ih.pt sc X a x G h1 (okTs_cons ht).1)).imp fun σ H Q q => ?_
    obtain ⟨W, ρ, S, gf, r, c, S', hs, hl, he, q⟩ := q
    simp only [evE, evOr] at he
    exact ⟨W, ρ, S, gf, r, c, S', hs, hl, he, q⟩
  | a :: b :: es, _, h, _, ht => by
    obtain ⟨x, as, h1, h2, rfl⟩ := cL_cons h
    obtain ⟨y, bs, h3, h4, rfl⟩ := cL_cons h2
    refine (pw_or (ih.pt sc X a x G h1 (okTs_cons ht).1) (case_orT ih G (es := b :: es) h2 (by simp) (okTs_cons ht).2)).imp fun σ H Q q => ?_
    obtain ⟨W, ρ, S, gf, r, c, S', hs, hl, he, hc, q⟩ := q
    simp only [evE] at he
    rw [evOr] at he
    · split at he
      · rename_i rx S1 h5
        split at he
        · rename_i hb
          refine ⟨W, ρ, S, gf, rx, false, S1, hs, hl, h5, hb, fun W1 H1 e1 s1 => ?_⟩
          refine iteF ?_
          exact ⟨W1, ρ, S1, gf, r, c, S', s1, hl.ext e1 hs, by simp only [evE]; exact he, hc, fun W2 H2 e2 s2 => q _ _ (e1.trans e2) s2⟩
        · rename_i hb
          cases he
          have ec : true = c := Option.some.inj hc
          subst ec
          refine ⟨W, ρ, S, gf, rx, true, S', hs, hl, h5, hb, fun W1 H1 e1 s1 => ?_⟩
          refine iteT ?_
          exact q _ _ e1 s1
        · cases he
      · cases he
    · simp
theorem mark_of {op : CmpOp} (h : notSet b = true) : behindInMarks op b = false := by
  cases b <;> first
    | rfl
    | (cases h; done)
theorem peek_ok {K : KX} {W : Wd} {H H₀ : Hp} {S : AS} {v : V} {r : R} (s : Sto K W H S) (rv : RV K H₀ W H v r) : RV K H₀ W H v (peek S r) := by
  unfold peek
  split
  · rename_i k hk
    split
    · rename_i o ho
      obtain ⟨fp, h, _⟩ := rv
      rw [hk] at h
      cases h with
      | leaf h => cases h with
        | ref h =>
          obtain ⟨a, f, h1, h2, h3⟩ := s.at_ k o ho
          rw [h] at h1
          cases h1
          exact ⟨f, h3, trivial⟩
    · exact rv
  · exact rv
theorem peeks_ok {K : KX} {W : Wd} {H H₀ : Hp} {S : AS} (s : Sto K W H S) : ∀ {vs : List V} {rs : List R}, Paired (RV K H₀ W H) vs rs → Paired (RV K H₀ W H) vs (rs.map (peek S))
  | _, _, .nil => .nil
  | _, _, .cons h t => .cons (peek_ok s h) (peeks_ok s t)
theorem cmp_core {σ : L2.St} {H : Hp} {o : COp} {W : Wd} {ρ : Env} {S S' : AS} {gf : Nat → List Addr} {r : R} {K : KX} {Q : VK} (hs : Sto K W H S) (hl : Slo K W H σ ρ gf) (he : evE C (.cmp o x y) ρ S = some (r, S'))
    (q : ∀ (W' : Wd) (H' : Hp) (b : Bool), r = R.p (.bl b) → Ext W H S W' H' S' → Sto K W' H' S' → Q (.bl b) H') : tOp (rC K o) (TvE K C x) (TvE K C y) σ H Q := by
  simp only [evE] at he
  split at he
  · rename_i rx S1 h1
    split at he
    · rename_i ry S2 h2
      obtain ⟨r', h3, h4⟩ := Option.map_eq_some_iff.mp he
      cases h4
      exact two_parts hs hl h1 h2 fun W2 H1 H2 v u e2 s2 rv ru _ => cmp_ok h3 (peek_ok s2 rv) (peek_ok s2 ru) (q _ _ _ rfl e2 s2)
    · cases he
  · cases he
theorem case_cmp (ih : SndE g C k N n) (G : Good g C k N sc X) {op : CmpOp} (hn : notSet b = true) (ha : cE g N n sc a = some x) (hb : cE g N n sc b = some y) : PE X (.Compare a [op] [b] pos) (TvE X.kx C (.cmp (cC op) x y)) := by
  refine (pe_cmpR (opr_cmp G.room op) (ih.pe sc X a x G ha) (ih.pe sc X b y G hb) (mark_of hn)).imp fun σ H Q q => ?_
  obtain ⟨W, ρ, S, gf, r, S', hs, hl, he, q⟩ := q
  exact cmp_core hs hl he fun W' H' b hr e1 s1 => q _ _ _ e1 s1 (by rw [hr]; exact rv_p (.bl _))
theorem case_cmpT (ih : SndE g C k N n) (G : Good g C k N sc X) {op : CmpOp} (hn : notSet b = true) (ha : cE g N n sc a = some x) (hb : cE g N n sc b = some y) : PT X (.Compare a [op] [b] pos) (TvT X.kx C (.cmp (cC op) x y)) := by
  refine (pt_cmpR (opr_cmp G.room op) (ih.pe sc X a x G ha) (ih.pe sc X b y G hb) (mark_of hn)).imp fun σ H Q q => ?_
  obtain ⟨W, ρ, S, gf, r, c, S', hs, hl, he, hc, q⟩ := q
  refine cmp_core hs hl he fun W' H' b hr e1 s1 => ⟨b, rfl, ?_⟩
  subst hr
  have ec : b = c := Option.some.inj hc
  rw [ec]
  exact q _ _ e1 s1
theorem last_of {o o' : CmpOp} (h : notSet c = true) : lastMarks [o, o'] [b, c] = false := by
  show behindInMarks o' c = false
  exact mark_of h
theorem chain_core {σ : L2.St} {H : Hp} {o o' : COp} {W : Wd} {ρ : Env} {S S' : AS} {gf : Nat → List Addr} {r : R} {K : KX} {Q : VK} (hs : Sto K W H S) (hl : Slo K W H σ ρ gf) (he : evE C (.cmp2 o o' x y z) ρ S = some (r, S'))
    (q : ∀ (W' : Wd) (H' : Hp) (b : Bool), r = R.p (.bl b) → Ext W H S W' H' S' → Sto K W' H' S' → Q (.bl b) H') : tChain (rC K o) (rC K o') (TvE K C x) (TvE K C y) (TvE K C z) σ H Q := by
  simp only [evE] at he
  split at he
  · rename_i rx S1 h1
    split at he
    · rename_i ry S2 h2
      split at he
      · cases he
      · rename_i hv
        have hv : isVol ry = false := by simpa using hv
        refine two_parts hs hl h1 h2 fun W2 H1 H2 v u e2 s2 rv ru hold => ?_
        split at he
        · rename_i h3
          split at he
          · rename_i rz S3 h4
            obtain ⟨r', h5, h6⟩ := Option.map_eq_some_iff.mp he
            cases h6
            refine cmp_ok h3 rv ru ⟨true, rfl, ?_⟩
            refine iteT ?_
            refine ⟨W2, ρ, S2, gf, rz, S', s2, hl.ext e2 hs, h4, fun W3 H3 w e3 s3 rw' => ?_⟩
            exact cmp_ok h5 (ru.ext e3 s2 fun z => by rw [hv] at z; cases z) rw' (q _ _ _ rfl (e2.trans e3) s3)
          · cases he
        · rename_i h3
          cases he
          refine cmp_ok h3 rv ru ⟨false, rfl, ?_⟩
          refine iteF ?_
          exact q _ _ _ rfl e2 s2
        · cases he
    · cases he
  · cases he
theorem case_cmp2 (ih : SndE g C k N n) (G : Good g C k N sc X) {op op' : CmpOp} (hn : notSet c = true) (ha : cE g N n sc a = some x) (hb : cE g N n sc b = some y) (hc : cE g N n sc c = some z) : PE X (.Compare a [op, op'] [b, c] pos) (TvE X.kx C (.cmp2 (cC op) (cC op') x y z)) := by
  refine (pe_chain (opr_cmp G.room op) (opr_cmp G.room op') (ih.pe sc X a x G ha) (ih.pe sc X b y G hb) (ih.pe sc X c z G hc) (last_of hn)).imp fun σ H Q q => ?_
  obtain ⟨W, ρ, S, gf, r, S', hs, hl, he, q⟩ := q
  exact chain_core hs hl he fun W' H' b hr e1 s1 => q _ _ _ e1 s1 (by rw [hr]; exact rv_p (.bl _))
theorem case_cmp2T (ih : SndE g C k N n) (G : Good g C k N sc X) {op op' : CmpOp} (hn : notSet c = true) (ha : cE g N n sc a = some x) (hb : cE g N n sc b = some y) (hc : cE g N n sc c = some z) : PT X (.Compare a [op, op'] [b, c] pos) (TvT X.kx C (.cmp2 (cC op) (cC op') x y z)) := by
  refine (pt_chain (opr_cmp G.room op) (opr_cmp G.room op') (ih.pe sc X a x G ha) (ih.pe sc X b y G hb) (ih.pe sc X c z G hc) (last_of hn)).imp fun σ H Q q => ?_
  obtain ⟨W, ρ, S, gf, r, c', S', hs, hl, he, hc', q⟩ := q
  refine chain_core hs hl he fun W' H' b hr e1 s1 => ⟨b, rfl, ?_⟩
  subst hr
  have ec : b = c' := Option.some.inj hc'
  rw [ec]
  exact q _ _ e1 s1
theorem case_ite (ih : SndE g C k N n) (G : Good g C k N sc X) (hc : cE g N n sc c = some z) (ha : cE g N n sc a = some x) (hb : cE g N n sc b = some y) (ht : okT z = true) : PE X (.IfExp c a b pos) (TvE X.kx C (.ite z x y)) := by
  refine (pe_ifExp (ih.pt sc X c z G hc ht) (ih.pe sc X a x G ha) (ih.pe sc X b y G hb)).imp fun σ H Q q => ?_
  obtain ⟨W, ρ, S, gf, r, S', hs, hl, he, q⟩ := q
  simp only [evE] at he
  split at he
  · rename_i rz S1 h1
    split at he
    · rename_i hb
      refine ⟨W, ρ, S, gf, rz, true, S1, hs, hl, h1, hb, fun W1 H1 e1 s1 => ?_⟩
      refine iteT ?_
      exact ⟨W1, ρ, S1, gf, r, S', s1, hl.ext e1 hs, he, fun W2 H2 v e2 s2 rv => q _ _ _ (e1.trans e2) s2 (rv.older fun a ha => e1.back ha)⟩
    · rename_i hb
      refine ⟨W, ρ, S, gf, rz, false, S1, hs, hl, h1, hb, fun W1 H1 e1 s1 => ?_⟩
      refine iteF ?_
      exact ⟨W1, ρ, S1, gf, r, S', s1, hl.ext e1 hs, he, fun W2 H2 v e2 s2 rv => q _ _ _ (e1.trans e2) s2 (rv.older fun a ha => e1.back ha)⟩
    · cases he
  · cases he
theorem call_core {K : KX} {σ : L2.St} {H : Hp} {f np : Nat} {Q : VK} (hnp : ∀ (args : List R) (S : AS) (z : R × AS), C.call f args S = some z → args.length = np) (q : TvE K C (.call f ies) σ H Q) :
    TvA K C ies σ H fun vs H1 => spF K C f np (vs ++ []) H1 Q E0 := by
  obtain ⟨W, ρ, S, gf, r, S', hs, hl, he, q⟩ := q
  simp only [evE] at he
  split at he
  · rename_i as S1 h1
    refine ⟨W, ρ, S, gf, as, S1, hs, hl, h1, fun W1 H1 vs e1 s1 rs => ?_⟩
    show spF K C f np (vs ++ []) H1 Q E0
    rw [List.append_nil]
    refine ⟨by rw [← hnp as S1 _ he]; exact Paired.length rs, W1, S1, as, r, S', s1, rs, he, fun W2 H2 v e2 s2 rv => q _ _ _ (e1.trans e2) s2 (rv.older fun a ha => e1.back ha)⟩
  · cases he
theorem case_call (ih : SndE g C k N n) (G : Good g C k N sc X) {x : Str} {p : Pos} {f : Nat} (hn : okName x = true) (hg : isGl sc x = true) (hf : g.fns.lookup x = some f) : ∀ {es : List Expr} {ies : List E}, cL (cE g N n sc) es = some ies → PE X (.Call (.Name x p) es [] pos) (TvE X.kx C (.call f ies))
  | [], _, h => by
    cases h
    obtain ⟨fa, fd, ps, h1, h2, h3, h4, h5⟩ := G.fns x f hf
    refine (pe_call0 h4 G.room (gl_of G hg) h1 h2 h3 .nil pass0 (name_of hn).1).imp fun σ H Q q => ?_
    have z := call_core h5 q
    obtain ⟨W, ρ, S, gf, rs, S', hs, hl, he, q⟩ := z
    simp only [evA, Option.some.injEq, Prod.mk.injEq] at he
    obtain ⟨rfl, rfl⟩ := he
    exact q _ _ [] Ext.refl hs .nil
  | e :: es, _, h => by
    obtain ⟨a, as, h6, h7, rfl⟩ := cL_cons h
    obtain ⟨fa, fd, ps, h1, h2, h3, h4, h5⟩ := G.fns x f hf
    refine (pe_call h4 G.room (gl_of G hg) h1 h2 h3 .nil pass0 (pa_A ih G h) (name_of hn).1 (star_of h6 _ _) (nostar h7 _ _)).imp fun σ H Q q => ?_
    exact call_core h5 q
theorem case_blt (ih : SndE g C k N n) (G : Good g C k N sc X) {x : Str} {p : Pos} {b : Blt} (hn : okName x = true) (hg : isGl sc x = true) (hf : g.fr.contains x = true) (hb : nmB x = some b) (h : cL (cE g N n sc) (e :: es) = some ies) : PE X (.Call (.Name x p) (e :: es) [] pos) (TvE X.kx C (.blt b ies)) := by
  obtain ⟨a, as, h6, h7, rfl⟩ := cL_cons h
  obtain ⟨b1, b2⟩ := boot_of hb
  have hm : X.mg x = none := G.fr x (by simpa using hf)
  have key : ∀ {f : Value}, bltV b = f → CallR X f (rBlt X.kx b) := fun e => e ▸ callr_blt G.calm b
  have pe : PE X (.Call (.Name x p) (e :: es) [] pos) (tCB (rBlt X.kx b) (TvR X.kx C (a :: as))) := by
    cases hv : bltV b with
    | builtin id => exact pe_callB (key hv) (gl_of G hg) hm (by rw [← hv]; exact b1) (pa_R ih G h) b2 (name_of hn).1 (star_of h6 _ _) (nostar h7 _ _)
    | type T => exact pe_callTy (key hv) (gl_of G hg) hm (by rw [← hv]; exact b1) (pa_R ih G h) b2 (name_of hn).1 (star_of h6 _ _) (nostar h7 _ _)
    | _ => cases b <;> cases hv
  refine pe.imp fun σ H Q q => ?_
  obtain ⟨W, ρ, S, gf, r, S', hs, hl, he, q⟩ := q
  simp only [evE] at he
  split at he
  · rename_i rs S1 h1
    obtain ⟨r', h3, h4⟩ := Option.map_eq_some_iff.mp he
    cases h4
    exact ⟨W, ρ, S, gf, rs, S', hs, hl, h1, fun W1 H1 vs e1 s1 rv => blt_ok h3 e1 s1 (peeks_ok s1 rv) q⟩
  · cases he
theorem new_ok {K : KX} {W W' : Wd} {H H' : Hp} {S S' S2 : AS} {v : V} {r x : R} {Q : VK} (h : newR x S' = some (r, S2)) (e : Ext W H S W' H' S') (s : Sto K W' H' S') (rv : RV K H W' H' v x) (k : Kp K H W S S2 r Q) : Q v H' := by
  unfold newR at h
  split at h
  · rename_i os hs ho
    cases h
    obtain ⟨fp, h1, h2⟩ := rv
    rw [hs] at h2
    rw [ho] at h1
    obtain ⟨hn, h2⟩ := h2
    cases h1 with
    | lst ha hi =>
      rename_i a vs fp
      have fr : Frm W' H' ⟨W'.Z, W'.th ++ [a], W'.F ++ [a :: fp]⟩ H' := ⟨fun _ z => ⟨z, fun _ h => h⟩, fun j b hb => by
        rw [List.getElem?_append_left (List.getElem?_eq_some_iff.mp hb).1]; exact hb⟩
      have hsf : (Wd.SF ⟨W'.Z, W'.th ++ [a], W'.F ++ [a :: fp]⟩) = W'.SF ++ (a :: fp) := by simp [Wd.SF]
      have ro : RO K ⟨W'.Z, W'.th ++ [a], W'.F ++ [a :: fp]⟩ H' (.ref a) (.lst os) (a :: fp) := (RO.lst ha hi).mono fr fun _ _ _ h => h
      refine k ⟨W'.Z, W'.th ++ [a], W'.F ++ [a :: fp]⟩ H' (.ref a) ⟨e.z, fun b o hb hnb => ?_, fun j b hb => fr.th j b (e.th j b hb), fun _ z => (by cases z), fun _ => rfl, e.tr⟩ ⟨by simp [s.l1], by simp [s.l2], fun j o hj => ?_, ?_, fun b hb => ?_, s.zt⟩ (rv_p (.ref ?_))
      · obtain ⟨k1, k2, k3⟩ := e.keep b o hb hnb
        refine ⟨k1, ?_, k3⟩
        rw [hsf, List.mem_append, not_or]
        refine ⟨k2, fun z => ?_⟩
        have := (h2 b z).2.2
        rw [hb] at this; cases this
      · rcases Nat.lt_or_ge j S'.os.length with hl | hl
        · rw [List.getElem?_append_left hl] at hj
          obtain ⟨b, f, g1, g2, g3⟩ := s.at_ j o hj
          refine ⟨b, f, fr.th j b g1, ?_, g3.mono fr fun _ _ _ h => h⟩
          rw [List.getElem?_append_left (List.getElem?_eq_some_iff.mp g2).1]; exact g2
        · rw [List.getElem?_append_right hl] at hj
          have ej : j - S'.os.length = 0 := by
            cases q : j - S'.os.length with
            | zero => rfl
            | succ m => rw [q] at hj; simp at hj
          rw [ej] at hj
          have eo : O.lst os = o := by simpa using hj
          subst eo
          have ej : j = S'.os.length := by omega
          subst ej
          refine ⟨a, a :: fp, ?_, ?_, ro⟩
          · rw [← s.l1]; simp
          · rw [← s.l2]; simp
      · rw [hsf, List.nodup_append]
        refine ⟨s.nd, hn, fun b hb c hc hbc => ?_⟩
        subst hbc
        exact (h2 b hc).2.1 hb
      · rw [hsf, List.mem_append] at hb
        exact hb.elim (s.zf b) fun z => (h2 b z).1
      · rw [← s.l1]; simp
  · cases h
theorem case_new (h : PE X e (TvE X.kx C x)) : PE X e (TvE X.kx C (.new x)) := h.imp fun σ H Q q => by
  obtain ⟨W, ρ, S, gf, r, S', hs, hl, he, q⟩ := q
  simp only [evE] at he
  split at he
  · rename_i rx S1 h1
    exact ⟨W, ρ, S, gf, rx, S1, hs, hl, h1, fun W1 H1 v e1 s1 rv => new_ok he e1 s1 rv q⟩
  · cases he
theorem case_sub (ih : SndE g C k N n) (G : Good g C k N sc X) (hp : plainIx b = true) (ha : cE g N n sc a = some x) (hb : cE g N n sc b = some y) : PE X (.Subscript a b pos) (TvE X.kx C (.sub x y)) := by
  have hpl : PlainIx b := by
    cases b <;> first
      | exact fun _ _ => rfl
      | (cases hp; done)
  refine (pe_ix (ix_seq.or (ix_dh (by have := G.room.un; omega))) (ih.pe sc X a x G ha) (ih.pe sc X b y G hb) hpl).imp fun σ H Q q => ?_
  obtain ⟨W, ρ, S, gf, r, S', hs, hl, he, q⟩ := q
  simp only [evE] at he
  split at he
  · rename_i rx S1 h1
    split at he
    · rename_i ry S2 h2
      obtain ⟨r', h3, h4⟩ := Option.map_eq_some_iff.mp he
      cases h4
      exact two_parts hs hl h1 h2 fun W2 H1 H2 v u e2 s2 rv ru _ => subA_ok h3 e2 s2 (peek_ok s2 rv) ru q
    · cases he
  · cases he
def TvO (K : KX) (C : Ctx) (e : Option E) : TO := fun σ H Q => ∃ (W : Wd) (ρ : Env) (S : AS) (gf : Nat → List Addr) (i : Option Int) (S' : AS), Sto K W H S ∧ Slo K W H σ ρ gf ∧ evO C e ρ S = some (i, S') ∧
  ∀ (W' : Wd) (H' : Hp), Ext W H S W' H' S' → Sto K W' H' S' → Q i H'
theorem po_O (ih : SndE g C k N n) (G : Good g C k N sc X) {e : Option Expr} {ie : Option E} (h : cOpt (cE g N n sc) e = some ie) : PO X e (TvO X.kx C ie) := by
  cases e with
  | none =>
    cases h
    refine ⟨fun pins s σ H Q I q => po_none.run pins s σ H Q I ?_⟩
    obtain ⟨W, ρ, S, gf, i, S', hs, hl, he, q⟩ := q
    simp only [evO, Option.some.injEq, Prod.mk.injEq] at he
    obtain ⟨rfl, rfl⟩ := he
    exact q _ _ Ext.refl hs
  | some e =>
    obtain ⟨x, hx, rfl⟩ := Option.map_eq_some_iff.mp h
    refine ⟨fun pins s σ H Q I q => (po_some (ih.pe sc X e x G hx)).run pins s σ H Q I ?_⟩
    obtain ⟨W, ρ, S, gf, i, S', hs, hl, he, q⟩ := q
    simp only [evO] at he
    split at he
    · rename_i r S1 h1
      obtain ⟨j, h2, h3⟩ := Option.map_eq_some_iff.mp he
      cases h3
      exact ⟨W, ρ, S, gf, r, S', hs, hl, h1, fun W1 H1 v e1 s1 rv => ⟨j, rv_int rv h2, q _ _ e1 s1⟩⟩
    · cases he
theorem case_slc (ih : SndE g C k N n) (G : Good g C k N sc X) {lo hi : Option Expr} {l h : Option E} {p2 : Pos} (ha : cE g N n sc a = some x) (hlo : cOpt (cE g N n sc) lo = some l) (hhi : cOpt (cE g N n sc) hi = some h) : PE X (.Subscript a (.Slice lo hi none p2) pos) (TvE X.kx C (.slc x l h)) := by
  have pe := pe_slice (pos := pos) (p2 := p2) slr (ih.pe sc X a x G ha) (po_O ih G hlo) (po_O ih G hhi)
  refine pe.imp fun σ H Q q => ?_
  obtain ⟨W, ρ, S, gf, r, S', hs, hl, he, q⟩ := q
  simp only [evE] at he
  split at he
  · rename_i rx S1 h1
    split at he
    · cases he
    · rename_i hv
      have hv : isVol rx = false := by simpa using hv
      split at he
      · rename_i i S2 h2
        split at he
        · rename_i j S3 h3
          obtain ⟨r', h4, h5⟩ := Option.map_eq_some_iff.mp he
          cases h5
          refine ⟨W, ρ, S, gf, rx, S1, hs, hl, h1, fun W1 H1 v e1 s1 rv => ?_⟩
          refine ⟨W1, ρ, S1, gf, i, S2, s1, hl.ext e1 hs, h2, fun W2 H2 e2 s2 => ?_⟩
          refine ⟨W2, ρ, S2, gf, j, S', s2, (hl.ext e1 hs).ext e2 s1, h3, fun W3 H3 e3 s3 => ?_⟩
          exact slc_ok h4 ((e1.trans e2).trans e3) s3 (rv.ext (e2.trans e3) s1 fun z => by rw [hv] at z; cases z) q
        · cases he
      · cases he
  · cases he
end
end U

set_option Elab.async false
set_option linter.all false
set_option maxRecDepth 100000
namespace U
open PySem L2

section
variable {g : Gm} {C : Ctx} {k n : Nat} {N : List Str} {sc : Scope} {X : Cx} {e a b c : Expr} {ie x y z : E} {es : List Expr} {ies : List E} {pos : Pos}
theorem ty_of (G : Good g C k N sc X) {t : Expr} {m : String} (h : cTy g sc t = some m) : PE X t (tC (.ty m)) ∧ m ∈ ["tuple", "list", "str", "int", "bool"] ∧ ∀ (env : PySem.Env) (r : List Expr), starEach (t :: r) env = (false, eval t env) :: starEach r env := by
  unfold cTy at h
  split at h
  · split at h
    · rename_i x p hb
      simp only [Bool.and_eq_true] at hb
      obtain ⟨b1, b2, b3, b4⟩ := bootT_of h
      exact ⟨pe_bltn (gl_of G hb.1) (G.fr x (by simpa using hb.2)) b1 rfl b2 b4, b3, fun _ _ => rfl⟩
    · cases h
  · cases h
theorem tys_of (G : Good g C k N sc X) : ∀ {ts : List Expr} {ms : List String}, cTys g sc ts = some ms → PA X ts (fun _ H Q => Q (ms.map V.ty) H) ∧ ∀ m ∈ ms, m ∈ ["tuple", "list", "str", "int", "bool"]
  | [], _, h => by
    cases h
    exact ⟨pa_nil.imp fun _ _ _ q => q, fun _ z => by cases z⟩
  | t :: ts, _, h => by
    unfold cTys at h
    split at h
    · rename_i m ms h1 h2
      cases h
      obtain ⟨p1, p2, p3⟩ := ty_of G h1
      obtain ⟨q1, q2⟩ := tys_of G h2
      refine ⟨(pa_cons p1 q1 (p3 _ _)).imp fun _ _ _ q => q, fun u hu => ?_⟩
      rcases List.mem_cons.mp hu with e | hu
      · exact e ▸ p2
      · exact q2 u hu
    · cases h
theorem isaO_of {o : O} {ts : List String} {b : Bool} (h : isaO o ts = some b) : ∃ m, tyName o = some m ∧ b = ts.any (isaTy m) := by
  unfold isaO at h
  obtain ⟨m, h1, h2⟩ := Option.map_eq_some_iff.mp h
  exact ⟨m, h1, h2.symm⟩
theorem boot_isa : bootBuiltins ("isinstance" : Str) = some (.builtin "isinstance") := by decide +kernel
theorem case_isa1 (ih : SndE g C k N n) (G : Good g C k N sc X) {p : Pos} {t : Expr} {m : String} (hg : isGl sc ("isinstance" : Str) = true) (hf : g.fr.contains ("isinstance" : Str) = true) (ha : cE g N n sc a = some x) (ht : cTy g sc t = some m) :
    PE X (.Call (.Name ("isinstance" : Str) p) [a, t] [] pos) (TvE X.kx C (.isa x [m])) := by
  obtain ⟨p1, p2, p3⟩ := ty_of G ht
  refine (pe_callB (call_isi (X := X)) (gl_of G hg) (G.fr _ (by simpa using hf)) boot_isa (pa_cons (ih.pe sc X a x G ha) (pa_cons p1 pa_nil (p3 _ _)) (star_of ha _ _)) (by decide +kernel) (by decide +kernel) (star_of ha _ _) (by rw [p3]; rfl)).imp fun σ H Q q => ?_
  obtain ⟨W, ρ, S, gf, r, S', hs, hl, he, q⟩ := q
  simp only [evE] at he
  split at he
  · rename_i rx S1 h1
    obtain ⟨b, h2, h3⟩ := Option.map_eq_some_iff.mp he
    cases h3
    obtain ⟨nm, h4, rfl⟩ := isaO_of h2
    refine ⟨W, ρ, S, gf, rx, S', hs, hl, h1, fun W1 H1 v e1 s1 rv => ?_⟩
    obtain ⟨t1, t2⟩ := ty_ok h4 rv
    refine ⟨v, .ty m, _, _, _, rfl, .ty m, t1, kit_ty (kit_all nm t2 m p2), ?_⟩
    have eb : [m].any (isaTy nm) = isaTy nm m := by simp
    rw [← eb]
    exact q _ _ _ e1 s1 (rv_p (.bl _))
  · cases he
theorem paired_cls : ∀ ms : List String, Paired ClsV (ms.map V.ty) (ms.map Value.type)
  | [] => .nil
  | m :: ms => .cons (.ty m) (paired_cls ms)
theorem case_isaT (ih : SndE g C k N n) (G : Good g C k N sc X) {p p2 : Pos} {j : Nat} {ts : List Expr} {ms : List String} (hg : isGl sc ("isinstance" : Str) = true) (hf : g.fr.contains ("isinstance" : Str) = true) (ha : cE g N n sc a = some x) (ht : cTys g sc ts = some ms) (hz : ms.length ≤ sizeLine) :
    PE X (.Call (.Name ("isinstance" : Str) p) [a, .Tuple ts j p2] [] pos) (TvE X.kx C (.isa x ms)) := by
  obtain ⟨p1, p2'⟩ := tys_of G ht
  refine (pe_callB (call_isiT (X := X)) (gl_of G hg) (G.fr _ (by simpa using hf)) boot_isa (pa_cons (ih.pe sc X a x G ha) (pa_cons (pe_tup p1) pa_nil) (star_of ha _ _)) (by decide +kernel) (by decide +kernel) (star_of ha _ _) rfl).imp fun σ H Q q => ?_
  obtain ⟨W, ρ, S, gf, r, S', hs, hl, he, q⟩ := q
  simp only [evE] at he
  split at he
  · rename_i rx S1 h1
    obtain ⟨b, h2, h3⟩ := Option.map_eq_some_iff.mp he
    cases h3
    obtain ⟨nm, h4, rfl⟩ := isaO_of h2
    refine ⟨W, ρ, S, gf, rx, S', hs, hl, h1, fun W1 H1 v e1 s1 rv => ⟨by rw [List.length_map]; exact hz, fun tp hp => ?_⟩⟩
    have e2 := e1.trans (ext_new (u := HO.tup (ms.map V.ty)) s1 hp)
    have s2 := sto_new (u := HO.tup (ms.map V.ty)) s1 hp
    have rv2 : RV X.kx H W1 (upd H1 tp (HO.tup (ms.map V.ty))) v rx := by
      obtain ⟨fp, ho, hst⟩ := rv
      exact ⟨fp, ho.mono (frm_new hp) fun b _ o hb => by rw [upd_ne (ne_of_none hb hp)]; exact hb, hst⟩
    obtain ⟨t1, t2⟩ := ty_ok h4 rv2
    exact ⟨v, tp, _, _, _, _, rfl, upd_same, paired_cls ms, t1, (kit_any (K := X.kx) t2 ms p2'), q _ _ _ e2 s2 (rv_p (.bl _))⟩
  · cases he
theorem strs_of {K : KX} {W : Wd} {H : Hp} : ∀ {vs : List V} {ps : List P} {ys : List (List Nat)}, RPs K W H vs ps → strsOf ps = some ys → vs = ys.map fun y => V.str ⟨y.toArray⟩
  | _, _, _, .nil, h => by simp only [strsOf, Option.some.injEq] at h; subst h; rfl
  | _, _, ys, .cons (p := p) (ps := ps) a b, h => by
    cases a <;> simp only [strsOf] at h <;> first
      | (cases h; done)
      | (cases e : strsOf ps with
        | none => rw [e] at h; cases h
        | some cs =>
          rw [e] at h
          have h := Option.some.inj h
          subst h
          rw [strs_of b e]
          rfl)
theorem findS_of {x : List Nat} : ∀ {ys : List (List Nat)} {n j : Nat}, findS x ys n = some j → n ≤ j ∧ ys[j - n]? = some x ∧ ∀ m, m < j - n → ys[m]? ≠ some x
  | [], _, _, h => by cases h
  | y :: ys, n, j, h => by
    unfold findS at h
    split at h
    · rename_i e
      cases h
      refine ⟨Nat.le_refl _, ?_, fun m hm => by omega⟩
      rw [Nat.sub_self, e]
      rfl
    · rename_i e
      obtain ⟨h1, h2, h3⟩ := findS_of h
      have e1 : j - n = (j - (n + 1)) + 1 := by omega
      refine ⟨by omega, by rw [e1, List.getElem?_cons_succ]; exact h2, fun m hm => ?_⟩
      cases m with
      | zero => rw [List.getElem?_cons_zero]; exact fun z => e (Option.some.inj z)
      | succ m => rw [List.getElem?_cons_succ]; exact h3 m (by omega)
theorem str_mk_inj {a b : List Nat} (h : (⟨a.toArray⟩ : Str) = ⟨b.toArray⟩) : a = b := by
  have := congrArg (fun s : Str => s.cps.toList) h
  simpa using this
theorem case_idxG (ih : SndE g C k N n) (G : Good g C k N sc X) {p2 ap : Pos} {nm : Str} {j : Nat} (ho : cE g N n sc (.Name nm p2) = some (.glb j)) (hb : cE g N n sc b = some y) (hline : (ap.endLine == pos.line) = true) :
    PE X (.Call (.Attribute (.Name nm p2) ("index" : Str) ap) [b] [] pos) (TvE X.kx C (.idxG j y)) := by
  cases n with
  | zero => cases ho
  | succ n =>
  simp only [cE] at ho
  split at ho
  · rename_i hn
    obtain ⟨n1, n2⟩ := name_of hn
    split at ho
    · obtain ⟨i, _, h⟩ := Option.map_eq_some_iff.mp ho
      cases h
    · split at ho
      · rename_i hg
        obtain ⟨j', hj, h⟩ := Option.map_eq_some_iff.mp ho
        cases h
        obtain ⟨p, u, v, h1, h2, h3, h4⟩ := G.glb nm j hj
        refine (pe_bm PySem.F.plainAttrs_tuple PySem.F.slot_tuple_index PySem.F.type_tuple_index mt_tup_index (pe_glob (gl_of G hg) h2 h3 n1) (pa_cons (ih.pe sc X b y G hb) pa_nil (star_of hb _ _)) rfl (by rw [star_of hb]; rfl) hline (star_of hb _ _) rfl).imp fun σ H Q q => ?_
        obtain ⟨W, ρ, S, gf, r, S', hs, hl, he, q⟩ := q
        simp only [evE, h1] at he
        split at he
        · rename_i ps hps
          cases hps
          split at he
          · rename_i rx S1 h5
            obtain ⟨r', h6, h7⟩ := Option.map_eq_some_iff.mp he
            cases h7
            obtain ⟨a, vs, rfl, ⟨o, its, m, w1, w2, w3, w4, w5, w6⟩, w7⟩ := h4.2 ps rfl
            refine ⟨.inr (.inl ⟨rfl, o, w1, w2, w3⟩), ⟨W, ρ, S, gf, rx, S', hs, hl, h5, fun W1 H1 z e1 s1 rv => ?_⟩⟩
            unfold idxS at h6
            split at h6
            · rename_i ys xx hy hx
              obtain ⟨ix, hix, hr⟩ := Option.map_eq_some_iff.mp h6
              subst hr
              obtain ⟨_, f2, f3⟩ := findS_of hix
              rw [Nat.sub_zero] at f2 f3
              have hv := strs_of (w7 W1 H1) hy
              refine ⟨a, ys.map fun y => (⟨y.toArray⟩ : Str), ⟨xx.toArray⟩, ix, rfl, by rw [rv_str rv hx], ?_, ?_, ?_, q _ _ _ e1 s1 (rv_p (.int _))⟩
              · rw [List.map_map]
                rw [hv] at w6
                exact .inr ⟨o, its, m, w1, w2, w4, w5, w6⟩
              · rw [List.getElem?_map, f2]
                rfl
              · intro m' hm' hz
                rw [List.getElem?_map] at hz
                obtain ⟨w, hw1, hw2⟩ := Option.map_eq_some_iff.mp hz
                have := str_mk_inj hw2
                subst this
                exact f3 m' hm' hw1
            · cases h6
          · cases he
        · cases he
      · cases ho
  · cases ho
theorem meth_of {a r : R} {rs : List R} (h : methR .index a rs = some r) : ∃ z ps, rs = [z] ∧ a.o.items = some ps ∧ idxS ps z.o = some r := by
  unfold methR at h
  split at h
  · split at h
    · exact ⟨_, _, rfl, by assumption, h⟩
    · cases h
  · cases h
theorem case_meth (ih : SndE g C k N n) (G : Good g C k N sc X) {ap : Pos} (ha : cE g N n sc a = some x) (hb : cE g N n sc b = some y) (hbase : attributeBase a ("index" : Str) X.env (eval a X.env) = eval a X.env) (hline : (ap.endLine == pos.line) = true) :
    PE X (.Call (.Attribute a ("index" : Str) ap) [b] [] pos) (TvE X.kx C (.meth .index x [y])) := by
  have hcl : cL (cE g N n sc) [b] = some [y] := by simp [cL, hb]
  refine (pe_bm PySem.F.plainAttrs_list PySem.F.slot_list_index PySem.F.type_list_index mt_index (ih.pe sc X a x G ha) (pa_R ih G hcl) hbase (by rw [star_of hb]; rfl) hline (star_of hb _ _) rfl).imp fun σ H Q q => ?_
  obtain ⟨W, ρ, S, gf, r, S', hs, hl, he, q⟩ := q
  simp only [evE] at he
  split at he
  · rename_i rx S1 h1
    split at he
    · rename_i rs S2 h2
      obtain ⟨r', h3, h4⟩ := Option.map_eq_some_iff.mp he
      cases h4
      refine ⟨W, ρ, S, gf, rx, S1, hs, hl, h1, fun W1 H1 v e1 s1 rv => ?_⟩
      obtain ⟨S0, S0', h5, s0, kk⟩ := then_ok h2 e1 s1
      obtain ⟨zz, ps, rfl, hps, h3⟩ := meth_of h3
      · · obtain ⟨l, vs, rfl, w1, w2⟩ := rv_items rv hps
          refine ⟨.inl ⟨rfl, vs, SqL.of w1⟩, W1, ρ, S0, gf, _, S0', s0, hl.ext e1 hs, h5, fun W2 H2 us e2 s2 rus => ?_⟩
          obtain ⟨k1, k2, k3, k4⟩ := kk W2 H2 e2 s2
          obtain ⟨u, rfl, ru⟩ := paired1 rus
          obtain ⟨l', vs', el, w1, w2⟩ := rv_items (k4 _ rx H rv id) hps
          cases el
          unfold idxS at h3
          split at h3
          · rename_i ys xx hy hx
            obtain ⟨ix, hix, hr⟩ := Option.map_eq_some_iff.mp h3
            subst hr
            obtain ⟨_, f2, f3⟩ := findS_of hix
            rw [Nat.sub_zero] at f2 f3
            have hv := strs_of w2 hy
            subst hv
            refine ⟨l, _, _, ix, .str ⟨xx.toArray⟩, rfl, rfl, SqL.of w1, by rw [rv_str ru hx]; rfl, by simp [flatV], ?_, ?_, ?_, q _ _ _ k1 k3 (rv_p (.int _))⟩
            · rw [List.getElem?_map, f2]
              rfl
            · rw [rv_str ru hx]
              simp [eqV]
            · intro m' z' hm' hz
              rw [List.getElem?_map] at hz
              obtain ⟨w, hw1, rfl⟩ := Option.map_eq_some_iff.mp hz
              rw [rv_str ru hx]
              show ((⟨w.toArray⟩ : Str) == ⟨xx.toArray⟩) = false
              rw [beq_eq_false_iff_ne]
              intro e
              have := str_mk_inj e
              subst this
              exact f3 m' hm' hw1
          · cases h3
    · cases he
  · cases he
end
end U

set_option Elab.async false
set_option linter.all false
set_option maxRecDepth 100000
namespace U
open PySem PySem.Spec PyProof.Rows L2 HT

section
variable {prog : Program} {w : World} {A : Around} {E : Value → Shared → Prop} {s : Shared}
theorem applied_rev {sl : Addr} {vs : Value} {n : Nat} {Q : Int × Int × Nat → Shared → Prop} (hs : s.heap.IsSliceOf sl .none .none vs) (ps : IsPart vs (some (-1)))
    (h : Q (((n : Int) - 1), -1, n) s) : wpAny (model prog w) A (Builtin.Slice.sliceApplied (.ref sl) (pure (n : Int))) Q E s := by
  obtain ⟨os, hos, hcs, hds⟩ := id hs
  unfold Builtin.Slice.sliceApplied Builtin.Slice.sliceFields
  refine wpAny_bind (wpAny_bind (wpAny_field hos hds (x := .none) rfl (wpAny_bind (wpAny_field hos hds (x := .none) rfl (wpAny_bind (wpAny_field hos hds (x := vs) rfl (wpAny_pure ?_)))))))
  refine wpAny_bind (slicePart_ ps ?_)
  show wpAny _ _ (if ((-1 : Int) == 0) = true then _ else _) _ _ s
  rw [if_neg (by decide)]
  refine wpAny_bind (slicePart_none (wpAny_bind (slicePart_none (wpAny_bind (wpAny_pure ?_)))))
  show wpAny _ _ (match Builtin.Slice.sliceAdjust none none (-1) (n : Int) with | (lo, hi) => pure (lo, (-1 : Int), Builtin.Slice.slicePlaces lo hi (-1))) _ _ s
  have e : Builtin.Slice.sliceAdjust none none (-1) (n : Int) = ((n : Int) - 1, -1) := rfl
  rw [e]
  show wpAny _ _ (pure ((n : Int) - 1, (-1 : Int), Builtin.Slice.slicePlaces ((n : Int) - 1) (-1) (-1))) _ _ s
  have e2 : Builtin.Slice.slicePlaces ((n : Int) - 1) (-1) (-1) = n := by
    unfold Builtin.Slice.slicePlaces
    rw [if_neg (by decide)]
    by_cases h0 : (n : Int) - 1 > -1
    · rw [if_pos h0]
      have : -(-1 : Int) = 1 := rfl
      rw [this, Int.ediv_one]
      omega
    · rw [if_neg h0]
      omega
  rw [e2]
  exact wpAny_pure h
theorem fm_map {α : Type} {f : Nat → Option α} {g : Nat → α} : ∀ (l : List Nat), (∀ m ∈ l, f m = some (g m)) → l.filterMap f = l.map g
  | [], _ => rfl
  | m :: l, h => by
    rw [List.filterMap_cons, h m List.mem_cons_self, List.map_cons, fm_map l fun j hj => h j (List.mem_cons_of_mem _ hj)]
theorem pick_rev (xs : Array Value) : ((List.range xs.size).filterMap fun (m : Nat) => xs[((xs.size : Int) - 1 + (m : Int) * (-1)).toNat]?).toArray = xs.toList.reverse.toArray := by
  congr 1
  rw [fm_map (g := fun m => xs.toList.reverse[m]?.getD .none) _ fun m hm => ?_]
  · apply List.ext_getElem
    · simp
    · intro i h1 h2
      rw [List.getElem_map, List.getElem_range, List.getElem?_eq_getElem h2]
      rfl
  · have hm := List.mem_range.mp hm
    have e1 : ((xs.size : Int) - 1 + (m : Int) * (-1)).toNat = xs.size - 1 - m := by omega
    rw [e1, List.getElem?_reverse (by simpa using hm)]
    simp only [Array.length_toList, Array.getElem?_toList]
    rw [Array.getElem?_eq_getElem (by omega)]
    rfl
theorem getItem_tuple_rev {t sl : Addr} {items : Array Value} {vs : Value} {Q : Value → Shared → Prop} (ht : IsTup s.heap t items) (hs : s.heap.IsSliceOf sl .none .none vs) (ps : IsPart vs (some (-1)))
    (h : Q (.ref s.heap.objs.size) { s with heap := s.heap.push { cls := .type "tuple", data := .seq items.toList.reverse.toArray } })
    (hsz : items.size ≤ sizeLine) : wpAny (model prog w) A (getItem (.ref t) (.ref sl)) Q E s := by
  have htake : sizeOk (.seq items.toList.reverse.toArray) := by
    show items.toList.reverse.toArray.size ≤ sizeLine
    simpa using hsz
  obtain ⟨os, hos, hcs, hds⟩ := id hs
  have hTs : s.TypeIs (.ref sl) "slice" := ⟨os, hos, hcs⟩
  unfold getItem
  try with_reducible refine wpAny_holding ?_
  first | refine wpAny_bind (wpAny_pure ?_) | skip
  refine wpAny_bind (wpAny_sequenceKey ht.typeIs (by decide) ?_)
  refine wpAny_bind (wpAny_callSpecial?_slot (name := Str.ofString "__getitem__") ht.typeIs PyProof.Rows.slot_tuple_getitem
    (wpAny_call_entry PyProof.Rows.slot_tuple_getitem ht.typeIs entry_tuple_getitem ?_ (args_tuple_getitem _ _)))
  show wpAny _ _ (Builtin.Tuple.tupleItemsOf (.ref t) >>= _) _ _ s
  refine wpAny_bind (tupleItemsOf_ ht ?_)
  refine wpAny_bind (wpAny_typeOf hTs ?_)
  rw [if_pos (by decide)]
  refine wpAny_bind (applied_rev hs ps ?_)
  have hno : ¬ (((((items.size : Nat) : Int) - 1) == 0 && (-1 : Int) == 1 && items.size == items.size) = true) := by
    intro q
    rw [Bool.and_eq_true, Bool.and_eq_true] at q
    exact absurd q.1.2 (by decide)
  show wpAny _ _ (if ((((items.size : Nat) : Int) - 1) == 0 && (-1 : Int) == 1 && items.size == items.size) = true then _ else _) _ _ s
  rw [if_neg hno, pick_rev]
  first
    | exact wpAny_bind (m := Builtin.Tuple.tupleExact _) (wpAny_newObj_type (wpAny_pure ⟨_, rfl, wpAny_pure h⟩) htake)
    | exact wpAny_bind (m := Builtin.Tuple.tupleExact _) (wpAny_newObj_type (wpAny_bind (wpAny_pure (wpAny_pure ⟨_, rfl, wpAny_pure h⟩))) htake)
    | exact wpAny_bind (wpAny_bind (m := Builtin.Tuple.tupleExact _) (wpAny_newObj_type (wpAny_pure (wpAny_pure ⟨_, rfl, wpAny_pure h⟩)) htake))
    | exact wpAny_bind (wpAny_bind (m := Builtin.Tuple.tupleExact _) (wpAny_newObj_type (wpAny_pure ⟨_, rfl, wpAny_pure h⟩) htake))
end
/-- a list's or a tuple's [::-1] -/
def tRevA (K : KX) (te : TE) : TE := fun σ H Q => te σ H fun x H1 => ∃ a xs, x = .ref a ∧ ((SqL K H1 a xs ∧ ∀ p, H1 p = none → Q (.ref p) (upd H1 p (.lst xs.reverse))) ∨ (SqT K H1 a xs ∧ ∀ p, H1 p = none → Q (.ref p) (upd H1 p (.tup xs.reverse))))
theorem pe_revA {X : Cx} {e : Expr} {te : TE} {k : Nat} {p1 p2 p3 pos : Pos} (he : PE X e te) : PE X (.Subscript e (.Slice none none (some (.UnaryOp .USub (.Constant (.int 1) k p1) p2)) p3) pos) (tRevA X.kx te) := by
  refine ⟨fun pins s σ H Q I h => ?_⟩
  refine Subscript_ (thn (he.run pins s σ H _ I h) fun v s1 ⟨x, H1, I1, r1, q1⟩ => ?_)
  obtain ⟨a, xs, ex, hx⟩ := q1
  subst ex
  cases r1
  have hst : PO X (some (.UnaryOp .USub (.Constant (.int 1) k p1) p2)) (tPart (tUn (rU fun i => .int (-i)) (tC (.int 1)))) := po_some (pe_un un_neg pe_int)
  refine wpAny_Slice (thn (po_none.run pins s1 σ H1 (fun o H2 => o = none ∧ H2 = H1) I1 ⟨rfl, rfl⟩) fun vl s2 ⟨l, H2, I2, pl, el, e2⟩ => ?_)
  subst el e2
  refine thn (po_none.run pins s2 σ H2 (fun o H3 => o = none ∧ H3 = H2) I2 ⟨rfl, rfl⟩) fun vu s3 ⟨u, H3, I3, pu, eu, e3⟩ => ?_
  subst eu e3
  refine thn (hst.run pins s3 σ H3 (fun o H4 => o = some (-1) ∧ H4 = H3) I3 ⟨1, rfl, -1, rfl, rfl, rfl⟩) fun vs s4 ⟨o, H4, I4, ps, eo, e4⟩ => ?_
  subst eo e4
  cases pl
  cases pu
  have I5 : Inv X pins σ H4 { s4 with heap := s4.heap.push { cls := .type "slice", data := .fields #[.none, .none, vs] } } := I4.kept (t' := s4.toks) fun b ob q => Heap.get?_push_of_some _ q
  rcases hx with ⟨hx, q⟩ | ⟨hx, q⟩
  · obtain ⟨its, r, ht, hz⟩ := I5.list hx
    have hlen := r.length
    show wpAny (model X.prog X.w) X.A (subscriptTail e (.Slice none none (some (.UnaryOp .USub (.Constant (.int 1) k p1) p2)) p3) (.ref a) (.ref s4.heap.objs.size)) (EP X pins σ Q) X.xe { s4 with heap := s4.heap.push { cls := .type "slice", data := .fields #[.none, .none, vs] } }
    refine tail_any (ops := [.ref a, .ref s4.heap.objs.size]) ht.isList.typeIs (PySem.slot_list_getitem.lookup) ?_ (by with_unfolding_all rfl)
    refine wpAny_getItem_list_slice ht.isList (Heap.IsSliceOf.new _ .none .none vs) .none .none ps (by decide) ?_ (by rw [List.size_toArray]; omega)
    rw [PySem.W.krv_pick]
    refine ⟨.ref _, _, I5.laid (t' := s4.toks) (o := .lst xs.reverse) (fun b ob q => Heap.get?_push_of_some _ q) (Nat.le_refl _) ?_, rfl, q _ (I5.hok.fresh (Nat.le_refl _))⟩
    exact ⟨by rw [List.length_reverse]; exact hz, _, 0, r.reverse, Heap.get?_push_size _ rfl⟩
  · obtain ⟨its, r, ht, hz⟩ := I5.tuple hx
    have hlen := r.length
    have ht' : IsTup s4.heap a its.toArray ∨ True := .inr trivial
    show wpAny (model X.prog X.w) X.A (subscriptTail e (.Slice none none (some (.UnaryOp .USub (.Constant (.int 1) k p1) p2)) p3) (.ref a) (.ref s4.heap.objs.size)) (EP X pins σ Q) X.xe { s4 with heap := s4.heap.push { cls := .type "slice", data := .fields #[.none, .none, vs] } }
    refine tail_any (ops := [.ref a, .ref s4.heap.objs.size]) (IsTup.typeIs ht) (PyProof.Rows.slot_tuple_getitem.lookup) ?_ (by with_unfolding_all rfl)
    refine getItem_tuple_rev ht (Heap.IsSliceOf.new _ .none .none vs) ps ?_ (by rw [List.size_toArray]; omega)
    refine ⟨.ref _, _, I5.laid (t' := s4.toks) (o := .tup xs.reverse) (fun b ob q => Heap.get?_push_of_some _ q) (Nat.le_refl _) ?_, rfl, q _ (I5.hok.fresh (Nat.le_refl _))⟩
    refine ⟨by rw [List.length_reverse]; exact hz, _, r.reverse, ⟨_, Heap.get?_push_size _ rfl, rfl, _, rfl⟩⟩
section
variable {g : Gm} {C : Ctx} {k n : Nat} {N : List Str} {sc : Scope} {X : Cx} {a : Expr} {x : E}
theorem rps_rev {K : KX} {W : Wd} {H : Hp} : ∀ {vs : List V} {ps : List P}, RPs K W H vs ps → RPs K W H vs.reverse ps.reverse
  | _, _, .nil => .nil
  | _, _, .cons h hs => by
    rw [List.reverse_cons, List.reverse_cons]
    exact rps_append (rps_rev hs) (.cons h .nil)
theorem isM1_some {lo hi : Option Expr} {st : Expr} (h : isM1 lo hi st = true) : ∃ k p1 p2, lo = none ∧ hi = none ∧ st = .UnaryOp .USub (.Constant (.int 1) k p1) p2 := by
  unfold isM1 at h
  split at h
  · rename_i i k p1 p2
    have e : i = 1 := by simpa using h
    subst e
    exact ⟨_, _, _, rfl, rfl, rfl⟩
  · cases h
theorem case_rev (ih : SndE g C k N n) (G : Good g C k N sc X) {kk : Nat} {p1 p2 p3 pos : Pos} (ha : cE g N n sc a = some x) : PE X (.Subscript a (.Slice none none (some (.UnaryOp .USub (.Constant (.int 1) kk p1) p2)) p3) pos) (TvE X.kx C (.rev x)) := by
  refine (pe_revA (ih.pe sc X a x G ha)).imp fun σ H Q q => ?_
  obtain ⟨W, ρ, S, gf, r, S', hs, hl, he, q⟩ := q
  simp only [evE] at he
  split at he
  · rename_i rx S1 h1
    obtain ⟨r', h2, h3⟩ := Option.map_eq_some_iff.mp he
    cases h3
    refine ⟨W, ρ, S, gf, rx, S', hs, hl, h1, fun W1 H1 v e1 s1 rv => ?_⟩
    unfold revR at h2
    split at h2
    · rename_i ps hp
      cases h2
      obtain ⟨a, vs, rfl, k1, k2⟩ := rv_tup rv hp
      exact ⟨a, vs, rfl, .inr ⟨k1, fin_T e1 s1 (rps_rev k2) q⟩⟩
    · split at h2
      · rename_i ps hp
        cases h2
        obtain ⟨a, vs, rfl, k1, k2⟩ := rv_items rv hp
        exact ⟨a, vs, rfl, .inl ⟨SqL.of k1, fin_L e1 s1 (rps_rev k2) q⟩⟩
      · cases h2
  · cases he
end
end U

set_option Elab.async false
set_option linter.all false
set_option maxRecDepth 100000
namespace U
open PySem PySem.Spec PyProof.Rows

structure Stp (prog : Program) (w : World) (it l : Addr) (st : Heap → Nat → Prop) (xs : Array Value) : Prop where
  keep : ∀ (h h' : Heap) (k : Nat), st h k → (∀ o, h.get? it = some o → h'.get? it = some o) → (∀ o, h.get? l = some o → h'.get? l = some o) → st h' k
  lt : ∀ (h : Heap) (k : Nat), st h k → (∃ o, h.get? it = some o) ∧ ∃ o, h.get? l = some o
  item : ∀ (A : Around) (s : Shared) (k : Nat) (x : Value) (Q : Value → Shared → Prop) (E : Value → Shared → Prop), it ≠ l → st s.heap k → xs[k]? = some x →
    (∀ h', st h' (k + 1) → Heap.SameBut it s.heap h' → Q x { s with heap := h' }) → wpAny (model prog w) A (Builtin.SmallTypes.nextOf (.ref it)) Q E s
  stop : ∀ (A : Around) (s : Shared) (k : Nat) (Q : Value → Shared → Prop) (E : Value → Shared → Prop), A.handled = none → st s.heap k → xs[k]? = none →
    (∀ h' e, Heap.ExtBut it s.heap h' → (∃ o, h'.get? e = some o ∧ o.cls = .type "StopIteration") → E (.ref e) { s with heap := h' }) → wpAny (model prog w) A (Builtin.SmallTypes.nextOf (.ref it)) Q E s
section
variable {prog : Program} {w : World}
theorem stp_list {it l : Addr} {xs : Array Value} : Stp prog w it l (fun h k => h.IsListIter it l k ∧ h.IsList l xs) xs where
  keep := fun h h' k st a b => ⟨st.1.at fun o e => a o e, st.2.at fun o e => b o e⟩
  lt := fun h k st => ⟨let ⟨o, e, _⟩ := st.1; ⟨o, e⟩, let ⟨o, e, _⟩ := st.2; ⟨o, e⟩⟩
  item := fun A s k x Q E ne st hx q => wpAny_nextOf_list_item st.1 st.2 hx fun h' h1 hs => q h' ⟨h1, st.2.extBut hs.extBut (Ne.symm ne)⟩ hs
  stop := fun A s k Q E hh st hx q => wpAny_nextOf_list_end hh st.1 st.2 hx q
theorem stp_tup {it l : Addr} {xs : Array Value} : Stp prog w it l (fun h k => h.IsTupleIter it l k ∧ h.IsTuple l xs) xs where
  keep := fun h h' k st a b => ⟨st.1.at fun o e => a o e, let ⟨o, e, r⟩ := st.2; ⟨o, b o e, r⟩⟩
  lt := fun h k st => ⟨let ⟨o, e, _⟩ := st.1; ⟨o, e⟩, let ⟨o, e, _⟩ := st.2; ⟨o, e⟩⟩
  item := fun A s k x Q E ne st hx q => wpAny_nextOf_tuple_item st.1 st.2 hx fun h' h1 hs => q h' ⟨h1, let ⟨o, e, r⟩ := st.2; ⟨o, hs.extBut _ _ (Ne.symm ne) e, r⟩⟩ hs
  stop := fun A s k Q E hh st hx q => wpAny_nextOf_tuple_end hh st.1 st.2 hx q
variable {A : Around} {E : Value → Shared → Prop} {s : Shared} {z TI TO T i1 i2 l1 l2 : Addr} {st1 st2 : Heap → Nat → Prop} {xs ys : Array Value} {k1 k2 : Nat} {x y : Value} {f : Bool} {oT : Obj}
theorem Stp.ext {it l b : Addr} {st : Heap → Nat → Prop} {h h' : Heap} {k : Nat} (S : Stp prog w it l st xs) (q : st h k) (hs : Heap.ExtBut b h h') (n1 : it ≠ b) (n2 : l ≠ b) : st h' k := S.keep h h' k q (fun o e => hs _ _ n1 e) (fun o e => hs _ _ n2 e)
/-- one turn of a zip whose tuple is still out -/
theorem zipS_held {Q : Value → Shared → Prop} (S1 : Stp prog w i1 l1 st1 xs) (S2 : Stp prog w i2 l2 st2 ys) (D : ZipApart z TI TO i1 i2 l1 l2) (e1 : i1 ≠ l1) (e2 : i2 ≠ l2) (hz : IsZipHeld s.heap z TI TO T f) (hT : s.heap.get? T = some oT) (hTI : IsPair s.heap TI (.ref i1) (.ref i2))
    (h1 : st1 s.heap k1) (h2 : st2 s.heap k2) (hx : xs[k1]? = some x) (hy : ys[k2]? = some y)
    (hQ : ∀ h', IsZipHeld h' z TI TO T true → st1 h' (k1 + 1) → st2 h' (k2 + 1) → IsPair h' s.heap.objs.size x y → h'.objs.size = s.heap.objs.size + 1 → (∀ c o, c ≠ z → c ≠ i1 → c ≠ i2 → s.heap.get? c = some o → h'.get? c = some o) → Q (.ref s.heap.objs.size) { s with heap := h' }) :
    wpAny (model prog w) A (Builtin.«zip.__next__» ⟨[.ref z], []⟩) (fun fin s' => ∃ v, fin = .done (.ret v) ∧ Q v s') E s := by
  refine wpAny_bind (m := field (.ref z) 2) (wpAny_field hz rfl (x := .bool false) rfl (wpAny_bind (m := field (.ref z) 3) (wpAny_field hz rfl (x := .ref TI) rfl (wpAny_bind (wpAny_seqItems hTI rfl ?_)))))
  refine wpAny_bind (m := Builtin.SmallTypes.ownedTupleIsFree (.ref z)) (wpAny_tupleHeld_zip hz hT fun ha za sa => ?_)
  simp only [Bool.false_eq_true, if_false]
  refine wpAny_bind ?_
  rw [← Array.forIn_toList]
  simp only [List.forIn_cons, List.forIn_nil]
  refine wpAny_bind (wpAny_bind (wpAny_holding (wpAny_bind (m := Builtin.SmallTypes.nextOf (.ref i1)) (S1.item A { s with heap := ha } k1 x _ _ e1 (S1.ext h1 sa.extBut D.i1z D.l1z) hx fun hb tb sb => wpAny_pure (wpAny_pure ?_)))))
  refine wpAny_bind (wpAny_bind (wpAny_holding (wpAny_bind (m := Builtin.SmallTypes.nextOf (.ref i2)) (S2.item A { s with heap := hb } k2 y _ _ e2 (S2.ext (S2.ext h2 sa.extBut D.i2z D.l2z) sb.extBut D.i12.symm D.l2i1) hy fun hc tc sc => wpAny_pure (wpAny_pure (wpAny_pure ?_))))))
  refine wpAny_bind (m := newTuple [x, y]) (wpAny_newTuple ?_)
  have hsz : hc.objs.size = s.heap.objs.size := by rw [sc.1, sb.1, sa.1]
  have zc : IsZipHeld hc z TI TO T true := sc.extBut _ _ D.i2z.symm (sb.extBut _ _ D.i1z.symm za)
  have tb' : st1 hc (k1 + 1) := S1.ext tb sc.extBut D.i12 D.l1i2
  refine wpAny_pure ⟨_, rfl, ?_⟩
  show Q (.ref hc.objs.size) _
  have hp : IsPair (hc.push { cls := .type "tuple", data := .seq #[x, y] }) hc.objs.size x y := Heap.get?_push_size _ rfl
  have hz4 : (hc.push { cls := .type "tuple", data := .seq #[x, y] }).objs.size = hc.objs.size + 1 := Heap.size_push ..
  have up : ∀ c o, hc.get? c = some o → (hc.push { cls := .type "tuple", data := .seq #[x, y] }).get? c = some o := fun c o e => Heap.get?_push_of_some _ e
  rw [hsz] at hp hz4 ⊢
  exact hQ _ (up _ _ zc) (S1.keep _ _ _ tb' (fun o e => up _ o e) fun o e => up _ o e) (S2.keep _ _ _ tc (fun o e => up _ o e) fun o e => up _ o e) hp hz4 fun c o c1 c2 c3 e => up _ _ (sc.extBut _ _ c3 (sb.extBut _ _ c2 (sa.extBut _ _ c1 e)))
theorem zipS_hend {Q : Fin → Shared → Prop} (hh : A.handled = none) (S1 : Stp prog w i1 l1 st1 xs) (S2 : Stp prog w i2 l2 st2 ys) (D : ZipApart z TI TO i1 i2 l1 l2) (e1 : i1 ≠ l1) (hz : IsZipHeld s.heap z TI TO T f) (hT : s.heap.get? T = some oT) (hTI : IsPair s.heap TI (.ref i1) (.ref i2))
    (h1 : st1 s.heap k1) (h2 : st2 s.heap k2) (hend : xs[k1]? = none ∨ ys[k2]? = none)
    (hE : ∀ h' e, (∀ c o, c ≠ z → c ≠ i1 → c ≠ i2 → s.heap.get? c = some o → h'.get? c = some o) → (∃ o, h'.get? e = some o ∧ o.cls = .type "StopIteration") → E (.ref e) { s with heap := h' }) :
    wpAny (model prog w) A (Builtin.«zip.__next__» ⟨[.ref z], []⟩) Q E s := by
  refine wpAny_bind (m := field (.ref z) 2) (wpAny_field hz rfl (x := .bool false) rfl (wpAny_bind (m := field (.ref z) 3) (wpAny_field hz rfl (x := .ref TI) rfl (wpAny_bind (wpAny_seqItems hTI rfl ?_)))))
  refine wpAny_bind (m := Builtin.SmallTypes.ownedTupleIsFree (.ref z)) (wpAny_tupleHeld_zip hz hT fun ha za sa => ?_)
  simp only [Bool.false_eq_true, if_false]
  refine wpAny_bind ?_
  rw [← Array.forIn_toList]
  simp only [List.forIn_cons, List.forIn_nil]
  cases hx : xs[k1]? with
  | none =>
    exact wpAny_bind (wpAny_bind (wpAny_holding (wpAny_bind (m := Builtin.SmallTypes.nextOf (.ref i1)) (S1.stop A { s with heap := ha } k1 _ _ hh (S1.ext h1 sa.extBut D.i1z D.l1z) hx fun hb e sb he => hE hb e (fun c o c1 c2 _ q => sb _ _ c2 (sa.extBut _ _ c1 q)) he))))
  | some x =>
    have hy : ys[k2]? = none := hend.elim (fun q => by rw [hx] at q; cases q) id
    refine wpAny_bind (wpAny_bind (wpAny_holding (wpAny_bind (m := Builtin.SmallTypes.nextOf (.ref i1)) (S1.item A { s with heap := ha } k1 x _ _ e1 (S1.ext h1 sa.extBut D.i1z D.l1z) hx fun hb tb sb => wpAny_pure (wpAny_pure ?_)))))
    exact wpAny_bind (wpAny_bind (wpAny_holding (wpAny_bind (m := Builtin.SmallTypes.nextOf (.ref i2)) (S2.stop A { s with heap := hb } k2 _ _ hh (S2.ext (S2.ext h2 sa.extBut D.i2z D.l2z) sb.extBut D.i12.symm D.l2i1) hy fun hc e sc he => hE hc e (fun c o c1 c2 c3 q => sc _ _ c3 (sb.extBut _ _ c2 (sa.extBut _ _ c1 q))) he))))
/-- the first turn -/
theorem zipS_item {Q : Value → Shared → Prop} {a b : Value} (S1 : Stp prog w i1 l1 st1 xs) (S2 : Stp prog w i2 l2 st2 ys) (D : ZipApart z TI TO i1 i2 l1 l2) (e1 : i1 ≠ l1) (e2 : i2 ≠ l2) (hz : IsZip s.heap z TI TO .none) (hTI : IsPair s.heap TI (.ref i1) (.ref i2)) (hTO : IsPair s.heap TO a b)
    (h1 : st1 s.heap k1) (h2 : st2 s.heap k2) (hx : xs[k1]? = some x) (hy : ys[k2]? = some y)
    (hQ : ∀ h', IsZip h' z TI TO (rawInt s.heap.objs.size) → IsPair h' TO x y → st1 h' (k1 + 1) → st2 h' (k2 + 1) → IsPair h' s.heap.objs.size x y → h'.objs.size = s.heap.objs.size + 1 → (∀ c o, c ≠ z → c ≠ TO → c ≠ i1 → c ≠ i2 → s.heap.get? c = some o → h'.get? c = some o) → Q (.ref s.heap.objs.size) { s with heap := h' }) :
    wpAny (model prog w) A (Builtin.«zip.__next__» ⟨[.ref z], []⟩) (fun fin s' => ∃ v, fin = .done (.ret v) ∧ Q v s') E s := by
  refine wpAny_bind (m := field (.ref z) 2) (wpAny_field hz rfl (x := .bool false) rfl (wpAny_bind (m := field (.ref z) 3) (wpAny_field hz rfl (x := .ref TI) rfl (wpAny_bind (wpAny_seqItems hTI rfl ?_)))))
  refine wpAny_bind (m := Builtin.SmallTypes.ownedTupleIsFree (.ref z)) ?_
  unfold Builtin.SmallTypes.ownedTupleIsFree
  refine wpAny_bind (wpAny_field hz rfl (x := .none) rfl (wpAny_pure ?_))
  simp only [if_true]
  refine wpAny_bind (wpAny_rule (wpAny_bind (wpAny_field hz rfl (x := .ref TO) rfl (wpAny_bind (wpAny_setField_rec hz (by simp) fun ha za sa => ?_)))))
  replace za : IsZip ha z TI TO .ellipsis := za
  refine wpAny_bind ?_
  simp only [List.zipIdx_cons, List.zipIdx_nil, List.forIn_cons, List.forIn_nil]
  refine wpAny_bind (wpAny_bind (wpAny_onRaise (wpAny_bind (m := Builtin.SmallTypes.nextOf (.ref i1)) (S1.item A { s with heap := ha } k1 x _ _ e1 (S1.ext h1 sa.extBut D.i1z D.l1z) hx fun hb tb sb => wpAny_pure ?_))))
  have TOb : IsPair hb TO a b := sb.extBut _ _ D.TOi1 (sa.extBut _ _ D.TOz hTO)
  refine wpAny_bind (wpAny_seqItems TOb rfl (wpAny_bind (wpAny_updateSeq_pair TOb fun hc TOc sc => ?_)))
  replace TOc : IsPair hc TO x b := TOc
  refine wpAny_bind (wpAny_letGo (wpAny_pure ?_))
  refine wpAny_bind (wpAny_bind (wpAny_onRaise (wpAny_bind (m := Builtin.SmallTypes.nextOf (.ref i2)) (S2.item A { s with heap := hc } k2 y _ _ e2 (S2.ext (S2.ext (S2.ext h2 sa.extBut D.i2z D.l2z) sb.extBut D.i12.symm D.l2i1) sc.extBut D.TOi2.symm D.l2TO) hy fun hd td sd => wpAny_pure ?_))))
  have TOd : IsPair hd TO x b := sd.extBut _ _ D.TOi2 TOc
  refine wpAny_bind (wpAny_seqItems TOd rfl (wpAny_bind (wpAny_updateSeq_pair TOd fun he TOe se => ?_)))
  replace TOe : IsPair he TO x y := TOe
  refine wpAny_bind (wpAny_letGo (wpAny_pure (wpAny_pure ?_)))
  refine wpAny_bind (wpAny_seqItems TOe rfl (wpAny_bind (wpAny_newTuple ?_)))
  have hsz : he.objs.size = s.heap.objs.size := by rw [se.1, sd.1, sc.1, sb.1, sa.1]
  have ze : IsZip he z TI TO .ellipsis := se.extBut _ _ D.TOz.symm (sd.extBut _ _ D.i2z.symm (sc.extBut _ _ D.TOz.symm (sb.extBut _ _ D.i1z.symm za)))
  have ke : ∀ c o, c ≠ z → c ≠ TO → c ≠ i1 → c ≠ i2 → s.heap.get? c = some o → he.get? c = some o := fun c o c1 c2 c3 c4 q => se.extBut _ _ c2 (sd.extBut _ _ c4 (sc.extBut _ _ c2 (sb.extBut _ _ c3 (sa.extBut _ _ c1 q))))
  have t1 : st1 he (k1 + 1) := S1.ext (S1.ext (S1.ext tb sc.extBut D.TOi1.symm D.l1TO) sd.extBut D.i12 D.l1i2) se.extBut D.TOi1.symm D.l1TO
  have t2 : st2 he (k2 + 1) := S2.ext td se.extBut D.TOi2.symm D.l2TO
  have zlt : z < he.objs.size := Heap.lt_size ze
  refine wpAny_bind (m := Builtin.SmallTypes.ownedTupleHandOut (.ref z) (.ref he.objs.size)) ?_
  unfold Builtin.SmallTypes.ownedTupleHandOut
  have zf : IsZip (he.push { cls := .type "tuple", data := .seq #[x, y] }) z TI TO .ellipsis := Heap.get?_push_of_some _ ze
  refine wpAny_bind (wpAny_setField_rec zf (by simp) fun hg zg sg => ?_)
  replace zg : IsZip hg z TI TO (rawInt he.objs.size) := zg
  refine wpAny_setField_rec zg (by simp) fun hi zi si => ?_
  replace zi : IsZip hi z TI TO (rawInt he.objs.size) := zi
  have up : ∀ c o, c ≠ z → he.get? c = some o → hi.get? c = some o := fun c o c1 q => si.extBut _ _ c1 (sg.extBut _ _ c1 (Heap.get?_push_of_some _ q))
  have hT8 : IsPair hi he.objs.size x y := si.extBut _ _ (Nat.ne_of_gt zlt) (sg.extBut _ _ (Nat.ne_of_gt zlt) (Heap.get?_push_size _ rfl))
  have hz8 : hi.objs.size = he.objs.size + 1 := by rw [si.1, sg.1, Heap.size_push]
  rw [hsz] at zi hT8 hz8
  refine wpAny_pure ⟨_, rfl, ?_⟩
  show Q (.ref he.objs.size) _
  rw [hsz]
  exact hQ hi zi (up _ _ D.TOz TOe) (S1.keep _ _ _ t1 (fun o q => up _ o D.i1z q) fun o q => up _ o D.l1z q) (S2.keep _ _ _ t2 (fun o q => up _ o D.i2z q) fun o q => up _ o D.l2z q) hT8 hz8 fun c o c1 c2 c3 c4 q => up c o c1 (ke c o c1 c2 c3 c4 q)
theorem zipS_end {Q : Fin → Shared → Prop} {a b : Value} (hh : A.handled = none) (S1 : Stp prog w i1 l1 st1 xs) (S2 : Stp prog w i2 l2 st2 ys) (D : ZipApart z TI TO i1 i2 l1 l2) (e1 : i1 ≠ l1) (hz : IsZip s.heap z TI TO .none) (hTI : IsPair s.heap TI (.ref i1) (.ref i2)) (hTO : IsPair s.heap TO a b)
    (h1 : st1 s.heap k1) (h2 : st2 s.heap k2) (hend : xs[k1]? = none ∨ ys[k2]? = none)
    (hE : ∀ h' e, (∀ c o, c ≠ z → c ≠ TO → c ≠ i1 → c ≠ i2 → s.heap.get? c = some o → h'.get? c = some o) → (∃ o, h'.get? e = some o ∧ o.cls = .type "StopIteration") → E (.ref e) { s with heap := h' }) :
    wpAny (model prog w) A (Builtin.«zip.__next__» ⟨[.ref z], []⟩) Q E s := by
  refine wpAny_bind (m := field (.ref z) 2) (wpAny_field hz rfl (x := .bool false) rfl (wpAny_bind (m := field (.ref z) 3) (wpAny_field hz rfl (x := .ref TI) rfl (wpAny_bind (wpAny_seqItems hTI rfl ?_)))))
  refine wpAny_bind (m := Builtin.SmallTypes.ownedTupleIsFree (.ref z)) ?_
  unfold Builtin.SmallTypes.ownedTupleIsFree
  refine wpAny_bind (wpAny_field hz rfl (x := .none) rfl (wpAny_pure ?_))
  simp only [if_true]
  refine wpAny_bind (wpAny_rule (wpAny_bind (wpAny_field hz rfl (x := .ref TO) rfl (wpAny_bind (wpAny_setField_rec hz (by simp) fun ha za sa => ?_)))))
  replace za : IsZip ha z TI TO .ellipsis := za
  refine wpAny_bind ?_
  simp only [List.zipIdx_cons, List.zipIdx_nil, List.forIn_cons, List.forIn_nil]
  cases hx : xs[k1]? with
  | none =>
    refine wpAny_bind (wpAny_bind (wpAny_onRaise (wpAny_bind (m := Builtin.SmallTypes.nextOf (.ref i1)) (S1.stop A { s with heap := ha } k1 _ _ hh (S1.ext h1 sa.extBut D.i1z D.l1z) hx fun hb e sb he => ?_))))
    obtain ⟨oe, hoe, hce⟩ := he
    have zb : IsZip hb z TI TO .ellipsis := sb _ _ D.i1z.symm za
    have hez : e ≠ z := fun q => by subst q; rw [zb] at hoe; cases hoe; simp at hce
    exact wpAny_setField_rec zb (by simp) fun hc _ sc => hE hc e (fun c o c1 _ c3 _ q => sc.extBut _ _ c1 (sb _ _ c3 (sa.extBut _ _ c1 q))) ⟨oe, sc.extBut _ _ hez hoe, hce⟩
  | some x =>
    have hy : ys[k2]? = none := hend.elim (fun q => by rw [hx] at q; cases q) id
    refine wpAny_bind (wpAny_bind (wpAny_onRaise (wpAny_bind (m := Builtin.SmallTypes.nextOf (.ref i1)) (S1.item A { s with heap := ha } k1 x _ _ e1 (S1.ext h1 sa.extBut D.i1z D.l1z) hx fun hb tb sb => wpAny_pure ?_))))
    have TOb : IsPair hb TO a b := sb.extBut _ _ D.TOi1 (sa.extBut _ _ D.TOz hTO)
    refine wpAny_bind (wpAny_seqItems TOb rfl (wpAny_bind (wpAny_updateSeq_pair TOb fun hc TOc sc => ?_)))
    refine wpAny_bind (wpAny_letGo (wpAny_pure ?_))
    refine wpAny_bind (wpAny_bind (wpAny_onRaise (wpAny_bind (m := Builtin.SmallTypes.nextOf (.ref i2)) (S2.stop A { s with heap := hc } k2 _ _ hh (S2.ext (S2.ext (S2.ext h2 sa.extBut D.i2z D.l2z) sb.extBut D.i12.symm D.l2i1) sc.extBut D.TOi2.symm D.l2TO) hy fun hd e sd he => ?_))))
    obtain ⟨oe, hoe, hce⟩ := he
    have zd : IsZip hd z TI TO .ellipsis := sd _ _ D.i2z.symm (sc.extBut _ _ D.TOz.symm (sb.extBut _ _ D.i1z.symm za))
    have hez : e ≠ z := fun q => by subst q; rw [zd] at hoe; cases hoe; simp at hce
    exact wpAny_setField_rec zd (by simp) fun hg _ sg => hE hg e (fun c o c1 c2 c3 c4 q => sg.extBut _ _ c1 (sd _ _ c4 (sc.extBut _ _ c2 (sb.extBut _ _ c3 (sa.extBut _ _ c1 q))))) ⟨oe, sg.extBut _ _ hez hoe, hce⟩
end
end U

set_option Elab.async false
set_option linter.all false
set_option maxRecDepth 100000
namespace U
open PySem PySem.Spec PyProof.Rows
section
variable {prog : Program} {w : World} {st1 st2 : Heap → Nat → Prop}
/-- the zip's state before its turn i -/
def ZipAt (z TI TO i1 i2 d : Addr) (st1 st2 : Heap → Nat → Prop) (i : Nat) (h : Heap) : Prop := IsPair h TI (.ref i1) (.ref i2) ∧ st1 h i ∧ st2 h i ∧
  ((IsZip h z TI TO .none ∧ ∃ a b, IsPair h TO a b) ∨ ∃ T f oT, IsZipHeld h z TI TO T f ∧ h.get? T = some oT ∧ T ≠ z ∧ T ≠ i1 ∧ T ≠ i2 ∧ T ≠ d)
theorem pairs_zipS (z TI TO i1 i2 l1 l2 : Addr) (D : ZipApart z TI TO i1 i2 l1 l2) (e1 : i1 ≠ l1) (e2 : i2 ≠ l2) (xs ys : Array Value) (S1 : Stp prog w i1 l1 st1 xs) (S2 : Stp prog w i2 l2 st2 ys) :
    PairArg prog w "zip" z [z, TI, TO, i1, i2, l1, l2] [z, TO, i1, i2] (min xs.size ys.size) (fun i k v => xs[i]? = some k ∧ ys[i]? = some v)
      (fun h => IsZip h z TI TO .none ∧ IsPair h TI (.ref i1) (.ref i2) ∧ (∃ a b, IsPair h TO a b) ∧ st1 h 0 ∧ st2 h 0) where
  type := fun s ok => ⟨_, ok.1, rfl⟩
  notDict := by decide
  keep := fun h h' ok up => by
    obtain ⟨hz, hTI, ⟨a, b, hTO⟩, q1, q2⟩ := ok
    exact ⟨up _ _ hz, up _ _ hTI, ⟨a, b, up _ _ hTO⟩, S1.keep _ _ _ q1 (fun o e => up _ o e) fun o e => up _ o e, S2.keep _ _ _ q2 (fun o e => up _ o e) fun o e => up _ o e⟩
  there := fun h ok b hb => by
    obtain ⟨hz, hTI, ⟨a, c, hTO⟩, q1, q2⟩ := ok
    obtain ⟨p1, p2⟩ := S1.lt _ _ q1
    obtain ⟨p3, p4⟩ := S2.lt _ _ q2
    simp only [List.mem_cons, List.not_mem_nil, or_false] at hb
    rcases hb with rfl | rfl | rfl | rfl | rfl | rfl | rfl
    · exact ⟨_, hz⟩
    · exact ⟨_, hTI⟩
    · exact ⟨_, hTO⟩
    · exact p1
    · exact p3
    · exact p2
    · exact p4
  sub := fun b hb => by
    simp only [List.mem_cons, List.not_mem_nil, or_false] at hb ⊢
    rcases hb with q | q | q | q <;> simp [q]
  noKeys := fun A s Q E hA ok h => getAttrOr_miss_zip ok.1 rfl rfl rfl zip_no_keys (by decide +kernel) hA h
  iter := fun A s d Q E hA ok hd hdf h => by
    obtain ⟨hz, hTI, ⟨a, b, hTO⟩, q1, q2⟩ := ok
    simp only [List.mem_cons, List.not_mem_nil, or_false, not_or] at hdf
    obtain ⟨dz, dTI, dTO, di1, di2, dl1, dl2⟩ := hdf
    refine wpAny_pyIter_zip hz (h z [z, TO, i1, i2] (ZipAt z TI TO i1 i2 d st1 st2) s.heap s.toks ?_ ⟨hTI, q1, q2, .inl ⟨hz, a, b, hTO⟩⟩ (fun _ _ e => e) fun b hb => .inl hb)
    refine ⟨fun hm => ?_, fun i ha hb st up => ?_, fun i s1 Q1 E1 hi st hds hQ => ?_, fun s1 Q1 E1 st hQ => ?_⟩
    · simp only [List.mem_cons, List.not_mem_nil, or_false] at hm
      rcases hm with q | q | q | q
      · exact dz q
      · exact dTO q
      · exact di1 q
      · exact di2 q
    · obtain ⟨hTI, t1, t2, hz⟩ := st
      refine ⟨up _ _ (Ne.symm dTI) hTI, S1.keep _ _ _ t1 (fun o e => up _ o (Ne.symm di1) e) (fun o e => up _ o (Ne.symm dl1) e), S2.keep _ _ _ t2 (fun o e => up _ o (Ne.symm di2) e) (fun o e => up _ o (Ne.symm dl2) e), ?_⟩
      rcases hz with ⟨hz, a, b, hTO⟩ | ⟨T, f, oT, hz, hT, r1, r2, r3, r4⟩
      · exact .inl ⟨up _ _ (Ne.symm dz) hz, a, b, up _ _ (Ne.symm dTO) hTO⟩
      · exact .inr ⟨T, f, oT, up _ _ (Ne.symm dz) hz, up _ _ r4 hT, r1, r2, r3, r4⟩
    · obtain ⟨hTI, t1, t2, hz⟩ := st
      have ex := Array.getElem?_eq_getElem (Nat.lt_of_lt_of_le hi (Nat.min_le_left xs.size ys.size))
      have ey := Array.getElem?_eq_getElem (Nat.lt_of_lt_of_le hi (Nat.min_le_right xs.size ys.size))
      have lt : ∀ {c o}, s1.heap.get? c = some o → s1.heap.objs.size ≠ c := fun e => Nat.ne_of_gt (Heap.lt_size e)
      have n1 : s1.heap.objs.size ≠ i1 := let ⟨⟨_, e⟩, _⟩ := S1.lt _ _ t1; lt e
      have n2 : s1.heap.objs.size ≠ i2 := let ⟨⟨_, e⟩, _⟩ := S2.lt _ _ t2; lt e
      rcases hz with ⟨hz, a, b, hTO⟩ | ⟨T, f, oT, hz, hT, r1, r2, r3, r4⟩
      · have hTy : s1.TypeIs (.ref z) "zip" := ⟨_, hz, rfl⟩
        unfold pyNext
        exact wpAny_bind (wpAny_attempt (wpAny_callSpecial?_slot (name := Str.ofString "__next__") hTy F.slot_zip_next (wpAny_call_entry F.slot_zip_next hTy F.entry_zip_next
          (zipS_item S1 S2 D e1 e2 hz hTI hTO t1 t2 ex ey fun h' a1 a2 a3 a4 a5 a6 up => wpAny_pure (hQ s1.heap.objs.size _ _ h' s1.toks ⟨ex, ey⟩ (.inl ⟨_, a5, rfl, _, rfl⟩)
            ⟨up _ _ D.TIz D.TITO D.TIi1 D.TIi2 hTI, a3, a4, .inr ⟨s1.heap.objs.size, false, _, a1, a5, lt hz, n1, n2, Nat.ne_of_gt hds⟩⟩ fun c o hc e => up c o (fun q => hc (by simp [q])) (fun q => hc (by simp [q])) (fun q => hc (by simp [q])) (fun q => hc (by simp [q])) e)) (F.args_zip_next_1 _))))
      · have hTy : s1.TypeIs (.ref z) "zip" := ⟨_, hz, rfl⟩
        unfold pyNext
        exact wpAny_bind (wpAny_attempt (wpAny_callSpecial?_slot (name := Str.ofString "__next__") hTy F.slot_zip_next (wpAny_call_entry F.slot_zip_next hTy F.entry_zip_next
          (zipS_held S1 S2 D e1 e2 hz hT hTI t1 t2 ex ey fun h' a1 a3 a4 a5 a6 up => wpAny_pure (hQ s1.heap.objs.size _ _ h' s1.toks ⟨ex, ey⟩ (.inl ⟨_, a5, rfl, _, rfl⟩)
            ⟨up _ _ D.TIz D.TIi1 D.TIi2 hTI, a3, a4, .inr ⟨T, true, oT, a1, up _ _ r1 r2 r3 hT, r1, r2, r3, r4⟩⟩ fun c o hc e => up c o (fun q => hc (by simp [q])) (fun q => hc (by simp [q])) (fun q => hc (by simp [q])) e)) (F.args_zip_next_1 _))))
    · obtain ⟨hTI, t1, t2, hz⟩ := st
      have hend : xs[min xs.size ys.size]? = none ∨ ys[min xs.size ys.size]? = none := by
        rcases Nat.le_total xs.size ys.size with q | q
        · exact .inl (Array.getElem?_eq_none (by rw [Nat.min_eq_left q]; exact Nat.le_refl _))
        · exact .inr (Array.getElem?_eq_none (by rw [Nat.min_eq_right q]; exact Nat.le_refl _))
      rcases hz with ⟨hz, a, b, hTO⟩ | ⟨T, f, oT, hz, hT, r1, r2, r3, r4⟩
      · have hTy : s1.TypeIs (.ref z) "zip" := ⟨_, hz, rfl⟩
        unfold pyNext
        refine wpAny_bind (wpAny_attempt (wpAny_callSpecial?_slot (name := Str.ofString "__next__") hTy F.slot_zip_next (wpAny_call_entry F.slot_zip_next hTy F.entry_zip_next
          (zipS_end hA S1 S2 D e1 hz hTI hTO t1 t2 hend fun h' e up he => ?_) (F.args_zip_next_1 _))))
        obtain ⟨o, ho, hc⟩ := he
        refine wpAny_bind (wpAny_isInstance (T := "StopIteration") (b := true) ⟨o, ho, hc⟩ isSubtype_stop (wpAny_pure (hQ h' s1.toks fun c o hc e => ?_)))
        exact up c o (fun q => hc (by simp [q])) (fun q => hc (by simp [q])) (fun q => hc (by simp [q])) (fun q => hc (by simp [q])) e
      · have hTy : s1.TypeIs (.ref z) "zip" := ⟨_, hz, rfl⟩
        unfold pyNext
        refine wpAny_bind (wpAny_attempt (wpAny_callSpecial?_slot (name := Str.ofString "__next__") hTy F.slot_zip_next (wpAny_call_entry F.slot_zip_next hTy F.entry_zip_next
          (zipS_hend hA S1 S2 D e1 hz hT hTI t1 t2 hend fun h' e up he => ?_) (F.args_zip_next_1 _))))
        obtain ⟨o, ho, hc⟩ := he
        refine wpAny_bind (wpAny_isInstance (T := "StopIteration") (b := true) ⟨o, ho, hc⟩ isSubtype_stop (wpAny_pure (hQ h' s1.toks fun c o hc e => ?_)))
        exact up c o (fun q => hc (by simp [q])) (fun q => hc (by simp [q])) (fun q => hc (by simp [q])) e
end
end U

set_option Elab.async false
set_option linter.all false
set_option maxRecDepth 100000
namespace U
open PySem PySem.Spec PyProof.Rows
abbrev zA (h : Heap) (l : Addr) : Heap := h.push { cls := .type "list_iterator", data := .fields #[.ref l, .int 0 0] }
abbrev zB (h : Heap) (l t : Addr) : Heap := (zA h l).push { cls := .type "tuple_iterator", data := .fields #[.ref t, .int 0 0] }
abbrev zC (h : Heap) (l t : Addr) : Heap := (zB h l t).push { cls := .type "tuple", data := .seq #[.ref h.objs.size, .ref (zA h l).objs.size] }
abbrev zD (h : Heap) (l t : Addr) : Heap := (zC h l t).push { cls := .type "tuple", data := .seq #[.none, .none] }
abbrev zE (h : Heap) (l t : Addr) : Heap := (zD h l t).push { cls := .type "zip", data := .fields #[.none, .bool false, .bool false, .ref (zB h l t).objs.size, .ref (zC h l t).objs.size] }
theorem zip_new_lt (l t : Addr) (xs ys : Array Value) :
    Meets (Builtin.«zip.__new__» ⟨[.type "zip", .ref l, .ref t], []⟩) (fun _ R s => s.heap.IsList l xs ∧ s.heap.IsTuple t ys ∧ R (.ok (.ret (.ref (zD s.heap l t).objs.size))) { s with heap := zE s.heap l t }) :=
  .of_wp fun prog w A R s h => by
    obtain ⟨hp, g, d, tk, os⟩ := s
    obtain ⟨h1, h2, h⟩ := h
    have hsub := sub_zip
    have hL : Heap.IsList (Shared.heap ⟨hp, g, d, tk, os⟩) l xs := h1
    have hT : Heap.IsTuple (Shared.heap ⟨hp.push { cls := .type "list_iterator", data := .fields #[.ref l, .int 0 0] }, g, d, tk, os⟩) t ys := let ⟨o, e, r⟩ := h2; ⟨o, Heap.get?_push_of_some _ e, r⟩
    wp_walk using wpAny_pyIter_list hL, wpAny_pyIter_tuple hT
    exact ⟨_, rfl, h⟩
theorem call_zip_lt {prog : Program} {w : World} {A : Around} {E : Value → Shared → Prop} {s : Shared} {l t : Addr} {xs ys : Array Value} {Q : Value → Shared → Prop} (h1 : s.heap.IsList l xs) (h2 : s.heap.IsTuple t ys)
    (h : ∀ h', IsZip h' (s.heap.objs.size + 4) (s.heap.objs.size + 2) (s.heap.objs.size + 3) .none → IsPair h' (s.heap.objs.size + 2) (.ref s.heap.objs.size) (.ref (s.heap.objs.size + 1)) → IsPair h' (s.heap.objs.size + 3) .none .none →
      h'.IsListIter s.heap.objs.size l 0 → h'.IsTupleIter (s.heap.objs.size + 1) t 0 → h'.objs.size = s.heap.objs.size + 5 → (∀ c o, s.heap.get? c = some o → h'.get? c = some o) → Q (.ref (s.heap.objs.size + 4)) { s with heap := h' }) :
    wpAny (model prog w) A (call (.type "zip") [.ref l, .ref t]) Q E s := by
  refine callType_new F.called_zip (by decide) (F.typeCall_zip_2 _ _) (F.newCall_zip_2 _ _) (fun obj => F.args_object_init_3 obj _ _) F.entry_zip_new (zip_new_lt l t xs ys) ⟨h1, h2, ?_⟩
  have zA_ : (zA s.heap l).objs.size = s.heap.objs.size + 1 := Heap.size_push ..
  have zB_ : (zB s.heap l t).objs.size = s.heap.objs.size + 2 := by rw [Heap.size_push, zA_]
  have zC_ : (zC s.heap l t).objs.size = s.heap.objs.size + 3 := by rw [Heap.size_push, zB_]
  have zD_ : (zD s.heap l t).objs.size = s.heap.objs.size + 4 := by rw [Heap.size_push, zC_]
  have zE_ : (zE s.heap l t).objs.size = s.heap.objs.size + 5 := by rw [Heap.size_push, zD_]
  have gE : (zE s.heap l t).get? (zD s.heap l t).objs.size = some _ := Heap.get?_push_size _ rfl
  have gD : (zE s.heap l t).get? (zC s.heap l t).objs.size = some _ := Heap.get?_push_of_some _ (Heap.get?_push_size _ rfl)
  have gC : (zE s.heap l t).get? (zB s.heap l t).objs.size = some _ := Heap.get?_push_of_some _ (Heap.get?_push_of_some _ (Heap.get?_push_size _ rfl))
  have gB : (zE s.heap l t).get? (zA s.heap l).objs.size = some _ := Heap.get?_push_of_some _ (Heap.get?_push_of_some _ (Heap.get?_push_of_some _ (Heap.get?_push_size _ rfl)))
  have gA : (zE s.heap l t).get? s.heap.objs.size = some _ := Heap.get?_push_of_some _ (Heap.get?_push_of_some _ (Heap.get?_push_of_some _ (Heap.get?_push_of_some _ (Heap.get?_push_size _ rfl))))
  show _ ∧ _
  rw [zB_, zC_, zD_] at gE
  rw [zA_, zB_] at gC
  rw [zC_] at gD
  rw [zA_] at gB
  rw [zD_]
  exact ⟨⟨_, gE, rfl⟩, h _ gE gC gD ⟨_, gA, rfl, rfl⟩ ⟨_, gB, rfl, rfl⟩ zE_ fun c o q => Heap.get?_push_of_some _ (Heap.get?_push_of_some _ (Heap.get?_push_of_some _ (Heap.get?_push_of_some _ (Heap.get?_push_of_some _ q))))⟩
end U

set_option Elab.async false
set_option linter.all false
set_option maxRecDepth 100000
namespace U
open PySem L2

section
variable {K : KX} {W W' : Wd} {H H' : Hp} {S S' : AS} {v : V} {p : P} {σ : L2.St} {ρ ρ' : Env} {gf : Nat → List Addr}
theorem slo_set (hl : Slo K W H σ ρ gf) (h : RP K W H v p) {i : Nat} (hi : i < ρ.length) : Slo K W H (σ.set i (some v)) (ρ.set i (some (R.p p))) (fun j => if j = i then [] else gf j) where
  len := by rw [List.length_set, List.length_set]; exact hl.len
  at_ := fun j r hr => by
    by_cases e : j = i
    · subst e
      rw [List.getElem?_set_self hi] at hr
      cases hr
      refine ⟨v, List.getElem?_set_self (by rw [hl.len]; exact hi), ?_, (fun z => nomatch z)⟩
      rw [if_pos rfl]
      exact .leaf h
    · rw [List.getElem?_set_ne (Ne.symm e)] at hr
      rw [List.getElem?_set_ne (Ne.symm e), if_neg e]
      exact hl.at_ j r hr
  sf := fun j r hr a ha => by
    by_cases e : j = i
    · rw [if_pos e] at ha; cases ha
    · rw [if_neg e] at ha
      rw [List.getElem?_set_ne (Ne.symm e)] at hr
      exact hl.sf j r hr a ha
  own := fun j r hr ho => by
    by_cases e : j = i
    · subst e
      rw [List.getElem?_set_self hi] at hr
      cases hr
      cases ho
    · rw [if_neg e]
      rw [List.getElem?_set_ne (Ne.symm e)] at hr
      exact hl.own j r hr ho
  dj := fun j m r r' hr hr' ho hne a ha hm => by
    by_cases e : j = i
    · rw [if_pos e] at ha; cases ha
    · by_cases e2 : m = i
      · rw [if_pos e2] at hm; cases hm
      · rw [if_neg e] at ha
        rw [if_neg e2] at hm
        rw [List.getElem?_set_ne (Ne.symm e)] at hr
        rw [List.getElem?_set_ne (Ne.symm e2)] at hr'
        exact hl.dj j m r r' hr hr' ho hne a ha hm
def OwnOk (X : Cx) (own : Str → Bool) : Prop := ∀ x, own x = true → Loc X.env.scope x ∧ (X.fn x = true ∨ X.env.scope.names.lookup x = some .local)
/-- what is owned was owned -/
def Kept (ρ : Env) (gf : Nat → List Addr) (ρ' : Env) (gf' : Nat → List Addr) : Prop := ∀ (i : Nat) (r : R), ρ'[i]? = some (some r) → r.s = .own → ρ[i]? = some (some r) ∧ gf' i = gf i
def TvG (K : KX) (t : Tg) : TG := fun v σ H Q => ∃ (W : Wd) (ρ : Env) (S : AS) (gf : Nat → List Addr) (p : P) (ρ' : Env), Sto K W H S ∧ Slo K W H σ ρ gf ∧ RP K W H v p ∧ asg t p ρ = some ρ' ∧
  ∀ (σ' : L2.St) (gf' : Nat → List Addr), Slo K W H σ' ρ' gf' → Kept ρ gf ρ' gf' → σ'.length = σ.length → (∀ i, i ∉ t.slots → σ'[i]? = σ[i]?) → Q σ' H
def TvGs (K : KX) (ts : List Tg) : TGs := fun vs σ H Q => ∃ (W : Wd) (ρ : Env) (S : AS) (gf : Nat → List Addr) (ps : List P) (ρ' : Env), Sto K W H S ∧ Slo K W H σ ρ gf ∧ RPs K W H vs ps ∧ asgs ts ps ρ = some ρ' ∧
  ∀ (σ' : L2.St) (gf' : Nat → List Addr), Slo K W H σ' ρ' gf' → Kept ρ gf ρ' gf' → σ'.length = σ.length → (∀ i, i ∉ Tg.slotss ts → σ'[i]? = σ[i]?) → Q σ' H
theorem pg_imp {X : Cx} {e : Expr} {t t' : TG} (h : PG X e t) (i : ∀ v σ H Q, t' v σ H Q → t v σ H Q) : PG X e t' := ⟨fun pins s σ H v u Q I r q => h.run pins s σ H v u Q I r (i v σ H Q q)⟩
theorem pgs_imp {X : Cx} {e : List Expr} {t t' : TGs} (h : PGs X e t) (i : ∀ v σ H Q, t' v σ H Q → t v σ H Q) : PGs X e t' := ⟨fun pins s σ H v u Q I r q => h.run pins s σ H v u Q I r (i v σ H Q q)⟩
variable {X : Cx} {N : List Str} {own : Str → Bool}
theorem cTL_cons {f : Expr → Option Tg} {e : Expr} {es : List Expr} {ts : List Tg} (h : cTL f (e :: es) = some ts) : ∃ a as, f e = some a ∧ cTL f es = some as ∧ ts = a :: as := by
  unfold cTL at h
  split at h
  · rename_i a as h1 h2
    cases h
    exact ⟨a, as, h1, h2, rfl⟩
  · cases h
theorem tg_assign {n : Nat} {e : Expr} {t : Tg} (h : cTg N own n e = some t) (env : PySem.Env) (r : List Expr) : assignEach (e :: r) env = (false, assign e env) :: assignEach r env := by
  cases n with
  | zero => cases h
  | succ n =>
    cases e <;> first
      | rfl
      | (simp only [cTg] at h; cases h)
theorem tg_flat {n : Nat} : ∀ {es : List Expr} {ts : List Tg}, cTL (cTg N own n) es = some ts → ∀ (env : PySem.Env), (assignEach es env).length = es.length ∧ (assignEach es env).findIdx? (·.1) = none ∧ ts.length = es.length
  | [], _, h, _ => by cases h; exact ⟨rfl, rfl, rfl⟩
  | e :: es, _, h, env => by
    obtain ⟨a, as, h1, h2, rfl⟩ := cTL_cons h
    obtain ⟨k1, k2, k3⟩ := tg_flat h2 env
    rw [tg_assign h1]
    refine ⟨by rw [List.length_cons, List.length_cons, k1], ?_, by rw [List.length_cons, List.length_cons, k3]⟩
    rw [List.findIdx?_cons]
    simp [k2]
theorem asgs_len : ∀ {ts : List Tg} {ps : List P} {ρ ρ' : Env}, asgs ts ps ρ = some ρ' → ps.length = ts.length
  | [], [], _, _, _ => rfl
  | [], _ :: _, _, _, h => by simp only [asgs] at h; cases h
  | _ :: _, [], _, _, h => by simp only [asgs] at h; cases h
  | t :: ts, p :: ps, ρ, ρ', h => by
    simp only [asgs] at h
    split at h
    · rw [List.length_cons, List.length_cons, asgs_len h]
    · cases h
theorem pg_of (hc : X.calm = true) (hN : X.N.Nodup) (hX : X.N = N) (ho : OwnOk X own) : ∀ (n : Nat) {e : Expr} {t : Tg}, cTg N own n e = some t → PG X e (TvG X.kx t)
  | 0, _, _, h => by cases h
  | n + 1, e, t, h => by
    simp only [cTg] at h
    split at h
    · rename_i x pos
      split at h
      · rename_i hx
        obtain ⟨i, hi, rfl⟩ := Option.map_eq_some_iff.mp h
        obtain ⟨o1, o2⟩ := ho x hx
        refine pg_imp (pg_name (i := i) hN (by rw [hX]; exact idx_at hi) o1 o2) fun v σ H Q q => ?_
        obtain ⟨W, ρ, S, gf, p, ρ', hs, hl, hp, ha, q⟩ := q
        simp only [asg] at ha
        split at ha
        · rename_i hlt
          cases ha
          refine q _ _ (slo_set hl hp hlt) (fun j r hr ho => ?_) (List.length_set ..) fun j hj => ?_
          · by_cases e : j = i
            · subst e
              rw [List.getElem?_set_self hlt] at hr
              cases hr; cases ho
            · rw [List.getElem?_set_ne (Ne.symm e)] at hr
              exact ⟨hr, if_neg e⟩
          have : j ≠ i := fun e => hj (by simp [Tg.slots, e])
          rw [List.getElem?_set_ne (Ne.symm this)]
        · cases ha
      · cases h
    · rename_i es j pos
      obtain ⟨ts, hts, rfl⟩ := Option.map_eq_some_iff.mp h
      have ih : ∀ {es : List Expr} {ts : List Tg}, cTL (cTg N own n) es = some ts → PGs X es (TvGs X.kx ts) := by
        intro es
        induction es with
        | nil =>
          intro ts h
          cases h
          refine pgs_imp pgs_nil fun vs σ H Q q => ?_
          obtain ⟨W, ρ, S, gf, ps, ρ', hs, hl, hp, ha, q⟩ := q
          have := asgs_len ha
          have e : ps = [] := List.eq_nil_of_length_eq_zero this
          subst e
          cases hp
          simp only [asgs, Option.some.injEq] at ha
          subst ha
          exact ⟨rfl, q _ _ hl (fun _ _ h _ => ⟨h, rfl⟩) rfl fun _ _ => rfl⟩
        | cons e es ihes =>
          intro ts h
          obtain ⟨a, as, h1, h2, rfl⟩ := cTL_cons h
          refine pgs_imp (pgs_cons (pg_of hc hN hX ho n h1) (ihes h2) (by rw [tg_assign h1]; rfl)) fun vs σ H Q q => ?_
          obtain ⟨W, ρ, S, gf, ps, ρ', hs, hl, hp, ha, q⟩ := q
          cases hp with
          | nil => simp only [asgs] at ha; cases ha
          | cons p1 p2 =>
            simp only [asgs] at ha
            split at ha
            · rename_i ρ1 h3
              refine ⟨_, _, rfl, W, ρ, S, gf, _, ρ1, hs, hl, p1, h3, fun σ1 g1 l1 t1 n1 k1 => ?_⟩
              refine ⟨W, ρ1, S, g1, _, ρ', hs, l1, p2, ha, fun σ2 g2 l2 t2 n2 k2 => ?_⟩
              refine q σ2 g2 l2 (fun i r hr ho => ?_) (n2.trans n1) fun i hi => ?_
              · obtain ⟨z1, z2⟩ := t2 i r hr ho
                obtain ⟨z3, z4⟩ := t1 i r z1 ho
                exact ⟨z3, z2.trans z4⟩
              simp only [Tg.slotss, List.mem_append, not_or] at hi
              rw [k2 i hi.2, k1 i hi.1]
            · cases ha
      obtain ⟨f1, f2, f3⟩ := tg_flat hts X.env
      refine pg_imp (pg_tup (n := es.length) hc (ih hts) f1 f2) fun v σ H Q q => ?_
      obtain ⟨W, ρ, S, gf, p, ρ', hs, hl, hp, ha, q⟩ := q
      cases hp <;> simp only [asg] at ha <;> first
        | (cases ha; done)
        | skip
      rename_i a vs ps h2 h3
      refine ⟨a, vs, rfl, zt_t h2, by rw [rps_length h3, asgs_len ha, f3], W, ρ, S, gf, ps, ρ', hs, hl, h3, ha, fun σ' g' l' t' n' k' => q σ' g' l' t' n' fun i hi => k' i (by simpa only [Tg.slots] using hi)⟩
    · cases h

structure Wlk (K : KX) (J : L2.It) (vol : Bool) (ps : List P) (G : Wd → Hp → Prop) : Prop where
  goes : ∀ (i : Nat) (W : Wd) (H : Hp), i < ps.length → G W H → J.go i H
  stops : ∀ (W : Wd) (H : Hp), G W H → J.stop ps.length H
  yields : ∀ (i : Nat) (W : Wd) (H : Hp) (S : AS) (x : V) (H' : Hp), i < ps.length → G W H → Sto K W H S → J.yld i H x H' →
    ∃ (W' : Wd) (p : P), ps[i]? = some p ∧ Ext W H S W' H' S ∧ Sto K W' H' S ∧ RP K W' H' x p ∧ ∀ a o, H a = some o → H' a = some o
  stay : ∀ (W : Wd) (H : Hp) (S : AS) (W' : Wd) (H' : Hp) (S' : AS), G W H → Sto K W H S → Ext W H S W' H' S' → (vol = true → S.t = false ∧ S'.t = false) → G W' H'
/-- a list: held so that it stays -/
structure GL (K : KX) (vol : Bool) (a : Addr) (vs : List V) (ps : List P) (W : Wd) (H : Hp) : Prop where
  at_ : H a = some (.lst vs)
  it : RPs K W H vs ps
  sf : vol = false → a ∉ W.SF
theorem GL.stay {vol : Bool} {a : Addr} {vs : List V} {ps : List P} (g : GL K vol a vs ps W H) (s : Sto K W H S) (e : Ext W H S W' H' S') (hv : vol = true → S.t = false ∧ S'.t = false) : GL K vol a vs ps W' H' := by
  cases vol with
  | false => exact ⟨(e.keep a _ g.at_ (g.sf rfl)).1, g.it.mono (e.frm s), fun _ => (e.keep a _ g.at_ (g.sf rfl)).2.1⟩
  | true =>
    obtain ⟨h1, h2⟩ := hv rfl
    exact ⟨(e.un h1 h2).2.2.2 _ _ g.at_, g.it.mono (e.frm s), fun z => by cases z⟩
structure GT (K : KX) (a : Addr) (vs : List V) (ps : List P) (W : Wd) (H : Hp) : Prop where
  at_ : ZT K W H a vs
  it : RPs K W H vs ps
theorem GT.stay {a : Addr} {vs : List V} {ps : List P} (g : GT K a vs ps W H) (s : Sto K W H S) (e : Ext W H S W' H' S') : GT K a vs ps W' H' := by
  refine ⟨?_, g.it.mono (e.frm s)⟩
  rcases g.at_ with ⟨hz, hr⟩ | h
  · exact .inl ⟨e.z _ hz, rd_mono hr ((e.frm s).z _ hz).2⟩
  · exact .inr h
theorem wlk_list {vol : Bool} {a : Addr} {vs : List V} {ps : List P} : Wlk K (Itl K a) vol ps (GL K vol a vs ps) where
  goes := fun i W H hi g => by
    have hl : i < vs.length := by rw [rps_length g.it]; exact hi
    exact (walk_list (xs := vs)).goes i H hl (SqL.of g.at_)
  stops := fun W H g => by
    rw [← rps_length g.it]
    exact (walk_list (xs := vs)).stops H (SqL.of g.at_)
  yields := fun i W H S x H' hi g s y => by
    have hl : i < vs.length := by rw [rps_length g.it]; exact hi
    obtain ⟨e, hx⟩ := (walk_list (xs := vs)).yields i H x H' hl (SqL.of g.at_) y
    subst e
    obtain ⟨p, hp⟩ : ∃ p, ps[i]? = some p := ⟨ps[i], List.getElem?_eq_getElem hi⟩
    obtain ⟨v, h1, h2⟩ := rps_get g.it hp
    rw [hx] at h1
    cases h1
    exact ⟨W, p, hp, Ext.refl, s, h2, fun _ _ h => h⟩
  stay := fun W H S W' H' S' g s e hv => g.stay s e hv
theorem wlk_tup {vol : Bool} {a : Addr} {vs : List V} {ps : List P} : Wlk K (Itt K a) vol ps (GT K a vs ps) where
  goes := fun i W H hi g => by
    have hl : i < vs.length := by rw [rps_length g.it]; exact hi
    exact (walk_tup (xs := vs)).goes i H hl (zt_t g.at_)
  stops := fun W H g => by
    rw [← rps_length g.it]
    exact (walk_tup (xs := vs)).stops H (zt_t g.at_)
  yields := fun i W H S x H' hi g s y => by
    have hl : i < vs.length := by rw [rps_length g.it]; exact hi
    obtain ⟨e, hx⟩ := (walk_tup (xs := vs)).yields i H x H' hl (zt_t g.at_) y
    subst e
    obtain ⟨p, hp⟩ : ∃ p, ps[i]? = some p := ⟨ps[i], List.getElem?_eq_getElem hi⟩
    obtain ⟨v, h1, h2⟩ := rps_get g.it hp
    rw [hx] at h1
    cases h1
    exact ⟨W, p, hp, Ext.refl, s, h2, fun _ _ h => h⟩
  stay := fun W H S W' H' S' g s e hv => g.stay s e
theorem rangeP_len (lo : Int) (n : Nat) : (rangeP lo n).length = n := by simp [rangeP]
theorem wlk_range {vol : Bool} {lo : Int} {n : Nat} : Wlk K (Itr lo n) vol (rangeP lo n) (fun _ _ => True) where
  goes := fun i W H hi g => by
    rw [rangeP_len] at hi
    exact (walk_range (lo := lo)).goes i H hi trivial
  stops := fun W H g => by
    rw [rangeP_len]
    exact walk_range.stops H trivial
  yields := fun i W H S x H' hi g s y => by
    rw [rangeP_len] at hi
    obtain ⟨e, hx⟩ := (walk_range (lo := lo)).yields i H x H' hi trivial y
    subst e hx
    refine ⟨W, .int (lo + i), ?_, Ext.refl, s, .int _, fun _ _ h => h⟩
    simp [rangeP, hi]
  stay := fun _ _ _ _ _ _ _ _ _ _ => trivial
end
end U

set_option Elab.async false
set_option linter.all false
set_option maxRecDepth 100000
namespace U
open PySem L2 PySem.Spec PyProof.Rows
open AutoSeq1 (wpAny_loadPart')

theorem enum_newT (a : Addr) (its : Array Value) :
    Meets (Builtin.«enumerate.__new__» ⟨[.type "enumerate", .ref a], []⟩) (fun _ R s => s.heap.IsTuple a its ∧
      R (.ok (.ret (.ref (s.heap.push { cls := .type "tuple_iterator", data := .fields #[.ref a, .int 0 0] }).objs.size)))
        { s with heap := (s.heap.push { cls := .type "tuple_iterator", data := .fields #[.ref a, .int 0 0] }).push { cls := .type "enumerate", data := .fields #[.none, .bool false, .ref s.heap.objs.size, rawInt 0, .none, .none] } }) :=
  .of_wp fun prog w A R s h => by
    obtain ⟨hp, gg, dr, tk, os⟩ := s
    obtain ⟨h1, h⟩ := h
    have hsub := sub_enumerate
    have q1 : ∀ {A' : Around} {E : Value → Shared → Prop} {Q : Value → Shared → Prop}, Q (.ref hp.objs.size) ⟨hp.push { cls := .type "tuple_iterator", data := .fields #[.ref a, .int 0 0] }, gg, dr, tk, os⟩ → wpAny (model prog w) A' (pyIter (.ref a)) Q E ⟨hp, gg, dr, tk, os⟩ :=
      fun q => (begins_tuple a its).iter prog w _ _ ⟨hp, gg, dr, tk, os⟩ _ h1 q
    wp_walk using q1
    refine wpAny_stack_any fun st => wpAny_pure ?_
    split
    · rename_i c _ _ _ _ _
      cases (c == Value.type "enumerate")
      · wp_walk using q1
        exact ⟨_, rfl, h⟩
      · wp_walk using q1
        exact ⟨_, rfl, h⟩
    · wp_walk using q1
      exact ⟨_, rfl, h⟩
section
variable {prog : Program} {w : World} {A : Around} {E : Value → Shared → Prop} {s : Shared}
theorem call_enumT {a : Addr} {its : Array Value} {Q : Value → Shared → Prop} (hL : s.heap.IsTuple a its)
    (h : ∀ h', IsEnum h' (s.heap.objs.size + 1) s.heap.objs.size 0 .none → h'.IsTupleIter s.heap.objs.size a 0 → (∀ b o, s.heap.get? b = some o → h'.get? b = some o) → Q (.ref (s.heap.objs.size + 1)) { s with heap := h' }) :
    wpAny (model prog w) A (call (.type "enumerate") [.ref a]) Q E s := by
  refine callType_new F.called_enumerate (by decide) (F.typeCall_enumerate_1 _) (F.newCall_enumerate_1 _) (fun obj => F.args_object_init_2 obj _) F.entry_enumerate_new (enum_newT a its) ⟨hL, ?_⟩
  have hz : (s.heap.push { cls := .type "tuple_iterator", data := .fields #[.ref a, .int 0 0] }).objs.size = s.heap.objs.size + 1 := Heap.size_push ..
  show _ ∧ _
  rw [hz]
  have he : IsEnum ((s.heap.push { cls := .type "tuple_iterator", data := .fields #[.ref a, .int 0 0] }).push { cls := .type "enumerate", data := .fields #[.none, .bool false, .ref s.heap.objs.size, rawInt 0, .none, .none] }) (s.heap.objs.size + 1) s.heap.objs.size 0 .none := by
    have z := Heap.get?_push_size (s.heap.push { cls := .type "tuple_iterator", data := .fields #[.ref a, .int 0 0] }) (o := { cls := .type "enumerate", data := .fields #[.none, .bool false, .ref s.heap.objs.size, rawInt 0, .none, .none] }) rfl
    rw [hz] at z
    exact z
  exact ⟨⟨_, he, rfl⟩, h _ he ⟨_, Heap.get?_push_of_some _ (Heap.get?_push_size _ rfl), rfl, rfl⟩ fun b o x => Heap.get?_push_of_some _ (Heap.get?_push_of_some _ x)⟩
end
/-- the tuple at a, each item in a new pair -/
def IteT (K : PySem.W.Frag) (a : Addr) : L2.It :=
  ⟨fun i H => ∃ (xs : List V) (x : V), SqT K H a xs ∧ xs[i]? = some x, fun i H v H' => ∃ T x, v = .ref T ∧ H T = none ∧ H' = upd H T (.tup [.int (i : Nat), x]) ∧ ∀ xs, SqT K H a xs → xs[i]? = some x, fun i H => ∃ xs : List V, SqT K H a xs ∧ xs.length = i⟩
theorem turn_enumT {P : Program} {w : World} {K : PySem.W.Frag} {elts : List Expr} {kk : Nat} {tpos : Pos} (a e it : Addr) :
    Turn P w K (.Tuple elts kk tpos) (IteT K a) [e, it] e (fun i h => (∃ old, IsEnum h e it ((i : Nat) : Int) old) ∧ h.IsTupleIter it a i ∧ e ≠ it ∧ a ≠ it ∧ a ≠ e) where
  mem := by simp
  obj := fun i h st b hb => by
    obtain ⟨⟨old, he⟩, ⟨o, ho, hc, hd⟩, _⟩ := st
    have e' : b = e ∨ b = it := by simpa using hb
    rcases e' with rfl | rfl
    · exact ⟨_, he, fun v q => nomatch q⟩
    · exact ⟨o, ho, fun v q => by rw [hd] at q; cases q⟩
  keep := fun i h h' st k => let ⟨⟨old, he⟩, hi, hne⟩ := st; ⟨⟨old, k e (by simp) _ he⟩, hi.at fun o q => k it (by simp) o q, hne⟩
  item := by
    intro X hP hw hK hc i pins s σ H E I hf st hg
    subst hP hw hK
    obtain ⟨⟨old, he⟩, hit, hne, hai, hae⟩ := st
    obtain ⟨xs, x, hq, hx⟩ := hg
    obtain ⟨its, rv, p, hz⟩ := I.tuple hq
    have D := Draws.tuple (prog := X.prog) (w := X.w) (A := X.A.in1) (I.ok.hd hc) it a hai its.toArray
    have hlen : i < its.toArray.size := by
      have h1 := (List.getElem?_eq_some_iff.mp hx).1
      rw [List.size_toArray, ← rv.length]
      exact h1
    have hel : e < s.heap.objs.size := Heap.lt_size he
    have hil : it < s.heap.objs.size := by obtain ⟨_, q, _⟩ := hit; exact Heap.lt_size q
    have hef : e ∉ [it, a] := by simp [hne, Ne.symm hae]
    refine wpAny_pyNext_enum_itemD D he ⟨hit, p⟩ hlen hne hef fun u h' tk hu ho hst hT hsz hk => ?_
    obtain ⟨hit', p'⟩ := hst
    have hu2 : its[i]? = some u := by simpa using hu
    obtain ⟨u', hu', ru⟩ := rv.get hx
    rw [hu2] at hu'
    cases hu'
    refine ⟨_, rfl, wpAny_letOwnedTupleGo_enum (s := { s with heap := h', toks := tk + 1 }) ho fun h'' he' sb => ?_⟩
    have hT2 : h''.get? s.heap.objs.size = some { cls := .type "tuple", data := .seq #[.int i tk, u] } := (sb.2 _ (Nat.ne_of_gt hel)).trans hT
    have new : ObjOk X.prog X.w (upd H s.heap.objs.size (.tup [.int (i : Nat), x])) h'' s.heap.objs.size (.tup [.int (i : Nat), x]) :=
      ⟨by show 2 ≤ sizeLine; decide, [.int i tk, u], .cons ⟨_, rfl⟩ (.cons ru .nil), ⟨_, hT2, rfl, _, rfl⟩⟩
    have I1 : Inv X pins σ (upd H s.heap.objs.size (.tup [.int (i : Nat), x])) { s with heap := h'', toks := tk + 1 } :=
      I.turnedNew (ch := [e, it]) (fun b ob hb q => (sb.2 b (fun z => hb (by simp [z]))).trans (hk b ob (fun z => hb (by simp [z])) (fun z => hb (by simp [z])) q)) hf (Nat.le_refl _) new
    refine ⟨.ref s.heap.objs.size, _, I1, rfl, ⟨_, x, rfl, I.hok.fresh (Nat.le_refl _), rfl, fun ys hy => by rw [I.tuple_inj hy hq]; exact hx⟩, ⟨⟨u, ?_⟩, hit'.at fun o q => (sb.2 it (Ne.symm hne)).trans q, hne, hai, hae⟩, fun b hb => ?_⟩
    · have e1 : ((i + 1 : Nat) : Int) = (i : Int) + 1 := by omega
      rw [e1]
      exact he'
    · have hb' : b < s.heap.objs.size := by
        have e' : b = e ∨ b = it := by simpa using hb
        rcases e' with rfl | rfl
        · exact hel
        · exact hil
      rw [upd_ne (Nat.ne_of_lt hb')]
      exact (hf b hb).1
  done := by
    intro X hP hw hK hc i pins s σ H E I hf st hg
    subst hP hw hK
    obtain ⟨⟨old, he⟩, hit, hne, hai, hae⟩ := st
    obtain ⟨xs, hq, hx⟩ := hg
    obtain ⟨its, rv, p, hz⟩ := I.tuple hq
    obtain ⟨f0, f1, f2, f3, f4, f5⟩ := hf it (by simp)
    have D := Draws.tuple (prog := X.prog) (w := X.w) (A := X.A.in1) (I.ok.hd hc) it a hai its.toArray
    have hl : i = its.toArray.size := by
      rw [List.size_toArray, ← rv.length]
      exact hx.symm
    subst hl
    exact wpAny_pyNext_enum_endD D he ⟨hit, p⟩ fun h' eb => ⟨rfl, I.turned (t' := s.toks) (fun b o hb q => eb b o hb q) f0 f1 f3 f4 f5⟩
  self := fun A i s Q E st h => let ⟨⟨_, he⟩, _⟩ := st; wpAny_pyIter_enum he h
/-- enumerate of a list or a tuple -/
def iEnumS (K : PySem.W.Frag) (ta : TA) : TI := fun σ H R => ta σ H fun vs H1 => ∃ a xs, vs = [.ref a] ∧ ((SqL K H1 a xs ∧ R (Ite K a) H1) ∨ (SqT K H1 a xs ∧ R (IteT K a) H1))
theorem pi_enumS {X : Cx} {e : Expr} {ta : TA} {p pos tpos : Pos} {elts : List Expr} {kk : Nat} (hg : Gl X "enumerate") (hm : X.mg "enumerate" = none) (ha : PA X [e] ta) (hs : starEach [e] X.env = [(false, eval e X.env)]) :
    PI X (.Tuple elts kk tpos) (.Call (.Name "enumerate" p) [e] [] pos) (iEnumS X.K ta) := by
  refine ⟨fun pins s σ H R I h => ?_⟩
  refine Call_ (ld_blt I hg hm boot_enumerate (callWith_type1 (thn (ha.run pos pins s σ H _ I h) fun us s1 ⟨vs, H1, I1, r1, q1⟩ => ?_) hs rfl))
  obtain ⟨a, xs, rfl, q⟩ := q1
  obtain ⟨u, rfl, ru⟩ := Vals.one r1
  cases ru
  have two : ∀ b, b ∈ [s1.heap.objs.size + 1, s1.heap.objs.size] → FpOk X pins H1 b := fun b hb => by
    have e' : b = s1.heap.objs.size + 1 ∨ b = s1.heap.objs.size := by simpa using hb
    have hle : s1.heap.objs.size ≤ b := by
      rcases e' with rfl | rfl
      · exact Nat.le_succ _
      · exact Nat.le_refl _
    exact I1.fpOk hle (I1.hok.fresh hle)
  rcases q with ⟨hq, q⟩ | ⟨hq, q⟩
  · obtain ⟨its, rv, p', hz⟩ := I1.list hq
    refine call_enumerate_list p'.isList fun h' he hit hsz hk => wpAny_pyIter_enum he ?_
    have I2 : Inv X pins σ H1 { s1 with heap := h' } := I1.kept (t' := s1.toks) hk
    exact ⟨s1.heap.objs.size + 1, [s1.heap.objs.size + 1, s1.heap.objs.size], _, _, H1, rfl, I2, turn_enum a (s1.heap.objs.size + 1) s1.heap.objs.size, ⟨⟨.none, he⟩, hit, Nat.succ_ne_self _⟩, two, q⟩
  · obtain ⟨its, rv, p', hz⟩ := I1.tuple hq
    have hal : a < s1.heap.objs.size := by obtain ⟨o, h, _⟩ := p'; exact Heap.lt_size h
    refine call_enumT (show s1.heap.IsTuple a its.toArray from p') fun h' he hit hk => wpAny_pyIter_enum he ?_
    have I2 : Inv X pins σ H1 { s1 with heap := h' } := I1.kept (t' := s1.toks) hk
    exact ⟨s1.heap.objs.size + 1, [s1.heap.objs.size + 1, s1.heap.objs.size], _, _, H1, rfl, I2, turn_enumT a (s1.heap.objs.size + 1) s1.heap.objs.size, ⟨⟨.none, he⟩, hit, Nat.succ_ne_self _, Nat.ne_of_lt hal, Nat.ne_of_lt (Nat.lt_succ_of_lt hal)⟩, two, q⟩
/-- a list or a tuple, walked -/
def iSeq (K : PySem.W.Frag) (tl : TE) : TI := fun σ H R => tl σ H fun x H1 => ∃ a, x = .ref a ∧ ((∃ xs, SqL K H1 a xs ∧ R (Itl K a) H1) ∨ ∃ xs, SqT K H1 a xs ∧ R (Itt K a) H1)
theorem pi_seq {X : Cx} {tg l : Expr} {tl : TE} (hl : PE X l tl) : PI X tg l (iSeq X.K tl) := by
  refine ⟨fun pins s σ H R I h => thn (hl.run pins s σ H _ I h) fun v s1 ⟨x, H1, I1, r1, a, e, q⟩ => ?_⟩
  subst e
  cases r1
  have one : ∀ b, b ∈ [s1.heap.objs.size] → FpOk X pins H1 b := fun b hb => by
    have e : b = s1.heap.objs.size := by simpa using hb
    rw [e]
    exact I1.fpOk (Nat.le_refl _) (I1.hok.fresh (Nat.le_refl _))
  rcases q with ⟨xs, hq, q⟩ | ⟨xs, hq, q⟩
  · obtain ⟨its, rv, p, hz⟩ := I1.list hq
    exact wpAny_pyIter_list p.isList ⟨s1.heap.objs.size, [s1.heap.objs.size], _, _, H1, rfl, I1.kept (t' := s1.toks) (fun b o e => Heap.get?_push_of_some _ e), turn_list a _, ⟨_, Heap.get?_push_size _ rfl, rfl, rfl⟩, one, q⟩
  · obtain ⟨its, rv, p, hz⟩ := I1.tuple hq
    exact wpAny_pyIter_tuple (show s1.heap.IsTuple a its.toArray from p) ⟨s1.heap.objs.size, [s1.heap.objs.size], _, _, H1, rfl, I1.kept (t' := s1.toks) (fun b o e => Heap.get?_push_of_some _ e), turn_tuple a _, ⟨_, Heap.get?_push_size _ rfl, rfl, rfl⟩, one, q⟩
section
variable {K : KX} {W W' : Wd} {H H' H₀ : Hp} {S S' : AS} {v : V} {r : R}
theorem enumP_get : ∀ {ps : List P} {n i : Nat} {p : P}, ps[i]? = some p → (enumP ps n)[i]? = some (.tup [.int ((n + i : Nat) : Int), p])
  | [], _, _, _, h => by simp at h
  | q :: ps, n, 0, p, h => by
    simp only [List.getElem?_cons_zero, Option.some.injEq] at h
    subst h
    rfl
  | q :: ps, n, i + 1, p, h => by
    simp only [List.getElem?_cons_succ] at h
    show (enumP ps (n + 1))[i]? = _
    rw [enumP_get h]
    have : n + 1 + i = n + (i + 1) := by omega
    rw [this]
theorem enumP_len : ∀ (ps : List P) (n : Nat), (enumP ps n).length = ps.length
  | [], _ => rfl
  | p :: ps, n => by show (enumP ps (n + 1)).length + 1 = _; rw [enumP_len]; rfl
theorem zipP_get : ∀ {ps qs : List P} {i : Nat} {p q : P}, ps[i]? = some p → qs[i]? = some q → (zipP ps qs)[i]? = some (.tup [p, q])
  | [], _, _, _, _, h, _ => by simp at h
  | _ :: _, [], _, _, _, _, h => by simp at h
  | a :: ps, b :: qs, 0, p, q, h, h2 => by
    simp only [List.getElem?_cons_zero, Option.some.injEq] at h h2
    subst h h2
    rfl
  | a :: ps, b :: qs, i + 1, p, q, h, h2 => by
    simp only [List.getElem?_cons_succ] at h h2
    exact zipP_get (ps := ps) (qs := qs) h h2
theorem zipP_len : ∀ (ps qs : List P), (zipP ps qs).length = min ps.length qs.length
  | [], _ => by simp [zipP]
  | _ :: _, [] => by simp [zipP]
  | a :: ps, b :: qs => by simp only [zipP, List.length_cons, zipP_len]; omega
/-- a new pair -/
theorem new_pair {T : Addr} {x y : V} {p q : P} (s : Sto K W H S) (hT : H T = none) (hx : RP K W H x p) (hy : RP K W H y q) :
    Ext W H S (W.fz [T]) (upd H T (.tup [x, y])) S ∧ Sto K (W.fz [T]) (upd H T (.tup [x, y])) S ∧ RP K (W.fz [T]) (upd H T (.tup [x, y])) (.ref T) (.tup [p, q]) ∧ ∀ a o, H a = some o → upd H T (.tup [x, y]) a = some o := by
  obtain ⟨h1, h2, h3⟩ := rv_newT s hT (.cons hx (.cons hy .nil))
  exact ⟨h1, h2, h3, fun a o h => by rw [upd_ne (ne_of_none h hT)]; exact h⟩
theorem wlk_enumL {vol : Bool} {a : Addr} {vs : List V} {ps : List P} : Wlk K (Ite K a) vol (enumP ps 0) (GL K vol a vs ps) where
  goes := fun i W H hi g => by
    rw [enumP_len] at hi
    have hl : i < vs.length := by rw [rps_length g.it]; exact hi
    exact ⟨vs, vs[i], SqL.of g.at_, List.getElem?_eq_getElem hl⟩
  stops := fun W H g => ⟨vs, SqL.of g.at_, by rw [rps_length g.it, enumP_len]; exact Nat.le_refl _⟩
  yields := fun i W H S x H' hi g s y => by
    rw [enumP_len] at hi
    obtain ⟨T, z, rfl, hT, rfl, hz⟩ := y
    obtain ⟨p, hp⟩ : ∃ p, ps[i]? = some p := ⟨ps[i], List.getElem?_eq_getElem hi⟩
    obtain ⟨v, h1, h2⟩ := rps_get g.it hp
    have e := hz vs (SqL.of g.at_)
    rw [h1] at e
    cases e
    obtain ⟨k1, k2, k3, k4⟩ := new_pair s hT (.int (i : Nat)) h2
    refine ⟨_, _, enumP_get hp, k1, k2, ?_, k4⟩
    rw [Nat.zero_add]
    exact k3
  stay := fun W H S W' H' S' g s e hv => g.stay s e hv
theorem wlk_enumT {vol : Bool} {a : Addr} {vs : List V} {ps : List P} : Wlk K (IteT K a) vol (enumP ps 0) (GT K a vs ps) where
  goes := fun i W H hi g => by
    rw [enumP_len] at hi
    have hl : i < vs.length := by rw [rps_length g.it]; exact hi
    exact ⟨vs, vs[i], zt_t g.at_, List.getElem?_eq_getElem hl⟩
  stops := fun W H g => ⟨vs, zt_t g.at_, by rw [rps_length g.it, enumP_len]⟩
  yields := fun i W H S x H' hi g s y => by
    rw [enumP_len] at hi
    obtain ⟨T, z, rfl, hT, rfl, hz⟩ := y
    obtain ⟨p, hp⟩ : ∃ p, ps[i]? = some p := ⟨ps[i], List.getElem?_eq_getElem hi⟩
    obtain ⟨v, h1, h2⟩ := rps_get g.it hp
    have e := hz vs (zt_t g.at_)
    rw [h1] at e
    cases e
    obtain ⟨k1, k2, k3, k4⟩ := new_pair s hT (.int (i : Nat)) h2
    refine ⟨_, _, enumP_get hp, k1, k2, ?_, k4⟩
    rw [Nat.zero_add]
    exact k3
  stay := fun W H S W' H' S' g s e hv => g.stay s e
theorem wlk_zipL {vol : Bool} {a b : Addr} {vs us : List V} {ps qs : List P} : Wlk K (Itz K a b) vol (zipP ps qs) (fun W H => GL K vol a vs ps W H ∧ GL K vol b us qs W H) where
  goes := fun i W H hi g => by
    rw [zipP_len] at hi
    have h1 : i < vs.length := by rw [rps_length g.1.it]; omega
    have h2 : i < us.length := by rw [rps_length g.2.it]; omega
    exact ⟨vs, us, vs[i], us[i], SqL.of g.1.at_, SqL.of g.2.at_, List.getElem?_eq_getElem h1, List.getElem?_eq_getElem h2⟩
  stops := fun W H g => ⟨vs, us, SqL.of g.1.at_, SqL.of g.2.at_, by rw [zipP_len, rps_length g.1.it, rps_length g.2.it]; omega⟩
  yields := fun i W H S x H' hi g s y => by
    rw [zipP_len] at hi
    obtain ⟨T, z, w, rfl, hT, rfl, hz, hw⟩ := y
    obtain ⟨p, hp⟩ : ∃ p, ps[i]? = some p := ⟨ps[i]'(by omega), List.getElem?_eq_getElem (by omega)⟩
    obtain ⟨q, hq⟩ : ∃ q, qs[i]? = some q := ⟨qs[i]'(by omega), List.getElem?_eq_getElem (by omega)⟩
    obtain ⟨v, h1, h2⟩ := rps_get g.1.it hp
    obtain ⟨u, h3, h4⟩ := rps_get g.2.it hq
    have e := hz vs (SqL.of g.1.at_)
    rw [h1] at e
    cases e
    have e := hw us (SqL.of g.2.at_)
    rw [h3] at e
    cases e
    obtain ⟨k1, k2, k3, k4⟩ := new_pair s hT h2 h4
    exact ⟨_, _, zipP_get hp hq, k1, k2, k3, k4⟩
  stay := fun W H S W' H' S' g s e hv => ⟨g.1.stay s e hv, g.2.stay s e hv⟩
theorem wlk_zipT {vol : Bool} {a b : Addr} {vs us : List V} {ps qs : List P} : Wlk K (RZ.ItzT K a b) vol (zipP ps qs) (fun W H => GT K a vs ps W H ∧ GT K b us qs W H) where
  goes := fun i W H hi g => by
    rw [zipP_len] at hi
    have h1 : i < vs.length := by rw [rps_length g.1.it]; omega
    have h2 : i < us.length := by rw [rps_length g.2.it]; omega
    exact ⟨vs, us, vs[i], us[i], zt_t g.1.at_, zt_t g.2.at_, List.getElem?_eq_getElem h1, List.getElem?_eq_getElem h2⟩
  stops := fun W H g => ⟨vs, us, zt_t g.1.at_, zt_t g.2.at_, by rw [zipP_len, rps_length g.1.it, rps_length g.2.it]; omega⟩
  yields := fun i W H S x H' hi g s y => by
    rw [zipP_len] at hi
    obtain ⟨T, z, w, rfl, hT, rfl, hz, hw⟩ := y
    obtain ⟨p, hp⟩ : ∃ p, ps[i]? = some p := ⟨ps[i]'(by omega), List.getElem?_eq_getElem (by omega)⟩
    obtain ⟨q, hq⟩ : ∃ q, qs[i]? = some q := ⟨qs[i]'(by omega), List.getElem?_eq_getElem (by omega)⟩
    obtain ⟨v, h1, h2⟩ := rps_get g.1.it hp
    obtain ⟨u, h3, h4⟩ := rps_get g.2.it hq
    have e := hz vs (zt_t g.1.at_)
    rw [h1] at e
    cases e
    have e := hw us (zt_t g.2.at_)
    rw [h3] at e
    cases e
    obtain ⟨k1, k2, k3, k4⟩ := new_pair s hT h2 h4
    exact ⟨_, _, zipP_get hp hq, k1, k2, k3, k4⟩
  stay := fun W H S W' H' S' g s e hv => ⟨g.1.stay s e, g.2.stay s e⟩
end
end U

set_option Elab.async false
set_option linter.all false
set_option maxRecDepth 100000
namespace U
open PySem L2

/-- what is walked: rs the values, their items in turn -/
def ItK (K : KX) (k : It) (rs : List R) (ps : List P) (W : Wd) (H : Hp) (R' : L2.It → Hp → Prop) : Prop := ∀ (J : L2.It) (G : Wd → Hp → Prop), Wlk K J (anyVol rs) ps G →
  ((∀ r ∈ rs, ∃ p, r.o = .leaf p) → ∀ (W W' : Wd) (H H' : Hp) (S' : AS), G W H → Frm W H W' H' → Sto K W' H' S' → G W' H') → G W H → R' J H
/-- what was lent is looked at -/
def pk (fr : Bool) (S : AS) (rs : List R) : List R := match fr with
  | true => rs
  | false => rs.map (peek S)
def TvI (fr : Bool) (K : KX) (C : Ctx) (k : It) (src : List E) : TI := fun σ H R' => ∃ (W : Wd) (ρ : Env) (S : AS) (gf : Nat → List Addr) (rs0 rs : List R) (ps : List P) (S' : AS), Sto K W H S ∧ Slo K W H σ ρ gf ∧ evM C fr src ρ S = some (rs0, S') ∧ rs = pk fr S' rs0 ∧ itR k rs = some ps ∧
  ∀ (W' : Wd) (H' : Hp), Ext W H S W' H' S' → Sto K W' H' S' → ItK K k rs ps W' H' R'
theorem pi_imp {X : Cx} {tg e : Expr} {t t' : TI} (h : PI X tg e t) (i : ∀ σ H R, t' σ H R → t σ H R) : PI X tg e t' := ⟨fun pins s σ H R I q => h.run pins s σ H R I (i σ H R q)⟩
theorem pk_ok {fr : Bool} {K : KX} {W : Wd} {H H₀ : Hp} {S : AS} (s : Sto K W H S) {vs : List V} {rs : List R} (h : Paired (RV K H₀ W H) vs rs) : Paired (RV K H₀ W H) vs (pk fr S rs) := by
  cases fr with
  | true => exact h
  | false => exact peeks_ok s h
theorem pi_or {X : Cx} {tg e : Expr} {t t' : TI} (h : PI X tg e t) (h' : PI X tg e t') : PI X tg e (fun σ H R => t σ H R ∨ t' σ H R) := ⟨fun pins s σ H R I q => q.elim (h.run pins s σ H R I) (h'.run pins s σ H R I)⟩
section
variable {K : KX} {W W' : Wd} {H H' H₀ : Hp} {S S' : AS} {v u : V} {r x y : R} {ps qs : List P} {vs us : List V} {a b : Addr}
/-- a dict -/
structure GD (K : KX) (a : Addr) (ep n : Nat) (ks qs : List P) (W : Wd) (H : Hp) : Prop where
  ex : ∃ es : List EnV, H a = some (DH K.w a ep es) ∧ RPs K W H (es.map (·.2.1)) ks ∧ RPs K W H (es.map (·.2.2)) qs ∧ es.length = n
theorem GD.stay {ep n : Nat} {ks qs : List P} (g : GD K a ep n ks qs W H) (s : Sto K W H S) (e : Ext W H S W' H' S') (hv : S.t = false ∧ S'.t = false) : GD K a ep n ks qs W' H' := by
  obtain ⟨es, h1, h2, h3, h4⟩ := g.ex
  exact ⟨es, (e.un hv.1 hv.2).2.2.2 _ _ h1, h2.mono (e.frm s), h3.mono (e.frm s), h4⟩
theorem GD.len {ep n : Nat} {ks qs : List P} (g : GD K a ep n ks qs W H) : ks.length = n ∧ qs.length = n := by
  obtain ⟨es, h1, h2, h3, h4⟩ := g.ex
  have h5 := rps_length h2
  have h6 := rps_length h3
  rw [List.length_map] at h5 h6
  omega
theorem wlk_dk {ep n : Nat} {ks qs : List P} (hn : ks.length = n) : Wlk K (ItDk K.w a ep n) true ks (GD K a ep n ks qs) where
  goes := fun i W H hi g => by
    obtain ⟨es, h1, h2, h3, h4⟩ := g.ex
    exact ⟨es, h1, h4, by omega⟩
  stops := fun W H g => by
    obtain ⟨es, h1, h2, h3, h4⟩ := g.ex
    exact ⟨es, h1, h4, by omega⟩
  yields := fun i W H S x H' hi g s y => by
    obtain ⟨es, h1, h2, h3, h4⟩ := g.ex
    obtain ⟨rfl, y⟩ := y
    obtain ⟨k, v, hv⟩ := y es h1
    rcases rps_at h2 i with ⟨e1, e2⟩ | ⟨v', p, e1, e2, r⟩
    · rw [List.getElem?_map, hv] at e1; cases e1
    · rw [List.getElem?_map, hv] at e1
      cases e1
      exact ⟨W, p, e2, Ext.refl, s, r, fun _ _ h => h⟩
  stay := fun W H S W' H' S' g s e hv => g.stay s e (hv rfl)
theorem wlk_dp {ep n : Nat} {ks qs : List P} (hn : (zipP ks qs).length = n) : Wlk K (ItDp K.w a ep n) true (zipP ks qs) (GD K a ep n ks qs) where
  goes := fun i W H hi g => by
    obtain ⟨es, h1, h2, h3, h4⟩ := g.ex
    exact ⟨es, h1, h4, by omega⟩
  stops := fun W H g => by
    obtain ⟨es, h1, h2, h3, h4⟩ := g.ex
    exact ⟨es, h1, h4, by omega⟩
  yields := fun i W H S x H' hi g s y => by
    obtain ⟨es, h1, h2, h3, h4⟩ := g.ex
    obtain ⟨T, y', z, rfl, hT, rfl, y⟩ := y
    obtain ⟨k, hv⟩ := y es h1
    rcases rps_at h2 i with ⟨e1, e2⟩ | ⟨v', p, e1, e2, r⟩
    · rw [List.getElem?_map, hv] at e1; cases e1
    · rw [List.getElem?_map, hv] at e1
      cases e1
      rcases rps_at h3 i with ⟨f1, f2⟩ | ⟨u', q, f1, f2, r2⟩
      · rw [List.getElem?_map, hv] at f1; cases f1
      · rw [List.getElem?_map, hv] at f1
        cases f1
        obtain ⟨k1, k2, k3, k4⟩ := new_pair s hT r r2
        exact ⟨_, _, zipP_get e2 f2, k1, k2, k3, k4⟩
  stay := fun W H S W' H' S' g s e hv => g.stay s e (hv rfl)
/-- a list or tuple by its items -/
theorem rv_seqz (h : RV K H₀ W H v r) (e : r.o.seq = some ps) : ∃ a vs, v = .ref a ∧ RPs K W H vs ps ∧ ((ZT K W H a vs) ∨ (H a = some (.lst vs) ∧ ((∃ p, r.o = .leaf p) → W.Z a) ∧ (isVol r = false → (∃ p, r.o = .leaf p) ∨ a ∉ W.SF))) := by
  obtain ⟨fp, ho, hs⟩ := h
  unfold O.seq at e
  split at e
  · rename_i qs hj
    cases e
    rw [hj] at ho
    cases ho with
    | leaf h => cases h with
      | tup h1 h2 => exact ⟨_, _, rfl, h2, .inl h1⟩
  · unfold O.items at e
    split at e
    · rename_i qs hj
      cases e
      rw [hj] at ho
      cases ho with
      | leaf h => cases h with
        | lst h1 h2 => exact ⟨_, _, rfl, h2, .inr ⟨h1.2, fun _ => h1.1, fun _ => .inl ⟨_, hj⟩⟩⟩
    · rename_i os hj
      rw [hj] at ho
      cases ho with
      | lst h1 h2 =>
        refine ⟨_, _, rfl, ros_leafs h2 e, .inr ⟨h1, (fun ⟨p, z⟩ => by rw [hj] at z; cases z), fun hv => .inr ?_⟩⟩
        cases hst : r.s with
        | own => rw [hst] at hs; exact (hs.2 _ List.mem_cons_self).2.1
        | stb => rw [hst] at hs; exact hs _ List.mem_cons_self
        | vol => rw [isVol_of hj (fun _ z => by cases z) hst] at hv; cases hv
    · cases e
/-- a list, frozen if it is a value -/
def GLz (K : KX) (vol z : Bool) (a : Addr) (vs : List V) (ps : List P) (W : Wd) (H : Hp) : Prop := GL K vol a vs ps W H ∧ (z = true → W.Z a)
theorem Wlk.and {J : L2.It} {vol : Bool} {G : Wd → Hp → Prop} {Z : Wd → Prop} (w : Wlk K J vol ps G) (hz : ∀ (W : Wd) (H : Hp) (S : AS) (W' : Wd) (H' : Hp) (S' : AS), Z W → Ext W H S W' H' S' → Z W') : Wlk K J vol ps (fun W H => G W H ∧ Z W) where
  goes := fun i W H hi g => w.goes i W H hi g.1
  stops := fun W H g => w.stops W H g.1
  yields := fun i W H S x H' hi g s y => w.yields i W H S x H' hi g.1 s y
  stay := fun W H S W' H' S' g s e hv => ⟨w.stay W H S W' H' S' g.1 s e hv, hz _ _ _ _ _ _ g.2 e⟩
theorem gl_frm {vol : Bool} {S' : AS} (g : GL K vol a vs ps W H) (hz : W.Z a) (f : Frm W H W' H') (s : Sto K W' H' S') : GL K vol a vs ps W' H' ∧ W'.Z a :=
  ⟨⟨(f.z _ hz).2 _ g.at_, g.it.mono f, fun _ h => s.zf _ h (f.z _ hz).1⟩, (f.z _ hz).1⟩
theorem gt_frm (g : GT K a vs ps W H) (f : Frm W H W' H') : GT K a vs ps W' H' := by
  refine ⟨?_, g.it.mono f⟩
  rcases g.at_ with ⟨hz, hr⟩ | h
  · exact .inl ⟨(f.z _ hz).1, rd_mono hr (f.z _ hz).2⟩
  · exact .inr h
theorem isVol_none (h : isVol r = false) (s : Sto K W H S) {a : Addr} (hz : (∃ p, r.o = .leaf p) → W.Z a) (hv : isVol r = false → (∃ p, r.o = .leaf p) ∨ a ∉ W.SF) : a ∉ W.SF := by
  rcases hv h with z | z
  · exact fun hm => s.zf _ hm (hz z)
  · exact z
end
section
variable {g : Gm} {C : Ctx} {k n : Nat} {N : List Str} {sc : Scope} {X : Cx} {W W' : Wd} {H : Hp} {S : AS} {r : R}
theorem anyVol_one : anyVol [r] = isVol r := by simp [anyVol]
theorem it_over (s : Sto X.kx W H S) {v : V} {ps : List P} {R' : L2.It → Hp → Prop} {H₀ : Hp} (rv : RV X.kx H₀ W H v r) (he : r.o.seq = some ps) (q : ItK X.kx .over [r] ps W H R') :
    ∃ a, v = .ref a ∧ ((∃ xs, SqL X.kx H a xs ∧ R' (Itl X.kx a) H) ∨ ∃ xs, SqT X.kx H a xs ∧ R' (Itt X.kx a) H) := by
  obtain ⟨a, vs, rfl, hps, h⟩ := rv_seqz rv he
  refine ⟨a, rfl, ?_⟩
  rcases h with h | ⟨h1, h2, h3⟩
  · exact .inr ⟨vs, zt_t h, q _ _ wlk_tup (fun _ W W' H H' S' g f _ => gt_frm g f) ⟨h, hps⟩⟩
  · refine .inl ⟨vs, SqL.of h1, q _ (fun W H => GL X.kx (anyVol [r]) a vs ps W H ∧ ((∃ p, r.o = .leaf p) → W.Z a)) (wlk_list.and fun W H S W' H' S' z e hp => e.z _ (z hp)) (fun hl W W' H H' S' g f s' => ?_) ⟨⟨h1, hps, fun hv => isVol_none (by rw [← anyVol_one]; exact hv) s h2 h3⟩, h2⟩⟩
    have := gl_frm g.1 (g.2 (hl r (by simp))) f s'
    exact ⟨this.1, fun _ => this.2⟩
theorem it_enum (s : Sto X.kx W H S) {v : V} {ps : List P} {R' : L2.It → Hp → Prop} {H₀ : Hp} (rv : RV X.kx H₀ W H v r) (he : r.o.seq = some ps) (q : ItK X.kx .enum [r] (enumP ps 0) W H R') :
    ∃ a xs, [v] = [.ref a] ∧ ((SqL X.kx H a xs ∧ R' (Ite X.kx a) H) ∨ (SqT X.kx H a xs ∧ R' (IteT X.kx a) H)) := by
  obtain ⟨a, vs, rfl, hps, h⟩ := rv_seqz rv he
  refine ⟨a, vs, rfl, ?_⟩
  rcases h with h | ⟨h1, h2, h3⟩
  · exact .inr ⟨zt_t h, q _ _ wlk_enumT (fun _ W W' H H' S' g f _ => gt_frm g f) ⟨h, hps⟩⟩
  · refine .inl ⟨SqL.of h1, q _ (fun W H => GL X.kx (anyVol [r]) a vs ps W H ∧ ((∃ p, r.o = .leaf p) → W.Z a)) (wlk_enumL.and fun W H S W' H' S' z e hp => e.z _ (z hp)) (fun hl W W' H H' S' g f s' => ?_) ⟨⟨h1, hps, fun hv => isVol_none (by rw [← anyVol_one]; exact hv) s h2 h3⟩, h2⟩⟩
    have := gl_frm g.1 (g.2 (hl r (by simp))) f s'
    exact ⟨this.1, fun _ => this.2⟩
theorem gd_of {ep : Nat} {ks qs : List P} {H₀ : Hp} (rv : RV X.kx H₀ W H v r) (he : r.o = .dct ep ks qs) : ∃ a n, v = .ref a ∧ GD X.kx a ep n ks qs W H ∧ (∃ es, H a = some (DH X.w a ep es) ∧ es.length = n) := by
  obtain ⟨fp, ho, _⟩ := rv
  rw [he] at ho
  cases ho with
  | dct g1 g2 g3 g4 g5 => exact ⟨_, _, rfl, ⟨_, g1, g2, g5, rfl⟩, _, g1, rfl⟩
theorem isVol_dct {ep : Nat} {ks qs : List P} {H₀ : Hp} (rv : RV X.kx H₀ W H v r) (he : r.o = .dct ep ks qs) (hs : r.s = .vol) : anyVol [r] = true := by
  simp only [anyVol, List.any_cons, List.any_nil, Bool.or_false]
  exact isVol_of he (fun p z => by cases z) hs
theorem anyVol_two {x y : R} (h : anyVol [x, y] = false) : isVol x = false ∧ isVol y = false := by
  simpa [anyVol] using h
theorem paired_one {α β : Type} {R' : α → β → Prop} {vs : List α} {y : β} (h : Paired R' vs [y]) : ∃ v, vs = [v] ∧ R' v y := by
  cases h with
  | cons a b => cases b; exact ⟨_, rfl, a⟩
theorem paired_two {α β : Type} {R' : α → β → Prop} {vs : List α} {y z : β} (h : Paired R' vs [y, z]) : ∃ v u, vs = [v, u] ∧ R' v y ∧ R' u z := by
  cases h with
  | cons a b => cases b with
    | cons c d => cases d; exact ⟨_, _, rfl, a, c⟩
theorem seq_tup {o : O} {ps : List P} (h : o.tupl = some ps) : o = .leaf (.tup ps) := by
  unfold O.tupl at h
  split at h
  · cases h; rfl
  · cases h
theorem seq_items {o : O} {ps : List P} (h : o.items = some ps) : o.seq = some ps := by
  unfold O.seq
  split
  · simp only [O.items] at h; cases h
  · exact h
theorem rv_itemsz {K : KX} {H₀ : Hp} {v : V} {ps : List P} (h : RV K H₀ W H v r) (e : r.o.items = some ps) : ∃ a vs, v = .ref a ∧ RPs K W H vs ps ∧ H a = some (.lst vs) ∧ ((∃ p, r.o = .leaf p) → W.Z a) ∧ (isVol r = false → (∃ p, r.o = .leaf p) ∨ a ∉ W.SF) := by
  have hne : ∀ qs, r.o ≠ .leaf (.tup qs) := fun qs z => by rw [z] at e; simp only [O.items] at e; cases e
  obtain ⟨fp, ho, hs⟩ := h
  unfold O.items at e
  split at e
  · rename_i qs hj
    cases e
    rw [hj] at ho
    cases ho with
    | leaf h => cases h with
      | lst h1 h2 => exact ⟨_, _, rfl, h2, h1.2, fun _ => h1.1, fun _ => .inl ⟨_, hj⟩⟩
  · rename_i os hj
    rw [hj] at ho
    cases ho with
    | lst h1 h2 =>
      refine ⟨_, _, rfl, ros_leafs h2 e, h1, (fun ⟨p, z⟩ => by rw [hj] at z; cases z), fun hv => .inr ?_⟩
      cases hst : r.s with
      | own => rw [hst] at hs; exact (hs.2 _ List.mem_cons_self).2.1
      | stb => rw [hst] at hs; exact hs _ List.mem_cons_self
      | vol => rw [isVol_of hj (fun _ z => by cases z) hst] at hv; cases hv
  · cases e
theorem it_zip (s : Sto X.kx W H S) {v u : V} {x y : R} {qs : List P} {R' : L2.It → Hp → Prop} {Hx Hy : Hp} (rx : RV X.kx Hx W H v x) (ry : RV X.kx Hy W H u y) (he : itR .zip [x, y] = some qs) (q : ItK X.kx .zip [x, y] qs W H R') :
    ∃ a b xs ys, [v, u] = [.ref a, .ref b] ∧ ((SqL X.kx H a xs ∧ SqL X.kx H b ys ∧ R' (Itz X.kx a b) H) ∨ (SqT X.kx H a xs ∧ SqT X.kx H b ys ∧ R' (RZ.ItzT X.kx a b) H)) := by
  simp only [itR] at he
  split at he
  · rename_i ps1 ps2 h1 h2
    cases he
    have e1 := seq_tup h1
    have e2 := seq_tup h2
    obtain ⟨f1, r1, -⟩ := rx
    obtain ⟨f2, r2, -⟩ := ry
    rw [e1] at r1
    rw [e2] at r2
    cases r1 with
    | leaf r1 => cases r2 with
      | leaf r2 => cases r1 with
        | tup a1 a2 => cases r2 with
          | tup b1 b2 => exact ⟨_, _, _, _, rfl, .inr ⟨zt_t a1, zt_t b1, q _ _ wlk_zipT (fun _ W W' H H' S' g f _ => ⟨gt_frm g.1 f, gt_frm g.2 f⟩) ⟨⟨a1, a2⟩, ⟨b1, b2⟩⟩⟩⟩
  · split at he
    · rename_i ps1 ps2 h1 h2
      cases he
      obtain ⟨a, vs, rfl, hps, h3, h4, h5⟩ := rv_itemsz rx h1
      obtain ⟨b, us, rfl, hqs, h6, h7, h8⟩ := rv_itemsz ry h2
      refine ⟨a, b, vs, us, rfl, .inl ⟨SqL.of h3, SqL.of h6, q _ (fun W H => (GL X.kx (anyVol [x, y]) a vs ps1 W H ∧ GL X.kx (anyVol [x, y]) b us ps2 W H) ∧ (((∃ p, x.o = .leaf p) → W.Z a) ∧ ((∃ p, y.o = .leaf p) → W.Z b))) (wlk_zipL.and fun W H S W' H' S' z e => ⟨fun hp => e.z _ (z.1 hp), fun hp => e.z _ (z.2 hp)⟩) (fun hl W W' H H' S' g f s' => ?_) ⟨⟨⟨h3, hps, fun hv => isVol_none (anyVol_two hv).1 s h4 h5⟩, ⟨h6, hqs, fun hv => isVol_none (anyVol_two hv).2 s h7 h8⟩⟩, h4, h7⟩⟩⟩
      have k1 := gl_frm g.1.1 (g.2.1 (hl x (by simp))) f s'
      have k2 := gl_frm g.1.2 (g.2.2 (hl y (by simp))) f s'
      exact ⟨⟨k1.1, k2.1⟩, fun _ => k1.2, fun _ => k2.2⟩
    · cases he
theorem inRange_ok {i : Int} (h : inRange i = true) : -(2 ^ 62) ≤ i ∧ i < 2 ^ 62 := by
  unfold inRange at h
  simpa using h
theorem evR_one {a : E} {ρ : Env} {S S' : AS} {rs : List R} (h : evR C [a] ρ S = some (rs, S')) : ∃ r, evE C a ρ S = some (r, S') ∧ rs = [r] := by
  simp only [evR] at h
  split at h
  · rename_i r S1 h1
    unfold guard at h
    cases hv : isVol r with
    | false => rw [hv] at h; simp at h; exact ⟨r, by rw [h1, h.2], h.1.symm⟩
    | true => rw [hv] at h; simp at h; exact ⟨r, by rw [h1, h.2], h.1.symm⟩
  · cases h
theorem o_over {ps : List P} (h : itR .over [r] = some ps) : (∃ ep ks qs, r.o = .dct ep ks qs ∧ r.s = .vol ∧ ps = ks) ∨ r.o.seq = some ps := by
  simp only [itR] at h
  split at h
  · rename_i hr
    split at h
    · rename_i hs
      cases h; exact .inl ⟨_, _, _, hr, hs, rfl⟩
    · cases h
  · exact .inr h
theorem over_conv {H₀ : Hp} (s : Sto X.kx W H S) {v : V} {ps : List P} {R' : L2.It → Hp → Prop} (rv : RV X.kx H₀ W H v r) (he : itR .over [r] = some ps) (q : ItK X.kx .over [r] ps W H R') :
    ∃ a, v = .ref a ∧ (((∃ xs, SqL X.K H a xs ∧ R' (Itl X.K a) H) ∨ ∃ xs, SqT X.K H a xs ∧ R' (Itt X.K a) H) ∨ ∃ ep es, H a = some (DH X.w a ep es) ∧ R' (ItDk X.w a ep es.length) H) := by
  rcases o_over he with ⟨ep, ks, qs, e1, e2, rfl⟩ | e1
  · obtain ⟨a, n, rfl, g, es, h1, rfl⟩ := gd_of rv e1
    refine ⟨a, rfl, .inr ⟨ep, es, h1, ?_⟩⟩
    refine q _ (GD X.kx a ep es.length ps qs) ?_ (fun hl => ?_) g
    · rw [isVol_dct rv e1 e2]
      exact wlk_dk g.len.1
    · obtain ⟨p, hp⟩ := hl r (by simp)
      rw [e1] at hp; cases hp
  · obtain ⟨a, rfl, z⟩ := it_over s rv e1 q
    exact ⟨a, rfl, .inl z⟩
/-- a list, tuple or dict -/
def iAny (K : PySem.W.Frag) (w : World) (tl : TE) : TI := fun σ H R => tl σ H fun x H1 => ∃ a, x = .ref a ∧ (((∃ xs, SqL K H1 a xs ∧ R (Itl K a) H1) ∨ ∃ xs, SqT K H1 a xs ∧ R (Itt K a) H1) ∨ ∃ ep es, H1 a = some (DH w a ep es) ∧ R (ItDk w a ep es.length) H1)
theorem pi_any {X : Cx} {tg l : Expr} {tl : TE} (hl : PE X l tl) : PI X tg l (iAny X.K X.w tl) := by
  refine ⟨fun pins s σ H R I h => thn (hl.run pins s σ H _ I h) fun v s1 ⟨x, H1, I1, r1, a, e, q⟩ => ?_⟩
  subst e
  cases r1
  have one : ∀ b, b ∈ [s1.heap.objs.size] → FpOk X pins H1 b := fun b hb => by
    have e : b = s1.heap.objs.size := by simpa using hb
    rw [e]
    exact I1.fpOk (Nat.le_refl _) (I1.hok.fresh (Nat.le_refl _))
  rcases q with (⟨xs, hq, q⟩ | ⟨xs, hq, q⟩) | ⟨ep, es, hd, q⟩
  · obtain ⟨its, rv, p, hz⟩ := I1.list hq
    exact wpAny_pyIter_list p.isList ⟨s1.heap.objs.size, [s1.heap.objs.size], _, _, H1, rfl, I1.kept (t' := s1.toks) (fun b o e => Heap.get?_push_of_some _ e), turn_list a _, ⟨_, Heap.get?_push_size _ rfl, rfl, rfl⟩, one, q⟩
  · obtain ⟨its, rv, p, hz⟩ := I1.tuple hq
    exact wpAny_pyIter_tuple (show s1.heap.IsTuple a its.toArray from p) ⟨s1.heap.objs.size, [s1.heap.objs.size], _, _, H1, rfl, I1.kept (t' := s1.toks) (fun b o e => Heap.get?_push_of_some _ e), turn_tuple a _, ⟨_, Heap.get?_push_size _ rfl, rfl, rfl⟩, one, q⟩
  · obtain ⟨o, ar, hs, ho, hcd, ha, hsz, hall⟩ := dh_raw I1 hd
    refine iter_keys hs ho hcd ha (pi_one (tk := s1.toks) I1 _ (turn_dk _) ⟨_, Heap.get?_push_size _ rfl, rfl, ?_⟩ q)
    rw [hsz] <;> rfl
theorem pi_over {fr : Bool} (ih : SndE g C k N n) (G : Good g C k N sc X) {tg e : Expr} {a : E} (h : cE g N n sc e = some a) : PI X tg e (TvI fr X.kx C .over [a]) := by
  refine pi_imp (pi_any (ih.pe sc X e a G h)) fun σ H R' q => ?_
  obtain ⟨W, ρ, S, gf, rs0, rs, ps, S', hs, hl, he, hpk, hi, q⟩ := q
  cases fr with
  | false =>
    obtain ⟨r, h1, rfl⟩ := evR_one he
    refine ⟨W, ρ, S, gf, r, S', hs, hl, h1, fun W' H' v e1 s1 rv => ?_⟩
    subst hpk
    exact over_conv s1 (peek_ok s1 rv) hi (q W' H' e1 s1)
  | true =>
    subst hpk
    simp only [evM, evK] at he
    split at he
    · rename_i qs S1 h1
      cases he
      split at h1
      · rename_i r S2 h2
        split at h1
        · rename_i p hp
          cases h1
          refine ⟨W, ρ, S, gf, r, S', hs, hl, h2, fun W' H' v e1 s1 rv => ?_⟩
          obtain ⟨W2, e2, s2, rp, _⟩ := keep_use e1 s1 rv hp
          exact over_conv (H₀ := H) s2 (rv_p rp) hi (q W2 H' e2 s2)
        · cases h1
      · cases h1
    · cases he
def TvM (fr : Bool) (K : KX) (C : Ctx) (es : List E) : TA := fun σ H Q => ∃ (W : Wd) (ρ : Env) (S : AS) (gf : Nat → List Addr) (rs : List R) (S' : AS), Sto K W H S ∧ Slo K W H σ ρ gf ∧ evM C fr es ρ S = some (rs, S') ∧
  ∀ (W' : Wd) (H' : Hp) (vs : List V), Ext W H S W' H' S' → Sto K W' H' S' → Paired (RV K H W' H') vs rs → Q vs H'
theorem rps_paired {K : KX} {W : Wd} {H H₀ : Hp} : ∀ {vs : List V} {ps : List P}, RPs K W H vs ps → Paired (RV K H₀ W H) vs (ps.map R.p)
  | _, _, .nil => .nil
  | _, _, .cons h hs => .cons (rv_p h) (rps_paired hs)
theorem pa_M {fr : Bool} (ih : SndE g C k N n) (G : Good g C k N sc X) {es : List Expr} {ies : List E} (h : cL (cE g N n sc) es = some ies) : PA X es (TvM fr X.kx C ies) := by
  cases fr with
  | false => exact (pa_R ih G h).imp fun σ H Q q => q
  | true =>
    refine (pa_K ih G h).imp fun σ H Q q => ?_
    obtain ⟨W, ρ, S, gf, rs, S', hs, hl, he, q⟩ := q
    simp only [evM] at he
    split at he
    · rename_i ps S1 h1
      cases he
      exact ⟨W, ρ, S, gf, ps, S', hs, hl, h1, fun W' H' vs e1 s1 rp => q W' H' vs e1 s1 (rps_paired rp)⟩
    · cases he
theorem evM_one {fr : Bool} {a : E} {ρ : Env} {S S' : AS} {rs : List R} (h : evM C fr [a] ρ S = some (rs, S')) : ∃ r, rs = [r] := by
  cases fr with
  | false =>
    obtain ⟨r, _, h2⟩ := evR_one h
    exact ⟨r, h2⟩
  | true =>
    simp only [evM, evK] at h
    split at h
    · rename_i qs S1 h1
      cases h
      split at h1
      · split at h1
        · cases h1; exact ⟨_, rfl⟩
        · cases h1
      · cases h1
    · cases h
theorem pk_one {fr : Bool} {rs0 rs : List R} {S : AS} (h : ∃ r, rs0 = [r]) (hp : rs = pk fr S rs0) : ∃ r, rs = [r] := by
  obtain ⟨r, rfl⟩ := h
  cases fr with
  | true => exact ⟨r, hp⟩
  | false => exact ⟨peek S r, hp⟩
theorem base2 {o : Expr} {m : Str} {env : PySem.Env} (h : okBase2 o = true) (w : Sem Value) : attributeBase o m env w = w := by
  cases o <;> first
    | rfl
    | skip
  rename_i f as kws p
  cases as with
  | nil => cases h
  | cons a as => cases f <;> rfl
theorem items_conv {fr : Bool} {b : E} {ρ : Env} {σ : L2.St} {gf : Nat → List Addr} {S' : AS} {rs0 rs : List R} {ps : List P} {R' : L2.It → Hp → Prop} (hs : Sto X.kx W H S) (hl : Slo X.kx W H σ ρ gf) (he : evM C fr [b] ρ S = some (rs0, S')) (hpk : rs = pk fr S' rs0) (hi : itR .items rs = some ps)
    (q : ∀ (W' : Wd) (H' : Hp), Ext W H S W' H' S' → Sto X.kx W' H' S' → ItK X.kx .items rs ps W' H' R') : iDP X.w (TvE X.kx C b) σ H R' := by
  have conv : ∀ {r : R} {W' : Wd} {H' H₀ : Hp} {v : V}, RV X.kx H₀ W' H' v r → rs = [r] → ItK X.kx .items rs ps W' H' R' → ∃ d ep es, v = .ref d ∧ H' d = some (DH X.w d ep es) ∧ R' (ItDp X.w d ep es.length) H' := fun {r W' H' H₀ v} rv e q => by
    subst e
    simp only [itR] at hi
    split at hi
    · rename_i ep ks qs hr
      split at hi
      · rename_i hv
        cases hi
        obtain ⟨a, n, rfl, g, es, h1, rfl⟩ := gd_of rv hr
        refine ⟨a, ep, es, rfl, h1, q _ (GD X.kx a ep es.length ks qs) ?_ (fun hl => ?_) g⟩
        · rw [isVol_dct rv hr hv]
          exact wlk_dp (by rw [zipP_len, g.len.1, g.len.2]; exact Nat.min_self _)
        · obtain ⟨p, hp⟩ := hl r (by simp)
          rw [hr] at hp; cases hp
      · cases hi
    · cases hi
  cases fr with
  | false =>
    obtain ⟨r, h1, rfl⟩ := evR_one he
    exact ⟨W, ρ, S, gf, r, S', hs, hl, h1, fun W' H' v e1 s1 rv => conv (peek_ok s1 rv) hpk (q W' H' e1 s1)⟩
  | true =>
    simp only [evM, evK] at he
    split at he
    · rename_i qs S1 h1
      cases he
      split at h1
      · rename_i r S2 h2
        split at h1
        · rename_i p hp
          cases h1
          refine ⟨W, ρ, S, gf, r, S', hs, hl, h2, fun W' H' v e1 s1 rv => ?_⟩
          obtain ⟨W2, e2, s2, rp, _⟩ := keep_use e1 s1 rv hp
          exact conv (H₀ := H) (rv_p rp) hpk (q W2 H' e2 s2)
        · cases h1
      · cases h1
    · cases he
theorem pi_of {fr : Bool} (ih : SndE g C k N n) (G : Good g C k N sc X) {tg e : Expr} {kk : It} {src : List E} (h : cIt (cE g N n sc) g sc tg e = some (kk, src)) : PI X tg e (TvI fr X.kx C kk src) := by
  have over : ∀ {a : Option E}, (a.map fun a => (It.over, [a])) = some (kk, src) → a = cE g N n sc e → PI X tg e (TvI fr X.kx C kk src) := fun {a} h ha => by
    obtain ⟨b, h1, h2⟩ := Option.map_eq_some_iff.mp h
    cases h2
    exact pi_over ih G (ha ▸ h1)
  unfold cIt at h
  split at h
  · rename_i x p as pos
    split at h
    · rename_i hx
      rw [Bool.and_eq_true] at hx
      have hgl := gl_of G hx.1
      have hm : X.mg x = none := G.fr x (by simpa using hx.2)
      split at h
      · rename_i hxe
        subst hxe
        split at h
        · rename_i a
          obtain ⟨b, h1, h2⟩ := Option.map_eq_some_iff.mp h
          cases h2
          have hcl : cL (cE g N n sc) [a] = some [b] := by simp [cL, h1]
          refine pi_imp (pi_range1 hgl hm (pa_M (fr := fr) ih G hcl) (star_of h1 _ _)) fun σ H R' q => ?_
          obtain ⟨W, ρ, S, gf, rs0, rs, ps, S', hs, hl, he, hpk, hi, q⟩ := q
          refine ⟨W, ρ, S, gf, rs0, S', hs, hl, he, fun W' H' vs e1 s1 pr => ?_⟩
          obtain ⟨r, rfl⟩ := pk_one (fr := fr) (evM_one he) hpk
          obtain ⟨v, rfl, rv⟩ := paired_one (hpk ▸ pk_ok s1 pr)
          simp only [itR] at hi
          split at hi
          · rename_i j hj
            split at hi
            · rename_i hr
              cases hi
              obtain ⟨b1, b2⟩ := inRange_ok hr
              exact ⟨j, by rw [rv_int rv hj], b1, b2, q W' H' e1 s1 _ _ wlk_range (fun _ _ _ _ _ _ _ _ _ => trivial) trivial⟩
            · cases hi
          · cases hi
        · rename_i a b
          split at h
          · rename_i a' b' h1 h2
            cases h
            have hcl : cL (cE g N n sc) [a, b] = some [a', b'] := by simp [cL, h1, h2]
            refine pi_imp (pi_range2 hgl hm (pa_M (fr := fr) ih G hcl) (by rw [star_of h1, star_of h2]; rfl) (star_of h2 _ _)) fun σ H R' q => ?_
            obtain ⟨W, ρ, S, gf, rs0, rs, ps, S', hs, hl, he, hpk, hi, q⟩ := q
            refine ⟨W, ρ, S, gf, rs0, S', hs, hl, he, fun W' H' vs e1 s1 pr => ?_⟩
            replace pr := hpk ▸ pk_ok s1 pr
            clear hpk
            match rs, hi, pr, q with
            | [x, y], hi, pr, q =>
              obtain ⟨v, u, rfl, rv, ru⟩ := paired_two pr
              simp only [itR] at hi
              split at hi
              · rename_i i j hi' hj
                split at hi
                · rename_i hr
                  cases hi
                  rw [Bool.and_eq_true] at hr
                  obtain ⟨b1, b2⟩ := inRange_ok hr.1
                  obtain ⟨b3, b4⟩ := inRange_ok hr.2
                  exact ⟨i, j, by rw [rv_int rv hi', rv_int ru hj], ⟨b1, b2, b3, b4⟩, q W' H' e1 s1 _ _ wlk_range (fun _ _ _ _ _ _ _ _ _ => trivial) trivial⟩
                · cases hi
              · cases hi
          · cases h
        · cases h
      · split at h
        · rename_i hxe
          subst hxe
          split at h
          · rename_i a es j tp
            obtain ⟨b, h1, h2⟩ := Option.map_eq_some_iff.mp h
            cases h2
            have hcl : cL (cE g N n sc) [a] = some [b] := by simp [cL, h1]
            refine pi_imp (pi_enumS hgl hm (pa_M (fr := fr) ih G hcl) (star_of h1 _ _)) fun σ H R' q => ?_
            obtain ⟨W, ρ, S, gf, rs0, rs, ps, S', hs, hl, he, hpk, hi, q⟩ := q
            refine ⟨W, ρ, S, gf, rs0, S', hs, hl, he, fun W' H' vs e1 s1 pr => ?_⟩
            obtain ⟨r, rfl⟩ := pk_one (fr := fr) (evM_one he) hpk
            obtain ⟨v, rfl, rv⟩ := paired_one (hpk ▸ pk_ok s1 pr)
            simp only [itR] at hi
            obtain ⟨qs, h4, rfl⟩ := Option.map_eq_some_iff.mp hi
            exact it_enum s1 rv h4 (q W' H' e1 s1)
          · cases h
        · split at h
          · rename_i hxe
            subst hxe
            split at h
            · rename_i a b es j tp
              split at h
              · rename_i a' b' h1 h2
                cases h
                have hcl : cL (cE g N n sc) [a, b] = some [a', b'] := by simp [cL, h1, h2]
                refine pi_imp (RZ.pi_zipA hgl hm (pa_M (fr := fr) ih G hcl) (star_of h1 _ _) (nostar (show cL (cE g N n sc) [b] = some [b'] by simp [cL, h2]) _ _)) fun σ H R' q => ?_
                obtain ⟨W, ρ, S, gf, rs0, rs, ps, S', hs, hl, he, hpk, hi, q⟩ := q
                refine ⟨W, ρ, S, gf, rs0, S', hs, hl, he, fun W' H' vs e1 s1 pr => ?_⟩
                replace pr := hpk ▸ pk_ok s1 pr
                clear hpk
                match rs, hi, pr, q with
                | [x, y], hi, pr, q =>
                  obtain ⟨v, u, rfl, rv, ru⟩ := paired_two pr
                  exact it_zip s1 rv ru hi (q W' H' e1 s1)
              · cases h
            · cases h
          · exact over h rfl
    · exact over h rfl
  · rename_i o m ap cp
    split at h
    · rename_i hm
      simp only [Bool.and_eq_true, decide_eq_true_eq] at hm
      obtain ⟨⟨rfl, hline⟩, hbs⟩ := hm
      split at h
      · rename_i es j tp
        obtain ⟨b, h1, h2⟩ := Option.map_eq_some_iff.mp h
        cases h2
        refine pi_imp (pi_dp (ih.pe sc X o b G h1) (base2 hbs _) hline) fun σ H R' q => ?_
        obtain ⟨W, ρ, S, gf, rs0, rs, ps, S', hs, hl, he, hpk, hi, q⟩ := q
        exact items_conv hs hl he hpk hi q
      · cases h
    · exact over h rfl
  · split at h
    · exact over h rfl
    · cases h
theorem nil_of {e : Expr} (hs : notSet e = true) : ∀ (env : PySem.Env) (x : PySem.Value), foldedSetIterable e env x = pure x := by
  intro env x
  cases e <;> first
    | rfl
    | (cases hs; done)
end
end U

set_option Elab.async false
set_option linter.all false
set_option maxRecDepth 100000
namespace U
open PySem L2

section
variable {K : KX} {W W' : Wd} {H H' H₁ : Hp} {S S' S0 : AS} {D : Addr} {u : HO}
theorem ext_upd (e : Ext W H₁ S0 W' H' S) (h1 : H₁ D = none) {u' : HO} (h : H' D = some u') : Ext W H₁ S0 W' (upd H' D u) S where
  z := e.z
  keep := fun a o ha hn => by
    obtain ⟨k1, k2, k3⟩ := e.keep a o ha hn
    exact ⟨by rw [upd_ne (ne_of_none ha h1)]; exact k1, k2, k3⟩
  th := e.th
  un := fun a b => by
    obtain ⟨k1, k2, k3, k4⟩ := e.un a b
    exact ⟨k1, k2, k3, fun c o hc => by rw [upd_ne (ne_of_none hc h1)]; exact k4 c o hc⟩
  t := e.t
  tr := fun a o ha => by
    obtain ⟨o', h'⟩ := e.tr a o ha
    exact ⟨o', by rw [upd_ne (ne_of_none ha h1)]; exact h'⟩
theorem frm_upd (s : Sto K W H S) (hz : ¬ W.Z D) : Frm W H W (upd H D u) := ⟨fun a z => ⟨z, fun o ha => by
  have : a ≠ D := fun e => hz (e ▸ z)
  rw [upd_ne this]; exact ha⟩, fun _ _ h => h⟩
theorem sto_upd (s : Sto K W H S) (hz : ¬ W.Z D) (hf : D ∉ W.SF) : Sto K W (upd H D u) S where
  l1 := s.l1
  l2 := s.l2
  at_ := fun k o hk => by
    obtain ⟨b, f, h3, h4, h5⟩ := s.at_ k o hk
    refine ⟨b, f, h3, h4, h5.mono (frm_upd s hz) fun b hb o ho => ?_⟩
    have : b ≠ D := fun e => hf (e ▸ List.mem_flatten.mpr ⟨f, List.mem_of_getElem? h4, hb⟩)
    rw [upd_ne this]; exact ho
  nd := s.nd
  zf := s.zf
  zt := fun b z => by
    obtain ⟨o, ho⟩ := s.zt b z
    have : b ≠ D := fun e => hz (e ▸ z)
    exact ⟨o, by rw [upd_ne this]; exact ho⟩
theorem slo_none {σ : L2.St} {ρ : Env} {gf : Nat → List Addr} (l : Slo K W H σ ρ gf) (i : Nat) : Slo K W H (σ.set i none) (ρ.set i none) gf := by
  have key : ∀ (j : Nat) (r : R), (ρ.set i none)[j]? = some (some r) → ρ[j]? = some (some r) ∧ j ≠ i := fun j r h => by
    by_cases e : i = j
    · subst e
      by_cases hl : i < ρ.length
      · rw [List.getElem?_set_self hl] at h; cases h
      · rw [List.getElem?_eq_none (by simpa using hl)] at h; cases h
    · rw [List.getElem?_set_ne e] at h
      exact ⟨h, Ne.symm e⟩
  exact ⟨by rw [List.length_set, List.length_set]; exact l.len, fun j r h => by
    obtain ⟨h1, h2⟩ := key j r h
    rw [List.getElem?_set_ne (Ne.symm h2)]
    exact l.at_ j r h1, fun j r h => l.sf j r (key j r h).1, fun j r h => l.own j r (key j r h).1, fun j m r r' h h' => l.dj j m r r' (key j r h).1 (key m r' h').1⟩
theorem slo_wipe {σ : L2.St} {ρ : Env} {gf : Nat → List Addr} (l : Slo K W H σ ρ gf) : ∀ vs : List Nat, Slo K W H (wipe σ vs) (wipeE ρ vs) gf
  | [] => l
  | v :: vs => slo_none (slo_wipe l vs) v
theorem wipe_get (σ : L2.St) (i : Nat) : ∀ vs : List Nat, (wipe σ vs)[i]? = if i ∈ vs then (if i < σ.length then some none else none) else σ[i]?
  | [] => by simp [wipe]
  | v :: vs => by
    unfold wipe
    by_cases e : v = i
    · subst e
      rw [if_pos List.mem_cons_self]
      by_cases hl : v < σ.length
      · rw [List.getElem?_set_self (by rw [wipe_length]; exact hl), if_pos hl]
      · rw [List.getElem?_eq_none (by rw [List.length_set, wipe_length]; exact Nat.le_of_not_lt hl), if_neg hl]
    · rw [List.getElem?_set_ne e, wipe_get σ i vs]
      by_cases h : i ∈ vs
      · rw [if_pos h, if_pos (List.mem_cons_of_mem _ h)]
      · rw [if_neg h, if_neg (fun z => (List.mem_cons.mp z).elim (fun z => e z.symm) h)]
theorem wipe_eq {σ σ' : L2.St} {vs : List Nat} (hl : σ'.length = σ.length) (h : ∀ i, i ∉ vs → σ'[i]? = σ[i]?) : wipe σ' vs = wipe σ vs := by
  apply List.ext_getElem?
  intro i
  rw [wipe_get, wipe_get, hl]
  by_cases hi : i ∈ vs
  · rw [if_pos hi, if_pos hi]
  · rw [if_neg hi, if_neg hi, h i hi]
theorem wipe_wipe (σ : L2.St) (vs : List Nat) : wipe (wipe σ vs) vs = wipe σ vs := wipe_eq (wipe_length σ vs) fun i hi => by rw [wipe_get, if_neg hi]
theorem chk_use {α : Type} {v : Bool} {z : Option (α × AS)} {x : α} (h : chk v z = some (x, S)) : z = some (x, S) ∧ (v = true → S.t = false) := by
  unfold chk at h
  split at h
  · rename_i y S1
    split at h
    · cases h
    · rename_i hc
      cases h
      refine ⟨rfl, fun hv => ?_⟩
      subst hv
      simpa using hc
  · cases h
theorem guard_cases {α : Type} {c : Bool} {f : AS → Option (α × AS)} {x : α} (h : guard c f S = some (x, S')) :
    ∃ S0 S0', f S0 = some (x, S0') ∧ S0.os = S.os ∧ (c = true → S0.t = false) ∧ ∀ (W : Wd) (H : Hp) (W' : Wd) (H' : Hp), Ext W H S0 W' H' S0' → Ext W H S W' H' S' ∧ S'.os = S0'.os := by
  obtain ⟨S0, S0', h1, h2, h3⟩ := guard_use h
  unfold guard at h
  cases c with
  | false => exact ⟨S0, S0', h1, h2, fun z => (by cases z), fun W H W' H' e => ⟨(h3 W H W' H' e).1, (h3 W H W' H' e).2.1⟩⟩
  | true =>
    simp only [if_true] at h
    cases hf : f ⟨S.os, false⟩ with
    | none => rw [hf] at h; cases h
    | some y =>
      obtain ⟨y, S1'⟩ := y
      rw [hf] at h
      simp only at h
      cases ht : S1'.t with
      | true => rw [ht] at h; simp at h
      | false =>
        rw [ht] at h
        simp only [Bool.false_eq_true, if_false, Option.some.injEq, Prod.mk.injEq] at h
        obtain ⟨rfl, rfl⟩ := h
        refine ⟨⟨S.os, false⟩, S1', hf, rfl, fun _ => rfl, fun W H W' H' e => ?_⟩
        obtain ⟨h1, h2, h3, h4⟩ := e.un rfl ht
        exact ⟨⟨e.z, e.keep, e.th, fun _ _ => ⟨h1, h2, rfl, h4⟩, fun h => h, e.tr⟩, h3.symm⟩
end
def TvC (K : KX) (C : Ctx) (es : List E) : TT := fun σ H Q => ∃ (W : Wd) (ρ : Env) (S : AS) (gf : Nat → List Addr) (b : Bool) (S' : AS), Sto K W H S ∧ Slo K W H σ ρ gf ∧ evAnd1 C es ρ S = some (b, S') ∧
  ∀ (W' : Wd) (H' : Hp), Ext W H S W' H' S' → Sto K W' H' S' → Q b H'
section
variable {g : Gm} {C : Ctx} {k n : Nat} {N : List Str} {sc : Scope} {X : Cx}
theorem Good.blk (G : Good g C k N sc X) {s : Shared} {H : Hp} {scope : Scope} {C' : Addr} {cl : List (Str × Addr)} {fp : List Addr} : Good g C k N (relS scope sc) (X.blk s H scope (compEnvC scope cl C' X.env) fp) where
  N := G.N
  sc := by rw [← G.sc]; rfl
  nd := G.nd
  calm := G.calm
  room := G.room
  fns := G.fns
  glb := G.glb
  fr := G.fr
theorem own_blk {s : Shared} {H : Hp} {scope : Scope} {C' : Addr} {cl : List (Str × Addr)} {fp : List Addr} : OwnOk (X.blk s H scope (compEnvC scope cl C' X.env) fp) (isLoc scope) := fun x h => by
  unfold isLoc at h
  split at h
  · rename_i hl
    have := lookup_relS_keep (sc := X.env.scope) (fun z => by cases z) hl
    exact ⟨.inl this, .inr this⟩
  · rename_i hl
    have := lookup_relS_keep (sc := X.env.scope) (fun z => by cases z) hl
    refine ⟨.inr this, .inl ?_⟩
    show (scope.names.lookup x == some NameKind.cell) = true
    rw [hl]; rfl
  · cases h
theorem pts_of (ih : SndE g C k N n) (G : Good g C k N sc X) {es : List Expr} {ies : List E} (h : cL (cE g N n sc) es = some ies) (ht : okTs ies = true) (hl : ies.length ≤ 1) : PTs X es (TvC X.kx C ies) := by
  match es, h with
  | [], h =>
    cases h
    refine ⟨fun pins s σ H Q I q => pts_nil.run pins s σ H Q I ?_⟩
    obtain ⟨W, ρ, S, gf, b, S', hs, hl, he, q⟩ := q
    simp only [evAnd1, Option.some.injEq, Prod.mk.injEq] at he
    obtain ⟨rfl, rfl⟩ := he
    exact q _ _ Ext.refl hs
  | [e], h =>
    obtain ⟨x, as, h1, h2, rfl⟩ := cL_cons h
    cases h2
    refine ⟨fun pins s σ H Q I q => (pts_one (ih.pt sc X e x G h1 (by simpa [okTs] using ht))).run pins s σ H Q I ?_⟩
    obtain ⟨W, ρ, S, gf, b, S', hs, hl, he, q⟩ := q
    simp only [evAnd1] at he
    split at he
    · rename_i r S1 h3
      obtain ⟨b', h4, h5⟩ := Option.map_eq_some_iff.mp he
      cases h5
      exact ⟨W, ρ, S, gf, r, b, S', hs, hl, h3, h4, q⟩
    · cases he
  | e :: e2 :: es, h =>
    obtain ⟨x, as, h1, h2, rfl⟩ := cL_cons h
    obtain ⟨y, as, h3, h4, rfl⟩ := cL_cons h2
    simp at hl
theorem subset_ok {xs ys : List Nat} (h : subset xs ys = true) : ∀ i, i ∈ xs → i ∈ ys := fun i hi => by
  have := List.all_eq_true.mp h i hi
  simpa using this
theorem lc_conv {kk : It} {src : List E} {t : Tg} {vs : List Nat} {cs : List E} {x : E} {σ : L2.St} {H : Hp} {Q : VK} (h1 : subset t.slots vs = true) (q : TvE X.kx C (.comp t vs kk src cs x) σ H Q) :
    tLc (TvI false X.kx C kk src) (TvG X.kx t) (TvC X.kx C cs) (TvE X.kx C x) vs σ H Q := by
  obtain ⟨W, ρ, S, gf, r, S', hs, hl, he, q⟩ := q
  simp only [evE] at he
  split at he
  · rename_i rs S1 hrs
    split at he
    · rename_i ps hps
      split at he
      · rename_i qs S2 hqs
        split at he
        · rename_i hz
          cases he
          refine ⟨W, ρ, S, gf, rs, rs.map (peek S1), ps, S1, hs, hl, hrs, rfl, hps, fun W1 H1 e1 s1 J GG wlk _ gg D hD => ?_⟩
          generalize rs.map (peek S1) = rs at hps hqs wlk
          obtain ⟨S0, S0', hf, ho, hv0, hk⟩ := guard_cases hqs
          have s0 : Sto X.kx W1 H1 S0 := s1.os_ ho
          generalize hff : (fun p S => chk (anyVol rs) (match asg t p (wipeE ρ vs) with
            | some ρ' => match evAnd1 C cs ρ' S with
              | some (true, S') => match evE C x ρ' S' with
                | some (r, S2) => r.keep.map fun q => (some q, S2)
                | none => none
              | some (false, S') => some (none, S')
              | none => none
            | none => none) : P → AS → Option (Option P × AS)) = ff at hf
          refine ⟨fun i m Hc => ∃ (Wc : Wd) (Sc : AS) (acc : List V) (dn rest : List P), m = ps.length - i ∧ i ≤ ps.length ∧ Ext W1 H1 S0 Wc Hc Sc ∧ Sto X.kx Wc Hc Sc ∧ Hc D = some (.lst acc) ∧ ¬ Wc.Z D ∧ D ∉ Wc.SF ∧ RPs X.kx Wc Hc acc dn ∧ (anyVol rs = true → Sc.t = false) ∧ compL ff (ps.drop i) Sc = some (rest, S0') ∧ dn ++ rest = qs, ⟨ps.length, W1, S0, [], [], qs, rfl, Nat.zero_le _, ext_new s0 hD, sto_new s0 hD, upd_same, ?_, ?_, .nil, hv0, hf, rfl⟩, ?_⟩
          · intro z
            obtain ⟨o, z⟩ := s1.zt _ z
            rw [hD] at z; cases z
          · intro z
            obtain ⟨o, z⟩ := s1.sft _ z
            rw [hD] at z; cases z
          rintro i m Hc ⟨Wc, Sc, acc, dn, rest, rfl, hil, ec, sC, hDc, hDz, hDf, hacc, hvc, hcl, hdr⟩
          have gc : GG Wc Hc := wlk.stay _ _ _ _ _ _ gg s0 ec fun hv => ⟨hv0 hv, hvc hv⟩
          rcases Nat.lt_or_ge i ps.length with hlt | hge
          · refine .inr ⟨wlk.goes i Wc Hc hlt gc, fun H' => ∃ (Wc : Wd) (Sc : AS) (acc : List V) (dn rest : List P), Ext W1 H1 S0 Wc H' Sc ∧ Sto X.kx Wc H' Sc ∧ H' D = some (.lst acc) ∧ ¬ Wc.Z D ∧ D ∉ Wc.SF ∧ RPs X.kx Wc H' acc dn ∧ (anyVol rs = true → Sc.t = false) ∧ compL ff (ps.drop (i + 1)) Sc = some (rest, S0') ∧ dn ++ rest = qs, fun H' ⟨Wc, Sc, acc, dn, rest, z⟩ => ⟨ps.length - (i + 1), by omega, Wc, Sc, acc, dn, rest, rfl, hlt, z⟩, ?_⟩
            intro xv H2 hy
            obtain ⟨W2, p, hp, e2, s2, rp, k2⟩ := wlk.yields i Wc Hc Sc xv H2 hlt gc sC hy
            have hdrop : ps.drop i = p :: ps.drop (i + 1) := by
              rw [List.drop_eq_getElem_cons hlt]
              rw [List.getElem?_eq_getElem hlt] at hp
              cases hp; rfl
            rw [hdrop] at hcl
            have l2 : Slo X.kx W2 H2 (wipe σ vs) (wipeE ρ vs) gf := slo_wipe (((hl.ext e1 hs).ext ec s0).ext e2 sC) vs
            obtain ⟨D1, D2, D3⟩ := e2.keep D _ hDc hDf
            have D3 : ¬ W2.Z D := fun z => hDz (D3 z)
            simp only [compL] at hcl
            have hstep : ∃ oq S3, ff p Sc = some (oq, S3) := by
              cases hfp : ff p Sc with
              | none => rw [hfp] at hcl; cases hcl
              | some y => exact ⟨y.1, y.2, rfl⟩
            obtain ⟨oq, S3, hfp⟩ := hstep
            rw [hfp] at hcl
            have hfp' := hfp
            rw [← hff] at hfp'
            obtain ⟨hfp', hv3⟩ := chk_use hfp'
            split at hfp'
            · rename_i ρ' hasg
              refine ⟨W2, wipeE ρ vs, Sc, gf, p, ρ', s2, l2, rp, hasg, fun σ2 g2 l3 _ n3 k3 => ⟨?_, ?_⟩⟩
              · rw [← wipe_wipe σ vs]
                refine wipe_eq n3 fun j hj => k3 j fun z => hj (subset_ok h1 j z)
              · -- one turn's end
                have fin : ∀ (W4 : Wd) (H4 : Hp), Ext W2 H2 Sc W4 H4 S3 → Sto X.kx W4 H4 S3 → Ext W1 H1 S0 W4 H4 S3 ∧ H4 D = some (.lst acc) ∧ ¬ W4.Z D ∧ D ∉ W4.SF ∧ RPs X.kx W4 H4 acc dn := fun W4 H4 e4 s4 => by
                  obtain ⟨F1, F2, F3⟩ := e4.keep D _ D1 D2
                  exact ⟨(ec.trans e2).trans e4, F1, fun z => D3 (F3 z), F2, (hacc.mono (e2.frm sC)).mono (e4.frm s2)⟩
                split at hfp'
                · rename_i S4 hc4
                  split at hfp'
                  · rename_i r5 S5 hx5
                    obtain ⟨q6, hk6, h6⟩ := Option.map_eq_some_iff.mp hfp'
                    cases h6
                    simp only at hcl
                    split at hcl
                    · rename_i qs7 S7 hcl7
                      cases hcl
                      refine ⟨W2, ρ', Sc, g2, true, S4, s2, l3, hc4, fun W4 H4 e4 s4 => ?_⟩
                      refine iteT ?_
                      refine ⟨W4, ρ', S4, g2, r5, S3, s4, l3.ext e4 s2, hx5, fun W5 H5 v e5 s5 rv5 => ?_⟩
                      obtain ⟨W6, e6, s6, rp6, f6⟩ := keep_use e5 s5 rv5 hk6
                      obtain ⟨x1, x2, x3, x4, x5⟩ := fin W6 H5 (e4.trans e6) s6
                      have hlen : acc.length + 1 ≤ qs.length := by
                        rw [rps_length x5, ← hdr]
                        simp
                      refine ⟨acc, x2, Nat.lt_of_lt_of_le hlen (sz_ok hz), W6, S3, acc ++ [v], dn ++ [q6], qs7, ext_upd x1 hD x2, sto_upd s6 x3 x4, upd_same, x3, x4, rps_append (x5.mono (frm_upd s6 x3)) (.cons (rp6.mono (frm_upd s6 x3)) .nil), hv3, hcl7, by rw [List.append_assoc]; exact hdr⟩
                    · cases hcl
                  · cases hfp'
                · rename_i S4 hc4
                  cases hfp'
                  simp only at hcl
                  refine ⟨W2, ρ', Sc, g2, false, S3, s2, l3, hc4, fun W4 H4 e4 s4 => ?_⟩
                  refine iteF ?_
                  obtain ⟨x1, x2, x3, x4, x5⟩ := fin W4 H4 e4 s4
                  exact ⟨W4, S3, acc, dn, rest, x1, s4, x2, x3, x4, x5, hv3, hcl, hdr⟩
                · cases hfp'
            · cases hfp'
          · have hi' : i = ps.length := Nat.le_antisymm hil hge
            subst hi'
            rw [List.drop_length] at hcl
            simp only [compL, Option.some.injEq, Prod.mk.injEq] at hcl
            obtain ⟨rfl, rfl⟩ := hcl
            rw [List.append_nil] at hdr
            subst hdr
            obtain ⟨ke, ko⟩ := hk _ _ _ _ ec
            refine .inl ⟨wlk.stops Wc Hc gc, q Wc Hc _ (e1.trans ke) (sC.os_ ko) ⟨[D], .lst hDc (ros_leaf hacc), ⟨List.nodup_cons.mpr ⟨(fun z => nomatch z), List.nodup_nil⟩, fun b hb => ?_⟩⟩⟩
            have eb : b = D := by simpa using hb
            subst eb
            exact ⟨hDz, hDf, e1.back hD⟩
        · cases he
      · cases he
    · cases he
  · cases he
theorem blk_ok (G : Good g C k N sc X) {scope : Scope} (hb : blkC N sc scope (ownOf N scope.names) = true) : BlkOk X.N X.env.scope scope (ownOf N scope.names) := by
  rw [G.N, G.sc]; exact blkOk_by hb
theorem case_comp (ih : SndE g C k N n) (G : Good g C k N sc X) {elt tg iter : Expr} {ifs : List Expr} {scope : Scope} {pos : Pos} {kk : It} {src : List E} {t : Tg} {cs : List E} {x : E} (hb : blkC N sc scope (ownOf N scope.names) = true)
    (hi : cIt (cE g N n sc) g sc tg iter = some (kk, src)) (ht : cTg N (isLoc scope) n tg = some t) (hc : cL (cE g N n (relS scope sc)) ifs = some cs) (hx : cE g N n (relS scope sc) elt = some x)
    (h1 : subset t.slots ((ownOf N scope.names).map (·.2)) = true) (h2 : okTs cs = true) (h3 : cs.length ≤ 1) (hfs : ∀ x, foldedSetIterable iter X.env x = pure x) :
    PE X (.ListComp elt [⟨tg, iter, ifs, 0⟩] scope pos) (TvE X.kx C (.comp t ((ownOf N scope.names).map (·.2)) kk src cs x)) :=
  (pe_lc (wi := TvI false X.kx C kk src) (g := TvG X.kx t) (tt := TvC X.kx C cs) (te := TvE X.kx C x) G.calm G.nd (pi_of ih G hi) (blk_ok G hb) (fun s H C' cl fp => pg_of (X := X.blk s H scope (compEnvC scope cl C' X.env) fp) G.calm G.nd G.N own_blk n ht) (fun s H C' cl fp => pts_of ih G.blk hc h2 h3) (fun s H C' cl fp => ih.pe _ _ _ _ G.blk hx) hfs).imp fun σ H Q q => lc_conv h1 q
end
end U

set_option Elab.async false
set_option linter.all false
set_option maxRecDepth 100000
namespace U
open PySem L2

structure LWk (K : KX) (J : L2.It) (k : It) (j n : Nat) (ep : Option Nat) (a : Addr) : Prop where
  ex : ∀ (W : Wd) (H : Hp) (S : AS) (ps : List P), Sto K W H S → W.th[j]? = some a → itL k S j = some (ep, ps) → ps.length = n → ∃ G : Wd → Hp → Prop, Wlk K J true ps G ∧ G W H
def TvIL (K : KX) (C : Ctx) (k : It) (src : List E) : TI := fun σ H R' => ∃ (W : Wd) (ρ : Env) (S : AS) (gf : Nat → List Addr) (rs : List R) (j : Nat) (ep : Option Nat) (ps : List P) (S' : AS), Sto K W H S ∧ Slo K W H σ ρ gf ∧ evM C true src ρ S = some (rs, S') ∧ refs rs = some j ∧ itL k S' j = some (ep, ps) ∧
  ∀ (W' : Wd) (H' : Hp) (a : Addr) (J : L2.It), Ext W H S W' H' S' → Sto K W' H' S' → W'.th[j]? = some a → LWk K J k j ps.length ep a → R' J H'
theorem evM1 {C : Ctx} {b : E} {ρ : Env} {S S' : AS} {rs : List R} {j : Nat} (h : evM C true [b] ρ S = some (rs, S')) (hj : refs rs = some j) : ∃ r, evE C b ρ S = some (r, S') ∧ r.o = .leaf (.ref j) := by
  simp only [evM, evK] at h
  split at h
  · rename_i qs S1 h1
    cases h
    split at h1
    · rename_i r S2 h2
      split at h1
      · rename_i p hp
        cases h1
        simp only [List.map_cons, List.map_nil, refs] at hj
        have e : p = .ref j := by
          unfold refOf at hj
          split at hj
          · rename_i k hk
            cases hj
            injection hk
          · cases hj
        subst e
        refine ⟨r, h2, ?_⟩
        unfold R.keep at hp
        split at hp
        · rename_i q hq
          cases hp; exact hq
        · split at hp
          · cases hr : r.o with
            | leaf q => rw [hr] at hp; simp only [O.val, Option.some.injEq] at hp; rw [hp]
            | lst os =>
              rw [hr] at hp
              simp only [O.val] at hp
              cases q : O.vals os with
              | none => rw [q] at hp; cases hp
              | some ps => rw [q] at hp; cases hp
            | dct ep ks vs => rw [hr] at hp; simp only [O.val] at hp; cases hp
            | ins c fs => rw [hr] at hp; simp only [O.val] at hp; cases hp
          · cases hp
      · cases h1
    · cases h1
  · cases h
section
variable {K : KX} {W W' : Wd} {H H' H₀ : Hp} {S S' : AS} {v : V} {r : R} {a : Addr} {j n : Nat} {ep : Option Nat}
theorem rv_ref (h : RV K H₀ W H v r) (e : r.o = .leaf (.ref j)) : ∃ a, v = .ref a ∧ W.th[j]? = some a := by
  obtain ⟨fp, ho, _⟩ := h
  rw [e] at ho
  cases ho with
  | leaf h => cases h with
    | ref h => exact ⟨_, rfl, h⟩
/-- the object of the store at j -/
theorem sto_at (s : Sto K W H S) (hj : W.th[j]? = some a) {o : O} (ho : S.os[j]? = some o) : ∃ fp, RO K W H (.ref a) o fp := by
  obtain ⟨b, fp, h1, h2, h3⟩ := s.at_ j o ho
  rw [hj] at h1
  cases h1
  exact ⟨fp, h3⟩
theorem itL_ok {k : It} {ps : List P} (h : itL k S j = some (ep, ps)) (s : Sto K W H S) (hj : W.th[j]? = some a) :
    (ep = none ∧ ∃ vs qs, GL K true a vs qs W H ∧ ((k = .over ∧ ps = qs) ∨ (k = .enum ∧ ps = enumP qs 0))) ∨ (∃ e ks qs, ep = some e ∧ GD K a e ks.length ks qs W H ∧ ((k = .over ∧ ps = ks) ∨ (k = .items ∧ ps = zipP ks qs))) := by
  unfold itL at h
  split at h
  · rename_i ep' ks vs ho
    obtain ⟨fp, hro⟩ := sto_at s hj ho
    cases hro with
    | dct g1 g2 g3 g4 g5 =>
      have hl := rps_length g2
      rw [List.length_map] at hl
      split at h
      · cases h; exact .inr ⟨_, _, vs, rfl, ⟨_, g1, g2, g5, hl⟩, .inl ⟨rfl, rfl⟩⟩
      · cases h; exact .inr ⟨_, ks, vs, rfl, ⟨_, g1, g2, g5, hl⟩, .inr ⟨rfl, rfl⟩⟩
      · cases h
  · rename_i os ho
    obtain ⟨fp, hro⟩ := sto_at s hj ho
    cases hro with
    | lst g1 g2 =>
      split at h
      · rename_i qs hq
        split at h
        · cases h; exact .inl ⟨rfl, _, _, ⟨g1, ros_leafs g2 hq, fun z => by cases z⟩, .inl ⟨rfl, rfl⟩⟩
        · cases h; exact .inl ⟨rfl, _, _, ⟨g1, ros_leafs g2 hq, fun z => by cases z⟩, .inr ⟨rfl, rfl⟩⟩
        · cases h
      · cases h
  · cases h
theorem lwk_list : LWk K (Itl K a) .over j n none a := ⟨fun W H S ps s hj h hn => by
  rcases itL_ok h s hj with ⟨_, vs, qs, g, ⟨_, rfl⟩ | ⟨z, _⟩⟩ | ⟨e, ks, qs, z, _⟩
  · exact ⟨_, wlk_list, g⟩
  · cases z
  · cases z⟩
theorem lwk_enum : LWk K (Ite K a) .enum j n none a := ⟨fun W H S ps s hj h hn => by
  rcases itL_ok h s hj with ⟨_, vs, qs, g, ⟨z, _⟩ | ⟨_, rfl⟩⟩ | ⟨e, ks, qs, z, _⟩
  · cases z
  · exact ⟨_, wlk_enumL, g⟩
  · cases z⟩
theorem lwk_dk {e : Nat} : LWk K (ItDk K.w a e n) .over j n (some e) a := ⟨fun W H S ps s hj h hn => by
  rcases itL_ok h s hj with ⟨z, _⟩ | ⟨e', ks, qs, z, g, ⟨_, rfl⟩ | ⟨z2, _⟩⟩
  · cases z
  · cases z
    rw [hn] at g
    exact ⟨_, wlk_dk hn, g⟩
  · cases z2⟩
theorem lwk_dp {e : Nat} : LWk K (ItDp K.w a e n) .items j n (some e) a := ⟨fun W H S ps s hj h hn => by
  rcases itL_ok h s hj with ⟨z, _⟩ | ⟨e', ks, qs, z, g, ⟨z2, _⟩ | ⟨_, rfl⟩⟩
  · cases z
  · cases z2
  · cases z
    have hl := g.len
    rw [zipP_len, hl.2, Nat.min_self] at hn
    rw [hn] at g
    exact ⟨_, wlk_dp (by rw [zipP_len, g.len.2, hn, Nat.min_self]), g⟩⟩
end
section
variable {g : Gm} {C : Ctx} {k n : Nat} {N : List Str} {sc : Scope} {X : Cx}
theorem live_over (ih : SndE g C k N n) (G : Good g C k N sc X) {tg e : Expr} {a : E} (h : cE g N n sc e = some a) : PI X tg e (TvIL X.kx C .over [a]) := by
  refine pi_imp (pi_any (ih.pe sc X e a G h)) fun σ H R' q => ?_
  obtain ⟨W, ρ, S, gf, rs, j, ep, ps, S', hs, hl, he, hj, hi, q⟩ := q
  obtain ⟨r, h1, h2⟩ := evM1 he hj
  refine ⟨W, ρ, S, gf, r, S', hs, hl, h1, fun W' H' v e1 s1 rv => ?_⟩
  obtain ⟨b, rfl, hb⟩ := rv_ref rv h2
  refine ⟨b, rfl, ?_⟩
  rcases itL_ok hi s1 hb with ⟨rfl, vs, qs, g, ⟨_, rfl⟩ | ⟨z, _⟩⟩ | ⟨e', ks, qs, rfl, g, ⟨_, rfl⟩ | ⟨z, _⟩⟩
  · exact .inl (.inl ⟨vs, SqL.of g.at_, q W' H' b _ e1 s1 hb lwk_list⟩)
  · cases z
  · obtain ⟨es, g1, g2, g3, g4⟩ := g.ex
    exact .inr ⟨e', es, g1, q W' H' b _ e1 s1 hb (g4 ▸ lwk_dk)⟩
  · cases z
theorem live_of (ih : SndE g C k N n) (G : Good g C k N sc X) {tg e : Expr} {kk : It} {src : List E} (h : cIt (cE g N n sc) g sc tg e = some (kk, src)) : PI X tg e (TvIL X.kx C kk src) := by
  have over : ∀ {a : Option E}, (a.map fun a => (It.over, [a])) = some (kk, src) → a = cE g N n sc e → PI X tg e (TvIL X.kx C kk src) := fun {a} h ha => by
    obtain ⟨b, h1, h2⟩ := Option.map_eq_some_iff.mp h
    cases h2
    exact live_over ih G (ha ▸ h1)
  have no : ∀ {kk : It} {src : List E} {w : TI}, PI X tg e w → (kk ≠ .over ∧ kk ≠ .enum ∧ kk ≠ .items) → PI X tg e (TvIL X.kx C kk src) := fun {kk src w} hw hk => pi_imp hw fun σ H R' q => by
    obtain ⟨W, ρ, S, gf, rs, j, ep, ps, S', hs, hl, he, hj, hi, q⟩ := q
    exfalso
    unfold itL at hi
    split at hi
    · split at hi
      · exact hk.1 rfl
      · exact hk.2.2 rfl
      · cases hi
    · split at hi
      · split at hi
        · exact hk.1 rfl
        · exact hk.2.1 rfl
        · cases hi
      · cases hi
    · cases hi
  have h0 := pi_of (fr := true) ih G h
  unfold cIt at h
  split at h
  · rename_i x p as pos
    split at h
    · rename_i hx
      rw [Bool.and_eq_true] at hx
      have hgl := gl_of G hx.1
      have hm : X.mg x = none := G.fr x (by simpa using hx.2)
      split at h
      · split at h
        · obtain ⟨b, h1, h2⟩ := Option.map_eq_some_iff.mp h
          cases h2
          exact no h0 ⟨nofun, nofun, nofun⟩
        · split at h
          · cases h
            exact no h0 ⟨nofun, nofun, nofun⟩
          · cases h
        · cases h
      · split at h
        · rename_i hxe
          subst hxe
          split at h
          · rename_i a es j tp
            obtain ⟨b, h1, h2⟩ := Option.map_eq_some_iff.mp h
            cases h2
            have hcl : cL (cE g N n sc) [a] = some [b] := by simp [cL, h1]
            refine pi_imp (pi_enumS hgl hm (pa_M (fr := true) ih G hcl) (star_of h1 _ _)) fun σ H R' q => ?_
            obtain ⟨W, ρ, S, gf, rs, j, ep, ps, S', hs, hl, he, hj, hi, q⟩ := q
            refine ⟨W, ρ, S, gf, rs, S', hs, hl, he, fun W' H' vs e1 s1 pr => ?_⟩
            obtain ⟨r, rfl⟩ := evM_one he
            obtain ⟨v, rfl, rv⟩ := paired_one pr
            have h2 : r.o = .leaf (.ref j) := by
              simp only [refs] at hj
              unfold refOf at hj
              split at hj
              · rename_i hk; cases hj; exact hk
              · cases hj
            obtain ⟨c, rfl, hc⟩ := rv_ref rv h2
            rcases itL_ok hi s1 hc with ⟨rfl, vs, qs, g, ⟨z, _⟩ | ⟨_, rfl⟩⟩ | ⟨e', ks, qs, rfl, g, ⟨z, _⟩ | ⟨z, _⟩⟩
            · cases z
            · exact ⟨c, vs, rfl, .inl ⟨SqL.of g.at_, q W' H' c _ e1 s1 hc lwk_enum⟩⟩
            · cases z
            · cases z
          · cases h
        · split at h
          · split at h
            · split at h
              · cases h
                exact no h0 ⟨nofun, nofun, nofun⟩
              · cases h
            · cases h
          · exact over h rfl
    · exact over h rfl
  · rename_i o m ap cp
    split at h
    · rename_i hm
      simp only [Bool.and_eq_true, decide_eq_true_eq] at hm
      obtain ⟨⟨rfl, hline⟩, hbs⟩ := hm
      split at h
      · rename_i es j tp
        obtain ⟨b, h1, h2⟩ := Option.map_eq_some_iff.mp h
        cases h2
        refine pi_imp (pi_dp (ih.pe sc X o b G h1) (base2 hbs _) hline) fun σ H R' q => ?_
        obtain ⟨W, ρ, S, gf, rs, j, ep, ps, S', hs, hl, he, hj, hi, q⟩ := q
        obtain ⟨r, h3, h2⟩ := evM1 he hj
        refine ⟨W, ρ, S, gf, r, S', hs, hl, h3, fun W' H' v e1 s1 rv => ?_⟩
        obtain ⟨c, rfl, hc⟩ := rv_ref rv h2
        rcases itL_ok hi s1 hc with ⟨rfl, vs, qs, g, ⟨z, _⟩ | ⟨z, rfl⟩⟩ | ⟨e', ks, qs, rfl, g, ⟨z, _⟩ | ⟨_, rfl⟩⟩
        · cases z
        · cases z
        · cases z
        · obtain ⟨es, g1, g2, g3, g4⟩ := g.ex
          refine ⟨c, e', es, rfl, g1, q W' H' c _ e1 s1 hc ?_⟩
          have hz : (zipP ks qs).length = es.length := by rw [zipP_len, g.len.2, Nat.min_self]; exact g4.symm
          rw [hz]
          exact lwk_dp
      · cases h
    · exact over h rfl
  · split at h
    · exact over h rfl
    · cases h
end
end U

set_option Elab.async false
set_option linter.all false
set_option maxRecDepth 100000
namespace U
open PySem L2

section
variable {K : KX} {W W' W2 : Wd} {H H' H2 H0 : Hp} {S S' S2 : AS} {v : V} {p q : P} {vs : List V} {ps : List P} {o o' : O} {os : List O} {fp : List Addr} {r : R}
theorem ros_set : ∀ {vs : List V} {os : List O} {fp : List Addr} (j : Nat), ROs K W H vs os fp → RP K W H v p → ∃ fp', ROs K W H (vs.set j v) (os.set j (.leaf p)) fp' ∧ fp'.Sublist fp
  | _, _, _, _, .nil, _ => ⟨[], .nil, List.Sublist.refl _⟩
  | _, _, _, 0, .cons (f := f) (fp := fp) h hs, hp => ⟨[] ++ fp, .cons (.leaf hp) hs, List.sublist_append_right f fp⟩
  | _, _, _, j + 1, .cons (f := f) (fp := fp) h hs, hp => by
    obtain ⟨fp', h1, h2⟩ := ros_set j hs hp
    exact ⟨f ++ fp', .cons h h1, (List.Sublist.refl f).append h2⟩
theorem ros_app : ∀ {vs : List V} {os : List O} {fp : List Addr}, ROs K W H vs os fp → RP K W H v p → ROs K W H (vs ++ [v]) (os ++ [.leaf p]) fp
  | _, _, _, .nil, hp => .cons (f := []) (.leaf hp) .nil
  | _, _, _, .cons h hs, hp => .cons h (ros_app hs hp)
theorem flat_set {α : Type} : ∀ {F : List (List α)} {k : Nat} {f f' : List α}, F[k]? = some f → f'.Sublist f → (F.set k f').flatten.Sublist F.flatten
  | [], _, _, _, h, _ => by cases h
  | g :: F, 0, f, f', h, hs => by
    have e : g = f := by simpa using h
    subst e
    exact hs.append (List.Sublist.refl _)
  | g :: F, k + 1, f, f', h, hs => by
    have h : F[k]? = some f := by simpa using h
    exact (List.Sublist.refl g).append (flat_set h hs)
theorem flat_nd {α : Type} : ∀ {F : List (List α)} {f : List α}, F.flatten.Nodup → f ∈ F → f.Nodup
  | g :: F, f, h, hm => by
    rw [List.flatten_cons, List.nodup_append] at h
    rcases List.mem_cons.mp hm with e | hm
    · exact e ▸ h.1
    · exact flat_nd h.2.1 hm
theorem flat_dj {α : Type} : ∀ {F : List (List α)} {j k : Nat} {f f' : List α} {a : α}, F.flatten.Nodup → F[j]? = some f → F[k]? = some f' → a ∈ f → a ∈ f' → j = k
  | [], _, _, _, _, _, _, h, _, _, _ => by cases h
  | g :: F, 0, 0, _, _, _, _, _, _, _, _ => rfl
  | g :: F, 0, k + 1, f, f', a, hn, h1, h2, h3, h4 => by
    have e : g = f := by simpa using h1
    subst e
    have h2 : F[k]? = some f' := by simpa using h2
    rw [List.flatten_cons, List.nodup_append] at hn
    exact absurd rfl (hn.2.2 a h3 a (List.mem_flatten.mpr ⟨f', List.mem_of_getElem? h2, h4⟩))
  | g :: F, j + 1, 0, f, f', a, hn, h1, h2, h3, h4 => by
    have e : g = f' := by simpa using h2
    subst e
    have h1 : F[j]? = some f := by simpa using h1
    rw [List.flatten_cons, List.nodup_append] at hn
    exact absurd rfl (hn.2.2 a h4 a (List.mem_flatten.mpr ⟨f, List.mem_of_getElem? h1, h3⟩))
  | g :: F, j + 1, k + 1, f, f', a, hn, h1, h2, h3, h4 => by
    rw [List.flatten_cons, List.nodup_append] at hn
    have h1 : F[j]? = some f := by simpa using h1
    have h2 : F[k]? = some f' := by simpa using h2
    rw [flat_dj hn.2.1 h1 h2 h3 h4]
/-- the object of the store at j is another one now, at its place -/
theorem chg_ok {j : Nat} {a : Addr} {f f' : List Addr} {u : HO} (s : Sto K W H S) (hj : S.os[j]? = some o) (ha : W.th[j]? = some a) (hF : W.F[j]? = some (a :: f)) (hs : f'.Sublist f)
    (new : ∀ W', Frm W H W' (upd H a u) → (∀ b ∈ f, b ≠ a) → RO K W' (upd H a u) (.ref a) o' (a :: f')) :
    ∃ F', Ext W H S ⟨W.Z, W.th, F'⟩ (upd H a u) ⟨S.os.set j o', true⟩ ∧ Frm W H ⟨W.Z, W.th, F'⟩ (upd H a u) ∧ Sto K ⟨W.Z, W.th, F'⟩ (upd H a u) ⟨S.os.set j o', true⟩ := by
  have hkl : j < W.F.length := (List.getElem?_eq_some_iff.mp hF).1
  have hks : j < S.os.length := (List.getElem?_eq_some_iff.mp hj).1
  have hsub : (W.F.set j (a :: f')).flatten.Sublist W.F.flatten := flat_set hF (List.Sublist.cons_cons a hs)
  have haf : a ∈ W.SF := List.mem_flatten.mpr ⟨_, List.mem_of_getElem? hF, List.mem_cons_self⟩
  have hnz : ¬ W.Z a := s.zf a haf
  have ne : ∀ b, W.Z b → b ≠ a := fun b hz e => hnz (e ▸ hz)
  have fr : Frm W H ⟨W.Z, W.th, W.F.set j (a :: f')⟩ (upd H a u) := ⟨fun b z => ⟨z, fun o hb => by rw [upd_ne (ne b z)]; exact hb⟩, fun _ _ h => h⟩
  have naf : ∀ b ∈ f, b ≠ a := fun b hb e => (List.nodup_cons.mp (flat_nd s.nd (List.mem_of_getElem? hF))).1 (e ▸ hb)
  refine ⟨W.F.set j (a :: f'), ⟨fun _ z => z, fun b o hb hn => ⟨?_, fun z => hn (hsub.subset z), fun z => z⟩, fun _ _ h => h, fun _ z => (by cases z), fun _ => rfl, fun b o hb => ?_⟩, fr, ⟨?_, ?_, fun m q hq => ?_, hsub.nodup s.nd, fun b hb => s.zf b (hsub.subset hb), fun b z => ?_⟩⟩
  · have : b ≠ a := fun e => hn (e ▸ haf)
    rw [upd_ne this]; exact hb
  · by_cases e : b = a
    · subst e; exact ⟨_, upd_same⟩
    · exact ⟨o, by rw [upd_ne e]; exact hb⟩
  · rw [List.length_set]; exact s.l1
  · rw [List.length_set, List.length_set]; exact s.l2
  · by_cases e : j = m
    · subst e
      rw [List.getElem?_set_self hks] at hq
      cases hq
      exact ⟨a, a :: f', ha, List.getElem?_set_self hkl, new _ fr naf⟩
    · rw [List.getElem?_set_ne e] at hq
      obtain ⟨b, g, g1, g2, g3⟩ := s.at_ m q hq
      refine ⟨b, g, g1, by rw [List.getElem?_set_ne e]; exact g2, g3.mono fr fun c hc o ho => ?_⟩
      have : c ≠ a := fun z => e (flat_dj s.nd hF g2 (List.mem_cons_self (a := a) (l := f)) (z ▸ hc))
      rw [upd_ne this]; exact ho
  · obtain ⟨o, ho⟩ := s.zt b z
    exact ⟨o, by rw [upd_ne (ne b z)]; exact ho⟩
/-- a list of the store -/
theorem lst_at {j : Nat} {a : Addr} (s : Sto K W H S) (hj : S.os[j]? = some (.lst os)) (ha : W.th[j]? = some a) : ∃ vs f, H a = some (.lst vs) ∧ ROs K W H vs os f ∧ W.F[j]? = some (a :: f) := by
  obtain ⟨b, g, h1, h2, h3⟩ := s.at_ j _ hj
  rw [ha] at h1
  cases h1
  cases h3 with
  | lst h4 h5 => exact ⟨_, _, h4, h5, h2⟩
theorem lst_chg {j : Nat} {a : Addr} {f f' : List Addr} {us : List V} {os' : List O} (s : Sto K W H S) (hj : S.os[j]? = some (.lst os)) (ha : W.th[j]? = some a) (hF : W.F[j]? = some (a :: f)) (hr : ROs K W H us os' f') (hs : f'.Sublist f) :
    ∃ F', Ext W H S ⟨W.Z, W.th, F'⟩ (upd H a (.lst us)) ⟨S.os.set j (.lst os'), true⟩ ∧ Frm W H ⟨W.Z, W.th, F'⟩ (upd H a (.lst us)) ∧ Sto K ⟨W.Z, W.th, F'⟩ (upd H a (.lst us)) ⟨S.os.set j (.lst os'), true⟩ :=
  chg_ok s hj ha hF hs fun W' fr ne => .lst upd_same (hr.mono fr fun b hb o ho => by rw [upd_ne (ne b (hs.subset hb))]; exact ho)
theorem put_lst {j : Nat} {a : Addr} {i : Int} {n : Nat} (s : Sto K W H S) (hj : S.os[j]? = some (.lst os)) (ha : W.th[j]? = some a) (hp : RP K W H v p) (hn : ixN os.length i = some n) :
    ∃ (vs : List V) (F' : List (List Addr)), H a = some (.lst vs) ∧ ixN vs.length i = some n ∧ Ext W H S ⟨W.Z, W.th, F'⟩ (upd H a (.lst (vs.set n v))) ⟨S.os.set j (.lst (os.set n (.leaf p))), true⟩ ∧ Frm W H ⟨W.Z, W.th, F'⟩ (upd H a (.lst (vs.set n v))) ∧ Sto K ⟨W.Z, W.th, F'⟩ (upd H a (.lst (vs.set n v))) ⟨S.os.set j (.lst (os.set n (.leaf p))), true⟩ := by
  obtain ⟨vs, f, h1, h2, h3⟩ := lst_at s hj ha
  obtain ⟨f', h4, h5⟩ := ros_set n h2 hp
  obtain ⟨F', h6⟩ := lst_chg s hj ha h3 h4 h5
  exact ⟨vs, F', h1, by rw [ros_length h2]; exact hn, h6⟩
theorem app_lst {j : Nat} {a : Addr} (s : Sto K W H S) (hj : S.os[j]? = some (.lst os)) (ha : W.th[j]? = some a) (hp : RP K W H v p) :
    ∃ (vs : List V) (F' : List (List Addr)), H a = some (.lst vs) ∧ vs.length = os.length ∧ Ext W H S ⟨W.Z, W.th, F'⟩ (upd H a (.lst (vs ++ [v]))) ⟨S.os.set j (.lst (os ++ [.leaf p])), true⟩ ∧ Frm W H ⟨W.Z, W.th, F'⟩ (upd H a (.lst (vs ++ [v]))) ∧ Sto K ⟨W.Z, W.th, F'⟩ (upd H a (.lst (vs ++ [v]))) ⟨S.os.set j (.lst (os ++ [.leaf p])), true⟩ := by
  obtain ⟨vs, f, h1, h2, h3⟩ := lst_at s hj ha
  obtain ⟨F', h6⟩ := lst_chg s hj ha h3 (ros_app h2 hp) (List.Sublist.refl _)
  exact ⟨vs, F', h1, ros_length h2, h6⟩
/-- a dict of the store -/
theorem dct_at {j : Nat} {a : Addr} {ep : Nat} {ks qs : List P} (s : Sto K W H S) (hj : S.os[j]? = some (.dct ep ks qs)) (ha : W.th[j]? = some a) :
    ∃ es : List EnV, H a = some (DH K.w a ep es) ∧ RPs K W H (es.map (·.2.1)) ks ∧ P.nks ks = some (es.map (·.1)) ∧ (∀ e ∈ es, e.1.depth ≤ 8) ∧ RPs K W H (es.map (·.2.2)) qs ∧ W.F[j]? = some [a] := by
  obtain ⟨b, g, h1, h2, h3⟩ := s.at_ j _ hj
  rw [ha] at h1
  cases h1
  cases h3 with
  | dct g1 g2 g3 g4 g5 => exact ⟨_, g1, g2, g3, g4, g5, h2⟩
theorem nks_app : ∀ {ks : List P} {xs : List NestedKey} {p : P} {k : NestedKey}, P.nks ks = some xs → p.nk = some k → P.nks (ks ++ [p]) = some (xs ++ [k])
  | [], xs, p, k, h, hp => by
    simp only [P.nks, Option.some.injEq] at h
    subst h
    show P.nks [p] = _
    simp only [P.nks, hp]
    rfl
  | q :: ks, xs, p, k, h, hp => by
    simp only [P.nks] at h
    split at h
    · rename_i a as h1 h2
      cases h
      show P.nks (q :: (ks ++ [p])) = _
      simp only [P.nks, h1, nks_app h2 hp]
      rfl
    · cases h
theorem nks_erase : ∀ {ks : List P} {xs : List NestedKey} (i : Nat), P.nks ks = some xs → P.nks (ks.eraseIdx i) = some (xs.eraseIdx i)
  | [], xs, i, h => by
    simp only [P.nks, Option.some.injEq] at h
    subst h; rfl
  | q :: ks, xs, 0, h => by
    simp only [P.nks] at h
    split at h
    · rename_i a as h1 h2
      cases h; exact h2
    · cases h
  | q :: ks, xs, i + 1, h => by
    simp only [P.nks] at h
    split at h
    · rename_i a as h1 h2
      cases h
      show P.nks (q :: ks.eraseIdx i) = _
      simp only [P.nks, h1, nks_erase i h2]
      rfl
    · cases h
theorem rps_erase : ∀ {vs : List V} {ps : List P} (i : Nat), RPs K W H vs ps → RPs K W H (vs.eraseIdx i) (ps.eraseIdx i)
  | _, _, _, .nil => .nil
  | _, _, 0, .cons _ t => t
  | _, _, i + 1, .cons h t => .cons h (rps_erase i t)
theorem rps_set : ∀ {vs : List V} {ps : List P} (i : Nat), RPs K W H vs ps → RP K W H v p → RPs K W H (vs.set i v) (ps.set i p)
  | _, _, _, .nil, _ => .nil
  | _, _, 0, .cons _ t, h => .cons h t
  | _, _, i + 1, .cons h t, h' => .cons h (rps_set i t h')
theorem map_modify {es : List EnV} {v : V} : ∀ (i : Nat), (es.modify i fun x => (x.1, x.2.1, v)).map (·.2.2) = (es.map (·.2.2)).set i v ∧ (es.modify i fun x => (x.1, x.2.1, v)).map (·.2.1) = es.map (·.2.1) ∧ (es.modify i fun x => (x.1, x.2.1, v)).map (·.1) = es.map (·.1) := by
  induction es with
  | nil => intro i; cases i <;> exact ⟨rfl, rfl, rfl⟩
  | cons e es ih =>
    intro i
    cases i with
    | zero => exact ⟨rfl, rfl, rfl⟩
    | succ i =>
      obtain ⟨h1, h2, h3⟩ := ih i
      rw [List.modify_succ_cons]
      simp only [List.map_cons, h1, h2, h3, List.set_cons_succ, and_self]
theorem modify_mem {es : List EnV} {v : V} {i : Nat} {x : EnV} (h : x ∈ es.modify i fun x => (x.1, x.2.1, v)) : ∃ y ∈ es, y.1 = x.1 := by
  have h1 : x.1 ∈ (es.modify i fun x => (x.1, x.2.1, v)).map (·.1) := List.mem_map_of_mem h
  rw [(map_modify i).2.2] at h1
  obtain ⟨y, hy, e⟩ := List.mem_map.mp h1
  exact ⟨y, hy, e⟩
theorem ro_put {a : Addr} {ep : Nat} {es : List EnV} {ks qs : List P} {k : NestedKey} {y : V} {yk : P} (h1 : H a = some (DH K.w a (putV es k ep) (putE es k y v))) (g2 : RPs K W H (es.map (·.2.1)) ks) (g3 : P.nks ks = some (es.map (·.1))) (g4 : ∀ e ∈ es, e.1.depth ≤ 8) (g5 : RPs K W H (es.map (·.2.2)) qs)
    (hy : RP K W H y yk) (hk : yk.key = some k) (hv : RP K W H v p) : RO K W H (.ref a) (dPut ep ks qs k yk p) [a] := by
  unfold dPut
  rw [ixK_ixE k g3]
  unfold putE putV at h1
  cases hi : ixE es k with
  | some i =>
    rw [hi] at h1
    obtain ⟨m1, m2, m3⟩ := map_modify (es := es) (v := v) i
    refine .dct h1 (by rw [m2]; exact g2) (by rw [m3]; exact g3) (fun e he => ?_) (by rw [m1]; exact rps_set i g5 hv)
    obtain ⟨y', hy', e'⟩ := modify_mem he
    rw [← e']; exact g4 y' hy'
  | none =>
    rw [hi] at h1
    refine .dct h1 (by rw [List.map_append]; exact rps_append g2 (.cons hy .nil)) (by rw [List.map_append]; exact nks_app g3 (key_nk hk).1) (fun e he => ?_) (by rw [List.map_append]; exact rps_append g5 (.cons hv .nil))
    rcases List.mem_append.mp he with he | he
    · exact g4 e he
    · have e' : e = (k, y, v) := by simpa using he
      rw [e']; exact (key_nk hk).2
theorem ro_del {a : Addr} {ep : Nat} {es : List EnV} {ks qs : List P} {k : NestedKey} (h1 : H a = some (DH K.w a (delV es k ep) (delE es k))) (g2 : RPs K W H (es.map (·.2.1)) ks) (g3 : P.nks ks = some (es.map (·.1))) (g4 : ∀ e ∈ es, e.1.depth ≤ 8) (g5 : RPs K W H (es.map (·.2.2)) qs) : RO K W H (.ref a) (dDel ep ks qs k) [a] := by
  unfold dDel
  rw [ixK_ixE k g3]
  unfold delE delV at h1
  cases hi : ixE es k with
  | some i =>
    rw [hi] at h1
    exact .dct h1 (by rw [map_eraseIdx]; exact rps_erase i g2) (by rw [map_eraseIdx]; exact nks_erase i g3) (fun e he => g4 e ((List.eraseIdx_sublist _ _).subset he)) (by rw [map_eraseIdx]; exact rps_erase i g5)
  | none =>
    rw [hi] at h1
    exact .dct h1 g2 g3 g4 g5
theorem put_dct {j : Nat} {a : Addr} {ep : Nat} {ks qs : List P} {k : NestedKey} {y : V} {yk : P} (s : Sto K W H S) (hj : S.os[j]? = some (.dct ep ks qs)) (ha : W.th[j]? = some a) (hy : RP K W H y yk) (hk : yk.key = some k) (hv : RP K W H v p) :
    ∃ (es : List EnV) (F' : List (List Addr)), H a = some (DH K.w a ep es) ∧ DKs K.K H es ∧ es.length = ks.length ∧ (∀ z, dGet ks qs k = some z → ∃ v, valE es k = some v ∧ RP K W H v z) ∧ (dGet ks qs k = none → valE es k = none) ∧ Ext W H S ⟨W.Z, W.th, F'⟩ (upd H a (DH K.w a (putV es k ep) (putE es k y v))) ⟨S.os.set j (dPut ep ks qs k yk p), true⟩ ∧ Frm W H ⟨W.Z, W.th, F'⟩ (upd H a (DH K.w a (putV es k ep) (putE es k y v))) ∧ Sto K ⟨W.Z, W.th, F'⟩ (upd H a (DH K.w a (putV es k ep) (putE es k y v))) ⟨S.os.set j (dPut ep ks qs k yk p), true⟩ := by
  obtain ⟨es, g1, g2, g3, g4, g5, g6⟩ := dct_at s hj ha
  obtain ⟨F', h6⟩ := chg_ok (u := DH K.w a (putV es k ep) (putE es k y v)) (o' := dPut ep ks qs k yk p) (f' := []) s hj ha g6 (List.Sublist.refl _) fun W' fr _ => ro_put upd_same (g2.mono fr) g3 g4 (g5.mono fr) (hy.mono fr) hk (hv.mono fr)
  have hl := rps_length g2
  rw [List.length_map] at hl
  refine ⟨es, F', g1, dks_of g2 g3 g4, hl, fun z hz => ?_, fun hz => ?_, h6⟩
  · rcases dGet_val (k := k) g3 g5 with ⟨z1, _⟩ | ⟨q', v', z1, z2, z3⟩
    · rw [hz] at z1; cases z1
    · rw [hz] at z1; cases z1; exact ⟨v', z2, z3⟩
  · rcases dGet_val (k := k) g3 g5 with ⟨_, z2⟩ | ⟨q', v', z1, z2, z3⟩
    · exact z2
    · rw [hz] at z1; cases z1
theorem del_dct {j : Nat} {a : Addr} {ep : Nat} {ks qs : List P} {k : NestedKey} (s : Sto K W H S) (hj : S.os[j]? = some (.dct ep ks qs)) (ha : W.th[j]? = some a) :
    ∃ (es : List EnV) (F' : List (List Addr)), H a = some (DH K.w a ep es) ∧ DKs K.K H es ∧ (∀ z, dGet ks qs k = some z → ∃ v, valE es k = some v ∧ RP K W H v z) ∧ (dGet ks qs k = none → valE es k = none) ∧ Ext W H S ⟨W.Z, W.th, F'⟩ (upd H a (DH K.w a (delV es k ep) (delE es k))) ⟨S.os.set j (dDel ep ks qs k), true⟩ ∧ Frm W H ⟨W.Z, W.th, F'⟩ (upd H a (DH K.w a (delV es k ep) (delE es k))) ∧ Sto K ⟨W.Z, W.th, F'⟩ (upd H a (DH K.w a (delV es k ep) (delE es k))) ⟨S.os.set j (dDel ep ks qs k), true⟩ := by
  obtain ⟨es, g1, g2, g3, g4, g5, g6⟩ := dct_at s hj ha
  obtain ⟨F', h6⟩ := chg_ok (u := DH K.w a (delV es k ep) (delE es k)) (o' := dDel ep ks qs k) (f' := []) s hj ha g6 (List.Sublist.refl _) fun W' fr _ => ro_del upd_same (g2.mono fr) g3 g4 (g5.mono fr)
  refine ⟨es, F', g1, dks_of g2 g3 g4, fun z hz => ?_, fun hz => ?_, h6⟩
  · rcases dGet_val (k := k) g3 g5 with ⟨z1, _⟩ | ⟨q', v', z1, z2, z3⟩
    · rw [hz] at z1; cases z1
    · rw [hz] at z1; cases z1; exact ⟨v', z2, z3⟩
  · rcases dGet_val (k := k) g3 g5 with ⟨_, z2⟩ | ⟨q', v', z1, z2, z3⟩
    · exact z2
    · rw [hz] at z1; cases z1
end
end U

set_option Elab.async false
set_option linter.all false
set_option maxRecDepth 100000
namespace U
open PySem L2

def tBMD (w : World) (r : V → List V → Hp → VK → Prop) (to : TE) (t : TA) : TE := fun σ H Q => to σ H fun x H1 => (∃ a ep es, x = .ref a ∧ H1 a = some (DH w a ep es)) ∧ t σ H1 fun vs H2 => r x vs H2 Q
section
variable {X : Cx} {o e : Expr} {es : List Expr} {apos cpos : Pos} {name : Str} {id : String} {r : V → List V → Hp → VK → Prop} {to : TE} {t : TA}
theorem pe_bmD (slot : Slot "dict" name id) (hty : typeOf (.builtin id) = pure (.type "method_descriptor")) (hm : MtR X id r) (ho : PE X o to) (ha : PA X (e :: es) t) (hbase : attributeBase o name X.env (eval o X.env) = eval o X.env)
    (hfew : ((backTo cpos (starEach (e :: es) X.env)).all (fun x => !x.1) && (backToKw cpos (keywordEach [] X.env)).all (fun x => x.1.isSome) && decide ((e :: es).length + ([] : List Keyword).length + (if ([] : List Keyword).isEmpty then 0 else 1) < 30)) = true)
    (hline : (apos.endLine == cpos.line) = true) (hs : starEach (e :: es) X.env = (false, eval e X.env) :: starEach es X.env) (hplain : (backTo cpos (starEach es X.env)).any (·.1) = false) :
    PE X (.Call (.Attribute o name apos) (e :: es) [] cpos) (tBMD X.w r to t) := by
  refine ⟨fun pins s σ H Q I h => ?_⟩
  refine wpAny_Call_method_late hbase hfew hline rfl (thn (ho.run pins s σ H _ I h) fun v s1 ⟨x, H1, I1, r1, ⟨a, ep, es', ex, hd⟩, q1⟩ => ?_)
  subst ex
  obtain rfl : v = Value.ref a := r1
  obtain ⟨ob, ar, hs', hob, hcd, har, _⟩ := dh_raw I1 hd
  refine ⟨"dict", id, PySem.F.plainAttrs_dict, slot, hty, ⟨ob, hob, hcd.1⟩, fun b q => by cases q; exact ⟨ob, hob, hcd.2.1⟩, ?_⟩
  have hA := ha.run cpos pins s1 σ H1 _ I1 q1
  rw [hs] at hA ⊢
  refine Calls.callWith_builtin (by show (false || (backTo cpos (starEach es X.env)).any (·.1)) = false; rw [hplain] <;> rfl) (Calls.evalArgs_plain ?_)
  exact thn hA fun us s2 ⟨vs, H2, I2, r2, q2⟩ => hm pins s2 σ H2 (.ref a) vs (.ref a) us Q I2 rfl r2 q2
end
section
variable {g : Gm} {C : Ctx} {k n : Nat} {N : List Str} {sc : Scope} {X : Cx} {a b e : Expr} {as : List Expr} {x y z : E} {ys : List E} {pos ap : Pos} {W : Wd} {H : Hp} {S S' : AS} {r : R}
theorem refD_of {j : Nat} (h : refD S r = some j) : r.o = .leaf (.ref j) ∧ ∃ ep ks qs, S.os[j]? = some (.dct ep ks qs) := by
  unfold refD at h
  split at h
  · rename_i i hi
    split at h
    · rename_i hd
      cases h
      refine ⟨?_, ?_⟩
      · unfold refOf at hi
        split at hi
        · rename_i q hq
          cases hi; exact hq
        · cases hi
      · unfold isD at hd
        split at hd
        · rename_i ho; exact ⟨_, _, _, ho⟩
        · cases hd
    · cases h
  · cases h
theorem refL_of {j : Nat} (h : refL S r = some j) : r.o = .leaf (.ref j) ∧ ∃ os, S.os[j]? = some (.lst os) := by
  unfold refL at h
  split at h
  · rename_i i hi
    split at h
    · rename_i hd
      cases h
      refine ⟨?_, ?_⟩
      · unfold refOf at hi
        split at hi
        · rename_i q hq
          cases hi; exact hq
        · cases hi
      · unfold isL at hd
        split at hd
        · rename_i ho; exact ⟨_, ho⟩
        · cases hd
    · cases h
  · cases h
theorem evK_len : ∀ {es : List E} {ρ : Env} {S S' : AS} {ps : List P}, evK C es ρ S = some (ps, S') → ps.length = es.length
  | [], _, _, _, _, h => by simp only [evK, Option.some.injEq, Prod.mk.injEq] at h; rw [← h.1]; rfl
  | e :: es, ρ, S, S', ps, h => by
    simp only [evK] at h
    split at h
    · split at h
      · split at h
        · rename_i qs S2 h3
          cases h
          rw [List.length_cons, List.length_cons, evK_len h3]
        · cases h
      · cases h
    · cases h
theorem ros_last {K : KX} : ∀ {vs : List V} {os : List O} {fp : List Addr} {p : P}, ROs K W H vs os fp → os.getLast? = some (.leaf p) → ∃ f' u, ROs K W H vs.dropLast os.dropLast f' ∧ f'.Sublist fp ∧ vs[vs.length - 1]? = some u ∧ RP K W H u p
  | _, _, _, _, .nil, h => by cases h
  | _, _, _, p, .cons (v := v) (o := o) (vs := vs) (os := os) (f := f) (fp := fp) h hs, hp => by
    cases hs with
    | nil =>
      simp only [List.getLast?_singleton, Option.some.injEq] at hp
      subst hp
      cases h with
      | leaf h => exact ⟨[], v, .nil, List.nil_sublist _, rfl, h⟩
    | cons h2 hs2 =>
      have hs' := ROs.cons h2 hs2
      rw [List.getLast?_cons_cons] at hp
      obtain ⟨f', u, g1, g2, g3, g4⟩ := ros_last hs' hp
      refine ⟨f ++ f', u, .cons h g1, (List.Sublist.refl f).append g2, ?_, g4⟩
      simpa using g3
/-- a method of a dict -/
theorem bmd_conv {σ : L2.St} {Q : VK} {ρ : Env} {gf : Nat → List Addr} {S1 S2 : AS} {rr : V → List V → Hp → VK → Prop} {K : KX} {rx : R} {j : Nat} {ps : List P} (hs : Sto K W H S) (hl : Slo K W H σ ρ gf) (h1 : evE C x ρ S = some (rx, S1)) (hj : refD S1 rx = some j) (h2 : evK C ys ρ S1 = some (ps, S2))
    (q : ∀ (W2 : Wd) (H2 : Hp) (a : Addr) (vs : List V), Ext W H S W2 H2 S2 → Sto K W2 H2 S2 → W2.th[j]? = some a → RPs K W2 H2 vs ps → rr (.ref a) vs H2 Q) : tBMD K.w rr (TvE K C x) (TvK K C ys) σ H Q := by
  obtain ⟨h3, ep, ks, qs, h4⟩ := refD_of hj
  refine ⟨W, ρ, S, gf, rx, S1, hs, hl, h1, fun W1 H1 v e1 s1 rv => ?_⟩
  obtain ⟨c, rfl, hc⟩ := rv_ref rv h3
  obtain ⟨es, g1, _⟩ := dct_at s1 h4 hc
  refine ⟨⟨c, ep, es, rfl, g1⟩, W1, ρ, S1, gf, ps, S2, s1, hl.ext e1 hs, h2, fun W2 H2 vs e2 s2 rp => q W2 H2 c vs (e1.trans e2) s2 (e2.th _ _ hc) rp⟩
theorem rps_two {K : KX} {vs : List V} {p q : P} (h : RPs K W H vs [p, q]) : ∃ v u, vs = [v, u] ∧ RP K W H v p ∧ RP K W H u q := by
  cases h with
  | cons a b => cases b with
    | cons c d => cases d; exact ⟨_, _, rfl, a, c⟩
theorem rps_one {K : KX} {vs : List V} {p : P} (h : RPs K W H vs [p]) : ∃ v, vs = [v] ∧ RP K W H v p := by
  cases h with
  | cons a b => cases b; exact ⟨_, rfl, a⟩
theorem get_rel {K : KX} {es : List EnV} {ks qs : List P} {kk : NestedKey} {v : V} {p : P} (h1 : P.nks ks = some (es.map (·.1))) (h2 : RPs K W H (es.map (·.2.2)) qs) (h3 : RP K W H v p) : RP K W H ((valE es kk).getD v) ((dGet ks qs kk).getD p) := by
  rcases dGet_val (k := kk) h1 h2 with ⟨z1, z2⟩ | ⟨q', v', z1, z2, z3⟩
  · rw [z1, z2]; exact h3
  · rw [z1, z2]; exact z3
theorem star2 (h : cL (cE g N n sc) (e :: as) = some ys) : starEach (e :: as) X.env = (false, eval e X.env) :: starEach as X.env := by
  obtain ⟨a, bs, h1, h2, rfl⟩ := cL_cons h
  exact star_of h1 _ _
theorem case_dget1 (ih : SndE g C k N n) (G : Good g C k N sc X) (hb : okBase2 a = true) (hline : (ap.endLine == pos.line) = true) (ha : cE g N n sc a = some x) (hb' : cE g N n sc b = some y) : PE X (.Call (.Attribute a ("get" : Str) ap) [b] [] pos) (TvE X.kx C (.dget x [y])) := by
  have hcl : cL (cE g N n sc) [b] = some [y] := by simp [cL, hb']
  refine (pe_bmD PySem.F.slot_dict_get PySem.F.type_dict_get (mt_dget1 (by have := G.room.un; omega)) (ih.pe sc X a x G ha) (pa_K ih G hcl) (base2 hb _) (by rw [star2 hcl]; rfl) hline (star2 hcl) rfl).imp fun σ H Q q => ?_
  obtain ⟨W, ρ, S, gf, r, S', hs, hl, he, q⟩ := q
  simp only [evE] at he
  split at he
  · rename_i rx S1 h1
    split at he
    · rename_i j hj
      split at he
      · rename_i p qs S2 h2
        split at he
        · rename_i ep ks ds kk ho hk
          cases he
          refine bmd_conv hs hl h1 hj h2 fun W2 H2 c vs e2 s2 hc rp => ?_
          have := evK_len h2
          cases qs with
          | cons _ _ => simp at this
          | nil =>
          obtain ⟨v, rfl, rv⟩ := rps_one rp
          obtain ⟨es, g1, g2, g3, g4, g5, _⟩ := dct_at s2 ho hc
          exact ⟨c, ep, es, kk, v, rfl, rfl, g1, dks_of g2 g3 g4, rp_key rv hk, q W2 H2 _ e2 s2 (rv_p (get_rel g3 g5 .non))⟩
        · cases he
      · cases he
    · cases he
  · cases he
theorem case_dget2 (ih : SndE g C k N n) (G : Good g C k N sc X) {c : Expr} (hb : okBase2 a = true) (hline : (ap.endLine == pos.line) = true) (ha : cE g N n sc a = some x) (hcl : cL (cE g N n sc) [b, c] = some [y, z]) : PE X (.Call (.Attribute a ("get" : Str) ap) [b, c] [] pos) (TvE X.kx C (.dget x [y, z])) := by
  obtain ⟨_, _, h8, h9, _⟩ := cL_cons hcl
  refine (pe_bmD PySem.F.slot_dict_get PySem.F.type_dict_get (mt_dget2 (by have := G.room.un; omega)) (ih.pe sc X a x G ha) (pa_K ih G hcl) (base2 hb _) (by rw [star2 hcl, star2 (n := n) (g := g) (N := N) (sc := sc) h9]; rfl) hline (star2 hcl) (nostar h9 _ _)).imp fun σ H Q q => ?_
  obtain ⟨W, ρ, S, gf, r, S', hs, hl, he, q⟩ := q
  simp only [evE] at he
  split at he
  · rename_i rx S1 h1
    split at he
    · rename_i j hj
      split at he
      · rename_i p qs S2 h2
        split at he
        · rename_i ep ks ds kk ho hk
          cases he
          refine bmd_conv hs hl h1 hj h2 fun W2 H2 c vs e2 s2 hc rp => ?_
          have hq : ∃ q, qs = [q] := by
            have := evK_len h2
            cases qs with
            | nil => simp at this
            | cons q0 r => cases r with
              | nil => exact ⟨q0, rfl⟩
              | cons _ _ => simp at this
          obtain ⟨dq, rfl⟩ := hq
          obtain ⟨v, u, rfl, rv, ru⟩ := rps_two rp
          obtain ⟨es, g1, g2, g3, g4, g5, _⟩ := dct_at s2 ho hc
          exact ⟨c, ep, es, kk, v, u, rfl, rfl, g1, dks_of g2 g3 g4, rp_key rv hk, q W2 H2 _ e2 s2 (rv_p (get_rel g3 g5 ru))⟩
        · cases he
      · cases he
    · cases he
  · cases he
theorem case_dpop (ih : SndE g C k N n) (G : Good g C k N sc X) {c : Expr} (hb : okBase2 a = true) (hline : (ap.endLine == pos.line) = true) (ha : cE g N n sc a = some x) (hcl : cL (cE g N n sc) [b, c] = some [y, z]) : PE X (.Call (.Attribute a ("pop" : Str) ap) [b, c] [] pos) (TvE X.kx C (.dpop x [y, z])) := by
  obtain ⟨_, _, h8, h9, _⟩ := cL_cons hcl
  refine (pe_bmD PySem.F.slot_dict_pop PySem.F.type_dict_pop (mt_dpop (by have := G.room.un; omega)) (ih.pe sc X a x G ha) (pa_K ih G hcl) (base2 hb _) (by rw [star2 hcl, star2 (n := n) (g := g) (N := N) (sc := sc) h9]; rfl) hline (star2 hcl) (nostar h9 _ _)).imp fun σ H Q q => ?_
  obtain ⟨W, ρ, S, gf, r, S', hs, hl, he, q⟩ := q
  simp only [evE] at he
  split at he
  · rename_i rx S1 h1
    split at he
    · rename_i j hj
      split at he
      · rename_i i dq S2 h2
        refine bmd_conv hs hl h1 hj h2 fun W2 H2 c vs e2 s2 hc rp => ?_
        obtain ⟨v, u, rfl, rv, ru⟩ := rps_two rp
        cases rv
        unfold dPopR at he
        split at he
        · rename_i ep ks ds ho
          obtain ⟨es, F', g1, g2, g3, g4, g5, g6, g7⟩ := del_dct (k := .num i) s2 ho hc
          refine ⟨c, ep, es, i, u, rfl, rfl, g1, g2, fun v' hv' => ?_, fun hn => ?_⟩
          · cases hd : dGet ks ds (.num i) with
            | none => rw [g4 hd] at hv'; cases hv'
            | some p =>
              rw [hd] at he
              cases he
              obtain ⟨v2, h3, h4⟩ := g3 p hd
              rw [h3] at hv'
              cases hv'
              exact q _ _ _ (e2.trans g5) g7 (rv_p (h4.mono g6))
          · cases hd : dGet ks ds (.num i) with
            | none =>
              rw [hd] at he
              cases he
              exact q _ _ _ e2 s2 (rv_p ru)
            | some p =>
              obtain ⟨v2, h3, h4⟩ := g3 p hd
              rw [h3] at hn; cases hn
        · cases he
      · cases he
    · cases he
  · cases he
theorem case_ddef (ih : SndE g C k N n) (G : Good g C k N sc X) {c : Expr} (hb : okBase2 a = true) (hline : (ap.endLine == pos.line) = true) (ha : cE g N n sc a = some x) (hcl : cL (cE g N n sc) [b, c] = some [y, z]) : PE X (.Call (.Attribute a ("setdefault" : Str) ap) [b, c] [] pos) (TvE X.kx C (.ddef x [y, z])) := by
  obtain ⟨_, _, h8, h9, _⟩ := cL_cons hcl
  refine (pe_bmD PySem.F.slot_dict_setdefault PySem.F.type_dict_setdefault (mt_ddef (by have := G.room.un; omega)) (ih.pe sc X a x G ha) (pa_K ih G hcl) (base2 hb _) (by rw [star2 hcl, star2 (n := n) (g := g) (N := N) (sc := sc) h9]; rfl) hline (star2 hcl) (nostar h9 _ _)).imp fun σ H Q q => ?_
  obtain ⟨W, ρ, S, gf, r, S', hs, hl, he, q⟩ := q
  simp only [evE] at he
  split at he
  · rename_i rx S1 h1
    split at he
    · rename_i j hj
      split at he
      · rename_i i dq S2 h2
        refine bmd_conv hs hl h1 hj h2 fun W2 H2 c vs e2 s2 hc rp => ?_
        obtain ⟨v, u, rfl, rv, ru⟩ := rps_two rp
        cases rv
        unfold dDefR at he
        split at he
        · rename_i ep ks ds ho
          split at he
          · rename_i hz
            obtain ⟨es, F', g1, g2, gl, g3, g4, g5, g6, g7⟩ := put_dct (k := .num i) s2 ho hc (.int i) (by simp [P.key, P.nk, NestedKey.depth]) ru
            refine ⟨c, ep, es, i, u, rfl, rfl, g1, g2, by rw [gl, sizeLine_eq]; exact hz, fun v' hv' => ?_, fun hn => ?_⟩
            · cases hd : dGet ks ds (.num i) with
              | none => rw [g4 hd] at hv'; cases hv'
              | some p =>
                rw [hd] at he
                cases he
                obtain ⟨v2, h3, h4⟩ := g3 p hd
                rw [h3] at hv'
                cases hv'
                exact q _ _ _ e2 s2 (rv_p h4)
            · cases hd : dGet ks ds (.num i) with
              | none =>
                rw [hd] at he
                cases he
                exact q _ _ _ (e2.trans g5) g7 (rv_p (ru.mono g6))
              | some p =>
                obtain ⟨v2, h3, h4⟩ := g3 p hd
                rw [h3] at hn; cases hn
          · cases he
        · cases he
      · cases he
    · cases he
  · cases he
/-- a.pop(), a.pop(0) -/
theorem lpop_last (ih : SndE g C k N n) (G : Good g C k N sc X) (hb : okBase2 a = true) (hline : (ap.endLine == pos.line) = true) (ha : cE g N n sc a = some x) : PE X (.Call (.Attribute a ("pop" : Str) ap) [] [] pos) (TvE X.kx C (.lpop x false)) := by
  refine (pe_bm0 PySem.F.plainAttrs_list PySem.F.slot_list_pop PySem.F.type_list_pop mt_pop (ih.pe sc X a x G ha) (base2 hb _) hline).imp fun σ H Q q => ?_
  obtain ⟨W, ρ, S, gf, r, S', hs, hl, he, q⟩ := q
  simp only [evE] at he
  split at he
  · rename_i rx S1 h1
    split at he
    · rename_i j hj
      obtain ⟨h3, os, ho⟩ := refL_of hj
      refine ⟨W, ρ, S, gf, rx, S1, hs, hl, h1, fun W1 H1 v e1 s1 rv => ?_⟩
      obtain ⟨c, rfl, hc⟩ := rv_ref rv h3
      unfold lPopR at he
      rw [ho] at he
      simp only [Bool.false_eq_true, if_false] at he
      split at he
      · rename_i p hp
        cases he
        obtain ⟨vs, f, g1, g2, g3⟩ := lst_at s1 ho hc
        obtain ⟨f', u, g4, g5, g6, g7⟩ := ros_last g2 hp
        obtain ⟨F', k1, k2, k3⟩ := lst_chg s1 ho hc g3 g4 g5
        exact ⟨.inl ⟨rfl, vs, SqL.of g1⟩, c, vs, u, rfl, rfl, g1, g6, q _ _ _ (e1.trans k1) k3 (rv_p (g7.mono k2))⟩
      · cases he
    · cases he
  · cases he
/-
theorem lpop_first (ih : SndE g C k N n) (G : Good g C k N sc X) {kk : Nat} {p1 : Pos} (hb : okBase2 a = true) (hline : (ap.endLine == pos.line) = true) (ha : cE g N n sc a = some x) : PE X (.Call (.Attribute a ("pop" : Str) ap) [.Constant (.int 0) KK p1] [] pos) (TvE X.kx C (.lpop x true)) := by
-/
structure DRel (K : KX) (W : Wd) (H : Hp) (es : List EnV) (ks qs : List P) : Prop where
  k : RPs K W H (es.map (·.2.1)) ks
  n : P.nks ks = some (es.map (·.1))
  d : ∀ e ∈ es, e.1.depth ≤ 8
  v : RPs K W H (es.map (·.2.2)) qs
theorem DRel.put {K : KX} {es : List EnV} {ks qs : List P} {k : NestedKey} {y v : V} {yk p : P} (r : DRel K W H es ks qs) (ep : Nat) (hy : RP K W H y yk) (hk : yk.key = some k) (hv : RP K W H v p) :
    ∃ ks' qs', dPut ep ks qs k yk p = .dct (putV es k ep) ks' qs' ∧ DRel K W H (putE es k y v) ks' qs' := by
  unfold dPut
  rw [ixK_ixE k r.n]
  unfold putE putV
  cases hi : ixE es k with
  | some i =>
    obtain ⟨m1, m2, m3⟩ := map_modify (es := es) (v := v) i
    refine ⟨ks, qs.set i p, rfl, by rw [m2]; exact r.k, by rw [m3]; exact r.n, fun e he => ?_, by rw [m1]; exact rps_set i r.v hv⟩
    obtain ⟨y', hy', e'⟩ := modify_mem he
    rw [← e']; exact r.d y' hy'
  | none =>
    refine ⟨ks ++ [yk], qs ++ [p], rfl, by rw [List.map_append]; exact rps_append r.k (.cons hy .nil), by rw [List.map_append]; exact nks_app r.n (key_nk hk).1, fun e he => ?_, by rw [List.map_append]; exact rps_append r.v (.cons hv .nil)⟩
    rcases List.mem_append.mp he with he | he
    · exact r.d e he
    · have e' : e = (k, y, v) := by simpa using he
      rw [e']; exact (key_nk hk).2
def pairUp : List V → List (V × V)
  | x :: y :: r => (x, y) :: pairUp r
  | _ => []
theorem mk_rel {K : KX} : ∀ (ps : List P) {us : List V} {es : List EnV} {ks qs : List P} {ep : Nat} {o : O}, RPs K W H us ps → DRel K W H es ks qs → dMk ps (.dct ep ks qs) = some o →
    ∃ (pe : List EnV) (ks' qs' : List P), pairUp us = pe.map (fun e => (e.2.1, e.2.2)) ∧ DKs K.K H pe ∧ o = .dct (mrgE pe es ep).2 ks' qs' ∧ DRel K W H (mrgE pe es ep).1 ks' qs'
  | [], _, es, ks, qs, ep, o, hu, r, h => by
    cases hu
    simp only [dMk, Option.some.injEq] at h
    exact ⟨[], ks, qs, rfl, (fun e he => by cases he), h.symm, r⟩
  | [p], _, es, ks, qs, ep, o, hu, r, h => by simp only [dMk] at h; cases h
  | p :: q :: ps, _, es, ks, qs, ep, o, hu, r, h => by
    cases hu with
    | cons hx hu => cases hu with
      | cons hy hu =>
        simp only [dMk] at h
        split at h
        · rename_i k hk
          obtain ⟨ks1, qs1, h1, r1⟩ := r.put ep hx hk hy
          rw [h1] at h
          obtain ⟨pe, ks', qs', g1, g2, g3, g4⟩ := mk_rel ps hu r1 h
          refine ⟨(k, _, _) :: pe, ks', qs', by simp only [pairUp, List.map_cons, g1], fun e he => ?_, g3, g4⟩
          rcases List.mem_cons.mp he with rfl | he
          · exact ⟨hx.nk_ (key_nk hk).1, (key_nk hk).2⟩
          · exact g2 e he
        · cases h
theorem pps_of (ih : SndE g C k N n) (G : Good g C k N sc X) : ∀ {ks : List (Option Expr)} {vs : List Expr} {kvs : List E}, flatD (cE g N n sc) ks vs = some kvs → ks.all (·.isSome) = true ∧ ks.length = vs.length ∧ ∃ trs, PPs X pos ks vs trs ∧
    ∀ (σ : L2.St) (H : Hp) (Qp : List (V × V) → Hp → Prop) (W : Wd) (ρ : Env) (S : AS) (gf : Nat → List Addr) (ps : List P) (S' : AS), Sto X.kx W H S → Slo X.kx W H σ ρ gf → evK C kvs ρ S = some (ps, S') →
      (∀ (W' : Wd) (H' : Hp) (us : List V), Ext W H S W' H' S' → Sto X.kx W' H' S' → RPs X.kx W' H' us ps → Qp (pairUp us) H') → tPairs trs σ H Qp
  | [], [], kvs, h => by
    simp only [flatD, Option.some.injEq] at h
    subst h
    refine ⟨rfl, rfl, [], pps_nil, fun σ H Qp W ρ S gf ps S' hs hl he q => ?_⟩
    simp only [evK, Option.some.injEq, Prod.mk.injEq] at he
    obtain ⟨rfl, rfl⟩ := he
    exact q W H [] Ext.refl hs .nil
  | some e1 :: ks, e2 :: vs, kvs, h => by
    simp only [flatD] at h
    split at h
    · rename_i a b r h1 h2 h3
      cases h
      obtain ⟨i1, i2, trs, i3, i4⟩ := pps_of ih G h3
      refine ⟨by simp [i1], by simp [i2], _, pps_cons (ih.pe sc X e1 a G h1) (ih.pe sc X e2 b G h2) i3, fun σ H Qp W ρ S gf ps S' hs hl he q => ?_⟩
      simp only [evK] at he
      split at he
      · rename_i r1 S1 h4
        split at he
        · rename_i p1 h5
          split at he
          · rename_i qs1 S4 h6
            cases he
            split at h6
            · rename_i r2 S2 h7
              split at h6
              · rename_i p2 h8
                split at h6
                · rename_i qs2 S3 h9
                  cases h6
                  refine ⟨W, ρ, S, gf, r1, S1, hs, hl, h4, fun W1 H1 v1 x1 s1 rv1 => ?_⟩
                  obtain ⟨W1', x1', s1', rp1, _⟩ := keep_use x1 s1 rv1 h5
                  have l1 := hl.ext x1' hs
                  refine ⟨W1', ρ, S1, gf, r2, S2, s1', l1, h7, fun W2 H2 v2 x2 s2 rv2 => ?_⟩
                  obtain ⟨W2', x2', s2', rp2, _⟩ := keep_use x2 s2 rv2 h8
                  refine i4 σ H2 _ W2' ρ S2 gf qs2 _ s2' (l1.ext x2' s1') h9 fun W3 H3 us x3 s3 rps => ?_
                  exact q W3 H3 (v1 :: v2 :: us) ((x1'.trans x2').trans x3) s3 (.cons ((rp1.mono (x2'.frm s1')).mono (x3.frm s2')) (.cons (rp2.mono (x3.frm s2')) rps))
                · cases h6
              · cases h6
            · cases h6
          · cases he
        · cases he
      · cases he
    · cases h
  | none :: ks, vs, _, h => by cases vs <;> (simp only [flatD] at h; cases h)
  | some _ :: ks, [], _, h => by simp only [flatD] at h; cases h
  | [], _ :: _, _, h => by simp only [flatD] at h; cases h
/-- a new object in the store -/
theorem sto_push {K : KX} {o : O} {a : Addr} {fp : List Addr} (s : Sto K W H S) (hr : ∀ W', Frm W H W' H → RO K W' H (.ref a) o fp) (hn : fp.Nodup) (hf : ∀ b ∈ fp, ¬ W.Z b ∧ b ∉ W.SF) :
    Sto K ⟨W.Z, W.th ++ [a], W.F ++ [fp]⟩ H ⟨S.os ++ [o], true⟩ ∧ Frm W H ⟨W.Z, W.th ++ [a], W.F ++ [fp]⟩ H ∧ ∀ (W0 : Wd) (H0 : Hp) (S0 : AS), Ext W0 H0 S0 W H S → (∀ b ∈ fp, H0 b = none) → Ext W0 H0 S0 ⟨W.Z, W.th ++ [a], W.F ++ [fp]⟩ H ⟨S.os ++ [o], true⟩ := by
  have fr : Frm W H ⟨W.Z, W.th ++ [a], W.F ++ [fp]⟩ H := ⟨fun _ z => ⟨z, fun _ h => h⟩, fun j b hb => by
    rw [List.getElem?_append_left (List.getElem?_eq_some_iff.mp hb).1]; exact hb⟩
  have hsf : (Wd.SF ⟨W.Z, W.th ++ [a], W.F ++ [fp]⟩) = W.SF ++ fp := by simp [Wd.SF]
  refine ⟨⟨by simp [s.l1], by simp [s.l2], fun j q hj => ?_, ?_, fun b hb => ?_, s.zt⟩, fr, fun W0 H0 S0 e h0 => ⟨e.z, fun b o hb hnb => ?_, fun j b hb => fr.th j b (e.th j b hb), fun _ z => (by cases z), fun _ => rfl, e.tr⟩⟩
  · rcases Nat.lt_or_ge j S.os.length with hl | hl
    · rw [List.getElem?_append_left hl] at hj
      obtain ⟨b, f, h1, h2, h3⟩ := s.at_ j q hj
      exact ⟨b, f, by rw [List.getElem?_append_left (by rw [s.l1]; exact hl)]; exact h1, by rw [List.getElem?_append_left (by rw [s.l2]; exact hl)]; exact h2, h3.mono fr fun _ _ _ h => h⟩
    · have e : j = S.os.length := by
        have := (List.getElem?_eq_some_iff.mp hj).1
        simp at this; omega
      subst e
      rw [List.getElem?_append_right (Nat.le_refl _), Nat.sub_self] at hj
      cases hj
      exact ⟨a, fp, by rw [← s.l1, List.getElem?_append_right (Nat.le_refl _), Nat.sub_self]; rfl, by rw [← s.l2, List.getElem?_append_right (Nat.le_refl _), Nat.sub_self]; rfl, hr _ fr⟩
  · rw [hsf, List.nodup_append]
    exact ⟨s.nd, hn, fun b hb c hc e => (hf c hc).2 (e ▸ hb)⟩
  · rw [hsf, List.mem_append] at hb
    exact hb.elim (s.zf b) fun h => (hf b h).1
  · obtain ⟨k1, k2, k3⟩ := e.keep b o hb hnb
    refine ⟨k1, ?_, k3⟩
    rw [hsf, List.mem_append, not_or]
    refine ⟨k2, fun z => ?_⟩
    have := h0 b z
    rw [hb] at this; cases this
theorem case_newD (ih : SndE g C k N n) (G : Good g C k N sc X) {ks : List (Option Expr)} {vs : List Expr} {kvs : List E} (h15 : ks.length ≤ 15) (h : flatD (cE g N n sc) ks vs = some kvs) : PE X (.Dict ks vs pos) (TvE X.kx C (.newD kvs)) := by
  obtain ⟨i1, i2, trs, i3, i4⟩ := pps_of (pos := pos) ih G h
  have fin : ∀ {W1 : Wd} {H1 : Hp} {S1 : AS} {p : Addr} {ep : Nat} {es : List EnV} {ks qs : List P} {W0 : Wd} {H0 : Hp} {S0 : AS} {Q : VK}, Sto X.kx W1 H1 S1 → H1 p = some (DH X.w p ep es) → DRel X.kx W1 H1 es ks qs → ¬ W1.Z p ∧ p ∉ W1.SF → Ext W0 H0 S0 W1 H1 S1 → H0 p = none →
      (∀ (W' : Wd) (H' : Hp) (v : V), Ext W0 H0 S0 W' H' ⟨S1.os ++ [.dct ep ks qs], true⟩ → Sto X.kx W' H' ⟨S1.os ++ [.dct ep ks qs], true⟩ → RV X.kx H0 W' H' v (R.p (.ref S1.os.length)) → Q v H') → Q (.ref p) H1 := fun {W1 H1 S1 p ep es ks qs W0 H0 S0 Q} s1 hp r hz e0 h0 q => by
    obtain ⟨g1, g2, g3⟩ := sto_push (fp := [p]) (o := .dct ep ks qs) (a := p) s1 (fun W' fr => .dct hp (r.k.mono fr) r.n r.d (r.v.mono fr)) (List.nodup_cons.mpr ⟨(fun z => nomatch z), List.nodup_nil⟩) (fun b hb => by
      have e : b = p := by simpa using hb
      subst e; exact hz)
    refine q _ _ _ (g3 _ _ _ e0 fun b hb => by
      have e : b = p := by simpa using hb
      subst e; exact h0) g1 (rv_p (.ref ?_))
    show (W1.th ++ [p])[S1.os.length]? = some p
    rw [← s1.l1, List.getElem?_append_right (Nat.le_refl _), Nat.sub_self]; rfl
  have nz : ∀ {W : Wd} {H : Hp} {S : AS} {p : Addr}, Sto X.kx W H S → H p = none → ¬ W.Z p ∧ p ∉ W.SF := fun {W H S p} s hp => by
    refine ⟨fun z => ?_, fun z => ?_⟩
    · obtain ⟨o, ho⟩ := s.zt _ z
      rw [hp] at ho; cases ho
    · obtain ⟨o, ho⟩ := s.sft _ z
      rw [hp] at ho; cases ho
  by_cases hk : ks = []
  · subst hk
    have hv : vs = [] := by
      have : vs.length = 0 := by rw [← i2]; rfl
      exact List.length_eq_zero_iff.mp this
    subst hv
    simp only [flatD, Option.some.injEq] at h
    subst h
    refine pe_dnewE.imp fun σ H Q q => ?_
    obtain ⟨W, ρ, S, gf, r, S', hs, hl, he, q⟩ := q
    simp only [evE, evK, dMk, Option.map_some, Option.some.injEq, Prod.mk.injEq] at he
    obtain ⟨rfl, rfl⟩ := he
    intro p hp
    obtain ⟨z1, z2⟩ := nz hs hp
    exact fin (sto_new hs hp) upd_same ⟨.nil, rfl, (fun e he => by cases he), .nil⟩ ⟨z1, z2⟩ (ext_new hs hp) hp q
  · refine (pe_dispE (by have := G.room.un; omega) i3 i1 i2 hk h15).imp fun σ H Q q => ?_
    obtain ⟨W, ρ, S, gf, r, S', hs, hl, he, q⟩ := q
    simp only [evE] at he
    split at he
    · rename_i ps S1 h1
      obtain ⟨o, h2, h3⟩ := Option.map_eq_some_iff.mp he
      cases h3
      intro p hp
      obtain ⟨z1, z2⟩ := nz hs hp
      refine i4 σ _ _ W ρ S gf ps S1 (sto_new hs hp) (hl.ext (ext_new hs hp) hs) h1 fun W1 H1 us e1 s1 rp => ?_
      obtain ⟨y1, y2, y3⟩ := e1.keep p _ upd_same z2
      obtain ⟨pe, ks', qs', g1, g2, g3, g4⟩ := mk_rel ps (es := []) (ks := []) (qs := []) rp ⟨.nil, rfl, (fun e he => by cases he), .nil⟩ h2
      refine ⟨y1, pe, g1, g2, ?_⟩
      subst g3
      have nz1 : ¬ W1.Z p := fun z => z1 (y3 z)
      have fu : Frm W1 H1 W1 (upd H1 p (DH X.w p (mrgE pe [] 0).2 (mrgE pe [] 0).1)) := frm_upd s1 nz1
      exact fin (sto_upd s1 nz1 y2) upd_same ⟨g4.k.mono fu, g4.n, g4.d, g4.v.mono fu⟩ ⟨nz1, y2⟩ (ext_upd ((ext_new hs hp).trans e1) hp y1) hp q
    · cases he
end
end U

set_option Elab.async false
set_option linter.all false
set_option maxRecDepth 100000
namespace U
open PySem L2

def tDZ (K : PySem.W.Frag) (ta : TA) : TE := fun σ H Q => ta σ H fun xs H1 => ∃ (l t : Addr) (zs : List Str) (us : List V), xs = [.ref l, .ref t] ∧ SqL K H1 l (zs.map V.str) ∧ SqT K H1 t us ∧ us.length = zs.length ∧
  ∀ p, H1 p = none → Q (.ref p) (upd H1 p (.dK (mergeK [] ((zs.map Sum.inr).zip us))))
theorem apart_of (n l t : Nat) (hl : l < n) (ht : t < n) : ZipApart (n + 4) (n + 2) (n + 3) n (n + 1) l t := by
  constructor <;> first
    | exact Nat.ne_of_lt (by omega)
    | exact Nat.ne_of_gt (by omega)
theorem zip_kv : ∀ (zs : List Str) {us : List V} {its : List Value}, Vals us its → us.length = zs.length → KV ((zs.map Sum.inr).zip us : List (L2.Key × V)) ((zs.map Sum.inr).zip its)
  | [], _, _, _, _ => .nil
  | z :: zs, _, _, .nil, h => by simp at h
  | z :: zs, _, _, .cons r t, h => .cons ⟨rfl, r⟩ (zip_kv zs t (by simpa using h))
theorem strs_rel : ∀ {zs : List Str} {its : List Value}, Vals (zs.map V.str) its → ∀ {i : Nat} {u : Value}, its[i]? = some u → ∃ z, zs[i]? = some z ∧ ∃ t, u = .str z t
  | [], _, h, i, u, e => by cases h; simp at e
  | z :: zs, _, h, i, u, e => by
    rw [List.map_cons] at h
    cases h with
    | cons r t =>
      cases i with
      | zero =>
        obtain ⟨t', rfl⟩ := r
        cases e
        exact ⟨z, rfl, t', rfl⟩
      | succ i => exact strs_rel t (by simpa using e)
section
variable {X : Cx}
theorem pe_dz (hc : X.calm = true) {a b : Expr} {p1 p2 p3 p4 : Pos} {ta : TA} (hd : Gl X ("dict" : Str)) (hdm : X.mg ("dict" : Str) = none) (hz : Gl X ("zip" : Str)) (hzm : X.mg ("zip" : Str) = none) (ha : PA X [a, b] ta) (hs : starEach [a, b] X.env = (false, eval a X.env) :: starEach [b] X.env) (hpl : (backTo p3 (starEach [b] X.env)).any (·.1) = false) :
    PE X (.Call (.Name ("dict" : Str) p1) [.Call (.Name ("zip" : Str) p2) [a, b] [] p3] [] p4) (tDZ X.K ta) := by
  refine ⟨fun pins s σ H Q I h => ?_⟩
  refine wpAny_Call_Name_kw (ld_blt I hd hdm (by decide +kernel : bootBuiltins ("dict" : Str) = some (.type "dict")) ?_ (by decide) (by decide))
  refine PyProof.Rows.callWith_type1 (Calls.spliced_cons ?_) rfl rfl
  refine wpAny_Call_Name_kw (ld_blt I hz hzm (by decide +kernel : bootBuiltins ("zip" : Str) = some (.type "zip")) ?_ (by decide) (by decide))
  refine PyProof.Rows.callWith_type1 (thn (ha.run p3 pins s σ H _ I h) fun us0 s1 ⟨vs, H1, I1, r1, l, t, zs, us, ev, hl, ht, hlen, q⟩ => ?_) hs hpl
  subst ev
  obtain ⟨u1, u2, rfl, e1, e2⟩ := vals_two r1
  cases e1
  cases e2
  obtain ⟨its, rv, pl, _⟩ := I1.list hl
  obtain ⟨its2, rv2, pt, hz2⟩ := I1.tuple ht
  refine call_zip_lt pl.isList (show s1.heap.IsTuple t its2.toArray from pt) fun h' z1 z2 z3 z4 z5 z6 up => ?_
  refine Calls.spliced_nil ?_
  have hlt : l < s1.heap.objs.size := by
    obtain ⟨o, e, _⟩ := pl.isList
    exact Heap.lt_size e
  have htt : t < s1.heap.objs.size := by
    obtain ⟨o, e, _⟩ := pt
    exact Heap.lt_size e
  have D : ZipApart (s1.heap.objs.size + 4) (s1.heap.objs.size + 2) (s1.heap.objs.size + 3) s1.heap.objs.size (s1.heap.objs.size + 1) l t := apart_of _ _ _ hlt htt
  have S1 : Stp X.prog X.w s1.heap.objs.size l (fun h k => h.IsListIter s1.heap.objs.size l k ∧ h.IsList l its.toArray) its.toArray := stp_list
  have S2 : Stp X.prog X.w (s1.heap.objs.size + 1) t (fun h k => h.IsTupleIter (s1.heap.objs.size + 1) t k ∧ h.IsTuple t its2.toArray) its2.toArray := stp_tup
  have P := pairs_zipS (s1.heap.objs.size + 4) (s1.heap.objs.size + 2) (s1.heap.objs.size + 3) s1.heap.objs.size (s1.heap.objs.size + 1) l t D (Nat.ne_of_gt hlt) (Nat.ne_of_gt (Nat.lt_succ_of_lt htt)) its.toArray its2.toArray S1 S2
  have hl1 := rv.length
  have hl2 := rv2.length
  rw [List.length_map] at hl1
  have rel : KV ((zs.map Sum.inr).zip us : List (L2.Key × V)) ((zs.map Sum.inr).zip its2) := zip_kv zs rv2 (by omega)
  refine call_dict_pairs (knd := mixKind X.prog X.w) (kvs := (zs.map Sum.inr).zip its2) P (I1.ok.hd ?_) ⟨z1, z2, ⟨_, _, z3⟩, ⟨z4, pl.isList.at fun o e => up _ _ e⟩, ⟨z5, let ⟨o, e, r⟩ := pt; ⟨o, up _ _ e, r⟩⟩⟩ ⟨?_, ?_⟩ ?_ fun h2 tk hd2 k2 => ?_
  · exact hc
  · simp only [List.length_zip, List.length_map, List.size_toArray]; omega
  · intro i key v ⟨h1, h2⟩
    simp only [List.getElem?_toArray] at h1 h2
    obtain ⟨z, hz1, t', rfl⟩ := strs_rel rv h1
    exact ⟨.inr z, by rw [List.getElem?_zip_eq_some]; exact ⟨by rw [List.getElem?_map, hz1]; rfl, h2⟩, mixKind_str _ _ _ _⟩
  · simp only [List.size_toArray]
    omega
  · have hp : h'.objs.size = s1.heap.objs.size + 5 := z6
    have I2 : L2.Inv X pins σ (upd H1 h'.objs.size (.dK (mergeK [] ((zs.map Sum.inr).zip us)))) { s1 with heap := h2, toks := tk } := by
      refine I1.laid (a := h'.objs.size) (fun b u hb => k2 b u ?_ (up b u hb)) (by omega) ?_
      · have := Heap.lt_size hb
        simp only [List.mem_cons, List.not_mem_nil, or_false, not_or]
        exact ⟨Nat.ne_of_lt (Nat.lt_of_lt_of_le this (Nat.le_add_right _ _)), Nat.ne_of_lt (Nat.lt_of_lt_of_le this (Nat.le_add_right _ _)), Nat.ne_of_lt this, Nat.ne_of_lt (Nat.lt_of_lt_of_le this (Nat.le_add_right _ _))⟩
      · refine dk_new ?_ ?_ (rel.merge .nil) hd2
        · have := length_mergeK ((zs.map Sum.inr).zip us) []
          rw [List.length_nil, List.length_zip] at this
          omega
        · exact beq_eq_false_iff_ne.mpr (Nat.ne_of_gt (by have := I1.big; rw [hp]; exact Nat.lt_of_lt_of_le this (Nat.le_add_right _ _)))
    exact ⟨.ref h'.objs.size, _, I2, rfl, q _ (I1.hok.fresh (by omega))⟩
variable {g : Gm} {C : Ctx} {k n : Nat} {N : List Str} {sc : Scope}
theorem mrgK_nd : ∀ (more kvs : List (L2.Key × V)), ((kvs ++ more).map (·.1)).Nodup → mergeK kvs more = kvs ++ more
  | [], kvs, _ => by rw [List.append_nil]; rfl
  | p :: r, kvs, h => by
    have h1 : valV kvs p.1 = none := by
      cases e : valV kvs p.1 with
      | none => rfl
      | some v =>
        have hm := valV_in e
        rw [List.map_append, List.map_cons, List.nodup_append] at h
        exact absurd rfl (h.2.2 _ hm _ List.mem_cons_self)
    show mergeK (putK kvs p.1 p.2) r = _
    rw [putK_new _ h1, mrgK_nd r _ (by rw [List.append_assoc]; exact h), List.append_assoc]
    rfl
theorem nd_map {α β : Type} {f : α → β} (hf : ∀ a b, f a = f b → a = b) : ∀ {l : List α}, l.Nodup → (l.map f).Nodup
  | [], _ => List.nodup_nil
  | x :: l, h => by
    obtain ⟨h1, h2⟩ := List.nodup_cons.mp h
    rw [List.map_cons, List.nodup_cons]
    refine ⟨fun hm => ?_, nd_map hf h2⟩
    obtain ⟨y, hy, e⟩ := List.mem_map.mp hm
    exact h1 (hf _ _ e ▸ hy)
theorem find_val : ∀ {ys : List (List Nat)} {us : List V} {z : List Nat} {j n : Nat} {v : V}, ys.Nodup → findS z ys n = some j → us.length = ys.length → us[j - n]? = some v → valV ((ys.map fun y => (Sum.inr (⟨y.toArray⟩ : Str) : L2.Key)).zip us) (.inr ⟨z.toArray⟩) = some v
  | [], _, _, _, _, _, _, h, _, _ => by cases h
  | y :: ys, [], _, _, _, _, _, _, h, _ => by simp at h
  | y :: ys, u :: us, z, j, n, v, hn, h, hl, hv => by
    unfold findS at h
    rw [List.map_cons, List.zip_cons_cons]
    split at h
    · rename_i e
      cases h
      rw [Nat.sub_self] at hv
      cases hv
      exact valV_pos (by rw [e])
    · rename_i e
      have hne : ¬ (Sum.inr (⟨y.toArray⟩ : Str) : L2.Key) = .inr ⟨z.toArray⟩ := fun q => e (by
        injection q with q
        injection q with q
        simpa using congrArg Array.toList q)
      refine (valV_neg (p := ((Sum.inr (⟨y.toArray⟩ : Str) : L2.Key), u)) hne).trans ?_
      obtain ⟨h1, _, _⟩ := findS_of h
      refine find_val (n := n + 1) (List.nodup_cons.mp hn).2 h (by simpa using hl) ?_
      rw [show j - n = (j - (n + 1)) + 1 by omega] at hv
      simpa using hv
theorem case_dzip (ih : SndE g C k N n) (G : Good g C k N sc X) {a b i : Expr} {d z : Str} {p1 p2 p3 p4 pos : Pos} {xs : List E} {y : E}
    (h0 : (decide (d = ("dict" : Str)) && (decide (z = ("zip" : Str)) && (isGl sc d && (isGl sc z && (g.fr.contains d && (g.fr.contains z && plainIx i)))))) = true) (hcl : cL (cE g N n sc) [a, b] = some xs) (hi : cE g N n sc i = some y) :
    PE X (.Subscript (.Call (.Name d p1) [.Call (.Name z p2) [a, b] [] p3] [] p4) i pos) (TvE X.kx C (.dzip xs y)) := by
  simp only [Bool.and_eq_true, decide_eq_true_eq] at h0
  obtain ⟨rfl, rfl, g1, g2, g3, g4, hp⟩ := h0
  have hpl : NoSl i := by
    cases i <;> first
      | exact fun _ _ => rfl
      | (cases hp; done)
  obtain ⟨_, _, h8, h9, _⟩ := cL_cons hcl
  refine (pe_dget (by have := G.room.un; omega) (pe_dz G.calm (gl_of G g1) (G.fr _ (by simpa using g3)) (gl_of G g2) (G.fr _ (by simpa using g4)) (pa_R ih G hcl) (star_of h8 _ _) (nostar h9 _ _)) (ih.pe sc X i y G hi) hpl).imp fun σ H Q q => ?_
  obtain ⟨W, ρ, S, gf, r, S', hs, hl, he, q⟩ := q
  simp only [evE] at he
  split at he
  · rename_i rs S1 h1
    split at he
    · cases he
    · rename_i hv
      split at he
      · rename_i x S2 h2
        obtain ⟨r', h3, h4⟩ := Option.map_eq_some_iff.mp he
        cases h4
        unfold dzipR at h3
        split at h3
        · rename_i kk tt
          split at h3
          · rename_i ks ps zz hk ht hz
            split at h3
            · rename_i ys hys
              split at h3
              · rename_i hc
                rw [Bool.and_eq_true, decide_eq_true_eq, decide_eq_true_eq] at hc
                split at h3
                · rename_i j hj
                  obtain ⟨p, hpj, rfl⟩ := Option.map_eq_some_iff.mp h3
                  refine ⟨W, ρ, S, gf, [kk, tt], S1, hs, hl, h1, fun W1 H1 vs e1 s1 pr => ?_⟩
                  obtain ⟨v, u, rfl, rv, ru⟩ := paired_two pr
                  obtain ⟨l, vs, rfl, w1, w2⟩ := rv_items rv hk
                  obtain ⟨t, us, rfl, w3, w4⟩ := rv_tup ru ht
                  have hvs := strs_of w2 hys
                  have hul := rps_length w4
                  refine ⟨l, t, ys.map fun y => ⟨y.toArray⟩, us, rfl, by rw [List.map_map]; exact hvs ▸ SqL.of w1, w3, by rw [List.length_map, hul]; exact hc.2, fun p hp => ?_⟩
                  refine ⟨W1, ρ, S1, gf, x, S', sto_new s1 hp, (hl.ext e1 hs).ext (ext_new s1 hp) s1, h2, fun W2 H2 w e2 s2 rw' => ?_⟩
                  obtain ⟨_, z2⟩ : ¬ W1.Z p ∧ p ∉ W1.SF := by
                    refine ⟨fun z => ?_, fun z => ?_⟩
                    · obtain ⟨o, ho⟩ := s1.zt _ z
                      rw [hp] at ho; cases ho
                    · obtain ⟨o, ho⟩ := s1.sft _ z
                      rw [hp] at ho; cases ho
                  obtain ⟨k1, _, _⟩ := e2.keep p _ upd_same z2
                  obtain ⟨v, hv1, hv2⟩ := rps_get w4 hpj
                  have hm : mergeK [] (((ys.map fun y => (⟨y.toArray⟩ : Str)).map Sum.inr).zip us) = ((ys.map fun y => (Sum.inr (⟨y.toArray⟩ : Str) : L2.Key)).zip us) := by
                    rw [List.map_map]
                    refine mrgK_nd _ [] ?_
                    rw [List.nil_append, List.map_fst_zip (by rw [List.length_map, hul, hc.2]; exact Nat.le_refl _)]
                    exact nd_map (fun a b q => by
                      have q : (Sum.inr (⟨a.toArray⟩ : Str) : L2.Key) = Sum.inr ⟨b.toArray⟩ := q
                      injection q with q
                      injection q with q
                      simpa using congrArg Array.toList q) hc.1
                  rw [hm] at k1
                  refine ⟨p, v, rfl, ?_, q _ _ _ ((e1.trans (ext_new s1 hp)).trans e2) s2 (rv_p ((hv2.mono (frm_new hp)).mono (e2.frm (sto_new s1 hp))))⟩
                  have hw := rv_str rw' hz
                  rw [hw]
                  have := DGet.k (k := .inr ⟨zz.toArray⟩) k1
                  rw [find_val hc.1 hj (by rw [hul, hc.2]) (by rw [Nat.sub_zero]; exact hv1)] at this
                  exact this
                · cases h3
              · cases h3
            · cases h3
          · cases h3
        · cases h3
      · cases he
  · cases he
end
end U

set_option Elab.async false
set_option linter.all false
set_option maxRecDepth 100000
namespace U
open PySem L2

section
variable {g : Gm} {C : Ctx} {k n : Nat} {N : List Str} {sc : Scope} {X : Cx} {e : Expr} {ie : E}
theorem pt_gen (h : PE X e (TvE X.kx C ie)) (ht : ∀ whole, isTrue e X.env whole = (do let v ← whole; standAt e.pos; holding [v] (truthy v))) : PT X e (TvT X.kx C ie) := by
  refine (pt_val h ht).imp fun σ H Q q => ?_
  obtain ⟨W, ρ, S, gf, r, b, S', hs, hl, he, hb, q⟩ := q
  exact ⟨W, ρ, S, gf, r, S', hs, hl, he, fun W' H' v e1 s1 rv => ⟨b, rv_bl rv hb, q W' H' e1 s1⟩⟩
theorem snd_zero : SndE g C k N 0 := ⟨fun _ _ _ _ _ h => (by cases h), fun _ _ _ _ _ h _ => (by cases h)⟩
theorem cL_ne {f : Expr → Option E} {es : List Expr} {x : E} {xs : List E} (h : cL f es = some (x :: xs)) : es ≠ [] := fun z => by
  subst z; cases h
theorem it_set {tg iter : Expr} {z : It × List E} (h : cIt (cE g N n sc) g sc tg iter = some z) (env : PySem.Env) (x : PySem.Value) : foldedSetIterable iter env x = pure x := by
  cases iter <;> first
    | rfl
    | (unfold cIt at h; simp [notSet] at h)
theorem dzArgs_some {a x y : Expr} {d z : Str} (h : dzArgs a = some (d, z, x, y)) : ∃ p1 p2 p3 p4, a = .Call (.Name d p1) [.Call (.Name z p2) [x, y] [] p3] [] p4 := by
  unfold dzArgs at h
  split at h
  · cases h; exact ⟨_, _, _, _, rfl⟩
  · cases h
theorem snd_pe (ih : SndE g C k N n) (G : Good g C k N sc X) (h : cE g N (n + 1) sc e = some ie) : PE X e (TvE X.kx C ie) := by
  cases e with
  | Constant c j pos => exact case_const h
  | Name x pos => exact case_name G h
  | Tuple es j pos =>
    simp only [cE] at h
    obtain ⟨ies, h1, rfl⟩ := Option.map_eq_some_iff.mp h
    exact case_tup ih G h1
  | List es pos =>
    simp only [cE] at h
    obtain ⟨ies, h1, rfl⟩ := Option.map_eq_some_iff.mp h
    split
    · exact case_new (case_lst ih G h1)
    · exact case_lst ih G h1
  | BinOp a op b pos =>
    simp only [cE] at h
    split at h
    · rename_i o x y h1 h2 h3
      cases h
      exact case_bin ih G h1 h2 h3
    · cases h
  | UnaryOp op a pos =>
    cases op with
    | USub =>
      simp only [cE] at h
      obtain ⟨x, h1, rfl⟩ := Option.map_eq_some_iff.mp h
      exact case_neg ih G h1
    | Not =>
      simp only [cE] at h
      obtain ⟨x, h1, rfl⟩ := Option.map_eq_some_iff.mp h
      exact case_not ih G h1
    | _ => simp only [cE] at h; cases h
  | BoolOp op es pos =>
    simp only [cE] at h
    split at h
    · rename_i x xs h1
      cases h
      cases op with
      | And => exact case_and ih G h1 (cL_ne h1)
      | Or => exact case_or ih G h1 (cL_ne h1)
    · cases h
  | Compare a ops bs pos =>
    match ops, bs, h with
    | [op], [b], h =>
      simp only [cE] at h
      split at h
      · rename_i hn
        split at h
        · rename_i x y h1 h2
          cases h
          exact case_cmp ih G hn h1 h2
        · cases h
      · cases h
    | [op, op'], [b, c], h =>
      simp only [cE] at h
      split at h
      · rename_i hn
        rw [Bool.and_eq_true] at hn
        split at h
        · rename_i x y z h1 h2 h3
          cases h
          exact case_cmp2 ih G hn.2 h1 h2 h3
        · cases h
      · cases h
    | [], _, h => simp only [cE] at h; cases h
    | [_], [], h => simp only [cE] at h; cases h
    | [_], _ :: _ :: _, h => simp only [cE] at h; cases h
    | [_, _], [], h => simp only [cE] at h; cases h
    | [_, _], [_], h => simp only [cE] at h; cases h
    | [_, _], _ :: _ :: _ :: _, h => simp only [cE] at h; cases h
    | _ :: _ :: _ :: _, _, h => simp only [cE] at h; cases h
  | IfExp c a b pos =>
    simp only [cE] at h
    split at h
    · rename_i z x y h1 h2 h3
      split at h
      · rename_i ht
        cases h
        exact case_ite ih G h1 h2 h3 ht
      · cases h
    · cases h
  | Call f as kws pos =>
    cases kws with
    | cons _ _ => cases f <;> (simp only [cE] at h; cases h)
    | nil =>
    cases f with
    | Name x p =>
      simp only [cE] at h
      split at h
      · rename_i hx
        rw [Bool.and_eq_true] at hx
        split at h
        · rename_i f hf
          obtain ⟨ies, h1, rfl⟩ := Option.map_eq_some_iff.mp h
          exact case_call ih G hx.1 hx.2 hf h1
        · split at h
          · rename_i hfr
            split at h
            · rename_i hxe
              subst hxe
              split at h
              · rename_i a ts j p2
                split at h
                · rename_i y ms h1 h2
                  split at h
                  · rename_i hz
                    cases h
                    exact case_isaT ih G hx.2 hfr h1 h2 (sz_ok hz)
                  · cases h
                · cases h
              · rename_i a t
                split at h
                · rename_i y m h1 h2
                  cases h
                  exact case_isa1 ih G hx.2 hfr h1 h2
                · cases h
              · cases h
            · split at h
              · rename_i b y ys h1 h2
                cases h
                cases as with
                | nil => cases h2
                | cons e es => exact case_blt ih G hx.1 hx.2 hfr h1 h2
              · cases h
          · cases h
      · cases h
    | Attribute o m ap =>
      simp only [cE] at h
      split at h
      case isFalse =>
        split at h
        · rename_i hm
          rw [Bool.and_eq_true] at hm
          obtain ⟨hline, hbs⟩ := hm
          split at h
          · rename_i hme
            subst hme
            split at h
            · rename_i x y h1 h2
              cases h
              match as, h2 with
              | [b], h2 =>
                obtain ⟨_, _, h3, h4, h5⟩ := cL_cons h2
                cases h4
                cases h5
                exact case_dget1 ih G hbs hline h1 h3
              | [], h2 => cases h2
              | a :: b :: r, h2 =>
                obtain ⟨_, _, h3, h4, h5⟩ := cL_cons h2
                obtain ⟨_, _, h6, h7, h8⟩ := cL_cons h4
                subst h8
                cases h5
            · rename_i x y z h1 h2
              cases h
              match as, h2 with
              | [b, c], h2 => exact case_dget2 ih G hbs hline h1 h2
              | [], h2 => cases h2
              | [b], h2 =>
                obtain ⟨_, _, h3, h4, h5⟩ := cL_cons h2
                cases h4
                cases h5
              | a :: b :: c :: r, h2 =>
                obtain ⟨_, _, h3, h4, h5⟩ := cL_cons h2
                obtain ⟨_, _, h6, h7, h8⟩ := cL_cons h4
                obtain ⟨_, _, h9, h10, h11⟩ := cL_cons h7
                subst h11 h8
                cases h5
            · cases h
          · split at h
            · rename_i hme
              subst hme
              split at h
              · obtain ⟨x, h1, rfl⟩ := Option.map_eq_some_iff.mp h
                exact lpop_last ih G hbs hline h1
              · split at h
                · rename_i x y z h1 h2 h3
                  cases h
                  exact case_dpop ih G hbs hline h1 (by simp [cL, h2, h3])
                · cases h
              · cases h
            · split at h
              · rename_i hme
                subst hme
                split at h
                · split at h
                  · rename_i x y z h1 h2 h3
                    cases h
                    exact case_ddef ih G hbs hline h1 (by simp [cL, h2, h3])
                  · cases h
                · cases h
              · cases h
        · cases h
      case isTrue =>
        rename_i hm
        simp only [Bool.and_eq_true, decide_eq_true_eq] at hm
        obtain ⟨⟨rfl, hline⟩, hbs⟩ := hm
        have hbase : ∀ w, attributeBase o ("index" : Str) X.env w = w := fun w => by
          cases o <;> first
            | rfl
            | skip
          cases hbs
        split at h
        · rename_i x y h1 h2
          match as, h2 with
          | [], h2 => cases h2
          | a :: b :: r, h2 =>
            obtain ⟨_, _, h3, h4, h5⟩ := cL_cons h2
            obtain ⟨_, _, h6, h7, h8⟩ := cL_cons h4
            subst h8
            cases h5
          | [b], h2 =>
          obtain ⟨_, _, h3, h4, h5⟩ := cL_cons h2
          cases h4
          cases h5
          split at h
          · rename_i j
            split at h
            · rename_i hnm
              cases h
              cases o with
              | Name nm p2 => exact case_idxG ih G h1 h3 hline
              | _ => cases hnm
            · cases h
          · cases h
            exact case_meth ih G h1 h3 (hbase _) hline
        · cases h
    | _ => simp only [cE] at h; cases h
  | Dict ks vs pos =>
    simp only [cE] at h
    split at h
    · rename_i h15
      obtain ⟨kvs, h1, rfl⟩ := Option.map_eq_some_iff.mp h
      exact case_newD ih G (of_decide_eq_true h15) h1
    · cases h
  | Subscript a i pos =>
    have gen : cSub (cE g N n sc) a i = some ie → PE X (.Subscript a i pos) (TvE X.kx C ie) := fun h => by
      unfold cSub at h
      split at h
      · rename_i hp
        split at h
        · rename_i x y h1 h2
          cases h
          exact case_sub ih G hp h1 h2
        · cases h
      · cases h
    cases i with
    | Slice lo hi st p2 =>
      cases st with
      | none =>
        simp only [cE] at h
        split at h
        · rename_i x l u h1 h2 h3
          cases h
          exact case_slc ih G h1 h2 h3
        · cases h
      | some st =>
        simp only [cE] at h
        split at h
        · rename_i hm
          obtain ⟨kk, p1, p3, rfl, rfl, rfl⟩ := isM1_some hm
          obtain ⟨x, h1, rfl⟩ := Option.map_eq_some_iff.mp h
          exact case_rev ih G h1
        · cases h
    | _ =>
      simp only [cE] at h
      split at h
      · rename_i d z x y hdz
        split at h
        · rename_i h0
          split at h
          · rename_i xs yy h1 h2
            cases h
            obtain ⟨p1, p2, p3, p4, rfl⟩ := dzArgs_some hdz
            exact case_dzip ih G h0 h1 h2
          · cases h
        · cases h
      · exact gen h
  | ListComp elt gens scope pos =>
    cases gens with
    | nil => simp only [cE] at h; cases h
    | cons c r =>
    cases r with
    | cons _ _ => simp only [cE] at h; cases h
    | nil =>
      obtain ⟨tg, iter, ifs, ay⟩ := c
      simp only [cE] at h
      split at h
      · rename_i hb
        rw [Bool.and_eq_true, decide_eq_true_eq] at hb
        obtain ⟨rfl, hb⟩ := hb
        split at h
        · rename_i kk src t cs x h1 h2 h3 h4
          split at h
          · rename_i hc
            simp only [Bool.and_eq_true, decide_eq_true_eq] at hc
            cases h
            exact case_comp ih G hb h1 h2 h3 h4 hc.1.1 hc.1.2 hc.2 (fun y => it_set h1 _ y)
          · cases h
        · cases h
      · cases h
  | _ => simp only [cE] at h; cases h
theorem lc_parts {elt : Expr} {gens : List Comprehension} {scope : Scope} {pos : Pos} (h : cE g N (n + 1) sc (.ListComp elt gens scope pos) = some ie) : ∃ (tg iter : Expr) (ifs : List Expr) (kk : It) (src : List E) (t : Tg) (cs : List E) (x : E),
    gens = [⟨tg, iter, ifs, 0⟩] ∧ ie = .comp t ((ownOf N scope.names).map (·.2)) kk src cs x ∧ blkC N sc scope (ownOf N scope.names) = true ∧ cIt (cE g N n sc) g sc tg iter = some (kk, src) ∧ cTg N (isLoc scope) n tg = some t ∧
    cL (cE g N n (relS scope sc)) ifs = some cs ∧ cE g N n (relS scope sc) elt = some x ∧ subset t.slots ((ownOf N scope.names).map (·.2)) = true ∧ okTs cs = true ∧ cs.length ≤ 1 := by
  cases gens with
  | nil => simp only [cE] at h; cases h
  | cons c r =>
  cases r with
  | cons _ _ => simp only [cE] at h; cases h
  | nil =>
    obtain ⟨tg, iter, ifs, ay⟩ := c
    simp only [cE] at h
    split at h
    · rename_i hb
      rw [Bool.and_eq_true, decide_eq_true_eq] at hb
      obtain ⟨rfl, hb⟩ := hb
      split at h
      · rename_i kk src t cs x h1 h2 h3 h4
        split at h
        · rename_i hc
          simp only [Bool.and_eq_true, decide_eq_true_eq] at hc
          cases h
          exact ⟨tg, iter, ifs, kk, src, t, cs, x, rfl, rfl, hb, h1, h2, h3, h4, hc.1.1, hc.1.2, hc.2⟩
        · cases h
      · cases h
    · cases h
theorem snd_pt (ih : SndE g C k N n) (G : Good g C k N sc X) (h : cE g N (n + 1) sc e = some ie) (ht : okT ie = true) : PT X e (TvT X.kx C ie) := by
  have pe := snd_pe ih G h
  cases e with
  | UnaryOp op a pos =>
    cases op with
    | Not =>
      simp only [cE] at h
      obtain ⟨x, h1, rfl⟩ := Option.map_eq_some_iff.mp h
      exact case_notT ih G h1 ht
    | _ => exact pt_gen pe fun _ => rfl
  | BoolOp op es pos =>
    simp only [cE] at h
    split at h
    · rename_i x xs h1
      cases h
      cases op with
      | And => exact (case_andT ih G h1 (cL_ne h1) ht).pt
      | Or => exact (case_orT ih G h1 (cL_ne h1) ht).pt
    · cases h
  | Compare a ops bs pos =>
    clear pe
    match ops, bs, h with
    | [op], [b], h =>
      simp only [cE] at h
      split at h
      · rename_i hn
        split at h
        · rename_i x y h1 h2
          cases h
          exact case_cmpT ih G hn h1 h2
        · cases h
      · cases h
    | [op, op'], [b, c], h =>
      simp only [cE] at h
      split at h
      · rename_i hn
        rw [Bool.and_eq_true] at hn
        split at h
        · rename_i x y z h1 h2 h3
          cases h
          exact case_cmp2T ih G hn.2 h1 h2 h3
        · cases h
      · cases h
    | [], _, h => simp only [cE] at h; cases h
    | [_], [], h => simp only [cE] at h; cases h
    | [_], _ :: _ :: _, h => simp only [cE] at h; cases h
    | [_, _], [], h => simp only [cE] at h; cases h
    | [_, _], [_], h => simp only [cE] at h; cases h
    | [_, _], _ :: _ :: _ :: _, h => simp only [cE] at h; cases h
    | _ :: _ :: _ :: _, _, h => simp only [cE] at h; cases h
  | IfExp c a b pos =>
    simp only [cE] at h
    split at h
    · split at h
      · cases h
        cases ht
      · cases h
    · cases h
  | _ => exact pt_gen pe fun _ => rfl
theorem snd (g : Gm) (C : Ctx) (k : Nat) (N : List Str) : ∀ n, SndE g C k N n
  | 0 => snd_zero
  | n + 1 => ⟨fun _ _ _ _ G h => snd_pe (snd g C k N n) G h, fun _ _ _ _ G h ht => snd_pt (snd g C k N n) G h ht⟩
end
end U

set_option Elab.async false
set_option linter.all false
set_option maxRecDepth 100000
namespace U
open PySem L2

def isLC : Expr → Bool
  | .ListComp _ _ _ _ => true
  | .SetComp _ _ _ _ => true
  | .DictComp _ _ _ _ _ => true
  | _ => false
def isTup : Expr → Bool
  | .Tuple _ _ _ => true
  | _ => false
/-- two plain names, stored from the right -/
def swp2 (sc : Scope) (x y : Str) (px py : Pos) (a b : Expr) : Bool :=
  decide (sc.kind = .function) && decide (sc.names.lookup x = some .local) && decide (sc.names.lookup y = some .local) && (px.line == px.line) && (py.line == px.line) && decide (x ≠ y) && !([a, b].all (foldedForSure 8)) && !([a, b].all (constantsAlone 8))
def swp3 (sc : Scope) (x y z : Str) (px py pz : Pos) (a b c : Expr) : Bool :=
  decide (sc.kind = .function) && decide (sc.names.lookup x = some .local) && decide (sc.names.lookup y = some .local) && decide (sc.names.lookup z = some .local) && (py.line == px.line) && (pz.line == px.line) && decide (x ≠ y) && decide (x ≠ z) && decide (y ≠ z) && !([a, b, c].all (foldedForSure 8)) && !([a, b, c].all (constantsAlone 8))
def swpNo (sc : Scope) (ts vs : List Expr) : Bool :=
  let line := (ts.head?.map (·.pos.line)).getD 0
  let names := ts.filterMap fun
    | .Name id pos => if sc.names.lookup id == some .local && pos.line == line then some id else none
    | _ => none
  (names.length != ts.length || names.eraseDups.length != names.length) || vs.all (foldedForSure 8)
def locNm (sc : Scope) : Expr → Option Str
  | .Name x _ => if okName x && isLoc sc x then some x else none
  | _ => none
def cIx (N : List Str) (sc : Scope) (x : Str) : Option Nat := if isLoc sc x then idx N x 0 else none
mutual
def cS (g : Gm) (N : List Str) (n : Nat) (sc : Scope) : Nat → Stmt → Option St
  | 0, _ => none
  | m + 1, s => match s with
    | .Expr e _ => match e with
      | .Call (.Attribute o mm ap) [a] [] cp => if mm = ("append" : Str) && ap.endLine == cp.line then if g.ar.contains (posK cp) then
          if okBase2 o then match cE g N n sc o, cE g N n sc a with
            | some x, some y => some (.appR x y)
            | _, _ => none
          else none
        else match locNm sc o with
          | some x => match idx N x 0, cE g N n sc a with
            | some i, some y => some (.app i y)
            | _, _ => none
          | none => none
        else (cE g N n sc e).map .expr
      | e => if isLC e then none else (cE g N n sc e).map .expr
    | .Assign [.Name x p] e q => match cIx N sc x, cE g N n sc e with
      | some i, some y => if decide (sc.kind = .function) then some (.set i y) else none
      | _, _ => none
    | .Assign [.Tuple ts _ _] (.Tuple es _ _) _ => match ts, es with
      | [.Name x px, .Name y py], [a, b] => if swp2 sc x y px py a b then match cIx N sc x, cIx N sc y, cL (cE g N n sc) es with
          | some i, some j, some ys => if i ≠ j then some (.par [i, j] ys) else none
          | _, _, _ => none
        else if swpNo sc ts es && decide (ts.length = es.length) then match cTL (cTg N (isLoc sc) n) ts, cL (cE g N n sc) es with
          | some ts', some ys => some (.unp ts' (.tup ys))
          | _, _ => none
        else none
      | [.Name x px, .Name y py, .Name z pz], [a, b, c] => if swp3 sc x y z px py pz a b c then match cIx N sc x, cIx N sc y, cIx N sc z, cL (cE g N n sc) es with
          | some i, some j, some l, some ys => if i ≠ j ∧ i ≠ l ∧ j ≠ l then some (.par [i, j, l] ys) else none
          | _, _, _, _ => none
        else if swpNo sc ts es && decide (ts.length = es.length) then match cTL (cTg N (isLoc sc) n) ts, cL (cE g N n sc) es with
          | some ts', some ys => some (.unp ts' (.tup ys))
          | _, _ => none
        else none
      | ts, es => if swpNo sc ts es && decide (ts.length = es.length) then match cTL (cTg N (isLoc sc) n) ts, cL (cE g N n sc) es with
          | some ts', some ys => some (.unp ts' (.tup ys))
          | _, _ => none
        else none
    | .Assign [.Tuple ts _ _] e _ => match cTL (cTg N (isLoc sc) n) ts, cE g N n sc e with
      | some ts', some y => some (.unp ts' y)
      | _, _ => none
    | .Assign [.Subscript a i _] e _ => if plainIx i || isTup i then match cE g N n sc a, cE g N n sc i, cE g N n sc e with
        | some x, some y, some z => some (.put x y z)
        | _, _, _ => none
      else none
    | .Return none _ => some .retN
    | .Return (some e) _ => match locNm sc e with
      | some x => (idx N x 0).map .retV
      | none => (cE g N n sc e).map .ret
    | .If c a b _ => match cE g N n sc c, cSs g N n sc m a, cSs g N n sc m b with
      | some z, some x, some y => if okT z then some (.ite z x y) else none
      | _, _, _ => none
    | .For tg it body [] _ => match cIt (cE g N n sc) g sc tg it, cTg N (isLoc sc) n tg, cSs g N n sc m body with
      | some (k, src), some t, some b => some (.for t k src b)
      | _, _, _ => none
    | .While c body [] _ => match cE g N n sc c, cSs g N n sc m body with
      | some z, some b => if okT z then some (.while z b) else none
      | _, _ => none
    | .Raise _ _ _ => some .never
    | _ => none
def cSs (g : Gm) (N : List Str) (n : Nat) (sc : Scope) : Nat → List Stmt → Option (List St)
  | 0, _ => none
  | m + 1, ss => match ss with
    | [] => some []
    | s :: ss => match cS g N n sc m s, cSs g N n sc m ss with
      | some a, some as => some (a :: as)
      | _, _ => none
end

/-- what is owned is new since H0 -/
def Own (H0 : Hp) (ρ : Env) (gf : Nat → List Addr) : Prop := ∀ (i : Nat) (r : R), ρ[i]? = some (some r) → r.s = .own → ∀ a ∈ gf i, H0 a = none
def Out (K : KX) (W0 : Wd) (H0 : Hp) (S0 : AS) (W : Wd) (H : Hp) : Fl → Ends → Prop
  | .nx ρ' S', D => ∀ (W' : Wd) (H' : Hp) (σ' : L2.St) (gf' : Nat → List Addr), Ext W0 H0 S0 W' H' S' → Frm W H W' H' → Sto K W' H' S' → Slo K W' H' σ' ρ' gf' → Own H0 ρ' gf' → D.nx σ' H'
  | .rt r S', D => ∀ (W' : Wd) (H' : Hp) (v : V), Ext W0 H0 S0 W' H' S' → Sto K W' H' S' → RV K H0 W' H' v r → D.rt v H'
def TvS (K : KX) (C : Ctx) (s : St) : TS := fun D σ H => ∃ (W0 : Wd) (H0 : Hp) (S0 : AS) (W : Wd) (ρ : Env) (S : AS) (gf : Nat → List Addr) (fl : Fl), Sto K W H S ∧ Slo K W H σ ρ gf ∧ Ext W0 H0 S0 W H S ∧ Own H0 ρ gf ∧ exS C s ρ S = some fl ∧ Out K W0 H0 S0 W H fl D
def TvL (K : KX) (C : Ctx) (ss : List St) : TS := fun D σ H => ∃ (W0 : Wd) (H0 : Hp) (S0 : AS) (W : Wd) (ρ : Env) (S : AS) (gf : Nat → List Addr) (fl : Fl), Sto K W H S ∧ Slo K W H σ ρ gf ∧ Ext W0 H0 S0 W H S ∧ Own H0 ρ gf ∧ exL C ss ρ S = some fl ∧ Out K W0 H0 S0 W H fl D
theorem ps_imp {X : Cx} {s : Stmt} {t t' : TS} (h : PS X s t) (i : ∀ D σ H, t' D σ H → t D σ H) : PS X s t' := ⟨fun pins s σ H D I q => h.run pins s σ H D I (i D σ H q)⟩
theorem pss_imp {X : Cx} {s : List Stmt} {t t' : TS} (h : PSs X s t) (i : ∀ D σ H, t' D σ H → t D σ H) : PSs X s t' := ⟨fun pins s σ H D I q => h.run pins s σ H D I (i D σ H q)⟩
structure GoodS (g : Gm) (C : Ctx) (k : Nat) (N : List Str) (sc : Scope) (X : Cx) : Prop where
  G : Good g C k N sc X
  own : OwnOk X (isLoc sc)
  pass : PassesOwn (model X.prog X.w) X.A X.env X.xe

section
variable {K : KX} {W W' W2 : Wd} {H H' H2 H0 : Hp} {S S' S2 : AS} {v : V} {p : P} {vs : List V} {o : O} {os : List O} {fp : List Addr} {r : R} {σ : L2.St} {ρ ρ' : Env} {gf : Nat → List Addr}
theorem Frm.refl : Frm W H W H := ⟨fun _ z => ⟨z, fun _ h => h⟩, fun _ _ h => h⟩
theorem Frm.trans (a : Frm W H W' H') (b : Frm W' H' W2 H2) : Frm W H W2 H2 :=
  ⟨fun x z => ⟨(b.z x (a.z x z).1).1, fun o h => (b.z x (a.z x z).1).2 o ((a.z x z).2 o h)⟩, fun k x h => b.th k x (a.th k x h)⟩
/-- a name holds what came -/
theorem slo_hold (hl : Slo K W' H' σ ρ gf) (ht : ∀ (i : Nat) (r : R), ρ[i]? = some (some r) → ∀ a ∈ gf i, H a ≠ none) (s : Sto K W' H' S') (rv : RV K H W' H' v r) (hb : ∀ a, H a = none → H0 a = none) (ho : Own H0 ρ gf) {i : Nat} (h : setS i r ρ = some ρ') :
    ∃ gf', Slo K W' H' (σ.set i (some v)) ρ' gf' ∧ Own H0 ρ' gf' := by
  unfold setS at h
  split at h
  · rename_i r' hr'
    split at h
    · rename_i hi
      cases h
      unfold R.hold at hr'
      obtain ⟨fp, hro, hrs⟩ := rv
      split at hr'
      · rename_i p hp
        cases hr'
        rw [hp] at hro
        cases hro with
        | leaf hp' =>
          refine ⟨_, slo_set hl hp' hi, fun j r hr hro a ha => ?_⟩
          by_cases e : j = i
          · subst e
            rw [List.getElem?_set_self hi] at hr
            cases hr; cases hro
          · rw [List.getElem?_set_ne (Ne.symm e)] at hr
            rw [if_neg e] at ha
            exact ho j r hr hro a ha
      · rename_i hnl
        split at hr'
        · rename_i hst
          cases hr'
          rw [hst] at hrs
          obtain ⟨hn, hrs⟩ := hrs
          refine ⟨fun j => if j = i then fp else gf j, ⟨by rw [List.length_set, List.length_set]; exact hl.len, fun j r2 hr => ?_, fun j r2 hr a ha => ?_, fun j r2 hr hown => ?_, fun j m r2 r3 hr hr3 hown hne a ha hm => ?_⟩, fun j r2 hr hown a ha => ?_⟩
          · by_cases e : j = i
            · subst e
              rw [List.getElem?_set_self hi] at hr
              cases hr
              refine ⟨v, List.getElem?_set_self (by rw [hl.len]; exact hi), ?_, (fun z => nomatch z)⟩
              rw [if_pos rfl]
              exact hro
            · rw [List.getElem?_set_ne (Ne.symm e)] at hr
              rw [List.getElem?_set_ne (Ne.symm e), if_neg e]
              exact hl.at_ j r2 hr
          · by_cases e : j = i
            · rw [if_pos e] at ha
              exact (hrs a ha).2.1
            · rw [if_neg e] at ha
              rw [List.getElem?_set_ne (Ne.symm e)] at hr
              exact hl.sf j r2 hr a ha
          · by_cases e : j = i
            · rw [if_pos e]
              exact ⟨hn, fun a ha => (hrs a ha).1⟩
            · rw [if_neg e]
              rw [List.getElem?_set_ne (Ne.symm e)] at hr
              exact hl.own j r2 hr hown
          · by_cases e : j = i
            · rw [if_pos e] at ha
              by_cases e2 : m = i
              · exact hne (e.trans e2.symm)
              · rw [if_neg e2] at hm
                rw [List.getElem?_set_ne (Ne.symm e2)] at hr3
                exact ht m r3 hr3 a hm (hrs a ha).2.2
            · rw [if_neg e] at ha
              rw [List.getElem?_set_ne (Ne.symm e)] at hr
              by_cases e2 : m = i
              · rw [if_pos e2] at hm
                exact ht j r2 hr a ha (hrs a hm).2.2
              · rw [if_neg e2] at hm
                rw [List.getElem?_set_ne (Ne.symm e2)] at hr3
                exact hl.dj j m r2 r3 hr hr3 hown hne a ha hm
          · have ha : a ∈ (if j = i then fp else gf j) := ha
            by_cases e : j = i
            · rw [if_pos e] at ha
              exact hb a (hrs a ha).2.2
            · rw [if_neg e] at ha
              rw [List.getElem?_set_ne (Ne.symm e)] at hr
              exact ho j r2 hr hown a ha
        · cases hr'
    · cases h
  · cases h
theorem slo_trk (hl : Slo K W H σ ρ gf) : ∀ (i : Nat) (r : R), ρ[i]? = some (some r) → ∀ a ∈ gf i, H a ≠ none := fun i r hr a ha z => by
  obtain ⟨v, _, h2, _⟩ := hl.at_ i r hr
  obtain ⟨u, hu⟩ := h2.trk a ha
  rw [z] at hu; cases hu
theorem own_kept {gf' : Nat → List Addr} (h : Own H0 ρ gf) (k : Kept ρ gf ρ' gf') : Own H0 ρ' gf' := fun i r hr ho a ha => by
  obtain ⟨h1, h2⟩ := k i r hr ho
  exact h i r h1 ho a (h2 ▸ ha)
end
end U

set_option Elab.async false
set_option linter.all false
set_option maxRecDepth 100000
namespace U
open PySem L2

section
variable {g : Gm} {C : Ctx} {k n : Nat} {N : List Str} {sc : Scope} {X : Cx}
theorem set_conv {i : Nat} {y : E} {D : Ends} {σ : L2.St} {H : Hp} (q : TvS X.kx C (.set i y) D σ H) : tAsg (TvE X.kx C y) (gName i) D σ H := by
  obtain ⟨W0, H0, S0, W, ρ, S, gf, fl, hs, hl, e0, ow, he, out⟩ := q
  simp only [exS] at he
  split at he
  · rename_i r S1 h1
    obtain ⟨ρ', h2, rfl⟩ := Option.map_eq_some_iff.mp he
    refine ⟨W, ρ, S, gf, r, S1, hs, hl, h1, fun W1 H1 v e1 s1 rv => ?_⟩
    obtain ⟨gf', l', o'⟩ := slo_hold (hl.ext e1 hs) (slo_trk hl) s1 rv (fun a => e0.back) ow h2
    exact out W1 H1 _ gf' (e0.trans e1) (e1.frm hs) s1 l' o'
  · cases he
theorem loc_of (GS : GoodS g C k N sc X) {x : Str} (h : isLoc sc x = true) : Loc X.env.scope x ∧ (X.fn x = true ∨ X.env.scope.names.lookup x = some .local) := GS.own x h
theorem st_set (GS : GoodS g C k N sc X) {x : Str} {p q : Pos} {e : Expr} {i : Nat} {y : E} (hk : sc.kind = .function) (hx : isLoc sc x = true) (hi : idx N x 0 = some i) (he : cE g N n sc e = some y) : PS X (.Assign [.Name x p] e q) (TvS X.kx C (.set i y)) := by
  obtain ⟨l1, l2⟩ := loc_of GS hx
  have hN : X.N[i]? = some x := by rw [GS.G.N]; exact idx_at hi
  have base : ∀ (hs : swapsWith e (some (.Name x p)) q.line X.env = pure false), PS X (.Assign [.Name x p] e q) (TvS X.kx C (.set i y)) := fun hs =>
    ps_imp (ps_set GS.G.nd hN l1 ((snd g C k N n).pe sc X e y GS.G he) hs l2) fun D σ H q => set_conv q
  cases n with
  | zero => cases he
  | succ n =>
  cases e with
  | ListComp elt gens scope vp =>
    obtain ⟨tg, iter, ifs, kk, src, t, cs, x', rfl, rfl, hb, h1, h2, h3, h4, h5, h6, h7⟩ := lc_parts he
    have hsw : ∀ l, swapsWith (.ListComp elt [⟨tg, iter, ifs, 0⟩] scope vp) (some (.Name x p)) l X.env = pure (X.env.blockKind == .function && X.env.kindOf x == some .local && p.line == vp.line && !(scope.names.any fun (n, k) => n == x && (k == .local || k == .cell))) := fun _ => rfl
    cases hc : (X.env.blockKind == .function && X.env.kindOf x == some .local && p.line == vp.line && !(scope.names.any fun (n, k) => n == x && (k == .local || k == .cell))) with
    | false => exact base (by rw [hsw, hc])
    | true =>
      have hl : X.env.scope.names.lookup x = some .local := by
        simp only [Bool.and_eq_true, beq_iff_eq] at hc
        exact hc.1.1.2
      refine ps_imp (ps_setLc (wi := TvI false X.kx C kk src) (g := TvG X.kx t) (tt := TvC X.kx C cs) (te := TvE X.kx C x') GS.G.calm GS.G.nd hN hl (by rw [hsw, hc]) (pi_of (snd g C k N n) GS.G h1) (blk_ok GS.G hb) (fun s H C' cl fp => pg_of (X := X.blk s H scope (compEnvC scope cl C' X.env) fp) GS.G.calm GS.G.nd GS.G.N own_blk n h2) (fun s H C' cl fp => pts_of (snd g C k N n) GS.G.blk h3 h6 h7) (fun s H C' cl fp => (snd g C k N n).pe _ _ _ _ GS.G.blk h4) (fun y => it_set h1 _ y)) fun D σ H q => ?_
      exact lc_conv h5 (set_conv q)
  | SetComp _ _ _ _ => simp only [cE] at he; cases he
  | DictComp _ _ _ _ _ => simp only [cE] at he; cases he
  | _ => exact base rfl
theorem st_expr (GS : GoodS g C k N sc X) {q : Pos} {e : Expr} {y : E} (hc : isLC e = false) (he : cE g N n sc e = some y) : PS X (.Expr e q) (TvS X.kx C (.expr y)) := by
  have hs : swapsWith e none q.line X.env = pure false := by
    cases e <;> first
      | rfl
      | cases hc
  refine ps_imp (ps_expr ((snd g C k N n).pe sc X e y GS.G he) hs) fun D σ H q => ?_
  obtain ⟨W0, H0, S0, W, ρ, S, gf, fl, hs, hl, e0, ow, he, out⟩ := q
  simp only [exS] at he
  split at he
  · rename_i r S1 h1
    cases he
    exact ⟨W, ρ, S, gf, r, S1, hs, hl, h1, fun W1 H1 v e1 s1 rv => out W1 H1 σ gf (e0.trans e1) (e1.frm hs) s1 (hl.ext e1 hs) ow⟩
  · cases he
theorem st_ret (GS : GoodS g C k N sc X) {q : Pos} {e : Expr} {y : E} (he : cE g N n sc e = some y) : PS X (.Return (some e) q) (TvS X.kx C (.ret y)) := by
  refine ps_imp (ps_ret ((snd g C k N n).pe sc X e y GS.G he)) fun D σ H q => ?_
  obtain ⟨W0, H0, S0, W, ρ, S, gf, fl, hs, hl, e0, ow, he, out⟩ := q
  simp only [exS] at he
  split at he
  · rename_i r S1 h1
    obtain ⟨r', h2, rfl⟩ := Option.map_eq_some_iff.mp he
    refine ⟨W, ρ, S, gf, r, S1, hs, hl, h1, fun W1 H1 v e1 s1 rv => out W1 H1 v (e0.trans e1) s1 ?_⟩
    unfold R.hold at h2
    split at h2
    · rename_i p hp
      cases h2
      obtain ⟨fp, ho, _⟩ := rv
      rw [hp] at ho
      cases ho with
      | leaf h => exact rv_p h
    · split at h2
      · rename_i hst
        cases h2
        obtain ⟨fp, ho, hr⟩ := rv
        rw [hst] at hr
        exact ⟨fp, ho, hr.1, fun a ha => ⟨(hr.2 a ha).1, (hr.2 a ha).2.1, e0.back (hr.2 a ha).2.2⟩⟩
      · cases h2
  · cases he
theorem st_retV (GS : GoodS g C k N sc X) {q p : Pos} {x : Str} {i : Nat} (hn : okName x = true) (hx : isLoc sc x = true) (hi : idx N x 0 = some i) : PS X (.Return (some (.Name x p)) q) (TvS X.kx C (.retV i)) := by
  obtain ⟨l1, l2⟩ := loc_of GS hx
  obtain ⟨n1, n2⟩ := name_of hn
  refine ps_imp (ps_ret (pe_var (i := i) (by rw [GS.G.N]; exact idx_at hi) (l1.elim .inl fun z => .inr (.inl z)) n1 n2)) fun D σ H q => ?_
  obtain ⟨W0, H0, S0, W, ρ, S, gf, fl, hs, hl, e0, ow, he, out⟩ := q
  simp only [exS] at he
  split at he
  · rename_i r hr
    cases he
    obtain ⟨v, h1, h2, h3⟩ := hl.at_ i r hr
    refine ⟨v, h1, out W H v e0 hs ⟨gf i, h2, ?_⟩⟩
    cases hst : r.s with
    | own =>
      obtain ⟨o1, o2⟩ := hl.own i r hr hst
      exact ⟨o1, fun a ha => ⟨o2 a ha, hl.sf i r hr a ha, ow i r hr hst a ha⟩⟩
    | stb => exact hl.sf i r hr
    | vol => trivial
  · cases he
theorem st_retN {q : Pos} : PS X (.Return none q) (TvS X.kx C .retN) := by
  refine ps_imp ps_retN fun D σ H q => ?_
  obtain ⟨W0, H0, S0, W, ρ, S, gf, fl, hs, hl, e0, ow, he, out⟩ := q
  simp only [exS] at he
  cases he
  exact out W H .non e0 hs (rv_p .non)
theorem st_never {s : Stmt} : PS X s (TvS X.kx C .never) := by
  refine ps_imp ps_never fun D σ H q => ?_
  obtain ⟨W0, H0, S0, W, ρ, S, gf, fl, hs, hl, e0, ow, he, out⟩ := q
  simp only [exS] at he
  cases he
theorem st_if (GS : GoodS g C k N sc X) {q : Pos} {c : Expr} {a b : List Stmt} {z : E} {x y : List St} (hc : cE g N n sc c = some z) (ht : okT z = true) (ha : PSs X a (TvL X.kx C x)) (hb : PSs X b (TvL X.kx C y)) : PS X (.If c a b q) (TvS X.kx C (.ite z x y)) := by
  refine ps_imp (ps_if ((snd g C k N n).pt sc X c z GS.G hc ht) ha hb) fun D σ H q => ?_
  obtain ⟨W0, H0, S0, W, ρ, S, gf, fl, hs, hl, e0, ow, he, out⟩ := q
  simp only [exS] at he
  have fin : ∀ {W1 : Wd} {H1 : Hp} {S1 : AS} {fl : Fl}, Ext W H S W1 H1 S1 → Out X.kx W0 H0 S0 W H fl D → Out X.kx W0 H0 S0 W1 H1 fl D := fun {W1 H1 S1 fl} e1 out => by
    cases fl with
    | nx ρ' S' => exact fun W' H' σ' gf' a b c d e => out W' H' σ' gf' a ((e1.frm hs).trans b) c d e
    | rt r S' => exact out
  split at he
  · rename_i r S1 h1
    split at he
    · rename_i hb
      refine ⟨W, ρ, S, gf, r, true, S1, hs, hl, h1, hb, fun W1 H1 e1 s1 => ?_⟩
      refine iteT ?_
      exact ⟨W0, H0, S0, W1, ρ, S1, gf, fl, s1, hl.ext e1 hs, e0.trans e1, ow, he, fin e1 out⟩
    · rename_i hb
      refine ⟨W, ρ, S, gf, r, false, S1, hs, hl, h1, hb, fun W1 H1 e1 s1 => ?_⟩
      refine iteF ?_
      exact ⟨W0, H0, S0, W1, ρ, S1, gf, fl, s1, hl.ext e1 hs, e0.trans e1, ow, he, fin e1 out⟩
    · cases he
  · cases he
theorem out_frm {W0 W W1 : Wd} {H0 H H1 : Hp} {S0 : AS} {fl : Fl} {D : Ends} (f : Frm W H W1 H1) (out : Out X.kx W0 H0 S0 W H fl D) : Out X.kx W0 H0 S0 W1 H1 fl D := by
  cases fl with
  | nx ρ' S' => exact fun W' H' σ' gf' a b c d e => out W' H' σ' gf' a (f.trans b) c d e
  | rt r S' => exact out
theorem st_nil : PSs X [] (TvL X.kx C []) := by
  refine pss_imp pss_nil fun D σ H q => ?_
  obtain ⟨W0, H0, S0, W, ρ, S, gf, fl, hs, hl, e0, ow, he, out⟩ := q
  simp only [exL] at he
  cases he
  exact out W H σ gf e0 Frm.refl hs hl ow
theorem st_cons {s : Stmt} {ss : List Stmt} {x : St} {xs : List St} (h1 : PS X s (TvS X.kx C x)) (h2 : PSs X ss (TvL X.kx C xs)) : PSs X (s :: ss) (TvL X.kx C (x :: xs)) := by
  refine pss_imp (pss_cons h1 h2) fun D σ H q => ?_
  obtain ⟨W0, H0, S0, W, ρ, S, gf, fl, hs, hl, e0, ow, he, out⟩ := q
  simp only [exL] at he
  split at he
  · rename_i ρ1 S1 h3
    refine ⟨W0, H0, S0, W, ρ, S, gf, _, hs, hl, e0, ow, h3, fun W1 H1 σ1 gf1 e1 f1 s1 l1 o1 => ?_⟩
    exact ⟨W0, H0, S0, W1, ρ1, S1, gf1, fl, s1, l1, e1, o1, he, out_frm f1 out⟩
  · rename_i hne
    cases hx : exS C x ρ S with
    | none => rw [hx] at he; cases he
    | some f =>
      cases f with
      | nx ρ1 S1 => exact absurd hx (hne ρ1 S1)
      | rt r S1 =>
        rw [hx] at he
        cases he
        exact ⟨W0, H0, S0, W, ρ, S, gf, _, hs, hl, e0, ow, hx, out⟩
theorem st_for (GS : GoodS g C k N sc X) {tg it : Expr} {q : Pos} {body : List Stmt} {kk : It} {src : List E} {t : Tg} {b : List St} (hi : cIt (cE g N n sc) g sc tg it = some (kk, src)) (ht : cTg N (isLoc sc) n tg = some t) (hb : PSs X body (TvL X.kx C b)) :
    PS X (.For tg it body [] q) (TvS X.kx C (.for t kk src b)) := by
  refine ps_imp (ps_for GS.pass GS.G.calm (pi_or (pi_of (fr := true) (snd g C k N n) GS.G hi) (live_of (snd g C k N n) GS.G hi)) (pg_of GS.G.calm GS.G.nd GS.G.N GS.own n ht) hb (fun y => it_set hi _ y)) fun D σ H q => ?_
  obtain ⟨W0, H0, S0, W, ρ, S, gf, fl, hs, hl, e0, ow, he, out⟩ := q
  simp only [exS] at he
  split at he
  · rename_i rs S1 h1
    generalize hff : (fun p ρ S => match asg t p ρ with
      | some ρ' => exL C b ρ' S
      | none => none : P → Env → AS → Option Fl) = ff at he
    have body : ∀ {W1 Wc : Wd} {H1 Hc : Hp} {Sc : AS} {ρc : Env} {gc : Nat → List Addr} {σc : L2.St} {p : P} {xv : V} {W2 : Wd} {H2 : Hp} {rest : Env → AS → Option Fl} {N' : L2.St → Hp → Prop},
        Sto X.kx Wc Hc Sc → Slo X.kx Wc Hc σc ρc gc → Ext W0 H0 S0 Wc Hc Sc → Own H0 ρc gc → Frm W H Wc Hc → Ext Wc Hc Sc W2 H2 Sc → Sto X.kx W2 H2 Sc → RP X.kx W2 H2 xv p →
        (match ff p ρc Sc with
          | some (.nx ρ' S') => rest ρ' S'
          | r => r) = some fl →
        (∀ (W5 : Wd) (H5 : Hp) (σ5 : L2.St) (g5 : Nat → List Addr) (ρ4 : Env) (S4 : AS), Ext W0 H0 S0 W5 H5 S4 → Frm W2 H2 W5 H5 → Sto X.kx W5 H5 S4 → Slo X.kx W5 H5 σ5 ρ4 g5 → Own H0 ρ4 g5 → Frm W H W5 H5 → Frm Wc Hc W5 H5 → Ext Wc Hc Sc W2 H2 Sc → rest ρ4 S4 = some fl → N' σ5 H5) →
        TvG X.kx t xv σc H2 fun σ2 H3 => TvL X.kx C b { D with nx := N', ct := N', bk := D.nx } σ2 H3 := fun {W1 Wc H1 Hc Sc ρc gc σc p xv W2 H2 rest N'} sC lC eC oC fC e2 s2 rp hf kN => by
      have hffp : ff p ρc Sc = (match asg t p ρc with
        | some ρ' => exL C b ρ' Sc
        | none => none) := by rw [← hff]
      rw [hffp] at hf
      cases ha : asg t p ρc with
      | none => rw [ha] at hf; cases hf
      | some ρ2 =>
        rw [ha] at hf
        simp only at hf
        refine ⟨W2, ρc, Sc, gc, p, ρ2, s2, lC.ext e2 sC, rp, ha, fun σ3 g3 l3 t3 _ _ => ?_⟩
        have f2 := e2.frm sC
        cases hx : exL C b ρ2 Sc with
        | none => rw [hx] at hf; cases hf
        | some f =>
          rw [hx] at hf
          cases f with
          | nx ρ4 S4 =>
            simp only at hf
            exact ⟨W0, H0, S0, W2, ρ2, Sc, g3, _, s2, l3, eC.trans e2, own_kept oC t3, hx, fun W5 H5 σ5 g5 e5 f5 s5 l5 o5 => kN W5 H5 σ5 g5 ρ4 S4 e5 f5 s5 l5 o5 ((fC.trans f2).trans f5) (f2.trans f5) e2 hf⟩
          | rt r S4 =>
            simp only at hf
            cases hf
            exact ⟨W0, H0, S0, W2, ρ2, Sc, g3, _, s2, l3, eC.trans e2, own_kept oC t3, hx, out⟩
    split at he
    · rename_i j hj
      split at he
      · rename_i ep ps hit
        refine .inr ⟨W, ρ, S, gf, rs, j, ep, ps, S1, hs, hl, h1, hj, hit, fun W1 H1 a J e1 s1 ha lw => ?_⟩
        refine ⟨fun i m σ Hc => ∃ (Wc : Wd) (ρc : Env) (Sc : AS) (gc : Nat → List Addr), m = ps.length - i ∧ i ≤ ps.length ∧ Sto X.kx Wc Hc Sc ∧ Slo X.kx Wc Hc σ ρc gc ∧ Ext W0 H0 S0 Wc Hc Sc ∧ Own H0 ρc gc ∧ Wc.th[j]? = some a ∧ Frm W H Wc Hc ∧ forS kk j ps.length ep ff m ρc Sc = some fl, ⟨ps.length, W1, ρ, S1, gf, rfl, Nat.zero_le _, s1, hl.ext e1 hs, e0.trans e1, ow, ha, e1.frm hs, he⟩, ?_⟩
        rintro i m σc Hc ⟨Wc, ρc, Sc, gc, rfl, hil, sC, lC, eC, oC, hac, fC, hf⟩
        rcases Nat.lt_or_ge i ps.length with hlt | hge
        · obtain ⟨m, hm⟩ : ∃ m, ps.length - i = m + 1 := ⟨ps.length - i - 1, by omega⟩
          rw [hm] at hf
          simp only [forS] at hf
          split at hf
          · rename_i ep' ps' hit'
            split at hf
            · rename_i hc
              obtain ⟨rfl, hlen⟩ := hc
              rw [show ps.length - (m + 1) = i by omega] at hf
              split at hf
              · rename_i p hp
                obtain ⟨GG, wlk, gg⟩ := lw.ex Wc Hc Sc ps' sC hac hit' hlen
                refine .inr ⟨wlk.goes i Wc Hc (by omega) gg, fun σ' H' => ∃ (W' : Wd) (ρ' : Env) (S' : AS) (g' : Nat → List Addr), Sto X.kx W' H' S' ∧ Slo X.kx W' H' σ' ρ' g' ∧ Ext W0 H0 S0 W' H' S' ∧ Own H0 ρ' g' ∧ W'.th[j]? = some a ∧ Frm W H W' H' ∧ forS kk j ps.length ep' ff m ρ' S' = some fl,
                  fun σ' H' ⟨W', ρ', S', g', a1, a2, a3, a4, a5, a6, a7⟩ => ⟨ps.length - (i + 1), by omega, W', ρ', S', g', rfl, hlt, a1, a2, a3, a4, a5, a6, by rw [show ps.length - (i + 1) = m by omega]; exact a7⟩, fun xv H2 hy => ?_⟩
                obtain ⟨W2, p', hp', e2, s2, rp, k2⟩ := wlk.yields i Wc Hc Sc xv H2 (by omega) gg sC hy
                rw [hp] at hp'
                cases hp'
                exact body (W1 := W1) (H1 := H1) (rest := forS kk j ps.length ep' ff m) sC lC eC oC fC e2 s2 rp hf fun W5 H5 σ5 g5 ρ4 S4 e5 f5 s5 l5 o5 fH fC' _ h4 => ⟨W5, ρ4, S4, g5, s5, l5, e5, o5, fC'.th _ _ hac, fH, h4⟩
              · cases hf
            · cases hf
          · cases hf
        · have hi' : i = ps.length := Nat.le_antisymm hil hge
          subst hi'
          rw [Nat.sub_self] at hf
          simp only [forS] at hf
          split at hf
          · rename_i ep' ps' hit'
            split at hf
            · rename_i hc
              obtain ⟨rfl, hlen⟩ := hc
              cases hf
              obtain ⟨GG, wlk, gg⟩ := lw.ex Wc Hc Sc ps' sC hac hit' hlen
              have := wlk.stops Wc Hc gg
              rw [hlen] at this
              exact .inl ⟨this, out Wc Hc σc gc eC fC sC lC oC⟩
            · cases hf
          · cases hf
      · cases he
    · split at he
      · rename_i ps hps
        refine .inl ⟨W, ρ, S, gf, rs, rs, ps, S1, hs, hl, h1, rfl, hps, fun W1 H1 e1 s1 J GG wlk wf gg => ?_⟩
        have leafs : ∀ r ∈ rs, ∃ p, r.o = .leaf p := by
          simp only [evM] at h1
          split at h1
          · cases h1
            intro r hr
            obtain ⟨p, _, rfl⟩ := List.mem_map.mp hr
            exact ⟨p, rfl⟩
          · cases h1
        have wf := wf leafs
        refine ⟨fun i m σ Hc => ∃ (Wc : Wd) (ρc : Env) (Sc : AS) (gc : Nat → List Addr), m = ps.length - i ∧ i ≤ ps.length ∧ Sto X.kx Wc Hc Sc ∧ Slo X.kx Wc Hc σ ρc gc ∧ Ext W0 H0 S0 Wc Hc Sc ∧ Own H0 ρc gc ∧ GG Wc Hc ∧ Frm W H Wc Hc ∧ forL ff (ps.drop i) ρc Sc = some fl, ⟨ps.length, W1, ρ, S1, gf, rfl, Nat.zero_le _, s1, hl.ext e1 hs, e0.trans e1, ow, gg, e1.frm hs, he⟩, ?_⟩
        rintro i m σc Hc ⟨Wc, ρc, Sc, gc, rfl, hil, sC, lC, eC, oC, gC, fC, hf⟩
        rcases Nat.lt_or_ge i ps.length with hlt | hge
        · refine .inr ⟨wlk.goes i Wc Hc hlt gC, fun σ' H' => ∃ (W' : Wd) (ρ' : Env) (S' : AS) (g' : Nat → List Addr), Sto X.kx W' H' S' ∧ Slo X.kx W' H' σ' ρ' g' ∧ Ext W0 H0 S0 W' H' S' ∧ Own H0 ρ' g' ∧ GG W' H' ∧ Frm W H W' H' ∧ forL ff (ps.drop (i + 1)) ρ' S' = some fl,
            fun σ' H' ⟨W', ρ', S', g', a1, a2, a3, a4, a5, a6, a7⟩ => ⟨ps.length - (i + 1), by omega, W', ρ', S', g', rfl, hlt, a1, a2, a3, a4, a5, a6, a7⟩, fun xv H2 hy => ?_⟩
          obtain ⟨W2, p, hp, e2, s2, rp, k2⟩ := wlk.yields i Wc Hc Sc xv H2 hlt gC sC hy
          have hdrop : ps.drop i = p :: ps.drop (i + 1) := by
            rw [List.drop_eq_getElem_cons hlt]
            rw [List.getElem?_eq_getElem hlt] at hp
            cases hp; rfl
          rw [hdrop] at hf
          simp only [forL] at hf
          exact body (W1 := W1) (H1 := H1) (rest := fun ρ' S' => forL ff (ps.drop (i + 1)) ρ' S') sC lC eC oC fC e2 s2 rp hf fun W5 H5 σ5 g5 ρ4 S4 e5 f5 s5 l5 o5 fH fC' _ h4 => ⟨W5, ρ4, S4, g5, s5, l5, e5, o5, wf _ _ _ _ _ gC fC' s5, fH, h4⟩
        · have hi' : i = ps.length := Nat.le_antisymm hil hge
          subst hi'
          rw [List.drop_length] at hf
          simp only [forL] at hf
          cases hf
          exact .inl ⟨wlk.stops Wc Hc gC, out Wc Hc σc gc eC fC sC lC oC⟩
      · cases he
  · cases he
theorem st_while (GS : GoodS g C k N sc X) {c : Expr} {q : Pos} {body : List Stmt} {z : E} {b : List St} (hc : cE g N n sc c = some z) (ht : okT z = true) (hb : PSs X body (TvL X.kx C b)) : PS X (.While c body [] q) (TvS X.kx C (.while z b)) := by
  refine ps_imp (ps_while GS.pass ((snd g C k N n).pt sc X c z GS.G hc ht) hb) fun D σ H q => ?_
  obtain ⟨W0, H0, S0, W, ρ, S, gf, fl, hs, hl, e0, ow, he, out⟩ := q
  simp only [exS] at he
  refine ⟨fun m σ Hc => ∃ (Wc : Wd) (ρc : Env) (Sc : AS) (gc : Nat → List Addr), Sto X.kx Wc Hc Sc ∧ Slo X.kx Wc Hc σ ρc gc ∧ Ext W0 H0 S0 Wc Hc Sc ∧ Own H0 ρc gc ∧ Frm W H Wc Hc ∧ whileL (evE C z) (exL C b) m ρc Sc = some fl, ⟨FUEL, W, ρ, S, gf, hs, hl, e0, ow, Frm.refl, he⟩, ?_⟩
  rintro m σc Hc ⟨Wc, ρc, Sc, gc, sC, lC, eC, oC, fC, hf⟩
  cases m with
  | zero => simp only [whileL] at hf; cases hf
  | succ m =>
    simp only [whileL] at hf
    split at hf
    · rename_i x S1 h1
      split at hf
      · rename_i hbl
        refine ⟨Wc, ρc, Sc, gc, x, true, S1, sC, lC, h1, hbl, fun W1 H1 e1 s1 => ?_⟩
        refine iteT ?_
        refine ⟨fun σ' H' => ∃ (W' : Wd) (ρ' : Env) (S' : AS) (g' : Nat → List Addr), Sto X.kx W' H' S' ∧ Slo X.kx W' H' σ' ρ' g' ∧ Ext W0 H0 S0 W' H' S' ∧ Own H0 ρ' g' ∧ Frm W H W' H' ∧ whileL (evE C z) (exL C b) m ρ' S' = some fl, fun σ' H' ⟨W', ρ', S', g', a⟩ => ⟨m, Nat.lt_succ_self m, W', ρ', S', g', a⟩, ?_⟩
        cases hx : exL C b ρc S1 with
        | none => rw [hx] at hf; cases hf
        | some f =>
          rw [hx] at hf
          have f1 := fC.trans (e1.frm sC)
          cases f with
          | nx ρ4 S4 =>
            simp only at hf
            exact ⟨W0, H0, S0, W1, ρc, S1, gc, _, s1, lC.ext e1 sC, eC.trans e1, oC, hx, fun W5 H5 σ5 g5 e5 f5 s5 l5 o5 => ⟨W5, ρ4, S4, g5, s5, l5, e5, o5, f1.trans f5, hf⟩⟩
          | rt r S4 =>
            simp only at hf
            cases hf
            exact ⟨W0, H0, S0, W1, ρc, S1, gc, _, s1, lC.ext e1 sC, eC.trans e1, oC, hx, out⟩
      · rename_i hbl
        cases hf
        refine ⟨Wc, ρc, Sc, gc, x, false, S1, sC, lC, h1, hbl, fun W1 H1 e1 s1 => ?_⟩
        refine iteF ?_
        exact out W1 H1 σc gc (eC.trans e1) (fC.trans (e1.frm sC)) s1 (lC.ext e1 sC) oC
      · cases hf
    · cases hf
end
end U

set_option Elab.async false
set_option linter.all false
set_option maxRecDepth 100000
namespace U
open PySem L2

theorem swap_two {X : Cx} {x y : Str} {px py pt pv : Pos} {kt kv : Nat} {a b : Expr} (hk : X.env.scope.kind = .function) (hx : X.env.scope.names.lookup x = some .local) (hy : X.env.scope.names.lookup y = some .local)
  (hpl : py.line = px.line) (hxy : x ≠ y) (hf : [a,b].all (foldedForSure 8) = false) (hc : [a,b].all (constantsAlone 8) = false)
  (n1 : ∀ v p, a ≠ .Starred v p) (n2 : ∀ v p, b ≠ .Starred v p) : swappedStores [.Tuple [.Name x px, .Name y py] kt pt] (.Tuple [a, b] kv pv) X.env = pure (some [x, y]) := by
  have hb : X.env.blockKind = .function := by unfold Env.blockKind; rw [hk]; rfl
  have hyx : (y == x) = false := by simp; exact fun e => hxy e.symm
  have hd : ([x, y] : List Str).eraseDups.length = 2 := by
    rw [List.eraseDups_cons]
    simp only [List.filter_cons, List.filter_nil, hyx, Bool.not_false, if_true]
    rw [List.eraseDups_cons]
    simp
  unfold swappedStores
  simp only [List.length_cons, List.length_nil, hb, hf, hc, List.any_cons, List.any_nil]
  rw [List.filterMap_cons]
  simp only [Env.kindOf, hx, Expr.pos, List.head?_cons, Option.map_some, Option.getD_some, BEq.rfl, Bool.and_self, if_true]
  rw [List.filterMap_cons]
  simp only [hy, hpl, BEq.rfl, Bool.and_self, if_true, List.filterMap_nil]
  rw [hd]
  cases a <;> (first | exact absurd rfl (n1 _ _) | (cases b <;> (first | exact absurd rfl (n2 _ _) | rfl)))
theorem swap_three {X : Cx} {x y z : Str} {px py pz pt pv : Pos} {kt kv : Nat} {a b c : Expr} (hk : X.env.scope.kind = .function) (hx : X.env.scope.names.lookup x = some .local) (hy : X.env.scope.names.lookup y = some .local) (hz : X.env.scope.names.lookup z = some .local)
  (hpl : py.line = px.line) (hpz : pz.line = px.line) (hxy : x ≠ y) (hxz : x ≠ z) (hyz : y ≠ z) (hf : [a,b,c].all (foldedForSure 8) = false) (hc : [a,b,c].all (constantsAlone 8) = false)
  (n1 : ∀ v p, a ≠ .Starred v p) (n2 : ∀ v p, b ≠ .Starred v p) (n3 : ∀ v p, c ≠ .Starred v p) : swappedStores [.Tuple [.Name x px, .Name y py, .Name z pz] kt pt] (.Tuple [a, b, c] kv pv) X.env = pure (some [x, y, z]) := by
  have hb : X.env.blockKind = .function := by unfold Env.blockKind; rw [hk]; rfl
  have hyx : (y == x) = false := by simp; exact fun e => hxy e.symm
  have hzx : (z == x) = false := by simp; exact fun e => hxz e.symm
  have hzy : (z == y) = false := by simp; exact fun e => hyz e.symm
  have hd : ([x, y, z] : List Str).eraseDups.length = 3 := by
    rw [List.eraseDups_cons]
    simp only [List.filter_cons, List.filter_nil, hyx, hzx, Bool.not_false, if_true]
    rw [List.eraseDups_cons]
    simp only [List.filter_cons, List.filter_nil, hzy, Bool.not_false, if_true]
    rw [List.eraseDups_cons]
    simp
  unfold swappedStores
  refine Eq.trans (if_neg (by simp [hb])) ?_
  refine Eq.trans (if_neg ?_) ?_
  · rw [List.any_eq_true]
    rintro ⟨e, he, h⟩
    split at h
    · simp only [List.mem_cons, List.not_mem_nil, or_false] at he
      rcases he with rfl | rfl | rfl
      · exact n1 _ _ rfl
      · exact n2 _ _ rfl
      · exact n3 _ _ rfl
    · cases h
  simp only [List.length_cons, List.length_nil, hf, hc]
  rw [List.filterMap_cons]
  simp only [Env.kindOf, hx, Expr.pos, List.head?_cons, Option.map_some, Option.getD_some, BEq.rfl, Bool.and_self, if_true]
  rw [List.filterMap_cons]
  simp only [hy, hpl, BEq.rfl, Bool.and_self, if_true]
  rw [List.filterMap_cons]
  simp only [hz, hpz, BEq.rfl, Bool.and_self, if_true, List.filterMap_nil]
  rw [hd]
  rfl
theorem swap_no {X : Cx} {ts vs : List Expr} {pt pv : Pos} {kt kv : Nat} (h : swpNo X.env.scope ts vs = true) : swappedStores [.Tuple ts kt pt] (.Tuple vs kv pv) X.env = pure none := by
  unfold swpNo at h
  unfold swappedStores
  simp only [Env.kindOf]
  split
  · rfl
  · split
    · rfl
    · dsimp only at h
      rw [Bool.or_eq_true] at h
      rcases h with h | h
      · exact if_pos h
      · exact (ite_congr rfl (fun _ => rfl) (fun _ => if_pos h)).trans (ite_self _)
section
variable {g : Gm} {C : Ctx} {k n : Nat} {N : List Str} {sc : Scope} {X : Cx}
theorem st_unp (GS : GoodS g C k N sc X) {ts : List Expr} {kt : Nat} {pt q : Pos} {e : Expr} {ts' : List Tg} {y : E} (ht : cTL (cTg N (isLoc sc) n) ts = some ts') (he : PE X e (TvE X.kx C y)) (hw : swappedStores [.Tuple ts kt pt] e X.env = pure none) :
    PS X (.Assign [.Tuple ts kt pt] e q) (TvS X.kx C (.unp ts' y)) := by
  have hs : swapsWithSole [.Tuple ts kt pt] e q.line X.env = pure false := by cases e <;> rfl
  have hg : cTg N (isLoc sc) (n + 1) (.Tuple ts kt pt) = some (.tp ts') := by simp only [cTg, ht, Option.map_some]
  refine ps_imp (ps_asg he (pg_of GS.G.calm GS.G.nd GS.G.N GS.own (n + 1) hg) hs hw rfl) fun D σ H q => ?_
  obtain ⟨W0, H0, S0, W, ρ, S, gf, fl, hs, hl, e0, ow, he, out⟩ := q
  simp only [exS] at he
  split at he
  · rename_i r S1 h1
    split at he
    · rename_i p hp
      obtain ⟨ρ', h2, rfl⟩ := Option.map_eq_some_iff.mp he
      refine ⟨W, ρ, S, gf, r, S1, hs, hl, h1, fun W1 H1 v e1 s1 rv => ?_⟩
      obtain ⟨fp, ho, _⟩ := rv
      rw [hp] at ho
      cases ho with
      | leaf h =>
        exact ⟨W1, ρ, S1, gf, p, ρ', s1, hl.ext e1 hs, h, h2, fun σ' gf' l' t' _ _ => out W1 H1 σ' gf' (e0.trans e1) (e1.frm hs) s1 l' (own_kept ow t')⟩
    · cases he
  · cases he
theorem pset_or {X : Cx} {t t' : TSet} (h : PSet X t) (h' : PSet X t') : PSet X (fun o i v H Q => t o i v H Q ∨ t' o i v H Q) := fun pins s σ H o i v ov iv u Q I ro ri rv q =>
  q.elim (h pins s σ H o i v ov iv u Q I ro ri rv) (h' pins s σ H o i v ov iv u Q I ro ri rv)
theorem st_put (GS : GoodS g C k N sc X) {a i e : Expr} {p q : Pos} {x y z : E} (hp : (plainIx i || isTup i) = true) (ha : cE g N n sc a = some x) (hi : cE g N n sc i = some y) (he : cE g N n sc e = some z) : PS X (.Assign [.Subscript a i p] e q) (TvS X.kx C (.put x y z)) := by
  have sn := snd g C k N n
  have hs : swapsWithSole [.Subscript a i p] e q.line X.env = pure false := by cases e <;> rfl
  have hw : swappedStores [.Subscript a i p] e X.env = pure none := by cases e <;> rfl
  refine ps_imp (ps_asg (sn.pe sc X e z GS.G he) (pg_sub (sn.pe sc X a x GS.G ha) (sn.pe sc X i y GS.G hi) (pset_or set_list (set_dh (by have := GS.G.room.un; omega))) (by intro v; cases i <;> first
    | rfl
    | (cases hp; done))) hs hw rfl) fun D σ H q => ?_
  obtain ⟨W0, H0, S0, W, ρ, S, gf, fl, hs, hl, e0, ow, he, out⟩ := q
  simp only [exS] at he
  split at he
  · rename_i r S1 h1
    split at he
    · rename_i p hk
      split at he
      · rename_i rx S2 h2
        split at he
        · rename_i kk hkk
          split at he
          · rename_i ry S3 h3
            split at he
            · rename_i yk o hj ho
              obtain ⟨o', h4, rfl⟩ := Option.map_eq_some_iff.mp he
              refine ⟨W, ρ, S, gf, r, S1, hs, hl, h1, fun W1 H1 v e1 s1 rv => ?_⟩
              obtain ⟨W1', e1', s1', rp, _⟩ := keep_use e1 s1 rv hk
              have l1 := hl.ext e1' hs
              refine ⟨W1', ρ, S1, gf, rx, S2, s1', l1, h2, fun W2 H2 u e2 s2 ru => ?_⟩
              have l2 := l1.ext e2 s1'
              refine ⟨W2, ρ, S2, gf, ry, S3, s2, l2, h3, fun W3 H3 w e3 s3 rw' => ?_⟩
              obtain ⟨W3', e3', s3', ryk, _⟩ := keep_use e3 s3 rw' hj
              have l3 := l2.ext e3' s2
              have hrx : rx.o = .leaf (.ref kk) := by
                unfold refOf at hkk
                split at hkk
                · rename_i hk2; cases hkk; exact hk2
                · cases hkk
              obtain ⟨a0, rfl, ro⟩ := rv_ref ru hrx
              have rp3 := (rp.mono (e2.frm s1')).mono (e3'.frm s2)
              have ro3 := e3'.th _ _ ro
              have ee := ((e0.trans e1').trans e2).trans e3'
              have ff := ((e1'.frm hs).trans (e2.frm s1')).trans (e3'.frm s2)
              unfold putO at h4
              split at h4
              · rename_i os jj
                obtain ⟨nn, g0, rfl⟩ := Option.map_eq_some_iff.mp h4
                cases ryk
                obtain ⟨vs, F', g1, g2, g3, g4, g5⟩ := put_lst s3' ho ro3 rp3 g0
                exact .inl ⟨a0, vs, _, nn, rfl, rfl, g1, g2, out _ _ σ gf (ee.trans g3) (ff.trans g4) g5 (l3.ext g3 s3') ow⟩
              · rename_i ep ks qs
                split at h4
                · rename_i key hkey
                  split at h4
                  · rename_i hz
                    cases h4
                    obtain ⟨es, F', g1, g2, g3, _, _, g4, g5, g6⟩ := put_dct s3' ho ro3 ryk hkey rp3
                    exact .inr ⟨a0, ep, es, key, rfl, g1, g2, rp_key ryk hkey, by rw [g3, sizeLine_eq]; exact hz, out _ _ σ gf (ee.trans g4) (ff.trans g5) g6 (l3.ext g4 s3') ow⟩
                  · cases h4
                · cases h4
              · cases h4
            · cases he
          · cases he
        · cases he
      · cases he
    · cases he
  · cases he
theorem st_appR (GS : GoodS g C k N sc X) {o a : Expr} {ap cp q : Pos} {x y : E} (hb : okBase2 o = true) (ho : cE g N n sc o = some x) (ha : cE g N n sc a = some y) (hline : (ap.endLine == cp.line) = true) :
    PS X (.Expr (.Call (.Attribute o ("append" : Str) ap) [a] [] cp) q) (TvS X.kx C (.appR x y)) := by
  have sn := snd g C k N n
  refine ps_imp (ps_expr (pe_bm PySem.F.plainAttrs_list PySem.F.slot_list_append PySem.F.type_list_append mt_append (sn.pe sc X o x GS.G ho) (pa_K sn GS.G (show cL (cE g N n sc) [a] = some [y] by simp [cL, ha])) (base2 hb _) (by rw [star_of ha]; rfl) hline (star_of ha _ _) rfl) rfl) fun D σ H q => ?_
  obtain ⟨W0, H0, S0, W, ρ, S, gf, fl, hs, hl, e0, ow, he, out⟩ := q
  simp only [exS] at he
  split at he
  · rename_i rx S1 h1
    split at he
    · rename_i j hj
      split at he
      · rename_i r S2 h2
        split at he
        · rename_i p os hk hos
          split at he
          · rename_i hz
            cases he
            obtain ⟨h3, os1, ho1⟩ := refL_of hj
            refine ⟨W, ρ, S, gf, rx, S1, hs, hl, h1, fun W1 H1 v e1 s1 rv => ?_⟩
            obtain ⟨c, rfl, hc⟩ := rv_ref rv h3
            obtain ⟨vs1, f1, g1, _, _⟩ := lst_at s1 ho1 hc
            have l1 := hl.ext e1 hs
            refine ⟨.inl ⟨rfl, vs1, SqL.of g1⟩, W1, ρ, S1, gf, [p], S2, s1, l1, by simp only [evK, h2, hk], fun W2 H2 us e2 s2 rps => ?_⟩
            obtain ⟨u, rfl, rp⟩ := rps_one rps
            obtain ⟨vs, F', k1, k2, k3, k4, k5⟩ := app_lst s2 hos (e2.th _ _ hc) rp
            exact ⟨c, vs, u, rfl, rfl, k1, by rw [k2, sizeLine_eq]; exact of_decide_eq_true hz, out _ _ σ gf ((e0.trans e1).trans (e2.trans k3)) ((e1.frm hs).trans ((e2.frm s1).trans k4)) k5 ((l1.ext e2 s1).ext k3 s2) ow⟩
          · cases he
        · cases he
      · cases he
    · cases he
  · cases he
theorem st_app (GS : GoodS g C k N sc X) {x : Str} {p0 ap cp q : Pos} {a : Expr} {i : Nat} {y : E} (hn : okName x = true) (hx : isLoc sc x = true) (hi : idx N x 0 = some i) (ha : cE g N n sc a = some y) (hline : (ap.endLine == cp.line) = true) :
    PS X (.Expr (.Call (.Attribute (.Name x p0) ("append" : Str) ap) [a] [] cp) q) (TvS X.kx C (.app i y)) := by
  obtain ⟨l1, l2⟩ := loc_of GS hx
  obtain ⟨n1, n2⟩ := name_of hn
  have sn := snd g C k N n
  have pv := pe_var (X := X) (pos := p0) (i := i) (by rw [GS.G.N]; exact idx_at hi) (l1.elim .inl fun z => .inr (.inl z)) n1 n2
  refine ps_imp (ps_expr (pe_bm PySem.F.plainAttrs_list PySem.F.slot_list_append PySem.F.type_list_append mt_append pv (pa_K sn GS.G (show cL (cE g N n sc) [a] = some [y] by simp [cL, ha])) rfl (by rw [star_of ha]; rfl) hline (star_of ha _ _) rfl) rfl) fun D σ H q => ?_
  obtain ⟨W0, H0, S0, W, ρ, S, gf, fl, hs, hl, e0, ow, he, out⟩ := q
  simp only [exS] at he
  split at he
  · rename_i r S1 h1
    split at he
    · rename_i p hk
      split at he
      · rename_i os hro
        split at he
        · rename_i hz
          cases he
          have hz := of_decide_eq_true hz
          obtain ⟨v, h2, h3, h4⟩ := hl.at_ i _ hro
          refine ⟨v, h2, ?_⟩
          cases hgi : gf i with
          | nil => rw [hgi] at h3; cases h3
          | cons b fp =>
          rw [hgi] at h3
          cases h3 with
          | lst hb hits =>
          rename_i vs
          refine ⟨.inl ⟨rfl, vs, SqL.of hb⟩, ?_⟩
          refine ⟨W, ρ, S, gf, [p], S1, hs, hl, by simp only [evK, h1, hk], fun W1 H1 us e1 s1 rps => ?_⟩
          obtain ⟨u, hu⟩ : ∃ u, us = [u] := by
            cases rps with
            | cons a b => cases b; exact ⟨_, rfl⟩
          subst hu
          have rp : RP X.kx W1 H1 u p := by
            cases rps with
            | cons a b => exact a
          have l1 := hl.ext e1 hs
          have hsf := l1.sf i _ hro
          obtain ⟨hnd, hnz⟩ := l1.own i _ hro rfl
          have hdj := fun j r' hr' hne => l1.dj i j _ r' hro hr' rfl hne
          obtain ⟨v', h2', h3', _⟩ := l1.at_ i _ hro
          rw [h2] at h2'
          cases h2'
          have howi := ow i _ hro rfl
          rw [hgi] at h3' hsf hnd hnz hdj howi
          cases h3' with
          | lst hb' hits' =>
          rename_i vs'
          have hD : H0 b = none := howi b List.mem_cons_self
          have hbz : ¬ W1.Z b := hnz b List.mem_cons_self
          have hbf : b ∉ W1.SF := hsf b List.mem_cons_self
          have fu : Frm W1 H1 W1 (upd H1 b (.lst (vs' ++ [u]))) := frm_upd s1 hbz
          refine ⟨b, vs', u, rfl, rfl, hb', by rw [ros_length hits', sizeLine_eq]; exact hz, ?_⟩
          have hil : i < ρ.length := (List.getElem?_eq_some_iff.mp hro).1
          have nb : ∀ c ∈ fp, c ≠ b := fun c hc e => (List.nodup_cons.mp hnd).1 (e ▸ hc)
          refine out W1 _ σ gf (ext_upd (e0.trans e1) hD hb') ((e1.frm hs).trans fu) (sto_upd s1 hbz hbf) ?_ ?_
          · have key : ∀ (j : Nat) (r' : R), (ρ.set i (some ⟨.lst (os ++ [.leaf p]), .own⟩))[j]? = some (some r') → j ≠ i → ρ[j]? = some (some r') := fun j r' h hne => by
              rwa [List.getElem?_set_ne (Ne.symm hne)] at h
            have old : ∀ (j : Nat) (r' : R), (ρ.set i (some ⟨.lst (os ++ [.leaf p]), .own⟩))[j]? = some (some r') → ∃ r2 : R, ρ[j]? = some (some r2) ∧ (r'.s = .own → r2.s = .own) := fun j r' h => by
              by_cases e : j = i
              · exact ⟨_, e ▸ hro, fun _ => rfl⟩
              · exact ⟨r', key j r' h e, id⟩
            refine ⟨by rw [List.length_set]; exact l1.len, fun j r' hr' => ?_, fun j r' hr' a ha => ?_, fun j r' hr' ho => ?_, fun j m r' r2 hr' hr2 ho hne a ha hm => ?_⟩
            · by_cases e : j = i
              · subst e
                rw [List.getElem?_set_self hil] at hr'
                cases hr'
                refine ⟨_, h2, ?_, (fun z => nomatch z)⟩
                rw [hgi]
                exact .lst upd_same ((ros_app hits' rp).mono fu fun c hc o ho => by rw [upd_ne (nb c hc)]; exact ho)
              · have hr0 := key j r' hr' e
                obtain ⟨w, w1, w2, w3⟩ := l1.at_ j r' hr0
                refine ⟨w, w1, w2.mono fu fun c hc o ho => ?_, w3⟩
                have : c ≠ b := fun z => hdj j r' hr0 (Ne.symm e) b List.mem_cons_self (z ▸ hc)
                rw [upd_ne this]; exact ho
            · obtain ⟨r2, q1, _⟩ := old j r' hr'
              exact l1.sf j r2 q1 a ha
            · obtain ⟨r2, q1, q2⟩ := old j r' hr'
              exact l1.own j r2 q1 (q2 ho)
            · obtain ⟨r3, q1, q2⟩ := old j r' hr'
              obtain ⟨r4, q3, _⟩ := old m r2 hr2
              exact l1.dj j m r3 r4 q1 q3 (q2 ho) hne a ha hm
          · intro j r' hr' ho a ha
            by_cases e : j = i
            · subst e
              rw [hgi] at ha
              exact howi a ha
            · rw [List.getElem?_set_ne (Ne.symm e)] at hr'
              exact ow j r' hr' ho a ha
        · cases he
      · cases he
    · cases he
  · cases he
theorem st_par (GS : GoodS g C k N sc X) {x y : Str} {px py pt pv q : Pos} {kt kv : Nat} {a b : Expr} {i j : Nat} {ys : List E} (hw : swp2 sc x y px py a b = true) (hi : idx N x 0 = some i) (hj : idx N y 0 = some j) (hij : i ≠ j) (he : cL (cE g N n sc) [a, b] = some ys) :
    PS X (.Assign [.Tuple [.Name x px, .Name y py] kt pt] (.Tuple [a, b] kv pv) q) (TvS X.kx C (.par [i, j] ys)) := by
  unfold swp2 at hw
  simp only [Bool.and_eq_true, decide_eq_true_eq, Bool.not_eq_true'] at hw
  obtain ⟨⟨⟨⟨⟨⟨⟨hk, hx⟩, hy⟩, _⟩, hpl⟩, hxy⟩, hf⟩, hc⟩ := hw
  have sn := snd g C k N n
  have ns := nostar he q X.env
  obtain ⟨a', as, h1, h2, rfl⟩ := cL_cons he
  obtain ⟨b', as', h3, h4, rfl⟩ := cL_cons h2
  cases h4
  rw [← GS.G.sc] at hx hy hk
  have nstar : ∀ {e : Expr} {ie : E}, cE g N n sc e = some ie → ∀ v p, e ≠ .Starred v p := fun {e ie} h v p z => by
    subst z
    cases n with
    | zero => cases h
    | succ n => simp only [cE] at h; cases h
  have hsw : swappedStores [.Tuple [.Name x px, .Name y py] kt pt] (.Tuple [a, b] kv pv) X.env = pure (some [x, y]) := swap_two hk hx hy (by simpa using hpl) hxy hf hc (nstar h1) (nstar h3)
  refine ps_imp (ps_par GS.G.calm GS.G.nd (by rw [GS.G.N]; exact idx_at hi) (by rw [GS.G.N]; exact idx_at hj) hij hx hy (pa_K sn GS.G he) hsw rfl) fun D σ H q => ?_
  obtain ⟨W0, H0, S0, W, ρ, S, gf, fl, hs, hl, e0, ow, he, out⟩ := q
  simp only [exS] at he
  split at he
  · rename_i ps S1 h5
    obtain ⟨ρ', h6, rfl⟩ := Option.map_eq_some_iff.mp he
    refine ⟨W, ρ, S, gf, ps, S1, hs, hl, h5, fun W1 H1 vs e1 s1 rps => ?_⟩
    match ps, vs, rps, h6 with
    | [], _, .nil, h6 => cases h6
    | [p], _, .cons _ .nil, h6 =>
      simp only [List.map_cons, List.map_nil, setAll] at h6
      split at h6 <;> cases h6
    | [p, p2], [v, w], .cons r1 (.cons r2 .nil), h6 =>
      simp only [List.map_cons, List.map_nil, setAll] at h6
      split at h6
      · rename_i ρ1 h7
        split at h6
        · rename_i ρ2 h8
          cases h6
          refine ⟨v, w, rfl, ?_⟩
          have l1 := hl.ext e1 hs
          obtain ⟨g1, l2, o2⟩ := slo_hold (H := H1) (H0 := H0) l1 (slo_trk l1) s1 (rv_p r1) (fun a => (e0.trans e1).back) ow h7
          obtain ⟨g2, l3, o3⟩ := slo_hold (H := H1) (H0 := H0) l2 (slo_trk l2) s1 (rv_p r2) (fun a => (e0.trans e1).back) o2 h8
          exact out W1 H1 _ g2 (e0.trans e1) (e1.frm hs) s1 l3 o3
        · cases h6
      · cases h6
    | p :: p2 :: p3 :: ps, _, .cons _ (.cons _ (.cons _ _)), h6 =>
      simp only [List.map_cons, setAll] at h6
      split at h6
      · split at h6 <;> cases h6
      · cases h6
  · cases he
theorem st_par3 (GS : GoodS g C k N sc X) {x y z : Str} {px py pz pt pv q : Pos} {kt kv : Nat} {a b c : Expr} {i j l : Nat} {ys : List E} (hw : swp3 sc x y z px py pz a b c = true) (hi : idx N x 0 = some i) (hj : idx N y 0 = some j) (hl : idx N z 0 = some l) (hij : i ≠ j) (hil : i ≠ l) (hjl : j ≠ l) (he : cL (cE g N n sc) [a, b, c] = some ys) :
    PS X (.Assign [.Tuple [.Name x px, .Name y py, .Name z pz] kt pt] (.Tuple [a, b, c] kv pv) q) (TvS X.kx C (.par [i, j, l] ys)) := by
  unfold swp3 at hw
  simp only [Bool.and_eq_true, decide_eq_true_eq, Bool.not_eq_true'] at hw
  obtain ⟨⟨⟨⟨⟨⟨⟨⟨⟨⟨hk, hx⟩, hy⟩, hz⟩, hpl⟩, hpz⟩, hxy⟩, hxz⟩, hyz⟩, hf⟩, hc⟩ := hw
  have sn := snd g C k N n
  obtain ⟨a', as, h1, h2, rfl⟩ := cL_cons he
  obtain ⟨b', as', h3, h4, rfl⟩ := cL_cons h2
  obtain ⟨c', as'', h5, h6, rfl⟩ := cL_cons h4
  cases h6
  rw [← GS.G.sc] at hx hy hz hk
  have nstar : ∀ {e : Expr} {ie : E}, cE g N n sc e = some ie → ∀ v p, e ≠ .Starred v p := fun {e ie} h v p z => by
    subst z
    cases n with
    | zero => cases h
    | succ n => simp only [cE] at h; cases h
  have hsw : swappedStores [.Tuple [.Name x px, .Name y py, .Name z pz] kt pt] (.Tuple [a, b, c] kv pv) X.env = pure (some [x, y, z]) := swap_three hk hx hy hz (by simpa using hpl) (by simpa using hpz) hxy hxz hyz hf hc (nstar h1) (nstar h3) (nstar h5)
  refine ps_imp (ps_par3 GS.G.calm GS.G.nd (by rw [GS.G.N]; exact idx_at hi) (by rw [GS.G.N]; exact idx_at hj) (by rw [GS.G.N]; exact idx_at hl) hij hil hjl hx hy hz (pa_K sn GS.G he) hsw rfl) fun D σ H q => ?_
  obtain ⟨W0, H0, S0, W, ρ, S, gf, fl, hs, hl, e0, ow, he, out⟩ := q
  simp only [exS] at he
  split at he
  · rename_i ps S1 h5
    obtain ⟨ρ', h6, rfl⟩ := Option.map_eq_some_iff.mp he
    refine ⟨W, ρ, S, gf, ps, S1, hs, hl, h5, fun W1 H1 vs e1 s1 rps => ?_⟩
    match ps, vs, rps, h6 with
    | [], _, .nil, h6 => cases h6
    | [p], _, .cons _ .nil, h6 =>
      simp only [List.map_cons, List.map_nil, setAll] at h6
      split at h6 <;> cases h6
    | [p, p2], _, .cons _ (.cons _ .nil), h6 =>
      simp only [List.map_cons, List.map_nil, setAll] at h6
      split at h6
      · split at h6 <;> cases h6
      · cases h6
    | [p, p2, p3], [u, v, w], .cons r1 (.cons r2 (.cons r3 .nil)), h6 =>
      simp only [List.map_cons, List.map_nil, setAll] at h6
      split at h6
      · rename_i ρ1 h7
        split at h6
        · rename_i ρ2 h8
          split at h6
          · rename_i ρ3 h9
            cases h6
            refine ⟨u, v, w, rfl, ?_⟩
            have l1 := hl.ext e1 hs
            obtain ⟨g1, l2, o2⟩ := slo_hold (H := H1) (H0 := H0) l1 (slo_trk l1) s1 (rv_p r1) (fun a => (e0.trans e1).back) ow h7
            obtain ⟨g2, l3, o3⟩ := slo_hold (H := H1) (H0 := H0) l2 (slo_trk l2) s1 (rv_p r2) (fun a => (e0.trans e1).back) o2 h8
            obtain ⟨g3, l4, o4⟩ := slo_hold (H := H1) (H0 := H0) l3 (slo_trk l3) s1 (rv_p r3) (fun a => (e0.trans e1).back) o3 h9
            exact out W1 H1 _ g3 (e0.trans e1) (e1.frm hs) s1 l4 o4
          · cases h6
        · cases h6
      · cases h6
    | p :: p2 :: p3 :: p4 :: ps, _, .cons _ (.cons _ (.cons _ (.cons _ _))), h6 =>
      simp only [List.map_cons, setAll] at h6
      split at h6
      · split at h6
        · split at h6 <;> cases h6
        · cases h6
      · cases h6
  · cases he
theorem cIx_some {x : Str} {i : Nat} (h : cIx N sc x = some i) : isLoc sc x = true ∧ idx N x 0 = some i := by
  unfold cIx at h
  split at h
  · exact ⟨by assumption, h⟩
  · cases h
theorem locNm_some {e : Expr} {x : Str} (h : locNm sc e = some x) : ∃ p, e = .Name x p ∧ okName x = true ∧ isLoc sc x = true := by
  unfold locNm at h
  split at h
  · split at h
    · rename_i hc
      cases h
      rw [Bool.and_eq_true] at hc
      exact ⟨_, rfl, hc.1, hc.2⟩
    · cases h
  · cases h
theorem swpNo_ok (GS : GoodS g C k N sc X) {ts es : List Expr} {kt kv : Nat} {pt pv q : Pos} {st : St} (h : (if swpNo sc ts es && decide (ts.length = es.length) then match cTL (cTg N (isLoc sc) n) ts, cL (cE g N n sc) es with
          | some ts', some ys => some (St.unp ts' (.tup ys))
          | _, _ => none
        else none) = some st) : PS X (.Assign [.Tuple ts kt pt] (.Tuple es kv pv) q) (TvS X.kx C st) := by
  split at h
  · rename_i hc
    rw [Bool.and_eq_true] at hc
    split at h
    · rename_i ts' ys h1 h2
      cases h
      exact st_unp GS h1 (case_tup (snd g C k N n) GS.G h2) (swap_no (by rw [GS.G.sc]; exact hc.1))
    · cases h
  · cases h
theorem sndS (GS : GoodS g C k N sc X) : ∀ m : Nat, (∀ (s : Stmt) (st : St), cS g N n sc m s = some st → PS X s (TvS X.kx C st)) ∧ (∀ (ss : List Stmt) (sts : List St), cSs g N n sc m ss = some sts → PSs X ss (TvL X.kx C sts))
  | 0 => ⟨fun s st h => (by simp only [cS] at h; cases h), fun ss sts h => (by simp only [cSs] at h; cases h)⟩
  | m + 1 => by
    obtain ⟨ihs, ihl⟩ := sndS GS m
    refine ⟨fun s st h => ?_, fun ss sts h => ?_⟩
    · cases s with
      | Expr e q =>
        have gen : (if isLC e then none else (cE g N n sc e).map St.expr) = some st → PS X (.Expr e q) (TvS X.kx C st) := fun h => by
          split at h
          · cases h
          · rename_i hc
            obtain ⟨y, h1, rfl⟩ := Option.map_eq_some_iff.mp h
            exact st_expr GS (by simpa using hc) h1
        have gen2 : isLC e = false → (cE g N n sc e).map St.expr = some st → PS X (.Expr e q) (TvS X.kx C st) := fun hc h => by
          obtain ⟨y, h1, rfl⟩ := Option.map_eq_some_iff.mp h
          exact st_expr GS hc h1
        simp only [cS] at h
        split at h
        · rename_i o mm ap a cp
          split at h
          · rename_i hm
            rw [Bool.and_eq_true, decide_eq_true_eq] at hm
            obtain ⟨rfl, hline⟩ := hm
            split at h
            · split at h
              · rename_i hbs
                split at h
                · rename_i x y h1 h2
                  cases h
                  exact st_appR GS hbs h1 h2 hline
                · cases h
              · cases h
            split at h
            · rename_i x hx
              obtain ⟨p, rfl, h1, h2⟩ := locNm_some hx
              split at h
              · rename_i i y h3 h4
                cases h
                exact st_app GS h1 h2 h3 h4 hline
              · cases h
            · cases h
          · exact gen2 rfl h
        · exact gen h
      | Assign tgs e q =>
        cases tgs with
        | nil => simp only [cS] at h; cases h
        | cons tg r =>
        cases r with
        | cons _ _ => cases tg <;> (simp only [cS] at h; cases h)
        | nil =>
        cases tg with
        | Name x p =>
          simp only [cS] at h
          split at h
          · rename_i i y h1 h2
            split at h
            · rename_i hk
              cases h
              obtain ⟨h3, h4⟩ := cIx_some h1
              exact st_set GS (of_decide_eq_true hk) h3 h4 h2
            · cases h
          · cases h
        | Tuple ts kt pt =>
          cases e with
          | Tuple es kv pv =>
            simp only [cS] at h
            split at h
            · rename_i x px y py a b
              split at h
              · rename_i hw
                split at h
                · rename_i i j ys h1 h2 h3
                  split at h
                  · rename_i hij
                    cases h
                    obtain ⟨_, h4⟩ := cIx_some h1
                    obtain ⟨_, h5⟩ := cIx_some h2
                    exact st_par GS hw h4 h5 hij h3
                  · cases h
                · cases h
              · exact swpNo_ok GS h
            · rename_i x px y py z pz a b c
              split at h
              · rename_i hw
                split at h
                · rename_i i j l ys h1 h2 h3 h4
                  split at h
                  · rename_i hij
                    cases h
                    obtain ⟨_, h5⟩ := cIx_some h1
                    obtain ⟨_, h6⟩ := cIx_some h2
                    obtain ⟨_, h7⟩ := cIx_some h3
                    exact st_par3 GS hw h5 h6 h7 hij.1 hij.2.1 hij.2.2 h4
                  · cases h
                · cases h
              · exact swpNo_ok GS h
            · exact swpNo_ok GS h
          | _ =>
            simp only [cS] at h
            split at h
            · rename_i ts' y h1 h2
              cases h
              exact st_unp GS h1 ((snd g C k N n).pe sc X _ y GS.G h2) rfl
            · cases h
        | Subscript a i p =>
          simp only [cS] at h
          split at h
          · rename_i hp
            split at h
            · rename_i x y z h1 h2 h3
              cases h
              exact st_put GS hp h1 h2 h3
            · cases h
          · cases h
        | _ => simp only [cS] at h; cases h
      | Return v q =>
        cases v with
        | none =>
          simp only [cS] at h
          cases h
          exact st_retN
        | some e =>
          simp only [cS] at h
          split at h
          · rename_i x hx
            obtain ⟨p, rfl, h1, h2⟩ := locNm_some hx
            obtain ⟨i, h3, rfl⟩ := Option.map_eq_some_iff.mp h
            exact st_retV GS h1 h2 h3
          · obtain ⟨y, h1, rfl⟩ := Option.map_eq_some_iff.mp h
            exact st_ret GS h1
      | If c a b q =>
        simp only [cS] at h
        split at h
        · rename_i z x y h1 h2 h3
          split at h
          · rename_i ht
            cases h
            exact st_if GS h1 ht (ihl a x h2) (ihl b y h3)
          · cases h
        · cases h
      | For tg it body els q =>
        cases els with
        | cons _ _ => simp only [cS] at h; cases h
        | nil =>
          simp only [cS] at h
          split at h
          · rename_i kk src t b h1 h2 h3
            cases h
            exact st_for GS h1 h2 (ihl body b h3)
          · cases h
      | While c body els q =>
        cases els with
        | cons _ _ => simp only [cS] at h; cases h
        | nil =>
          simp only [cS] at h
          split at h
          · rename_i z b h1 h2
            split at h
            · rename_i ht
              cases h
              exact st_while GS h1 ht (ihl body b h2)
            · cases h
          · cases h
      | Raise a b q =>
        simp only [cS] at h
        cases h
        exact st_never
      | _ => simp only [cS] at h; cases h
    · cases ss with
      | nil =>
        simp only [cSs] at h
        cases h
        exact st_nil
      | cons s ss =>
        simp only [cSs] at h
        split at h
        · rename_i a as h1 h2
          cases h
          exact st_cons (ihs s a h1) (ihl ss as h2)
        · cases h
end
end U

set_option Elab.async false
set_option linter.all false
set_option maxRecDepth 100000
namespace U
open PySem L2

/-- a def of the text: its name, statement, parameters, names -/
structure Fd where
  x : Str
  st : Stmt
  ps : List Str
  N : List Str
/-- a def is the small language's def -/
def okDef (g : Gm) (G : Prg) (i : Nat) (d : Fd) : Bool := match G.defs[i]? with
  | none => false
  | some e => decide (e.np = d.ps.length) && decide (e.ns = d.N.length) && scC' d.N d.ps (defScope d.st)
where scC' (N P : List Str) (sc : Scope) : Bool :=
  decide (sc.kind = .function) && !sc.isCoroutine && !sc.isGenerator && decide N.Nodup && decide (N.take P.length = P) && P.all (fun x => decide (sc.names.lookup x = some .local) || decide (sc.names.lookup x = some .cell)) && sc.names.all (fun y => !decide (y.2 = .free))
theorem scope_by {N P : List Str} {sc : Scope} (h : okDef.scC' N P sc = true) : FnScope N P sc := by
  unfold okDef.scC' at h
  simp only [Bool.and_eq_true, Bool.not_eq_true', decide_eq_true_eq, List.all_eq_true, Bool.or_eq_true, decide_eq_false_iff_not] at h
  obtain ⟨⟨⟨⟨⟨⟨h1, h2⟩, h3⟩, h4⟩, h5⟩, h6⟩, h7⟩ := h
  exact ⟨h1, h2, h3, h4, h5, h6, h7⟩
/-- the module's facts at a run -/
structure Facts (g : Gm) (G : Prg) (fs : List Fd) (K : KX) (mg : Str → Option Value) : Prop where
  fn : ∀ (i : Nat) (d : Fd), fs[i]? = some d → ∃ (fa : Addr) (fd : FuncData), mg d.x = some (.ref fa) ∧ FunD K.K d.x d.x (defArgs d.st) (defBody d.st) (defScope d.st) [] [] fa fd ∧ Binds K.K fd d.ps []
  names : ∀ (x : Str) (i : Nat), g.fns.lookup x = some i → ∃ d, fs[i]? = some d ∧ d.x = x
  glb : ∀ (x : Str) (j : Nat), g.glb.lookup x = some j → ∃ (p : P) (u : Value) (v : V), G.glb[j]? = some p ∧ mg x = some u ∧ RelV v u ∧ GlbOk K v p
  fr : ∀ x ∈ g.fr, mg x = none
abbrev ctx (G : Prg) (k : Nat) : Ctx := ⟨callF G k, G.glb⟩
theorem callF_len {G : Prg} {k f : Nat} {args : List R} {S : AS} {z : R × AS} {d : Def} (hd : G.defs[f]? = some d) (h : callF G k f args S = some z) : args.length = d.np := by
  cases k with
  | zero => cases h
  | succ k =>
    simp only [callF, hd] at h
    split at h
    · assumption
    · cases h
theorem start_slo {K : KX} {W : Wd} {H : Hp} : ∀ {vs : List V} {args : List R}, Paired (fun v r => RV K H W H v r ∧ r.s = .stb) vs args → ∃ gf : Nat → List Addr, ∀ (i : Nat) (r : R), args[i]? = some r → ∃ v, vs[i]? = some v ∧ RO K W H v r.o (gf i) ∧ r.s = .stb ∧ ∀ a ∈ gf i, a ∉ W.SF
  | _, _, .nil => ⟨fun _ => [], fun i r h => by cases h⟩
  | _, _, .cons ⟨⟨fp, h1, h2⟩, h3⟩ hs => by
    obtain ⟨gf, hg⟩ := start_slo hs
    refine ⟨fun i => match i with
      | 0 => fp
      | i + 1 => gf i, fun i r h => ?_⟩
    cases i with
    | zero =>
      cases h
      rw [h3] at h2
      exact ⟨_, rfl, h1, h3, h2⟩
    | succ i =>
      have h : _ = some r := h
      rw [List.getElem?_cons_succ] at h
      obtain ⟨v, q⟩ := hg i r h
      exact ⟨v, by rw [List.getElem?_cons_succ]; exact q.1, q.2⟩
theorem paired_length {α β : Type} {R' : α → β → Prop} : ∀ {vs : List α} {us : List β}, Paired R' vs us → vs.length = us.length
  | _, _, .nil => rfl
  | _, _, .cons _ h => by rw [List.length_cons, List.length_cons, paired_length h]
theorem repl_none {n i : Nat} {r : R} (h : (List.replicate n (none : Option R))[i]? = some (some r)) : False := by
  rw [List.getElem?_replicate] at h
  split at h <;> cases h
section
variable {P' : Program} {K : KX} {mg : Str → Option Value} {base : Heap} {g : Gm} {G : Prg} {fs : List Fd} {n m : Nat}
/-- every def keeps its promise, at every depth -/
theorem all_ok (F : Facts g G fs K mg) (hc : ∀ (i : Nat) (d : Fd), fs[i]? = some d → okDef g G i d = true) (hb : ∀ (i : Nat) (d : Fd) (e : Def), fs[i]? = some d → G.defs[i]? = some e → cSs g d.N n (defScope d.st) m (defBody d.st) = some e.body) :
    ∀ (k i : Nat) (d : Fd) (fa : Addr) (fd : FuncData), fs[i]? = some d → FunD K.K d.x d.x (defArgs d.st) (defBody d.st) (defScope d.st) [] [] fa fd → FnOk P' K.w K.K mg base CX0 k fa fd d.ps (spF K (ctx G k) i d.ps.length)
  | 0, i, d, fa, fd, hd, FD => ⟨fun vs H Q E h => h.1, fun A outer s H args us vs Q E hr he hbd hv h => by
      obtain ⟨_, W, S, ar, r, S', _, _, hcall, _⟩ := h
      cases hcall⟩
  | k + 1, i, d, fa, fd, hd, FD => by
    have ih := all_ok F hc hb k
    have hok := hc i d hd
    unfold okDef at hok
    cases he : G.defs[i]? with
    | none => rw [he] at hok; cases hok
    | some e =>
    rw [he] at hok
    simp only [Bool.and_eq_true, decide_eq_true_eq] at hok
    obtain ⟨⟨e1, e2⟩, e3⟩ := hok
    have S0 := scope_by e3
    refine FD.ok S0 (fun vs H Q E h => h.1) (fun cdv A outer s H vs Q E hr h => ⟨TvL K (ctx G k) e.body, PSs.nox ?_, ?_⟩)
    · have GD : Good g (ctx G k) k d.N (defScope d.st) (cxOf CX0 P' K.w K.K mg base d.N d.x (defScope d.st) fa cdv A outer s H E).nox := by
        refine ⟨rfl, rfl, S0.nd, rfl, hr, fun x f hx => ?_, F.glb, F.fr⟩
        obtain ⟨d', h1, h2⟩ := F.names x f hx
        obtain ⟨fa', fd', h3, h4, h5⟩ := F.fn f d' h1
        refine ⟨fa', fd', d'.ps, h2 ▸ h3, h4.kp, h5, ih f d' fa' fd' h1 h4, fun args S z hz => ?_⟩
        have hok' := hc f d' h1
        unfold okDef at hok'
        cases he' : G.defs[f]? with
        | none => rw [he'] at hok'; cases hok'
        | some e' =>
        rw [he'] at hok'
        simp only [Bool.and_eq_true, decide_eq_true_eq] at hok'
        rw [callF_len he' hz, hok'.1.1]
      refine (sndS (n := n) ⟨GD, fun x hx => ⟨?_, .inl rfl⟩, PassesOwn.never⟩ m).2 _ _ (hb i d e hd he)
      unfold isLoc at hx
      split at hx
      · exact .inl (by assumption)
      · exact .inr (by assumption)
      · cases hx
    · obtain ⟨hl, W, S, args, r, S', hs, hp, hcall, q⟩ := h
      simp only [callF, he] at hcall
      split at hcall
      · rename_i hnp
        have hlv := paired_length hp
        obtain ⟨gf, hg⟩ := start_slo hp
        have key : ∀ (j : Nat) (r : R), (args.map some ++ List.replicate (e.ns - e.np) none)[j]? = some (some r) → args[j]? = some r ∧ j < args.length := fun j r hj => by
          rcases Nat.lt_or_ge j args.length with hlt | hge
          · rw [List.getElem?_append_left (by rw [List.length_map]; exact hlt), List.getElem?_map] at hj
            obtain ⟨r', h1, h2⟩ := Option.map_eq_some_iff.mp hj
            cases h2
            exact ⟨h1, hlt⟩
          · rw [List.getElem?_append_right (by rw [List.length_map]; exact hge)] at hj
            exact (repl_none hj).elim
        have hN : d.ps.length ≤ d.N.length := by
          have := congrArg List.length S0.pre
          rw [List.length_take] at this
          omega
        have slo : Slo K W H (L2.start d.N vs) (args.map some ++ List.replicate (e.ns - e.np) none) gf := by
          refine ⟨?_, fun j r hj => ?_, fun j r hj a ha => ?_, fun j r hj ho => ?_, fun j m' r r' hj hj' ho => ?_⟩
          · unfold L2.start
            rw [List.length_append, List.length_append, List.length_map, List.length_map, List.length_replicate, List.length_replicate]
            omega
          · obtain ⟨h1, h2⟩ := key j r hj
            obtain ⟨v, h3, h4, h5, h6⟩ := hg j r h1
            refine ⟨v, ?_, h4, by rw [h5]; exact (fun z => nomatch z)⟩
            unfold L2.start
            rw [List.getElem?_append_left (by rw [List.length_map, hlv]; exact h2), List.getElem?_map, h3]
            rfl
          · obtain ⟨h1, h2⟩ := key j r hj
            obtain ⟨v, h3, h4, h5, h6⟩ := hg j r h1
            exact h6 a ha
          · obtain ⟨h1, h2⟩ := key j r hj
            obtain ⟨v, h3, h4, h5, h6⟩ := hg j r h1
            rw [h5] at ho; cases ho
          · obtain ⟨h1, h2⟩ := key j r hj
            obtain ⟨v, h3, h4, h5, h6⟩ := hg j r h1
            rw [h5] at ho; cases ho
        have noown : Own H (args.map some ++ List.replicate (e.ns - e.np) none) gf := fun j r hj ho => by
          obtain ⟨h1, h2⟩ := key j r hj
          obtain ⟨v, h3, h4, h5, h6⟩ := hg j r h1
          rw [h5] at ho; cases ho
        split at hcall
        · rename_i ρ' S1 hx
          cases hcall
          exact ⟨W, H, S, W, _, S, gf, _, hs, slo, Ext.refl, noown, hx, fun W' H' σ' gf' a1 _ a3 _ _ => q W' H' .non a1 a3 (rv_p .non)⟩
        · rename_i r1 S1 hx
          cases hcall
          exact ⟨W, H, S, W, _, S, gf, _, hs, slo, Ext.refl, noown, hx, fun W' H' v a1 a3 rv => q W' H' v a1 a3 rv⟩
        · cases hcall
      · cases hcall
end
end U

set_option Elab.async false
set_option linter.all false
set_option maxRecDepth 100000
namespace U
open PySem L2

mutual
def cstB (K : PySem.W.Frag) : P → Value → Bool
  | .non, .none => true
  | .bl b, .bool c => b == c
  | .int i, .int j _ => decide (i = j)
  | .str x, .str y _ => decide (y = ⟨x.toArray⟩)
  | .tup ps, .ref a => match K.lookup a with
    | some ⟨.type c, none, .seq its _, _⟩ => decide (c = "tuple") && (decide (its.size ≤ sizeLine) && cstBs K ps its.toList)
    | _ => false
  | _, _ => false
def cstBs (K : PySem.W.Frag) : List P → List Value → Bool
  | [], [] => true
  | p :: ps, u :: us => cstB K p u && cstBs K ps us
  | _, _ => false
end
mutual
theorem cstB_ok {K : PySem.W.Frag} {w : World} : ∀ {p : P} {u : Value}, cstB K p u = true → ∃ v, RelV v u ∧ GlbOk ⟨K, w⟩ v p
  | .non, .none, _ => ⟨.non, rfl, fun _ _ => .non, fun _ z => by cases z⟩
  | .bl b, .bool c, h => by
    have e : b = c := by simpa [cstB] using h
    exact ⟨.bl b, by rw [e]; rfl, fun _ _ => .bl b, fun _ z => by cases z⟩
  | .int i, .int j t, h => by
    have e : i = j := by simpa [cstB] using h
    exact ⟨.int i, ⟨t, by rw [e]⟩, fun _ _ => .int i, fun _ z => by cases z⟩
  | .str x, .str y t, h => by
    have e : y = ⟨x.toArray⟩ := by simpa [cstB] using h
    exact ⟨.str ⟨x.toArray⟩, ⟨t, by rw [e]⟩, fun _ _ => .str x, fun _ z => by cases z⟩
  | .tup ps, .ref a, h => by
    simp only [cstB] at h
    split at h
    · rename_i c its n osl hl
      rw [Bool.and_eq_true, Bool.and_eq_true, decide_eq_true_eq, decide_eq_true_eq] at h
      obtain ⟨h1, h2, h3⟩ := h
      obtain ⟨vs, h4, h5⟩ := cstBs_ok h3
      have wr : WrT ⟨K, w⟩ a vs := ⟨_, its, n, hl, by rw [h1], rfl, rfl, h2, h4⟩
      exact ⟨.ref a, rfl, fun W H => .tup (.inr wr) (h5 W H), fun qs z => by cases z; exact ⟨a, vs, rfl, wr, h5⟩⟩
    · cases h
theorem cstBs_ok {K : PySem.W.Frag} {w : World} : ∀ {ps : List P} {us : List Value}, cstBs K ps us = true → ∃ vs, Vals vs us ∧ ∀ W H, RPs ⟨K, w⟩ W H vs ps
  | [], [], _ => ⟨[], .nil, fun _ _ => .nil⟩
  | p :: ps, u :: us, h => by
    simp only [cstBs, Bool.and_eq_true] at h
    obtain ⟨v, h1, h2⟩ := cstB_ok h.1
    obtain ⟨vs, h3, h4⟩ := cstBs_ok h.2
    exact ⟨v :: vs, .cons h1 h3, fun W H => .cons (h2.1 W H) (h4 W H)⟩
end
/-- a module's constants -/
def glsB (K : PySem.W.Frag) (gl : List (Str × P)) : Bool := gl.all fun q => match PySem.W.nsIn K mainGlobals q.1 with
  | some (some u) => cstB K q.2 u
  | _ => false
theorem glsB_ok {K : PySem.W.Frag} {w : World} {gl : List (Str × P)} (h : glsB K gl = true) {x : Str} {p : P} (hm : (x, p) ∈ gl) : ∃ u v, PySem.W.nsIn K mainGlobals x = some (some u) ∧ RelV v u ∧ GlbOk ⟨K, w⟩ v p := by
  have h1 := List.all_eq_true.mp h _ hm
  simp only at h1
  split at h1
  · rename_i u hu
    obtain ⟨v, h2, h3⟩ := cstB_ok h1
    exact ⟨u, v, hu, h2, h3⟩
  · cases h1
abbrev AlU : Type := He.AlD × Bool
def obsU (fa : List He.Fa) (fn : List He.DefD) (gl : List (Str × P)) (K : PySem.W.Frag) : AlU := (He.obsD fa fn K, glsB K gl)
def SaysU (fa : List He.Fa) (fn : List He.DefD) (gl : List (Str × P)) (K : PySem.W.Frag) : Prop := obsU fa fn gl K = (He.valD fn, true)
def obsUG (n : Nat) (fa : List He.Fa) (fn : List He.DefD) (gl : List (Str × P)) (g : Addr → Option Obj) : AlU := obsU fa fn gl (He.frG g (He.asD g n))
def hookU (n : Nat) (fa : List He.Fa) (fn : List He.DefD) (gl : List (Str × P)) : PySem.W.Hook where
  α := AlU
  obs := fun s => obsUG n fa fn gl s.heap.get?
  val := fun _ => (He.valD fn, true)
  says := fun _ h => ∃ K : PySem.W.Frag, K.In h ∧ SaysU fa fn gl K
  of := fun _ _ e => ⟨_, He.frG_in, e⟩
  keeps := fun _ _ _ ⟨K, hK, c⟩ k => ⟨K, PySem.W.Frag.In.keeps hK k, c⟩
theorem obsUG_eq {n : Nat} {fa : List He.Fa} {fn : List He.DefD} {gl : List (Str × P)} {g : Addr → Option Obj} {s : Shared} (h : ∀ a, g a = s.heap.get? a) : obsUG n fa fn gl g = (hookU n fa fn gl).obs s := by
  have e : g = s.heap.get? := funext h
  rw [e] <;> rfl
theorem SaysU.d {fa : List He.Fa} {fn : List He.DefD} {gl : List (Str × P)} {K : PySem.W.Frag} (c : SaysU fa fn gl K) : He.SaysD fa fn K := congrArg Prod.fst c
theorem SaysU.g {fa : List He.Fa} {fn : List He.DefD} {gl : List (Str × P)} {K : PySem.W.Frag} (c : SaysU fa fn gl K) : glsB K gl = true := congrArg Prod.snd c

def Fd.d (d : Fd) : He.DefD := ⟨(d.x, none), d.x, d.x, defArgs d.st, defBody d.st, defScope d.st, [], []⟩
/-- the parameters, plain -/
def plainArgs (ps : List Str) : Arguments → Bool
  | ⟨[], as, none, [], [], none, []⟩ => decide (as.map (·.arg) = ps)
  | _ => false
def numb : List Str → Nat → List (Str × Nat)
  | [], _ => []
  | x :: xs, i => (x, i) :: numb xs (i + 1)
theorem numb_get : ∀ {xs : List Str} {x : Str} {i j : Nat}, (numb xs j).lookup x = some i → j ≤ i ∧ xs[i - j]? = some x
  | [], _, _, _, h => by cases h
  | y :: ys, x, i, j, h => by
    unfold numb at h
    rw [List.lookup_cons] at h
    split at h
    · rename_i e
      cases h
      have e : x = y := by simpa using e
      exact ⟨Nat.le_refl _, by rw [Nat.sub_self, e]; rfl⟩
    · obtain ⟨h1, h2⟩ := numb_get h
      refine ⟨by omega, ?_⟩
      have e : i - j = (i - (j + 1)) + 1 := by omega
      rw [e, List.getElem?_cons_succ]
      exact h2
def gmOf (fs : List Fd) (gl : List (Str × P)) (fr : List Str) (nw ar : List Nat) : Gm := ⟨numb (fs.map (·.x)) 0, numb (gl.map (·.1)) 0, fr, nw, ar⟩
def faOf (fs : List Fd) (fr : List Str) : List He.Fa := fs.map (fun d => He.Fa.glo d.x) ++ fr.map He.Fa.free
theorem facts_of {P' : Program} {w : World} {K : PySem.W.Frag} {h : Heap} {mg : Str → Option Value} {G : Prg} {fs : List Fd} {gl : List (Str × P)} {fr : List Str} {nw ar : List Nat} (hgl : G.glb = gl.map (·.2)) (X : K.In h) (N : h.Ns mainGlobals mg) (c : SaysU (faOf fs fr) (fs.map Fd.d) gl K)
    (hb : ∀ (i : Nat) (d : Fd), fs[i]? = some d → ∀ (kV doc pm : Value) (an : Option Addr) (cdv ct : Value) (us : List Value), us.length = d.ps.length → bindArgs (PySem.W.fnOf d.x d.x (defArgs d.st) (defBody d.st) (defScope d.st) .none kV doc pm an cdv ct) ⟨us, []⟩ = pure (d.ps.zip us)) :
    Facts (gmOf fs gl fr nw ar) G fs ⟨K, w⟩ mg where
  fn := fun i d hd => by
    obtain ⟨fd, F⟩ := c.d.def_ i (d := d.d) (by rw [List.getElem?_map, hd]; rfl)
    have hf : (faOf fs fr)[i]? = some (He.Fa.glo d.x) := by
      unfold faOf
      rw [List.getElem?_append_left (by rw [List.length_map]; exact (List.getElem?_eq_some_iff.mp hd).1), List.getElem?_map, hd]
      rfl
    exact ⟨_, fd, He.glo_ok X N (c.d.fact i hf), F, F.bindsN (hb i d hd)⟩
  names := fun x i hx => by
    obtain ⟨_, h2⟩ := numb_get hx
    rw [Nat.sub_zero, List.getElem?_map] at h2
    obtain ⟨d, h3, h4⟩ := Option.map_eq_some_iff.mp h2
    exact ⟨d, h3, h4⟩
  glb := fun x j hx => by
    obtain ⟨_, h2⟩ := numb_get hx
    rw [Nat.sub_zero, List.getElem?_map] at h2
    obtain ⟨⟨y, p⟩, h3, h4⟩ := Option.map_eq_some_iff.mp h2
    have h4 : y = x := h4
    subst h4
    obtain ⟨u, v, h5, h6, h7⟩ := glsB_ok c.g (List.mem_of_getElem? h3)
    exact ⟨p, u, v, by rw [hgl, List.getElem?_map, h3]; rfl, PySem.W.mg_of X N h5, h6, h7⟩
  fr := fun x hx => by
    have hx : x ∈ fr := hx
    obtain ⟨i, hi⟩ := List.mem_iff_getElem?.mp hx
    have hf : (faOf fs fr)[fs.length + i]? = some (He.Fa.free x) := by
      unfold faOf
      rw [List.getElem?_append_right (by rw [List.length_map]; omega), List.length_map, List.getElem?_map, Nat.add_sub_cancel_left, hi]
      rfl
    exact He.free_ok X N (c.d.fact _ hf)
/-- what a law's def is to promise -/
def spLaw (K : PySem.W.Frag) : Sp := fun vs H Q _ => ∃ (a : Addr) (ns : List Int), vs = [.ref a] ∧ SqL K H a (ns.map V.int) ∧ ∀ H', Q (.bl true) H'
/-- all row checks -/
def rowOk (g : Gm) (G : Prg) (n m : Nat) (fs : List Fd) : Bool := (List.range fs.length).all fun i => match fs[i]? with
  | some d => okDef g G i d && plainArgs d.ps (defArgs d.st)
  | none => false
end U

set_option Elab.async false
set_option linter.all false
set_option maxRecDepth 100000
namespace U
open PySem L2

def BD (d : Fd) : Prop := ∀ (kV doc pm : Value) (an : Option Addr) (cdv ct : Value) (us : List Value), us.length = d.ps.length → bindArgs (PySem.W.fnOf d.x d.x (defArgs d.st) (defBody d.st) (defScope d.st) .none kV doc pm an cdv ct) ⟨us, []⟩ = pure (d.ps.zip us)
def BDs : List Fd → Prop
  | [] => True
  | d :: ds => BD d ∧ BDs ds
theorem BDs.get : ∀ {fs : List Fd}, BDs fs → ∀ (i : Nat) (d : Fd), fs[i]? = some d → BD d
  | [], _, i, d, h => by cases h
  | e :: fs, ⟨h1, h2⟩, 0, d, h => by cases h; exact h1
  | e :: fs, ⟨h1, h2⟩, i + 1, d, h => BDs.get h2 i d (by simpa using h)
def okDefs (g : Gm) (G : Prg) : List Fd → Nat → Bool
  | [], _ => true
  | d :: ds, i => okDef g G i d && okDefs g G ds (i + 1)
theorem okDefs_get {g : Gm} {G : Prg} : ∀ {fs : List Fd} {j : Nat}, okDefs g G fs j = true → ∀ (i : Nat) (d : Fd), fs[i]? = some d → okDef g G (j + i) d = true
  | [], _, _, i, d, h => by cases h
  | e :: fs, j, hk, 0, d, h => by
    cases h
    simp only [okDefs, Bool.and_eq_true] at hk
    exact hk.1
  | e :: fs, j, hk, i + 1, d, h => by
    simp only [okDefs, Bool.and_eq_true] at hk
    have := okDefs_get hk.2 i d (by simpa using h)
    rwa [show j + 1 + i = j + (i + 1) from by omega] at this
theorem maps_get {α β γ : Type} {f : α → Option γ} {h : β → γ} {xs : List α} {ys : List β} (e : xs.map f = ys.map fun y => some (h y)) (i : Nat) (x : α) (y : β) (hx : xs[i]? = some x) (hy : ys[i]? = some y) : f x = some (h y) := by
  have e2 : (xs.map f)[i]? = (ys.map fun y => some (h y))[i]? := by rw [e]
  rw [List.getElem?_map, List.getElem?_map, hx, hy] at e2
  exact Option.some.inj e2
def spLawN (mx : Nat) (K : PySem.W.Frag) : Sp := fun vs H Q _ => ∃ (a : Addr) (ns : List Int), vs = [.ref a] ∧ ns.length ≤ mx ∧ SqL K H a (ns.map V.int) ∧ ∀ H', Q (.bl true) H'
theorem law_sp {K : PySem.W.Frag} {w : World} {G : Prg} {k i mx : Nat} (plain : ∀ ns : List Int, ns.length ≤ mx → ∃ S', callF G k i [R.p (.scr ns)] ⟨[], false⟩ = some (R.p (.bl true), S')) :
    ∀ vs H Q E, spLawN mx K vs H Q E → spF ⟨K, w⟩ (ctx G k) i 1 vs H Q E := by
  rintro vs H Q E ⟨a, ns, rfl, hl, hS, hQ⟩
  obtain ⟨S', hc⟩ := plain ns hl
  refine ⟨rfl, ⟨fun b => b = a ∧ ∃ o, H b = some o, [], []⟩, ⟨[], false⟩, [R.p (.scr ns)], _, S', ⟨rfl, rfl, fun j o h => (by cases h), List.nodup_nil, fun b hb => (by cases hb), fun b hb => hb.2⟩, .cons ⟨rv_p (.scr ?_), rfl⟩ .nil, hc, fun W' H' v e s rv => ?_⟩
  · rcases hS with h | h
    · refine .inl ⟨⟨rfl, ?_⟩, h⟩
      rcases h with h | ⟨o, h⟩
      · exact ⟨_, h⟩
      · exact ⟨_, h⟩
    · exact .inr h
  · rw [rv_bl rv (b := true) rfl]
    exact hQ H'
/-- a law's end: the program's facts, the checks, what the small language computes -/
theorem law_end {P' : Program} {w : World} {K : PySem.W.Frag} {h : Heap} {mg : Str → Option Value} {f : Addr} {G : Prg} {fs : List Fd} {gl : List (Str × P)} {fr : List Str} {nw ar : List Nat} {n m k i mx : Nat} {x : Str} {st : Stmt} {N : List Str}
    (hd : fs[i]? = some ⟨"law", st, [x], N⟩) (hgl : G.glb = gl.map (·.2)) (hb : BDs fs) (hok : okDefs (gmOf fs gl fr nw ar) G fs 0 = true) (hcp : fs.map (fun d => cSs (gmOf fs gl fr nw ar) d.N n (defScope d.st) m (defBody d.st)) = G.defs.map fun e => some e.body)
    (plain : ∀ ns : List Int, ns.length ≤ mx → ∃ S', callF G k i [R.p (.scr ns)] ⟨[], false⟩ = some (R.p (.bl true), S'))
    (X : K.In h) (Ns : h.Ns mainGlobals mg) (hfa : mg ("law" : Str) = some (.ref f)) (c : SaysU (faOf fs fr) (fs.map Fd.d) gl K) :
    ∃ fd : FuncData, (∀ (s : Shared) (v : Value), BindsTo s fd ⟨[v], []⟩ [(x, v)]) ∧ ∀ base : Heap, K.In base → base.Ns mainGlobals mg → FnOk P' w K mg base CX0 k f fd [x] (spLawN mx K) := by
  have F : Facts (gmOf fs gl fr nw ar) G fs ⟨K, w⟩ mg := facts_of (P' := P') (w := w) hgl X Ns c hb.get
  obtain ⟨fa, fd, h1, h2, h3⟩ := F.fn i _ hd
  have e : mg ("law" : Str) = some (.ref fa) := h1
  rw [hfa] at e
  cases e
  refine ⟨fd, fun s v => FunD.bindsA (ps := [x]) h2 (hb.get i _ hd) s [v] rfl, fun base _ _ => ?_⟩
  exact (all_ok (P' := P') (base := base) F (fun j d hj => by have := okDefs_get hok j d hj; rwa [Nat.zero_add] at this) (fun j d e hj he => maps_get hcp j d e hj he) k i _ f fd hd h2).imp (law_sp plain)
end U

set_option Elab.async false
set_option linter.all false
set_option maxRecDepth 100000
namespace U
open PySem

def W {α : Type} (m : Option (α × AS)) (Q : α → AS → Prop) : Prop := ∃ a S, m = some (a, S) ∧ Q a S
def WO {α : Type} (m : Option α) (Q : α → Prop) : Prop := ∃ a, m = some a ∧ Q a
section
variable {α β : Type} {C : Ctx} {ρ : Env} {S S' : AS} {Q : R → AS → Prop}
theorem W.of {m : Option (α × AS)} {Q : α → AS → Prop} {a : α} (h : m = some (a, S)) (q : Q a S) : W m Q := ⟨a, S, h, q⟩
theorem W.mono {m : Option (α × AS)} {Q Q' : α → AS → Prop} (h : W m Q) (q : ∀ a S, Q a S → Q' a S) : W m Q' := by
  obtain ⟨a, S, h1, h2⟩ := h
  exact ⟨a, S, h1, q a S h2⟩
theorem W_some {x : α × AS} {Q : α → AS → Prop} : W (some x) Q ↔ Q x.1 x.2 := by
  constructor
  · rintro ⟨b, T, h, q⟩
    cases h; exact q
  · exact fun q => ⟨x.1, x.2, rfl, q⟩
theorem W_none {Q : α → AS → Prop} : W none Q ↔ False := by
  constructor
  · rintro ⟨b, T, h, q⟩
    cases h
  · exact False.elim
theorem WO_some {a : α} {Q : α → Prop} : WO (some a) Q ↔ Q a := by
  constructor
  · rintro ⟨b, h, q⟩
    cases h; exact q
  · exact fun q => ⟨a, rfl, q⟩
theorem WO_none {Q : α → Prop} : WO none Q ↔ False := by
  constructor
  · rintro ⟨b, h, q⟩
    cases h
  · exact False.elim
theorem W_map {m : Option α} {f : α → β} {Q : β → AS → Prop} : W (m.map fun r => (f r, S)) Q ↔ WO m fun r => Q (f r) S := by
  cases m with
  | none => simp only [Option.map_none, W_none, WO_none]
  | some a => simp only [Option.map_some, W_some, WO_some]
theorem W_if {c : Prop} [Decidable c] {m : Option (α × AS)} {Q : α → AS → Prop} : W (if c then m else none) Q ↔ c ∧ W m Q := by
  by_cases h : c
  · simp [h]
  · simp [h, W_none]
theorem W_lit {p : P} : W (evE C (.lit p) ρ S) Q ↔ Q (R.p p) S := by simp only [evE, W_some]
theorem W_loc {i : Nat} : W (evE C (.loc i) ρ S) Q ↔ ∃ r, ρ[i]? = some (some r) ∧ Q ⟨r.o, .stb⟩ S := by
  simp only [evE]
  split
  · rename_i r h
    rw [W_some]
    constructor
    · exact fun q => ⟨r, h, q⟩
    · rintro ⟨r', h', q⟩
      rw [h] at h'
      cases h'; exact q
  · rename_i h
    rw [W_none]
    constructor
    · exact False.elim
    · rintro ⟨r, h', _⟩
      exact h r h'
theorem W_glb {g : Nat} : W (evE C (.glb g) ρ S) Q ↔ WO C.glb[g]? fun p => Q (R.p p) S := by
  simp only [evE]
  exact W_map
theorem W_tup {es : List E} : W (evE C (.tup es) ρ S) Q ↔ W (evK C es ρ S) fun ps S1 => sz ps.length = true ∧ Q (R.p (.tup ps)) S1 := by
  simp only [evE]
  cases evK C es ρ S with
  | none => simp only [W_none]
  | some x => simp only [W_some, W_if]
theorem W_lst {es : List E} : W (evE C (.lst es) ρ S) Q ↔ W (evK C es ρ S) fun ps S1 => sz ps.length = true ∧ Q (mkL ps) S1 := by
  simp only [evE]
  cases evK C es ρ S with
  | none => simp only [W_none]
  | some x => simp only [W_some, W_if]
theorem W_g0 {f : AS → Option (α × AS)} : guard false f S = f S := rfl
theorem W_bin {o : BOp} {a b : E} : W (evE C (.bin o a b) ρ S) Q ↔ W (evE C a ρ S) fun x S1 => W (guard (isVol x) (evE C b ρ) S1) fun y S2 => WO (binR o x y) fun r => Q r S2 := by
  simp only [evE]
  cases evE C a ρ S with
  | none => simp only [W_none]
  | some x =>
    simp only [W_some]
    cases guard (isVol x.1) (evE C b ρ) x.2 with
    | none => simp only [W_none]
    | some y => simp only [W_some]; exact W_map
theorem W_neg {a : E} : W (evE C (.neg a) ρ S) Q ↔ W (evE C a ρ S) fun x S1 => WO x.o.int? fun i => Q (R.p (.int (-i))) S1 := by
  simp only [evE]
  cases evE C a ρ S with
  | none => simp only [W_none]
  | some x => simp only [W_some]; exact W_map
theorem W_cmp {o : COp} {a b : E} : W (evE C (.cmp o a b) ρ S) Q ↔ W (evE C a ρ S) fun x S1 => W (guard (isVol x) (evE C b ρ) S1) fun y S2 => WO (cmpR o (peek S2 x) (peek S2 y)) fun r => Q (R.p (.bl r)) S2 := by
  simp only [evE]
  cases evE C a ρ S with
  | none => simp only [W_none]
  | some x =>
    simp only [W_some]
    cases guard (isVol x.1) (evE C b ρ) x.2 with
    | none => simp only [W_none]
    | some y => simp only [W_some]; exact W_map
theorem W_cmp2 {o o' : COp} {a b c : E} : W (evE C (.cmp2 o o' a b c) ρ S) Q ↔ W (evE C a ρ S) fun x S1 => W (guard (isVol x) (evE C b ρ) S1) fun y S2 => isVol y = false ∧ WO (cmpR o x y) fun t => if t = true then W (evE C c ρ S2) fun z S3 => WO (cmpR o' y z) fun r => Q (R.p (.bl r)) S3 else Q (R.p (.bl false)) S2 := by
  simp only [evE]
  cases evE C a ρ S with
  | none => simp only [W_none]
  | some x =>
    simp only [W_some]
    cases guard (isVol x.1) (evE C b ρ) x.2 with
    | none => simp only [W_none]
    | some y =>
      simp only [W_some]
      cases hv : isVol y.1 with
      | true => simp [W_none]
      | false =>
        simp only [Bool.false_eq_true, if_false, true_and]
        cases cmpR o x.1 y.1 with
        | none => simp only [W_none, WO_none]
        | some t =>
          cases t with
          | false => simp [WO_some, W_some]
          | true =>
            simp only [WO_some, if_true]
            cases evE C c ρ y.2 with
            | none => simp only [W_none]
            | some z => simp only [W_some]; exact W_map
theorem W_not {a : E} : W (evE C (.not a) ρ S) Q ↔ W (evE C a ρ S) fun x S1 => WO x.o.bl? fun b => Q (R.p (.bl (!b))) S1 := by
  simp only [evE]
  cases evE C a ρ S with
  | none => simp only [W_none]
  | some x => simp only [W_some]; exact W_map
theorem WO_bool {m : Option Bool} {Q : Bool → Prop} : WO m Q ↔ (m = some true ∧ Q true) ∨ (m = some false ∧ Q false) := by
  constructor
  · rintro ⟨b, h, q⟩
    cases b
    · exact .inr ⟨h, q⟩
    · exact .inl ⟨h, q⟩
  · rintro (⟨h, q⟩ | ⟨h, q⟩)
    · exact ⟨_, h, q⟩
    · exact ⟨_, h, q⟩
/-- a test's two ways -/
def B2 (m : Option Bool) (T F : Prop) : Prop := WO m fun b => if b = true then T else F
theorem B2_some {b : Bool} {T F : Prop} : B2 (some b) T F ↔ if b = true then T else F := by unfold B2; exact WO_some
theorem W_and1 {a : E} : W (evAnd C [a] ρ S) Q ↔ W (evE C a ρ S) Q := by simp only [evAnd]
theorem W_andc {a b : E} {es : List E} : W (evAnd C (a :: b :: es) ρ S) Q ↔ W (evE C a ρ S) fun x S1 => B2 x.o.bl? (W (evAnd C (b :: es) ρ S1) Q) (Q (R.p (.bl false)) S1) := by
  simp only [evAnd]
  cases evE C a ρ S with
  | none => simp only [W_none]
  | some x =>
    simp only [W_some]
    cases x.1.o.bl? with
    | none => simp only [W_none, B2, WO_none]
    | some c => cases c <;> simp [B2_some, W_some]
theorem W_and {es : List E} : W (evE C (.and es) ρ S) Q ↔ W (evAnd C es ρ S) Q := by simp only [evE]
theorem W_or1 {a : E} : W (evOr C [a] ρ S) Q ↔ W (evE C a ρ S) Q := by simp only [evOr]
theorem W_orc {a b : E} {es : List E} : W (evOr C (a :: b :: es) ρ S) Q ↔ W (evE C a ρ S) fun x S1 => B2 x.o.bl? (Q (R.p (.bl true)) S1) (W (evOr C (b :: es) ρ S1) Q) := by
  simp only [evOr]
  cases evE C a ρ S with
  | none => simp only [W_none]
  | some x =>
    simp only [W_some]
    cases x.1.o.bl? with
    | none => simp only [W_none, B2, WO_none]
    | some c => cases c <;> simp [B2_some, W_some]
theorem W_or {es : List E} : W (evE C (.or es) ρ S) Q ↔ W (evOr C es ρ S) Q := by simp only [evE]
theorem W_ite {c a b : E} : W (evE C (.ite c a b) ρ S) Q ↔ W (evE C c ρ S) fun x S1 => B2 x.o.bl? (W (evE C a ρ S1) Q) (W (evE C b ρ S1) Q) := by
  simp only [evE]
  cases evE C c ρ S with
  | none => simp only [W_none]
  | some x =>
    simp only [W_some]
    cases x.1.o.bl? with
    | none => simp only [W_none, B2, WO_none]
    | some c => cases c <;> simp [B2_some]
theorem W_call {f : Nat} {es : List E} : W (evE C (.call f es) ρ S) Q ↔ W (evA C es ρ S) fun as S1 => W (C.call f as S1) Q := by
  simp only [evE]
  cases evA C es ρ S with
  | none => simp only [W_none]
  | some x => simp only [W_some]
theorem W_blt {b : Blt} {es : List E} : W (evE C (.blt b es) ρ S) Q ↔ W (evR C es ρ S) fun rs S1 => WO (bltR b (rs.map (peek S1))) fun r => Q r S1 := by
  simp only [evE]
  cases evR C es ρ S with
  | none => simp only [W_none]
  | some x => simp only [W_some]; exact W_map
theorem W_isa {a : E} {ts : List String} : W (evE C (.isa a ts) ρ S) Q ↔ W (evE C a ρ S) fun x S1 => WO (isaO x.o ts) fun b => Q (R.p (.bl b)) S1 := by
  simp only [evE]
  cases evE C a ρ S with
  | none => simp only [W_none]
  | some x => simp only [W_some]; exact W_map
theorem W_sub {a i : E} : W (evE C (.sub a i) ρ S) Q ↔ W (evE C a ρ S) fun x S1 => W (guard (isVol x) (evE C i ρ) S1) fun y S2 => WO (subA (peek S2 x) y) fun r => Q r S2 := by
  simp only [evE]
  cases evE C a ρ S with
  | none => simp only [W_none]
  | some x =>
    simp only [W_some]
    cases guard (isVol x.1) (evE C i ρ) x.2 with
    | none => simp only [W_none]
    | some y => simp only [W_some]; exact W_map
theorem W_slc {a : E} {lo hi : Option E} : W (evE C (.slc a lo hi) ρ S) Q ↔ W (evE C a ρ S) fun x S1 => isVol x = false ∧ W (evO C lo ρ S1) fun l S2 => W (evO C hi ρ S2) fun h S3 => WO (slcR x l h) fun r => Q r S3 := by
  simp only [evE]
  cases evE C a ρ S with
  | none => simp only [W_none]
  | some x =>
    simp only [W_some]
    cases isVol x.1 with
    | true => simp [W_none]
    | false =>
      simp only [Bool.false_eq_true, if_false, true_and]
      cases evO C lo ρ x.2 with
      | none => simp only [W_none]
      | some l =>
        simp only [W_some]
        cases evO C hi ρ l.2 with
        | none => simp only [W_none]
        | some h => simp only [W_some]; exact W_map
theorem W_O0 {Q : Option Int → AS → Prop} : W (evO C none ρ S) Q ↔ Q none S := by simp only [evO, W_some]
theorem W_O1 {e : E} {Q : Option Int → AS → Prop} : W (evO C (some e) ρ S) Q ↔ W (evE C e ρ S) fun x S1 => WO x.o.int? fun i => Q (some i) S1 := by
  simp only [evO]
  cases evE C e ρ S with
  | none => simp only [W_none]
  | some x => simp only [W_some]; exact W_map
theorem W_rev {a : E} : W (evE C (.rev a) ρ S) Q ↔ W (evE C a ρ S) fun x S1 => WO (revR x) fun r => Q r S1 := by
  simp only [evE]
  cases evE C a ρ S with
  | none => simp only [W_none]
  | some x => simp only [W_some]; exact W_map
theorem W_new {a : E} : W (evE C (.new a) ρ S) Q ↔ W (evE C a ρ S) fun x S1 => W (newR x S1) Q := by
  simp only [evE]
  cases evE C a ρ S with
  | none => simp only [W_none]
  | some x => simp only [W_some]
theorem W_ntD {a : E} : W (evE C (.ntD a) ρ S) Q ↔ W (evE C a ρ S) fun x S1 => WO (match (peek S1 x).o with | .dct _ ks _ => some ks | _ => none) fun ks => Q (R.p (.bl (!ks.isEmpty))) S1 := by
  simp only [evE]
  cases evE C a ρ S with
  | none => simp only [W_none]
  | some x =>
    simp only [W_some]
    cases (peek x.2 x.1).o <;> simp only [W_none, WO_none, W_some, WO_some]
theorem W_newD {es : List E} : W (evE C (.newD es) ρ S) Q ↔ W (evK C es ρ S) fun ps S1 => WO (dMk ps (.dct 0 [] [])) fun o => Q (R.p (.ref S1.os.length)) ⟨S1.os ++ [o], true⟩ := by
  simp only [evE]
  cases evK C es ρ S with
  | none => simp only [W_none]
  | some x =>
    simp only [W_some]
    cases dMk x.1 (.dct 0 [] []) <;> simp only [Option.map, W_none, WO_none, W_some, WO_some]
/-- a dict of the store -/
def atD (S : AS) (j : Nat) : Option (Nat × List P × List P) := match S.os[j]? with
  | some (.dct ep ks vs) => some (ep, ks, vs)
  | _ => none
theorem W_dget {a : E} {es : List E} : W (evE C (.dget a es) ρ S) Q ↔ W (evE C a ρ S) fun x S1 => WO (refD S1 x) fun j => W (evK C es ρ S1) fun ps S2 => WO ps.head? fun p => WO (atD S2 j) fun d => WO p.key fun k => Q (R.p ((dGet d.2.1 d.2.2 k).getD (ps.tail.head?.getD .non))) S2 := by
  simp only [evE]
  cases evE C a ρ S with
  | none => simp only [W_none]
  | some x =>
    simp only [W_some]
    cases refD x.2 x.1 with
    | none => simp only [W_none, WO_none]
    | some j =>
      simp only [WO_some]
      cases evK C es ρ x.2 with
      | none => simp only [W_none]
      | some y =>
        obtain ⟨ps, S2⟩ := y
        simp only [W_some]
        cases ps with
        | nil => simp [W_none, WO_none]
        | cons p qs =>
          simp only [List.head?_cons, WO_some, List.tail_cons, atD]
          cases hj : S2.os[j]? with
          | none => simp only [W_none, WO_none]
          | some o =>
            cases o with
            | dct ep ks vs =>
              cases p.key with
              | none => simp only [W_none, WO_none, WO_some]
              | some k => simp only [W_some, WO_some]
            | _ => simp only [W_none, WO_none]
def pop2 : List P → Option (Int × P)
  | [.int i, q] => some (i, q)
  | _ => none
theorem W_dpop {a : E} {es : List E} : W (evE C (.dpop a es) ρ S) Q ↔ W (evE C a ρ S) fun x S1 => WO (refD S1 x) fun j => W (evK C es ρ S1) fun ps S2 => WO (pop2 ps) fun z => W (dPopR S2 j z.1 z.2) Q := by
  simp only [evE]
  cases evE C a ρ S with
  | none => simp only [W_none]
  | some x =>
    simp only [W_some]
    cases refD x.2 x.1 with
    | none => simp only [W_none, WO_none]
    | some j =>
      simp only [WO_some]
      cases evK C es ρ x.2 with
      | none => simp only [W_none]
      | some y =>
        obtain ⟨ps, S2⟩ := y
        simp only [W_some, pop2]
        split
        · rename_i h
          cases h
          simp only [WO_some]
        · rename_i h
          split
          · rename_i i q
            exact absurd rfl (h i q S2)
          · simp only [W_none, WO_none]
theorem W_ddef {a : E} {es : List E} : W (evE C (.ddef a es) ρ S) Q ↔ W (evE C a ρ S) fun x S1 => WO (refD S1 x) fun j => W (evK C es ρ S1) fun ps S2 => WO (pop2 ps) fun z => W (dDefR S2 j z.1 z.2) Q := by
  simp only [evE]
  cases evE C a ρ S with
  | none => simp only [W_none]
  | some x =>
    simp only [W_some]
    cases refD x.2 x.1 with
    | none => simp only [W_none, WO_none]
    | some j =>
      simp only [WO_some]
      cases evK C es ρ x.2 with
      | none => simp only [W_none]
      | some y =>
        obtain ⟨ps, S2⟩ := y
        simp only [W_some, pop2]
        split
        · rename_i h
          cases h
          simp only [WO_some]
        · rename_i h
          split
          · rename_i i q
            exact absurd rfl (h i q S2)
          · simp only [W_none, WO_none]
theorem W_lpop {a : E} {b : Bool} : W (evE C (.lpop a b) ρ S) Q ↔ W (evE C a ρ S) fun x S1 => WO (refL S1 x) fun j => W (lPopR S1 j b) Q := by
  simp only [evE]
  cases evE C a ρ S with
  | none => simp only [W_none]
  | some x =>
    simp only [W_some]
    cases refL x.2 x.1 with
    | none => simp only [W_none, WO_none]
    | some j => simp only [WO_some]
theorem W_dzip {ab : List E} {i : E} : W (evE C (.dzip ab i) ρ S) Q ↔ W (evR C ab ρ S) fun rs S1 => anyVol rs = false ∧ W (evE C i ρ S1) fun x S2 => WO (dzipR rs x) fun r => Q r S2 := by
  simp only [evE]
  cases evR C ab ρ S with
  | none => simp only [W_none]
  | some x =>
    simp only [W_some]
    cases anyVol x.1 with
    | true => simp [W_none]
    | false =>
      simp only [Bool.false_eq_true, if_false, true_and]
      cases evE C i ρ x.2 with
      | none => simp only [W_none]
      | some y => simp only [W_some]; exact W_map
theorem W_idxG {g : Nat} {e : E} : W (evE C (.idxG g e) ρ S) Q ↔ WO (match C.glb[g]? with | some (.tup ps) => some ps | _ => none) fun ps => W (evE C e ρ S) fun x S1 => WO (idxS ps x.o) fun r => Q r S1 := by
  have h0 : evE C (.idxG g e) ρ S = match C.glb[g]? with
    | some (.tup ps) => match evE C e ρ S with
      | some (x, S1) => (idxS ps x.o).map fun r => (r, S1)
      | none => none
    | _ => none := by (simp only [evE]; try rfl)
  rw [h0]
  cases C.glb[g]? with
  | none => simp only [W_none, WO_none]
  | some p =>
    cases p with
    | tup ps =>
      simp only [WO_some]
      cases evE C e ρ S with
      | none => simp only [W_none]
      | some x => simp only [W_some]; exact W_map
    | _ => simp only [W_none, WO_none]
theorem W_R0 {Q : List R → AS → Prop} : W (evR C [] ρ S) Q ↔ Q [] S := by simp only [evR, W_some]
theorem W_R1 {e : E} {es : List E} {Q : List R → AS → Prop} : W (evR C (e :: es) ρ S) Q ↔ W (evE C e ρ S) fun r S1 => W (guard (isVol r) (evR C es ρ) S1) fun rs S2 => Q (r :: rs) S2 := by
  simp only [evR]
  cases evE C e ρ S with
  | none => simp only [W_none]
  | some x =>
    simp only [W_some]
    cases guard (isVol x.1) (evR C es ρ) x.2 with
    | none => simp only [W_none]
    | some y => simp only [W_some]
theorem W_A0 {Q : List R → AS → Prop} : W (evA C [] ρ S) Q ↔ Q [] S := by simp only [evA, W_some]
theorem W_A1 {e : E} {es : List E} {Q : List R → AS → Prop} : W (evA C (e :: es) ρ S) Q ↔ W (evE C e ρ S) fun r S1 => WO (argR r) fun a => W (evA C es ρ S1) fun rs S2 => Q (a :: rs) S2 := by
  simp only [evA]
  cases evE C e ρ S with
  | none => simp only [W_none]
  | some x =>
    simp only [W_some]
    cases argR x.1 with
    | none => simp only [W_none, WO_none]
    | some a =>
      simp only [WO_some]
      cases evA C es ρ x.2 with
      | none => simp only [W_none]
      | some y => simp only [W_some]
theorem W_K0 {Q : List P → AS → Prop} : W (evK C [] ρ S) Q ↔ Q [] S := by simp only [evK, W_some]
theorem W_K1 {e : E} {es : List E} {Q : List P → AS → Prop} : W (evK C (e :: es) ρ S) Q ↔ W (evE C e ρ S) fun r S1 => WO r.keep fun p => W (evK C es ρ S1) fun ps S2 => Q (p :: ps) S2 := by
  simp only [evK]
  cases evE C e ρ S with
  | none => simp only [W_none]
  | some x =>
    simp only [W_some]
    cases x.1.keep with
    | none => simp only [W_none, WO_none]
    | some a =>
      simp only [WO_some]
      cases evK C es ρ x.2 with
      | none => simp only [W_none]
      | some y => simp only [W_some]
/-- one turn of a comprehension -/
def turnC (C : Ctx) (t : Tg) (ρ : Env) (cond : List E) (e : E) (p : P) (S : AS) (Q : Option P → AS → Prop) : Prop := WO (asg t p ρ) fun ρ' => W (evAnd1 C cond ρ' S) fun b S1 => if b = true then W (evE C e ρ' S1) fun r S2 => WO r.keep fun q => Q (some q) S2 else Q none S1
theorem W_And10 {Q : Bool → AS → Prop} : W (evAnd1 C [] ρ S) Q ↔ Q true S := by simp only [evAnd1, W_some]
theorem W_And11 {e : E} {es : List E} {Q : Bool → AS → Prop} : W (evAnd1 C (e :: es) ρ S) Q ↔ W (evE C e ρ S) fun x S1 => WO x.o.bl? fun b => Q b S1 := by
  simp only [evAnd1]
  cases evE C e ρ S with
  | none => simp only [W_none]
  | some x =>
    simp only [W_some]
    cases x.1.o.bl? with
    | none => simp only [Option.map_none, W_none, WO_none]
    | some b => simp only [Option.map_some, W_some, WO_some]
/-- the items in turn -/
def WC (C : Ctx) (t : Tg) (ρ : Env) (cond : List E) (e : E) : List P → AS → (List P → AS → Prop) → Prop
  | [], S, Q => Q [] S
  | p :: ps, S, Q => turnC C t ρ cond e p S fun o S1 => WC C t ρ cond e ps S1 fun qs S2 => Q (match o with
    | some q => q :: qs
    | none => qs) S2
theorem W_chk {z : Option (α × AS)} {Q : α → AS → Prop} : W (chk false z) Q ↔ W z Q := by
  unfold chk
  cases z with
  | none => simp only [W_none]
  | some x => simp
theorem W_compL {f : P → AS → Option (Option P × AS)} {t : Tg} {cond : List E} {e : E} (hf : ∀ p S Q, W (f p S) Q ↔ turnC C t ρ cond e p S Q) : ∀ (ps : List P) (S : AS) (Q : List P → AS → Prop), WC C t ρ cond e ps S Q → W (compL f ps S) Q
  | [], S, Q, h => by
    unfold WC at h
    unfold compL
    exact W_some.mpr h
  | p :: ps, S, Q, h => by
    unfold WC at h
    obtain ⟨o, S1, h1, h2⟩ := (hf p S _).mpr h
    obtain ⟨qs, S2, h3, h4⟩ := W_compL hf ps S1 _ h2
    unfold compL
    rw [h1]
    cases o with
    | none => exact ⟨qs, S2, h3, h4⟩
    | some q =>
      simp only
      rw [h3]
      exact ⟨q :: qs, S2, rfl, h4⟩
def compF (C : Ctx) (v : Bool) (t : Tg) (ρ : Env) (cond : List E) (e : E) : P → AS → Option (Option P × AS) := fun p S => chk v (match asg t p ρ with
          | some ρ' => match evAnd1 C cond ρ' S with
            | some (true, S') => match evE C e ρ' S' with
              | some (r, S2) => r.keep.map fun q => (some q, S2)
              | none => none
            | some (false, S') => some (none, S')
            | none => none
          | none => none)
theorem W_compF {t : Tg} {cond : List E} {e : E} (p : P) (S : AS) (Q : Option P → AS → Prop) : W (compF C false t ρ cond e p S) Q ↔ turnC C t ρ cond e p S Q := by
  unfold compF turnC
  rw [W_chk]
  cases asg t p ρ with
  | none => simp only [W_none, WO_none]
  | some ρ' =>
    simp only [WO_some]
    cases evAnd1 C cond ρ' S with
    | none => simp only [W_none]
    | some x =>
      obtain ⟨b, T⟩ := x
      cases b with
      | false => simp [W_some]
      | true =>
        simp only [W_some, if_true]
        cases evE C e ρ' T with
        | none => simp only [W_none]
        | some y =>
          simp only [W_some]
          cases y.1.keep with
          | none => simp only [Option.map_none, W_none, WO_none]
          | some q => simp only [Option.map_some, W_some, WO_some]
theorem W_comp {t : Tg} {vs : List Nat} {k : It} {src cond : List E} {e : E} (h : W (evR C src ρ S) (fun rs S1 => anyVol (rs.map (peek S1)) = false ∧ WO (itR k (rs.map (peek S1))) fun ps => WC C t (wipeE ρ vs) cond e ps S1 fun qs S2 => sz qs.length = true ∧ Q (mkL qs) S2)) : W (evE C (.comp t vs k src cond e) ρ S) Q := by
  obtain ⟨rs, S1, h1, hv, ps, h2, h3⟩ := h
  obtain ⟨qs, S2, h4, hz, q⟩ := W_compL W_compF ps S1 _ h3
  refine ⟨mkL qs, S2, ?_, q⟩
  unfold evE
  rw [h1]
  simp only
  rw [h2]
  simp only
  rw [hv]
  show (match compL (compF C false t (wipeE ρ vs) cond e) ps S1 with
    | some (qs, S2) => if sz qs.length = true then some (mkL qs, S2) else none
    | none => none) = _
  rw [h4]
  simp only [hz, if_true]
/-- a comprehension over what stands in the store: its turns leave the store as it is -/
theorem W_compV {t : Tg} {vs : List Nat} {k : It} {src cond : List E} {e : E} {f : P → Option P} (h : W (evR C src ρ S) (fun rs S1 => WO (itR k (rs.map (peek S1))) fun ps => (∀ p ∈ ps, ∀ Q' : Option P → AS → Prop, Q' (f p) ⟨S1.os, false⟩ → turnC C t (wipeE ρ vs) cond e p ⟨S1.os, false⟩ Q') ∧ anyVol (rs.map (peek S1)) = true ∧ sz (ps.filterMap f).length = true ∧ Q (mkL (ps.filterMap f)) S1)) : W (evE C (.comp t vs k src cond e) ρ S) Q := by
  obtain ⟨rs, S1, h1, ps, h2, hf, hv, hz, q⟩ := h
  refine ⟨mkL (ps.filterMap f), S1, ?_, q⟩
  have step : ∀ p ∈ ps, compF C true t (wipeE ρ vs) cond e p ⟨S1.os, false⟩ = some (f p, ⟨S1.os, false⟩) := fun p hp => by
    have h := hf p hp (fun o T => o = f p ∧ T = ⟨S1.os, false⟩) ⟨rfl, rfl⟩
    obtain ⟨o, T, e1, rfl, rfl⟩ := (W_compF p _ _).mpr h
    unfold compF at e1 ⊢
    simp only [chk, Bool.false_and, Bool.false_eq_true, if_false] at e1
    generalize (match asg t p (wipeE ρ vs) with
          | some ρ' => match evAnd1 C cond ρ' ⟨S1.os, false⟩ with
            | some (true, S') => match evE C e ρ' S' with
              | some (r, S2) => r.keep.map fun q => (some q, S2)
              | none => none
            | some (false, S') => some (none, S')
            | none => none
          | none => none) = m at e1 ⊢
    cases m with
    | none => cases e1
    | some x =>
      have e2 := Option.some.inj e1
      obtain ⟨x1, x2⟩ := x
      cases e2
      rfl
  have all : ∀ qs : List P, (∀ p ∈ qs, p ∈ ps) → compL (compF C true t (wipeE ρ vs) cond e) qs ⟨S1.os, false⟩ = some (qs.filterMap f, ⟨S1.os, false⟩) := by
    intro qs
    induction qs with
    | nil => intro _; rfl
    | cons p qs ih =>
      intro hq
      have ih := ih fun z hz => hq z (List.mem_cons_of_mem _ hz)
      unfold compL
      rw [step p (hq p List.mem_cons_self), List.filterMap_cons]
      cases f p with
      | none => exact ih
      | some y => simp only; rw [ih]
  unfold evE
  rw [h1]
  simp only
  rw [h2]
  simp only
  rw [hv]
  show (match guard true (compL (compF C true t (wipeE ρ vs) cond e) ps) S1 with
    | some (qs, S2) => if sz qs.length = true then some (mkL qs, S2) else none
    | none => none) = _
  unfold guard
  rw [if_pos rfl, all ps fun _ h => h]
  simp only [Bool.false_eq_true, if_false, hz, if_true]
end
end U

set_option Elab.async false
set_option linter.all false
set_option maxRecDepth 100000
namespace U
open PySem

def WS (m : Option Fl) (Q : Fl → Prop) : Prop := ∃ f, m = some f ∧ Q f
section
variable {C : Ctx} {ρ : Env} {S S' : AS} {Q : Fl → Prop}
theorem WS_some {f : Fl} : WS (some f) Q ↔ Q f := by
  constructor
  · rintro ⟨g, h, q⟩
    cases h; exact q
  · exact fun q => ⟨f, rfl, q⟩
theorem WS_none : WS none Q ↔ False := by
  constructor
  · rintro ⟨g, h, q⟩
    cases h
  · exact False.elim
theorem WS_map {α : Type} {m : Option α} {f : α → Fl} : WS (m.map f) Q ↔ WO m fun a => Q (f a) := by
  cases m with
  | none => simp only [Option.map_none, WS_none, WO_none]
  | some a => simp only [Option.map_some, WS_some, WO_some]
theorem S_set {i : Nat} {e : E} : WS (exS C (.set i e) ρ S) Q ↔ W (evE C e ρ S) fun r S1 => WO (setS i r ρ) fun ρ' => Q (.nx ρ' S1) := by
  simp only [exS]
  cases evE C e ρ S with
  | none => simp only [WS_none, W_none]
  | some x => simp only [W_some]; exact WS_map
theorem S_par {is : List Nat} {es : List E} : WS (exS C (.par is es) ρ S) Q ↔ W (evK C es ρ S) fun ps S1 => WO (setAll is (ps.map R.p) ρ) fun ρ' => Q (.nx ρ' S1) := by
  simp only [exS]
  cases evK C es ρ S with
  | none => simp only [WS_none, W_none]
  | some x => simp only [W_some]; exact WS_map
def leafOf : O → Option P
  | .leaf p => some p
  | _ => none
theorem S_unp {ts : List Tg} {e : E} : WS (exS C (.unp ts e) ρ S) Q ↔ W (evE C e ρ S) fun r S1 => WO (leafOf r.o) fun p => WO (asg (.tp ts) p ρ) fun ρ' => Q (.nx ρ' S1) := by
  simp only [exS]
  cases evE C e ρ S with
  | none => simp only [WS_none, W_none]
  | some x =>
    simp only [W_some]
    cases hx : x.1.o with
    | leaf p => simp only [leafOf, WO_some]; exact WS_map
    | _ => simp only [leafOf, WO_none, WS_none]
theorem S_expr {e : E} : WS (exS C (.expr e) ρ S) Q ↔ W (evE C e ρ S) fun _ S1 => Q (.nx ρ S1) := by
  simp only [exS]
  cases evE C e ρ S with
  | none => simp only [WS_none, W_none]
  | some x => simp only [W_some, WS_some]
theorem S_ret {e : E} : WS (exS C (.ret e) ρ S) Q ↔ W (evE C e ρ S) fun r S1 => WO r.hold fun r' => Q (.rt r' S1) := by
  simp only [exS]
  cases evE C e ρ S with
  | none => simp only [WS_none, W_none]
  | some x => simp only [W_some]; exact WS_map
theorem S_retV {i : Nat} : WS (exS C (.retV i) ρ S) Q ↔ ∃ r, ρ[i]? = some (some r) ∧ Q (.rt r S) := by
  simp only [exS]
  split
  · rename_i r h
    rw [WS_some]
    constructor
    · exact fun q => ⟨r, h, q⟩
    · rintro ⟨r', h', q⟩
      rw [h] at h'
      cases h'; exact q
  · rename_i h
    rw [WS_none]
    constructor
    · exact False.elim
    · rintro ⟨r, h', _⟩
      exact h r h'
theorem S_retN : WS (exS C .retN ρ S) Q ↔ Q (.rt (R.p .non) S) := by simp only [exS, WS_some]
theorem S_ite {c : E} {a b : List St} : WS (exS C (.ite c a b) ρ S) Q ↔ W (evE C c ρ S) fun x S1 => B2 x.o.bl? (WS (exL C a ρ S1) Q) (WS (exL C b ρ S1) Q) := by
  simp only [exS]
  cases evE C c ρ S with
  | none => simp only [WS_none, W_none]
  | some x =>
    simp only [W_some]
    cases x.1.o.bl? with
    | none => simp only [WS_none, B2, WO_none]
    | some c => cases c <;> simp [B2_some]
def WF (C : Ctx) (t : Tg) (b : List St) : List P → Env → AS → (Fl → Prop) → Prop
  | [], ρ, S, Q => Q (.nx ρ S)
  | p :: ps, ρ, S, Q => WO (asg t p ρ) fun ρ' => WS (exL C b ρ' S) fun f => match f with
    | .nx ρ2 S2 => WF C t b ps ρ2 S2 Q
    | .rt r S2 => Q (.rt r S2)
theorem S_forL {t : Tg} {b : List St} {f : P → Env → AS → Option Fl} (hf : ∀ p ρ S Q, WO (asg t p ρ) (fun ρ' => WS (exL C b ρ' S) Q) → WS (f p ρ S) Q) : ∀ (ps : List P) (ρ : Env) (S : AS) (Q : Fl → Prop), WF C t b ps ρ S Q → WS (forL f ps ρ S) Q
  | [], ρ, S, Q, h => ⟨_, rfl, h⟩
  | p :: ps, ρ, S, Q, h => by
    obtain ⟨g, h1, h2⟩ := hf p ρ S _ h
    unfold forL
    rw [h1]
    cases g with
    | nx ρ2 S2 => exact S_forL hf ps ρ2 S2 Q h2
    | rt r S2 => exact ⟨_, rfl, h2⟩
theorem W_M {es : List E} {Q : List R → AS → Prop} : W (evM C true es ρ S) Q ↔ W (evK C es ρ S) fun ps S1 => Q (ps.map R.p) S1 := by
  simp only [evM]
  cases evK C es ρ S with
  | none => simp only [W_none]
  | some x => simp only [W_some]
theorem S_for {t : Tg} {k : It} {src : List E} {b : List St} (h : W (evK C src ρ S) fun ps S1 => refs (ps.map R.p) = none ∧ WO (itR k (ps.map R.p)) fun qs => WF C t b qs ρ S1 Q) : WS (exS C (.for t k src b) ρ S) Q := by
  obtain ⟨rs, S1, h1, h0, qs, h2, h3⟩ := W_M (Q := fun rs S1 => refs rs = none ∧ WO (itR k rs) fun qs => WF C t b qs ρ S1 Q) |>.mpr h
  unfold exS
  rw [h1]
  simp only
  rw [h0]
  simp only
  rw [h2]
  simp only
  refine S_forL (fun p ρ S Q hq => ?_) qs ρ S1 Q h3
  obtain ⟨ρ', h4, h5⟩ := hq
  rw [h4]
  exact h5
/-- the same over an object of the store that stays as it is -/
def WFj (C : Ctx) (t : Tg) (b : List St) (j : Nat) (o : O) : List P → Env → AS → (Fl → Prop) → Prop
  | [], ρ, S, Q => Q (.nx ρ S)
  | p :: ps, ρ, S, Q => WO (asg t p ρ) fun ρ' => WS (exL C b ρ' S) fun f => match f with
    | .nx ρ2 S2 => S2.os[j]? = some o ∧ WFj C t b j o ps ρ2 S2 Q
    | .rt r S2 => Q (.rt r S2)
theorem S_forS {t : Tg} {b : List St} {k : It} {j : Nat} {o : O} {ep : Option Nat} {f : P → Env → AS → Option Fl} {all : List P} (hi : ∀ S : AS, S.os[j]? = some o → itL k S j = some (ep, all)) (hf : ∀ p ρ S Q, WO (asg t p ρ) (fun ρ' => WS (exL C b ρ' S) Q) → WS (f p ρ S) Q) :
    ∀ (m : Nat) (ρ : Env) (S : AS) (Q : Fl → Prop), m ≤ all.length → S.os[j]? = some o → WFj C t b j o (all.drop (all.length - m)) ρ S Q → WS (forS k j all.length ep f m ρ S) Q
  | 0, ρ, S, Q, hm, ho, h => by
    unfold forS
    rw [hi S ho]
    simp only [and_self, if_true]
    rw [Nat.sub_zero, List.drop_length] at h
    exact ⟨_, rfl, h⟩
  | m + 1, ρ, S, Q, hm, ho, h => by
    unfold forS
    rw [hi S ho]
    simp only [and_self, if_true]
    have hl : all.length - (m + 1) < all.length := by omega
    rw [List.drop_eq_getElem_cons hl] at h
    rw [List.getElem?_eq_getElem hl]
    simp only
    obtain ⟨g, h1, h2⟩ := hf _ ρ S _ h
    rw [h1]
    cases g with
    | nx ρ2 S2 =>
      refine S_forS hi hf m ρ2 S2 Q (by omega) h2.1 ?_
      have := h2.2
      rw [show all.length - (m + 1) + 1 = all.length - m from by omega] at this
      exact this
    | rt r S2 => exact ⟨_, rfl, h2⟩
/-- what a walk over an object gives -/
def itO (k : It) (o : O) : Option (Option Nat × List P) := match o with
  | .dct ep ks vs => match k with
    | .over => some (some ep, ks)
    | .items => some (some ep, zipP ks vs)
    | _ => none
  | .lst os => match O.leafs os with
    | some qs => match k with
      | .over => some (none, qs)
      | .enum => some (none, enumP qs 0)
      | _ => none
    | none => none
  | _ => none
theorem itL_at {k : It} {S : AS} {j : Nat} {o : O} (h : S.os[j]? = some o) : itL k S j = itO k o := by
  unfold itL itO
  rw [h]
  cases o <;> rfl
theorem S_forR {t : Tg} {k : It} {src : List E} {b : List St} (h : W (evK C src ρ S) fun ps S1 => ∃ j o, ps = [.ref j] ∧ S1.os[j]? = some o ∧ WO (itO k o) fun z => WFj C t b j o z.2 ρ S1 Q) : WS (exS C (.for t k src b) ρ S) Q := by
  obtain ⟨rs, S1, h1, j, o, rfl, h0, ⟨ep, qs⟩, h2, h3⟩ := W_M (Q := fun rs S1 => ∃ j o, rs = [R.p (.ref j)] ∧ S1.os[j]? = some o ∧ WO (itO k o) fun z => WFj C t b j o z.2 ρ S1 Q) |>.mpr (by
    obtain ⟨ps, S1, h1, j, o, rfl, h⟩ := h
    exact ⟨_, S1, h1, j, o, rfl, h⟩)
  unfold exS
  rw [h1]
  simp only [refs, refOf]
  have hi : ∀ S : AS, S.os[j]? = some o → itL k S j = some (ep, qs) := fun S h => (itL_at h).trans h2
  rw [hi S1 h0]
  simp only
  refine S_forS (t := t) (b := b) hi (fun p ρ S Q hq => ?_) qs.length ρ S1 Q (Nat.le_refl _) h0 (by rw [Nat.sub_self]; exact h3)
  obtain ⟨ρ', h4, h5⟩ := hq
  rw [h4]
  exact h5
theorem while_ok {c : E} {b : List St} {I : Nat → Env → AS → Prop} (step : ∀ n ρ S, I n ρ S → W (evE C c ρ S) fun x S1 => B2 x.o.bl? (WS (exL C b ρ S1) fun f => match f with | .nx ρ' S' => ∃ m, m < n ∧ I m ρ' S' | .rt r S' => Q (.rt r S')) (Q (.nx ρ S1))) :
    ∀ (k n : Nat) (ρ : Env) (S : AS), n < k → I n ρ S → WS (whileL (evE C c) (exL C b) k ρ S) Q
  | 0, n, ρ, S, h, _ => absurd h (Nat.not_lt_zero _)
  | k + 1, n, ρ, S, h, hI => by
    obtain ⟨x, S1, h1, h2⟩ := step n ρ S hI
    obtain ⟨t, h3, h4⟩ := h2
    unfold whileL
    rw [h1]
    simp only
    rw [h3]
    cases t with
    | true =>
      simp only
      obtain ⟨f, h5, h6⟩ := h4
      rw [h5]
      cases f with
      | nx ρ' S' =>
        obtain ⟨m, h7, h8⟩ := h6
        exact while_ok step k m ρ' S' (by omega) h8
      | rt r S' => exact ⟨_, rfl, h6⟩
    | false => exact ⟨_, rfl, h4⟩
theorem S_while {c : E} {b : List St} (I : Nat → Env → AS → Prop) (N : Nat) (hN : N < FUEL) (h0 : I N ρ S) (step : ∀ n ρ S, I n ρ S → W (evE C c ρ S) fun x S1 => B2 x.o.bl? (WS (exL C b ρ S1) fun f => match f with | .nx ρ' S' => ∃ m, m < n ∧ I m ρ' S' | .rt r S' => Q (.rt r S')) (Q (.nx ρ S1))) : WS (exS C (.while c b) ρ S) Q := by
  unfold exS
  exact while_ok step FUEL N ρ S hN h0
theorem S_appR {a e : E} : WS (exS C (.appR a e) ρ S) Q ↔ W (evE C a ρ S) fun x S1 => WO (refL S1 x) fun k => W (evE C e ρ S1) fun r S2 => WO r.keep fun p => WO (match S2.os[k]? with | some (.lst os) => some os | _ => none) fun os => os.length < 16777216 ∧ Q (.nx ρ ⟨S2.os.set k (.lst (os ++ [.leaf p])), true⟩) := by
  simp only [exS]
  cases evE C a ρ S with
  | none => simp only [WS_none, W_none]
  | some x =>
    simp only [W_some]
    cases refL x.2 x.1 with
    | none => simp only [WS_none, WO_none]
    | some k =>
      simp only [WO_some]
      cases evE C e ρ x.2 with
      | none => simp only [WS_none, W_none]
      | some y =>
        simp only [W_some]
        cases y.1.keep with
        | none => simp only [WS_none, WO_none]
        | some p =>
          simp only [WO_some]
          cases y.2.os[k]? with
          | none => simp only [WS_none, WO_none]
          | some o =>
            cases o with
            | lst os =>
              simp only [WO_some]
              by_cases hl : os.length < 16777216
              · simp [hl, WS_some]
              · simp [hl, WS_none]
            | _ => simp only [WS_none, WO_none]
theorem S_put {a i e : E} : WS (exS C (.put a i e) ρ S) Q ↔ W (evE C e ρ S) fun r S1 => WO r.keep fun p => W (evE C a ρ S1) fun x S2 => WO (refOf x.o) fun k => W (evE C i ρ S2) fun y S3 => WO y.keep fun j => WO S3.os[k]? fun o => WO (putO o j p) fun o' => Q (.nx ρ ⟨S3.os.set k o', true⟩) := by
  simp only [exS]
  cases evE C e ρ S with
  | none => simp only [WS_none, W_none]
  | some x =>
    simp only [W_some]
    cases x.1.keep with
    | none => simp only [WS_none, WO_none]
    | some p =>
      simp only [WO_some]
      cases evE C a ρ x.2 with
      | none => simp only [WS_none, W_none]
      | some y =>
        simp only [W_some]
        cases refOf y.1.o with
        | none => simp only [WS_none, WO_none]
        | some k =>
          simp only [WO_some]
          cases evE C i ρ y.2 with
          | none => simp only [WS_none, W_none]
          | some z =>
            simp only [W_some]
            cases z.1.keep with
            | none => simp only [WS_none, WO_none]
            | some j =>
              simp only [WO_some]
              cases z.2.os[k]? with
              | none => simp only [WS_none, WO_none]
              | some o => simp only [WO_some]; exact WS_map
def ownL : Option (Option R) → Option (List O)
  | some (some ⟨.lst os, .own⟩) => some os
  | _ => none
theorem S_app {i : Nat} {e : E} (h : W (evE C e ρ S) fun r S1 => WO r.keep fun p => WO (ownL ρ[i]?) fun os => os.length < 16777216 ∧ Q (.nx (ρ.set i (some ⟨.lst (os ++ [.leaf p]), .own⟩)) S1)) : WS (exS C (.app i e) ρ S) Q := by
  obtain ⟨r, S1, h1, p, h2, os, h3, h4, h5⟩ := h
  unfold exS
  rw [h1]
  simp only
  rw [h2]
  simp only
  unfold ownL at h3
  split at h3
  · rename_i os' ho
    cases h3
    try rw [ho]
    simp only [h4, decide_true, if_true]
    exact ⟨_, rfl, h5⟩
  · cases h3
theorem L_nil : WS (exL C [] ρ S) Q ↔ Q (.nx ρ S) := by simp only [exL, WS_some]
def thenL (C : Ctx) (ss : List St) (Q : Fl → Prop) : Fl → Prop
  | .nx ρ S => WS (exL C ss ρ S) Q
  | .rt r S => Q (.rt r S)
theorem L_cons {s : St} {ss : List St} : WS (exL C (s :: ss) ρ S) Q ↔ WS (exS C s ρ S) (thenL C ss Q) := by
  simp only [exL]
  cases exS C s ρ S with
  | none => simp only [WS_none]
  | some f => cases f <;> simp only [WS_some, thenL]
theorem thenL_nx {ss : List St} : thenL C ss Q (.nx ρ S) ↔ WS (exL C ss ρ S) Q := Iff.rfl
theorem thenL_rt {ss : List St} {r : R} : thenL C ss Q (.rt r S) ↔ Q (.rt r S) := Iff.rfl
/-- a def's end -/
def endF (Q : R → AS → Prop) : Fl → Prop
  | .nx _ S => Q (R.p .non) S
  | .rt r S => Q r S
theorem call_ok {G : Prg} {n f : Nat} {args : List R} {d : Def} {Q : R → AS → Prop} (hd : G.defs[f]? = some d) (hn : args.length = d.np) (h : WS (exL ⟨callF G n, G.glb⟩ d.body (args.map some ++ List.replicate (d.ns - d.np) none) S) (endF Q)) : W (callF G (n + 1) f args S) Q := by
  obtain ⟨fl, h1, h2⟩ := h
  unfold callF
  rw [hd]
  simp only [hn, if_true]
  rw [h1]
  cases fl with
  | nx ρ' S' => exact ⟨_, _, rfl, h2⟩
  | rt r S' => exact ⟨_, _, rfl, h2⟩
end
end U

set_option Elab.async false
set_option linter.all false
set_option maxRecDepth 100000
namespace U
open PySem

theorem isVol_mkL {ps : List P} : isVol (mkL ps) = false := rfl
theorem atI_get {α : Type} {xs : List α} {v : Int} (h0 : 0 ≤ v) (h : v < (xs.length : Int)) : L2.atI xs v = xs[v.toNat]? := by
  unfold L2.atI L2.ixN
  have h1 : ¬ v < 0 := by omega
  simp [h0, h, h1]
theorem sub_list {ps : List P} {s s' : Sta} {v : Int} (h0 : 0 ≤ v) (h : v < (ps.length : Int)) : ∃ p ∈ ps, subR ⟨.lst (ps.map O.leaf), s⟩ ⟨.leaf (.int v), s'⟩ = some (R.p p) := by
  have hl : v.toNat < ps.length := by omega
  refine ⟨ps[v.toNat], List.getElem_mem hl, ?_⟩
  simp only [subR, O.int?]
  rw [atI_get h0 (by simpa using h), List.getElem?_map, List.getElem?_eq_getElem hl]
  rfl
theorem sub_tup {ps : List P} {s s' : Sta} {v : Int} (h0 : 0 ≤ v) (h : v < (ps.length : Int)) : ∃ p ∈ ps, subR ⟨.leaf (.tup ps), s⟩ ⟨.leaf (.int v), s'⟩ = some (R.p p) := by
  have hl : v.toNat < ps.length := by omega
  refine ⟨ps[v.toNat], List.getElem_mem hl, ?_⟩
  simp only [subR, O.int?]
  rw [atI_get h0 h, List.getElem?_eq_getElem hl]
  rfl
theorem leafs_map : ∀ ps : List P, O.leafs (ps.map O.leaf) = some ps
  | [] => rfl
  | p :: ps => by simp only [List.map_cons, O.leafs, leafs_map ps, Option.map_some]
theorem vals_map : ∀ ps : List P, O.vals (ps.map O.leaf) = some ps
  | [] => rfl
  | p :: ps => by simp only [List.map_cons, O.vals, vals_map ps, O.val]
theorem items_map {ps : List P} : O.items (.lst (ps.map O.leaf)) = some ps := leafs_map ps
theorem seq_map {ps : List P} : O.seq (.lst (ps.map O.leaf)) = some ps := leafs_map ps
theorem val_map {ps : List P} : O.val (.lst (ps.map O.leaf)) = some (.lst ps) := by simp only [O.val, vals_map, Option.map_some]
theorem add_lst {ps qs : List P} {s s' : Sta} (h : sz (ps.length + qs.length) = true) : binR .add ⟨.lst (ps.map O.leaf), s⟩ ⟨.lst (qs.map O.leaf), s'⟩ = some (mkL (ps ++ qs)) := by
  simp only [binR, addR, O.int?, O.str?, O.tupl, items_map, h, if_true]
theorem add_tup {ps qs : List P} {s s' : Sta} (h : sz (ps.length + qs.length) = true) : binR .add ⟨.leaf (.tup ps), s⟩ ⟨.leaf (.tup qs), s'⟩ = some (R.p (.tup (ps ++ qs))) := by
  simp only [binR, addR, O.int?, O.str?, O.tupl, h, if_true]
theorem add_str {x y : List Nat} {s s' : Sta} (h : sz (x.length + y.length) = true) : binR .add ⟨.leaf (.str x), s⟩ ⟨.leaf (.str y), s'⟩ = some (R.p (.str (x ++ y))) := by
  simp only [binR, addR, O.int?, O.str?, h, if_true]
theorem mul_tup {ps : List P} {j : Int} {s s' : Sta} (h1 : ps.length ≤ 1000) (h2 : -1000 ≤ j) (h3 : j ≤ 1000) : binR .mul ⟨.leaf (.tup ps), s⟩ ⟨.leaf (.int j), s'⟩ = some (R.p (.tup (List.replicate j.toNat ps).flatten)) := by
  simp only [binR, mulR, O.int?, O.tupl, h1, h2, h3, decide_true, Bool.and_self, if_true]
theorem slc_tup {ps : List P} {lo hi : Option Int} {s : Sta} : slcR ⟨.leaf (.tup ps), s⟩ lo hi = some (R.p (.tup (cut ps lo hi))) := rfl
theorem slc_str {x : List Nat} {lo hi : Option Int} {s : Sta} (h : sz x.length = true) : slcR ⟨.leaf (.str x), s⟩ lo hi = some (R.p (.str (cut x lo hi))) := by
  simp only [slcR, O.tupl, O.str?, h, if_true]
theorem rev_tup {ps : List P} {s : Sta} : revR ⟨.leaf (.tup ps), s⟩ = some (R.p (.tup ps.reverse)) := rfl
theorem len_tup {ps : List P} {s : Sta} : bltR .len [⟨.leaf (.tup ps), s⟩] = some (R.p (.int (ps.length : Int))) := rfl
theorem len_lst {os : List O} {s : Sta} : bltR .len [⟨.lst os, s⟩] = some (R.p (.int (os.length : Int))) := rfl
theorem len_lstL {ps : List P} {s : Sta} : bltR .len [⟨.leaf (.lst ps), s⟩] = some (R.p (.int (ps.length : Int))) := rfl
theorem tuple_mkL {ps : List P} : bltR .tuple [mkL ps] = some (R.p (.tup ps)) := by
  show (O.seq (.lst (ps.map O.leaf))).map _ = _
  rw [seq_map]; rfl
theorem list_tup {ps : List P} {s : Sta} : bltR .list [⟨.leaf (.tup ps), s⟩] = some (mkL ps) := rfl
theorem bools_map : ∀ bs : List Bool, bools (bs.map P.bl) = some bs
  | [] => rfl
  | b :: bs => by simp only [List.map_cons, bools, bools_map bs, Option.map_some]
theorem all_mkL {bs : List Bool} : bltR .all [mkL (bs.map P.bl)] = some (R.p (.bl (bs.all id))) := by
  simp only [bltR, one, boolsR, mkL, items_map, bools_map]
theorem hold_mkL {ps : List P} : R.hold (mkL ps) = some (mkL ps) := rfl
theorem keep_mkL {ps : List P} : R.keep (mkL ps) = some (.lst ps) := by
  simp only [R.keep, mkL]
  exact val_map
theorem rangeP_length (lo : Int) (n : Nat) : (rangeP lo n).length = n := by simp [rangeP]
/-- comprehensions whose turns give what they should, the store kept by I -/
theorem WC_inv {C : Ctx} {t : Tg} {ρ : Env} {cond : List E} {e : E} {I : Nat → AS → Prop} {Pq : P → Prop} (J : Nat) :
    ∀ (ps : List P) (j : Nat) (S : AS) (Q : List P → AS → Prop), j + ps.length ≤ J → (∀ p ∈ ps, ∀ j S Q, j < J → I j S → (∀ q S', Pq q → I (j + 1) S' → Q (some q) S') → turnC C t ρ cond e p S Q) → I j S → (∀ qs S', (∀ q ∈ qs, Pq q) → qs.length = ps.length → I (j + ps.length) S' → Q qs S') → WC C t ρ cond e ps S Q
  | [], j, S, Q, hJ, step, hi, q => by
    unfold WC
    exact q [] S (fun q hq => by cases hq) rfl hi
  | p :: ps, j, S, Q, hJ, step, hi, q => by
    unfold WC
    rw [List.length_cons] at hJ
    refine step p List.mem_cons_self j S _ (by omega) hi fun y S1 hy h1 => ?_
    refine WC_inv J ps (j + 1) S1 _ (by omega) (fun p hp => step p (List.mem_cons_of_mem _ hp)) h1 fun qs S2 hqs hl h2 => ?_
    refine q (y :: qs) S2 (fun z hz => ?_) (by simp [hl]) (by rw [List.length_cons, show j + (ps.length + 1) = j + 1 + ps.length from by omega]; exact h2)
    rcases List.mem_cons.mp hz with rfl | hz
    · exact hy
    · exact hqs z hz
/-- comprehensions that compute f, the store as it is -/
theorem WC_map {C : Ctx} {t : Tg} {ρ : Env} {e : E} {cond : List E} {f : P → Option P} : ∀ (ps : List P) (S : AS) (Q : List P → AS → Prop), (∀ p ∈ ps, ∀ S Q, Q (f p) S → turnC C t ρ cond e p S Q) → Q (ps.filterMap f) S → WC C t ρ cond e ps S Q
  | [], S, Q, step, q => by unfold WC; exact q
  | p :: ps, S, Q, step, q => by
    unfold WC
    refine step p List.mem_cons_self S _ ?_
    refine WC_map ps S _ (fun p hp => step p (List.mem_cons_of_mem _ hp)) ?_
    rw [List.filterMap_cons] at q
    cases hf : f p with
    | none => rw [hf] at q; exact q
    | some y => rw [hf] at q; exact q
theorem cut_to {α : Type} (xs : List α) (j : Int) (h : 0 ≤ j) : cut xs none (some j) = xs.take j.toNat := by
  unfold cut HT.sIx
  simp only [List.drop_zero, Nat.sub_zero]
  rw [if_neg (by omega)]
  rcases Nat.le_total j.toNat xs.length with h1 | h1
  · rw [Nat.min_eq_left h1]
  · rw [Nat.min_eq_right h1, List.take_length, List.take_of_length_le h1]
theorem cut_from {α : Type} (xs : List α) (j : Int) (h : 0 ≤ j) : cut xs (some j) none = xs.drop j.toNat := by
  unfold cut HT.sIx
  simp only
  rw [if_neg (by omega)]
  rcases Nat.le_total j.toNat xs.length with h1 | h1
  · rw [Nat.min_eq_left h1, List.take_of_length_le (by rw [List.length_drop]; exact Nat.le_refl _)]
  · rw [Nat.min_eq_right h1, List.drop_length, List.take_nil, List.drop_eq_nil_of_le h1]
theorem cut_sub {α : Type} (xs : List α) (lo hi : Option Int) : ∀ x ∈ cut xs lo hi, x ∈ xs := fun x h => List.mem_of_mem_drop (List.mem_of_mem_take h)
theorem cut_len {α : Type} (xs : List α) (lo hi : Option Int) : (cut xs lo hi).length ≤ xs.length := by
  unfold cut
  rw [List.length_take, List.length_drop]
  omega
end U

set_option Elab.async false
set_option linter.all false
set_option maxRecDepth 100000
namespace U

inductive Chg where
  | blank | erase | letter | paste
  deriving DecidableEq, Inhabited
inductive Sz where
  | s2 | s3 | s4 | s5 | s6 | s7 | s8 | s9
  deriving DecidableEq, Inhabited
inductive W0 where
  | chg (c : Chg) | aft (c : Chg) | same | moved | waited | saved | undone | long (z : Sz)
  deriving DecidableEq, Inhabited
structure Tst where
  neg : Bool
  w : W0
  deriving DecidableEq, Inhabited
structure Clause where
  ts : List Tst
  j : Bool
  deriving DecidableEq, Inhabited
abbrev Rule := List Clause
structure Vw where
  c : Chg
  n : Int
  m : Bool
  w : Bool
  s : Bool
  u : Bool
  deriving DecidableEq, Inhabited
def Chg.s : Chg → List Nat
  | .blank => [98, 108, 97, 110, 107]
  | .erase => [101, 114, 97, 115, 101]
  | .letter => [108, 101, 116, 116, 101, 114]
  | .paste => [112, 97, 115, 116, 101]
def Sz.n : Sz → Int
  | .s2 => 2
  | .s3 => 3
  | .s4 => 4
  | .s5 => 5
  | .s6 => 6
  | .s7 => 7
  | .s8 => 8
  | .s9 => 9
def Sz.s : Sz → List Nat
  | .s2 => [50]
  | .s3 => [51]
  | .s4 => [52]
  | .s5 => [53]
  | .s6 => [54]
  | .s7 => [55]
  | .s8 => [56]
  | .s9 => [57]
def W0.s : W0 → List Nat
  | .chg c => c.s
  | .aft c => [97, 102, 116, 101, 114, 32] ++ c.s
  | .same => [115, 97, 109, 101]
  | .moved => [109, 111, 118, 101, 100]
  | .waited => [119, 97, 105, 116, 101, 100]
  | .saved => [115, 97, 118, 101, 100]
  | .undone => [117, 110, 100, 111, 110, 101]
  | .long z => [108, 111, 110, 103, 32] ++ z.s
def preS : Bool → List Nat
  | true => [110, 111, 32]
  | false => []
def Tst.s (t : Tst) : List Nat := preS t.neg ++ t.w.s
def deedS : Bool → List Nat
  | true => [106, 111, 105, 110]
  | false => [110, 101, 119]
def W0.on (v : Vw) (c : Chg) : W0 → Bool
  | .chg d => decide (c = d)
  | .aft d => decide (v.c = d)
  | .same => decide (v.c = c)
  | .moved => v.m
  | .waited => v.w
  | .saved => v.s
  | .undone => v.u
  | .long z => decide (z.n ≤ v.n)
def Tst.on (v : Vw) (c : Chg) (t : Tst) : Bool := if t.neg = true then !t.w.on v c else t.w.on v c
def Clause.on (v : Vw) (c : Chg) (x : Clause) : Bool := x.ts.all fun t => t.on v c
/-- the clause that decides -/
def dIx (v : Vw) (c : Chg) : Rule → Nat → Option Nat
  | [], _ => none
  | x :: xs, i => if x.on v c = true then some i else dIx v c xs (i + 1)
/-- whether a rule joins -/
def dec (r : Rule) (v : Vw) (c : Chg) : Bool := match r with
  | [] => false
  | x :: xs => if x.on v c = true then x.j else dec xs v c
structure OkC (c : Clause) : Prop where
  l : c.ts.length ≤ 3
structure OkR (r : Rule) : Prop where
  l : r.length ≤ 8
  c : ∀ c ∈ r, OkC c
structure OkV (v : Vw) : Prop where
  lo : 1 ≤ v.n
  hi : v.n ≤ 9
end U

set_option Elab.async false
set_option linter.all false
set_option maxRecDepth 100000
namespace U
open PySem

section
variable {C : Ctx} {ρ : Env} {S S' : AS}
theorem B2_t {m : Option Bool} {T F : Prop} (h : m = some true) (t : T) : B2 m T F := ⟨true, h, t⟩
theorem B2_f {m : Option Bool} {T F : Prop} (h : m = some false) (t : F) : B2 m T F := ⟨false, h, t⟩
theorem B2_i {m : Option Bool} {T F : Prop} {b : Bool} (h : m = some b) (t : if b = true then T else F) : B2 m T F := ⟨b, h, t⟩
/-- a test by its truth -/
theorem B2_c {m : Option Bool} {T F : Prop} {c : Prop} [Decidable c] (h : m = some (decide c)) (t : c → T) (f : ¬ c → F) : B2 m T F := by
  by_cases hc : c
  · exact ⟨true, by rw [h]; simp [hc], t hc⟩
  · exact ⟨false, by rw [h]; simp [hc], f hc⟩
theorem B2_b {m : Option Bool} {T F : Prop} {b : Bool} (h : m = some b) (t : b = true → T) (f : b = false → F) : B2 m T F := by
  cases b
  · exact ⟨false, h, f rfl⟩
  · exact ⟨true, h, t rfl⟩
theorem W_guard {α : Type} {v : Bool} {f : AS → Option (α × AS)} {Q : α → AS → Prop} (hv : v = false) (h : W (f S) Q) : W (guard v f S) Q := by
  subst hv; exact h
theorem iv_stb {o : O} : isVol ⟨o, .stb⟩ = false := by cases o <;> rfl
theorem iv_own {o : O} : isVol ⟨o, .own⟩ = false := by cases o <;> rfl
theorem iv_leaf {p : P} {s : Sta} : isVol ⟨.leaf p, s⟩ = false := rfl
/-- a second part behind one that is seen in the store, closed: it leaves the store -/
theorem W_guardV {α : Type} {v : Bool} {f : AS → Option (α × AS)} {a : α} {Q : α → AS → Prop} (h : ∀ t, f ⟨S.os, t⟩ = some (a, ⟨S.os, t⟩)) (q : Q a S) : W (guard v f S) Q := by
  cases v
  · exact ⟨a, S, h S.t, q⟩
  · refine ⟨a, S, ?_, q⟩
    simp only [guard, if_true, h false, Bool.false_eq_true, if_false]
theorem WO_i {α : Type} {m : Option α} {Q : α → Prop} {a : α} (h : m = some a) (q : Q a) : WO m Q := ⟨a, h, q⟩
theorem loc_i {o : Option (Option R)} {r : R} {Q : R → Prop} (h : o = some (some r)) (q : Q r) : ∃ r, o = some (some r) ∧ Q r := ⟨r, h, q⟩
theorem iv_i {x : R} {Q : Prop} (h : isVol x = false) (q : Q) : isVol x = false ∧ Q := ⟨h, q⟩
theorem av_i {x : List R} {Q : Prop} (h : anyVol x = false) (q : Q) : anyVol x = false ∧ Q := ⟨h, q⟩
theorem rf_i {x : List R} {Q : Prop} (h : refs x = none) (q : Q) : refs x = none ∧ Q := ⟨h, q⟩
theorem sz_i {n : Nat} {Q : Prop} (h : sz n = true) (q : Q) : sz n = true ∧ Q := ⟨h, q⟩
theorem endF_rt {Q : R → AS → Prop} {r : R} : endF Q (.rt r S) ↔ Q r S := Iff.rfl
theorem endF_nx {Q : R → AS → Prop} : endF Q (.nx ρ S) ↔ Q (R.p .non) S := Iff.rfl
theorem peek_ref {k : Nat} {o : O} {s : Sta} (h : S.os[k]? = some o) : peek S ⟨.leaf (.ref k), s⟩ = ⟨o, .vol⟩ := by
  simp only [peek, h]
/-- loops by an invariant -/
theorem WF_inv {t : Tg} {b : List St} {I : Nat → Env → AS → Prop} (J : Nat) : ∀ (ps : List P) (j : Nat) (ρ : Env) (S : AS) (Q : Fl → Prop), j + ps.length ≤ J →
    (∀ p ∈ ps, ∀ (j : Nat) (ρ : Env) (S : AS) (F : Fl → Prop), j < J → I j ρ S → (∀ ρ' S', I (j + 1) ρ' S' → F (.nx ρ' S')) → WO (asg t p ρ) fun ρ' => WS (exL C b ρ' S) F) → I j ρ S → (∀ ρ' S', I (j + ps.length) ρ' S' → Q (.nx ρ' S')) → WF C t b ps ρ S Q
  | [], j, ρ, S, Q, hJ, step, hi, q => by
    unfold WF
    exact q ρ S hi
  | p :: ps, j, ρ, S, Q, hJ, step, hi, q => by
    rw [List.length_cons] at hJ
    unfold WF
    refine step p List.mem_cons_self j ρ S _ (by omega) hi fun ρ' S' h' => ?_
    exact WF_inv J ps (j + 1) ρ' S' Q (by omega) (fun p hp => step p (List.mem_cons_of_mem _ hp)) h' fun ρ2 S2 h2 => q ρ2 S2 (by rw [List.length_cons, show j + (ps.length + 1) = j + 1 + ps.length from by omega]; exact h2)
theorem WF_nil {t : Tg} {b : List St} {Q : Fl → Prop} (q : Q (.nx ρ S)) : WF C t b [] ρ S Q := by unfold WF; exact q
theorem WF_cons {t : Tg} {b : List St} {p : P} {ps : List P} {Q : Fl → Prop} (q : WO (asg t p ρ) fun ρ' => WS (exL C b ρ' S) fun f => match f with
    | .nx ρ2 S2 => WF C t b ps ρ2 S2 Q
    | .rt r S2 => Q (.rt r S2)) : WF C t b (p :: ps) ρ S Q := by unfold WF; exact q
theorem itR1 {m : Int} {s : Sta} (h : inRange m = true) : itR .range1 [⟨.leaf (.int m), s⟩] = some (rangeP 0 m.toNat) := by
  simp only [itR, O.int?, h, if_true]
theorem inR {m : Int} (h0 : 0 ≤ m) (h1 : m ≤ 1073741824) : inRange m = true := by
  unfold inRange
  simp only [Bool.and_eq_true, decide_eq_true_eq]
  omega
theorem szI {n : Nat} (h : n ≤ 16777216) : sz n = true := decide_eq_true h
end

theorem slcT {α : Type} {f : α → P} {xs : List α} {lo hi : Option Int} {s : Sta} : slcR ⟨.leaf (.tup (xs.map f)), s⟩ lo hi = some (R.p (.tup ((cut xs lo hi).map f))) := by
  show some (R.p (.tup (cut (xs.map f) lo hi))) = _
  unfold cut
  rw [List.length_map, List.map_take, List.map_drop]
theorem addT {α : Type} {f : α → P} {xs ys : List α} {s s' : Sta} (h : xs.length + ys.length ≤ 1000) : binR .add ⟨.leaf (.tup (xs.map f)), s⟩ ⟨.leaf (.tup (ys.map f)), s'⟩ = some (R.p (.tup ((xs ++ ys).map f))) := by
  rw [add_tup (szI (by rw [List.length_map, List.length_map]; omega)), List.map_append]
theorem mulT {α : Type} {f : α → P} {x : α} {j : Int} {s s' : Sta} (h2 : 0 ≤ j) (h3 : j ≤ 1000) : binR .mul ⟨.leaf (.tup [f x]), s⟩ ⟨.leaf (.int j), s'⟩ = some (R.p (.tup ((List.replicate j.toNat x).map f))) := by
  rw [mul_tup (by simp) (by omega) h3]
  congr 3
  generalize j.toNat = n
  induction n with
  | zero => rfl
  | succ n ih => rw [List.replicate_succ, List.replicate_succ, List.flatten_cons, ih]; rfl
theorem lenT {α : Type} {f : α → P} {xs : List α} {s : Sta} : bltR .len [⟨.leaf (.tup (xs.map f)), s⟩] = some (R.p (.int (xs.length : Int))) := by
  rw [len_tup, List.length_map]

theorem tuple_pk {ps : List P} {S : AS} : bltR .tuple ([mkL ps].map (peek S)) = some (R.p (.tup ps)) := tuple_mkL
theorem list_pk {ps : List P} {s : Sta} {S : AS} : bltR .list ([⟨.leaf (.tup ps), s⟩].map (peek S)) = some (mkL ps) := list_tup
theorem len_pk {α : Type} {f : α → P} {xs : List α} {s : Sta} {S : AS} : bltR .len ([⟨.leaf (.tup (xs.map f)), s⟩].map (peek S)) = some (R.p (.int (xs.length : Int))) := lenT
theorem all_pk {α : Type} {f : α → Bool} {xs : List α} {S : AS} : bltR .all ([mkL (xs.map fun x => .bl (f x))].map (peek S)) = some (R.p (.bl (xs.all f))) := by
  have h := all_mkL (bs := xs.map f)
  rw [List.map_map] at h
  refine h.trans ?_
  rw [List.all_map]
  rfl
def Clause.e (c : Clause) : P := .tup [.tup (c.ts.map fun t => .str t.s), .str (deedS c.j)]
abbrev encR (r : Rule) : P := .tup (r.map Clause.e)
def Vw.e (v : Vw) : P := .tup [.str v.c.s, .int v.n, .bl v.m, .bl v.w, .bl v.s, .bl v.u]
def encVo : Option Vw → P
  | some v => v.e
  | none => .non
end U

set_option Elab.async false
set_option linter.all false
set_option maxRecDepth 100000
namespace U
open PySem

/-- texts of signs that are signs -/
def okS (x : List Nat) : Bool := x.all fun c => decide (c < 0x110000)
mutual
/-- a value that == looks at; its depth is at most n -/
def okP : Nat → P → Bool
  | _, .non => true
  | _, .bl _ => true
  | _, .int _ => true
  | _, .str x => okS x
  | n + 1, .tup ps => okPs n ps
  | n + 1, .lst ps => okPs n ps
  | _, _ => false
def okPs : Nat → List P → Bool
  | _, [] => true
  | n, p :: ps => okP n p && okPs n ps
end
mutual
/-- == by the parts -/
def eqB : P → P → Bool
  | .non, .non => true
  | .bl a, .bl b => a == b
  | .bl a, .int j => decide ((if a = true then 1 else 0 : Int) = j)
  | .int i, .bl b => decide (i = (if b = true then 1 else 0 : Int))
  | .int i, .int j => decide (i = j)
  | .str x, .str y => decide (x = y)
  | .tup ps, .tup qs => eqBs ps qs
  | .lst ps, .lst qs => eqBs ps qs
  | _, _ => false
def eqBs : List P → List P → Bool
  | [], [] => true
  | p :: ps, q :: qs => eqB p q && eqBs ps qs
  | _, _ => false
end
theorem strOkT {x : List Nat} (h : okS x = true) : PyData.canLay0 (.str ⟨x.toArray⟩) = true := by
  show PyData.strOk ⟨x.toArray⟩ = true
  unfold PyData.strOk
  unfold okS at h
  simpa using h
mutual
theorem dataT : ∀ {n : Nat} {p : P}, okP n p = true → ∃ d, p.data = some d ∧ d.canLay0 = true ∧ d.depth ≤ n
  | _, .non, _ => ⟨_, rfl, rfl, Nat.zero_le _⟩
  | _, .bl _, _ => ⟨_, rfl, rfl, Nat.zero_le _⟩
  | _, .int _, _ => ⟨_, rfl, rfl, Nat.zero_le _⟩
  | n, .str x, h => ⟨.str ⟨x.toArray⟩, rfl, strOkT (by cases n <;> exact h), Nat.zero_le _⟩
  | n + 1, .tup ps, h => by
    obtain ⟨ds, h1, h2, h3⟩ := datasT (n := n) (ps := ps) h
    refine ⟨.tuple ds, by simp only [P.data, h1, Option.map_some], h2, ?_⟩
    show PyData.depthAll ds + 1 ≤ n + 1
    omega
  | n + 1, .lst ps, h => by
    obtain ⟨ds, h1, h2, h3⟩ := datasT (n := n) (ps := ps) h
    refine ⟨.list ds, by simp only [P.data, h1, Option.map_some], h2, ?_⟩
    show PyData.depthAll ds + 1 ≤ n + 1
    omega
  | 0, .tup _, h => by cases h
  | 0, .lst _, h => by cases h
  | 0, .dct _ _, h => by cases h
  | _ + 1, .dct _ _, h => by cases h
  | 0, .ref _, h => by cases h
  | _ + 1, .ref _, h => by cases h
  | 0, .scr _, h => by cases h
  | _ + 1, .scr _, h => by cases h
theorem datasT : ∀ {n : Nat} {ps : List P}, okPs n ps = true → ∃ ds, P.datas ps = some ds ∧ PyData.canLayAll0 ds = true ∧ PyData.depthAll ds ≤ n
  | _, [], _ => ⟨[], rfl, rfl, Nat.zero_le _⟩
  | n, p :: ps, h => by
    rw [okPs, Bool.and_eq_true] at h
    obtain ⟨d, h1, h2, h3⟩ := dataT h.1
    obtain ⟨ds, g1, g2, g3⟩ := datasT h.2
    refine ⟨d :: ds, by simp only [P.datas, h1, g1], ?_, ?_⟩
    · show (PyData.canLay0 d && PyData.canLayAll0 ds) = true
      rw [h2, g2]; rfl
    · show max d.depth (PyData.depthAll ds) ≤ n
      omega
end
theorem shpT {n : Nat} {p : P} (h : okP n p = true) (hn : n ≤ 64) : p.shp = p.data := by
  obtain ⟨d, h1, h2, h3⟩ := dataT h
  simp only [P.shp, h1]
  rw [if_pos]
  unfold SeqAt.shaped
  rw [h2, Bool.true_and, decide_eq_true_eq]
  omega
theorem eqvS (x y : List Nat) : PyData.eqv (.str ⟨x.toArray⟩) (.str ⟨y.toArray⟩) = decide (x = y) := by
  show ((⟨x.toArray⟩ : Str) == ⟨y.toArray⟩) = decide (x = y)
  by_cases h : x = y
  · subst h
    simp
  · have : (⟨x.toArray⟩ : Str) ≠ ⟨y.toArray⟩ := fun e => h (by simpa using e)
    rw [decide_eq_false h]
    simpa using this
theorem mapSomeT {α β : Type} {o : Option α} {f : α → β} {y : β} (h : o.map f = some y) : ∃ x, o = some x ∧ y = f x := by
  cases o with
  | none => cases h
  | some x => exact ⟨x, rfl, (Option.some.inj h).symm⟩
mutual
theorem eqvT : ∀ (a b : P) (d e : PyData), a.data = some d → b.data = some e → d.eqv e = eqB a b
  | .non, b, d, e, h1, h2 => by
    cases h1
    cases b <;> simp only [P.data] at h2 <;> first
      | (cases h2; rfl)
      | (cases h2; done)
      | (obtain ⟨ds, -, rfl⟩ := mapSomeT h2; rfl)
  | .bl x, b, d, e, h1, h2 => by
    cases h1
    cases b <;> simp only [P.data] at h2 <;> first
      | (cases h2; rfl)
      | (cases h2; done)
      | (obtain ⟨ds, -, rfl⟩ := mapSomeT h2; rfl)
  | .int x, b, d, e, h1, h2 => by
    cases h1
    cases b <;> simp only [P.data] at h2 <;> first
      | (cases h2; rfl)
      | (cases h2; done)
      | (obtain ⟨ds, -, rfl⟩ := mapSomeT h2; rfl)
  | .str x, b, d, e, h1, h2 => by
    cases h1
    cases b <;> simp only [P.data] at h2 <;> first
      | (cases h2; exact eqvS _ _)
      | (cases h2; rfl)
      | (cases h2; done)
      | (obtain ⟨ds, -, rfl⟩ := mapSomeT h2; rfl)
  | .tup ps, b, d, e, h1, h2 => by
    simp only [P.data] at h1
    obtain ⟨ds, g1, rfl⟩ := mapSomeT h1
    cases b with
    | tup qs =>
      simp only [P.data] at h2
      obtain ⟨es, g2, rfl⟩ := mapSomeT h2
      exact eqvsT ps qs ds es g1 g2
    | _ =>
      simp only [P.data] at h2 <;> first
      | (cases h2; rfl)
      | (cases h2; done)
      | (obtain ⟨ds, -, rfl⟩ := mapSomeT h2; rfl)
  | .lst ps, b, d, e, h1, h2 => by
    simp only [P.data] at h1
    obtain ⟨ds, g1, rfl⟩ := mapSomeT h1
    cases b with
    | lst qs =>
      simp only [P.data] at h2
      obtain ⟨es, g2, rfl⟩ := mapSomeT h2
      exact eqvsT ps qs ds es g1 g2
    | _ =>
      simp only [P.data] at h2 <;> first
      | (cases h2; rfl)
      | (cases h2; done)
      | (obtain ⟨ds, -, rfl⟩ := mapSomeT h2; rfl)
  | .dct _ _, b, d, e, h1, h2 => by simp only [P.data] at h1; cases h1
  | .ref _, b, d, e, h1, h2 => by simp only [P.data] at h1; cases h1
  | .scr _, b, d, e, h1, h2 => by simp only [P.data] at h1; cases h1
theorem eqvsT : ∀ (a b : List P) (d e : List PyData), P.datas a = some d → P.datas b = some e → PyData.eqvAll d e = eqBs a b
  | [], b, d, e, h1, h2 => by
    cases h1
    cases b with
    | nil => cases h2; rfl
    | cons q qs =>
      simp only [P.datas] at h2
      split at h2
      · cases h2; rfl
      · cases h2
  | p :: ps, b, d, e, h1, h2 => by
    simp only [P.datas] at h1
    split at h1
    · rename_i x xs g1 g2
      cases h1
      cases b with
      | nil => cases h2; rfl
      | cons q qs =>
        simp only [P.datas] at h2
        split at h2
        · rename_i y ys g3 g4
          cases h2
          show (x.eqv y && PyData.eqvAll xs ys) = (eqB p q && eqBs ps qs)
          rw [eqvT p q x y g1 g3, eqvsT ps qs xs ys g2 g4]
        · cases h2
    · cases h1
end
theorem eqPT {n : Nat} {a b : P} (ha : okP n a = true) (hb : okP n b = true) (hn : n ≤ 64) : eqP a b = some (eqB a b) := by
  obtain ⟨d, h1, -, -⟩ := dataT ha
  obtain ⟨e, h2, -, -⟩ := dataT hb
  simp only [eqP, shpT ha hn, shpT hb hn, h1, h2, eqvT a b d e h1 h2]
theorem okPs_map {α : Type} {f : α → P} {n : Nat} : ∀ {xs : List α}, (∀ x ∈ xs, okP n (f x) = true) → okPs n (xs.map f) = true
  | [], _ => by simp only [List.map_nil, okPs]
  | x :: xs, h => by
    rw [List.map_cons, okPs, h x List.mem_cons_self, okPs_map fun z hz => h z (List.mem_cons_of_mem _ hz)]
    rfl
theorem cmp_eqP {n : Nat} {a b : P} {s s' : Sta} (ha : okP n a = true) (hb : okP n b = true) (hn : n ≤ 64) : cmpR .eq ⟨.leaf a, s⟩ ⟨.leaf b, s'⟩ = some (eqB a b) := by
  simp only [cmpR, O.val, eqPT ha hb hn]
theorem cmp_neP {n : Nat} {a b : P} {s s' : Sta} (ha : okP n a = true) (hb : okP n b = true) (hn : n ≤ 64) : cmpR .ne ⟨.leaf a, s⟩ ⟨.leaf b, s'⟩ = some (!eqB a b) := by
  simp only [cmpR, O.val, eqPT ha hb hn, Option.map_some]
/-- a list and the empty one -/
theorem cmp_eqNil {n : Nat} {ps : List P} {s s' : Sta} (h : okPs n ps = true) (hn : n ≤ 60) : cmpR .eq ⟨.lst (ps.map O.leaf), s⟩ ⟨.lst [], s'⟩ = some ps.isEmpty := by
  have h0 : okP (n + 1) (.lst ps) = true := h
  have e0 : O.val (.lst []) = some (.lst []) := val_map (ps := [])
  simp only [cmpR, val_map, e0]
  rw [eqPT h0 (b := .lst []) (by rfl) (by omega)]
  cases ps <;> rfl
theorem cmp_neNil {n : Nat} {ps : List P} {s s' : Sta} (h : okPs n ps = true) (hn : n ≤ 60) : cmpR .ne ⟨.lst (ps.map O.leaf), s⟩ ⟨.lst [], s'⟩ = some (!ps.isEmpty) := by
  have h0 : okP (n + 1) (.lst ps) = true := h
  have e0 : O.val (.lst []) = some (.lst []) := val_map (ps := [])
  simp only [cmpR, val_map, e0]
  rw [eqPT h0 (b := .lst []) (by rfl) (by omega)]
  cases ps <;> rfl
theorem okS_tst (t : Tst) : okS t.s = true := by
  obtain ⟨a, w⟩ := t
  cases w with
  | chg e => cases a <;> cases e <;> rfl
  | aft e => cases a <;> cases e <;> rfl
  | long e => cases a <;> cases e <;> rfl
  | _ => cases a <;> rfl
theorem okS_deed (b : Bool) : okS (deedS b) = true := by cases b <;> rfl
theorem okS_chg (b : Chg) : okS b.s = true := by cases b <;> rfl
theorem okS_w0 (w : W0) : okS w.s = true := okS_tst ⟨false, w⟩
theorem WO_eqS {x y : List Nat} {s s' : Sta} {S : AS} {Q : Bool → Prop} (hx : okS x = true) (hy : okS y = true) (q : Q (decide (x = y))) : WO (cmpR .eq (peek S ⟨.leaf (.str x), s⟩) (peek S ⟨.leaf (.str y), s'⟩)) Q :=
  ⟨_, cmp_eqP (n := 0) hx hy (by decide), q⟩
theorem WO_neS {x y : List Nat} {s s' : Sta} {S : AS} {Q : Bool → Prop} (hx : okS x = true) (hy : okS y = true) (q : Q (!decide (x = y))) : WO (cmpR .ne (peek S ⟨.leaf (.str x), s⟩) (peek S ⟨.leaf (.str y), s'⟩)) Q :=
  ⟨_, cmp_neP (n := 0) hx hy (by decide), q⟩
/-- a text among texts -/
def inS (x : List Nat) (ys : List P) : Bool := ys.any fun p => match p with
  | .str y => decide (y = x)
  | _ => false
def allS (ys : List P) : Bool := ys.all fun p => match p with
  | .str _ => true
  | _ => false
def allOk (ys : List P) : Bool := ys.all fun p => match p with
  | .str y => okS y
  | _ => false
theorem datasS : ∀ {ys : List P}, allS ys = true → ∃ ds, P.datas ys = some ds ∧ ys.all flatP = true ∧ ∀ x : List Nat, ds.any (fun z => PyData.eqv z (.str ⟨x.toArray⟩)) = inS x ys
  | [], _ => ⟨[], rfl, rfl, fun _ => rfl⟩
  | p :: ys, h => by
    unfold allS at h
    rw [List.all_cons, Bool.and_eq_true] at h
    obtain ⟨ds, h1, h2, h3⟩ := datasS (ys := ys) h.2
    cases p with
    | str y =>
      refine ⟨.str ⟨y.toArray⟩ :: ds, by simp only [P.datas, P.data, h1], by rw [List.all_cons, h2]; rfl, fun x => ?_⟩
      rw [List.any_cons, h3, eqvS]
      rfl
    | _ => cases h.1
theorem in_tupS {x : List Nat} {ys : List P} (h : allS ys = true) : inP (.str x) (.leaf (.tup ys)) = some (inS x ys) := by
  obtain ⟨ds, h1, h2, h3⟩ := datasS h
  simp only [inP, h1, h2, P.data, flatP, Bool.and_self, if_true, h3]
theorem allS_of {ys : List P} (h : allOk ys = true) : allS ys = true := by
  unfold allOk at h
  unfold allS
  rw [List.all_eq_true] at h ⊢
  intro p hp
  have := h p hp
  cases p <;> first
    | rfl
    | exact this
theorem okPs_of {ys : List P} (h : allOk ys = true) : okPs 0 ys = true := by
  induction ys with
  | nil => rfl
  | cons p ys ih =>
    unfold allOk at h
    rw [List.all_cons, Bool.and_eq_true] at h
    rw [okPs, ih h.2, Bool.and_true]
    cases p with
    | str y => exact h.1
    | _ => cases h.1
theorem in_lstS {x : List Nat} {ys : List P} (hx : okS x = true) (h : allOk ys = true) : inP (.str x) (.lst (ys.map O.leaf)) = some (inS x ys) := by
  obtain ⟨ds, h1, h2, h3⟩ := datasS (allS_of h)
  have e1 := shpT (n := 0) (p := .str x) hx (by decide)
  have e2 := shpT (n := 1) (p := .lst ys) (okPs_of h) (by decide)
  simp only [inP, val_map, e1, e2, P.data, h1, Option.map_some, h3]
theorem WO_inS {x : List Nat} {ys : List P} {s s' : Sta} {S : AS} {Q : Bool → Prop} (h : allS ys = true) (q : Q (inS x ys)) : WO (cmpR .isin (peek S ⟨.leaf (.str x), s⟩) (peek S ⟨.leaf (.tup ys), s'⟩)) Q :=
  ⟨_, in_tupS h, q⟩
theorem WO_ninS {x : List Nat} {ys : List P} {s s' : Sta} {S : AS} {Q : Bool → Prop} (h : allS ys = true) (q : Q (!inS x ys)) : WO (cmpR .nin (peek S ⟨.leaf (.str x), s⟩) (peek S ⟨.leaf (.tup ys), s'⟩)) Q :=
  ⟨_, congrArg (Option.map (!·)) (in_tupS h), q⟩
theorem WO_inL {x : List Nat} {ys : List P} {s : Sta} {S : AS} {Q : Bool → Prop} (h : allOk ys = true) (hx : okS x = true) (q : Q (inS x ys)) : WO (cmpR .isin (peek S ⟨.leaf (.str x), s⟩) (peek S (mkL ys))) Q :=
  ⟨_, in_lstS hx h, q⟩
/-- lists at items' places -/
theorem itR_over {ps : List P} {s : Sta} : itR .over [⟨.leaf (.tup ps), s⟩] = some ps := rfl
theorem mem_enum : ∀ {ps : List P} {k : Nat} {p : P}, p ∈ enumP ps k → ∃ (i : Nat) (x : P), p = .tup [.int (i : Int), x] ∧ x ∈ ps ∧ i < k + ps.length
  | [], _, _, h => by cases h
  | x :: ps, k, p, h => by
    unfold enumP at h
    rcases List.mem_cons.mp h with e | h
    · exact ⟨k, x, e, List.mem_cons_self, by rw [List.length_cons]; omega⟩
    · obtain ⟨i, y, h1, h2, h3⟩ := mem_enum h
      exact ⟨i, y, h1, List.mem_cons_of_mem _ h2, by rw [List.length_cons]; omega⟩
theorem enum_length : ∀ (ps : List P) (k : Nat), (enumP ps k).length = ps.length
  | [], _ => rfl
  | p :: ps, k => by rw [enumP, List.length_cons, List.length_cons, enum_length ps]
theorem slc_scr {ns : List Int} {lo hi : Option Int} {s : Sta} : slcR ⟨.leaf (.scr ns), s⟩ lo hi = some (mkL ((cut ns lo hi).map P.int)) := rfl
theorem itR_enumL {ps : List P} : itR .enum [mkL ps] = some (enumP ps 0) := by
  show (O.seq (.lst (ps.map O.leaf))).map _ = _
  rw [seq_map]; rfl
end U

set_option Elab.async false
set_option linter.all false
set_option maxRecDepth 100000
set_option maxHeartbeats 0
namespace Lw
open PySem L2 U
def top (i : Nat) : Stmt := PySem.Challenge.pw_undosteps_k03_decisions.main.body.getD i (.Pass ⟨0, 0, 0, 0⟩)
def fs : List Fd := [
  ⟨"is_within", top 13, ["value", "low", "high"], ["value", "low", "high"]⟩,
  ⟨"is_one_of", top 14, ["value", "some"], ["value", "some"]⟩,
  ⟨"is_test", top 15, ["value"], ["value"]⟩,
  ⟨"is_clause", top 16, ["value"], ["value", "test"]⟩,
  ⟨"is_rule", top 17, ["value"], ["value", "clause"]⟩,
  ⟨"is_view", top 18, ["value"], ["value", "flag"]⟩,
  ⟨"look_at_rule", top 19, ["rule"], ["rule"]⟩,
  ⟨"look_at_change", top 20, ["change"], ["change"]⟩,
  ⟨"look_at_view", top 21, ["view"], ["view"]⟩,
  ⟨"holds_plainly", top 22, ["word", "view", "change"], ["word", "view", "change"]⟩,
  ⟨"holds", top 23, ["test", "view", "change"], ["test", "view", "change"]⟩,
  ⟨"deciding", top 24, ["rule", "view", "change"], ["rule", "view", "change", "index", "tests", "deed", "test"]⟩,
  ⟨"decide", top 25, ["rule", "view", "change"], ["rule", "view", "change", "index"]⟩,
  ⟨"decision", top 26, ["rule", "view", "change"], ["rule", "view", "change"]⟩,
  ⟨"_law_well", top 28, ["_law_cell", "_law_turn"], ["_law_cell", "_law_turn"]⟩,
  ⟨"_law_take", top 29, ["_law_bag", "_law_many"], ["_law_bag", "_law_many", "_law_p", "_law_n", "_law_found"]⟩,
  ⟨"_law_bags", top 30, ["_law_script", "_law_most"], ["_law_script", "_law_most", "_law_k", "_law_cell"]⟩,
  ⟨"_law_same", top 31, ["_law_a", "_law_b"], ["_law_a", "_law_b", "_law_x", "_law_y"]⟩,
  ⟨"_law_changes", top 32, [], []⟩,
  ⟨"_law_tests", top 33, [], ["_law_found", "_law_change", "_law_size"]⟩,
  ⟨"_law_test", top 34, ["_law_bag"], ["_law_bag", "_law_some"]⟩,
  ⟨"_law_clause", top 35, ["_law_bag"], ["_law_bag", "_law_tests_here", "_law_k"]⟩,
  ⟨"_law_known", top 36, ["_law_bag"], ["_law_bag", "_law_some"]⟩,
  ⟨"_law_rule", top 37, ["_law_bag", "_law_most"], ["_law_bag", "_law_most", "_law_way", "_law_found", "_law_at", "_law_k"]⟩,
  ⟨"_law_limit", top 38, ["_law_bag"], ["_law_bag"]⟩,
  ⟨"_law_holds", top 39, ["_law_test_here", "_law_view", "_law_change"], ["_law_test_here", "_law_view", "_law_change"]⟩,
  ⟨"_law_decides", top 40, ["_law_rule_here", "_law_view", "_law_change"], ["_law_rule_here", "_law_view", "_law_change", "_law_tests_here", "_law_deed", "_law_test_here"]⟩,
  ⟨"_law_any_view", top 41, ["_law_bag"], ["_law_bag", "_law_flags", "_law_k"]⟩,
  ⟨"law", top 42, ["_law_script"], ["_law_script", "_law_bag", "_law_rule_here", "_law_turn", "_law_due", "_law_word", "_law_view", "_law_change", "_law_test_here"]⟩]
def gl : List (Str × P) := [
  ("CHANGES", .tup [.str [98, 108, 97, 110, 107], .str [101, 114, 97, 115, 101], .str [108, 101, 116, 116, 101, 114], .str [112, 97, 115, 116, 101]]),
  ("FLAGS", .tup [.str [109, 111, 118, 101, 100], .str [119, 97, 105, 116, 101, 100], .str [115, 97, 118, 101, 100], .str [117, 110, 100, 111, 110, 101]]),
  ("AFTER", .tup [.str [97, 102, 116, 101, 114, 32, 98, 108, 97, 110, 107], .str [97, 102, 116, 101, 114, 32, 101, 114, 97, 115, 101], .str [97, 102, 116, 101, 114, 32, 108, 101, 116, 116, 101, 114], .str [97, 102, 116, 101, 114, 32, 112, 97, 115, 116, 101]]),
  ("LONG", .tup [.str [108, 111, 110, 103, 32, 50], .str [108, 111, 110, 103, 32, 51], .str [108, 111, 110, 103, 32, 52], .str [108, 111, 110, 103, 32, 53], .str [108, 111, 110, 103, 32, 54], .str [108, 111, 110, 103, 32, 55], .str [108, 111, 110, 103, 32, 56], .str [108, 111, 110, 103, 32, 57]]),
  ("TESTS", .tup [.str [98, 108, 97, 110, 107], .str [101, 114, 97, 115, 101], .str [108, 101, 116, 116, 101, 114], .str [112, 97, 115, 116, 101], .str [97, 102, 116, 101, 114, 32, 98, 108, 97, 110, 107], .str [97, 102, 116, 101, 114, 32, 101, 114, 97, 115, 101], .str [97, 102, 116, 101, 114, 32, 108, 101, 116, 116, 101, 114], .str [97, 102, 116, 101, 114, 32, 112, 97, 115, 116, 101], .str [115, 97, 109, 101], .str [109, 111, 118, 101, 100], .str [119, 97, 105, 116, 101, 100], .str [115, 97, 118, 101, 100], .str [117, 110, 100, 111, 110, 101], .str [108, 111, 110, 103, 32, 50], .str [108, 111, 110, 103, 32, 51], .str [108, 111, 110, 103, 32, 52], .str [108, 111, 110, 103, 32, 53], .str [108, 111, 110, 103, 32, 54], .str [108, 111, 110, 103, 32, 55], .str [108, 111, 110, 103, 32, 56], .str [108, 111, 110, 103, 32, 57]]),
  ("MOST_CLAUSES", .int (8)),
  ("MOST_SIZE", .int (9))]
def fr : List Str := ["ValueError", "all", "bool", "dict", "enumerate", "int", "isinstance", "len", "list", "range", "str", "tuple", "zip"]
def nw : List Nat := [77015, 78011]
def ar : List Nat := []
abbrev f_is_within : Nat := 0
abbrev f_is_one_of : Nat := 1
abbrev f_is_test : Nat := 2
abbrev f_is_clause : Nat := 3
abbrev f_is_rule : Nat := 4
abbrev f_is_view : Nat := 5
abbrev f_look_at_rule : Nat := 6
abbrev f_look_at_change : Nat := 7
abbrev f_look_at_view : Nat := 8
abbrev f_holds_plainly : Nat := 9
abbrev f_holds : Nat := 10
abbrev f_deciding : Nat := 11
abbrev f_decide : Nat := 12
abbrev f_decision : Nat := 13
abbrev f__law_well : Nat := 14
abbrev f__law_take : Nat := 15
abbrev f__law_bags : Nat := 16
abbrev f__law_same : Nat := 17
abbrev f__law_changes : Nat := 18
abbrev f__law_tests : Nat := 19
abbrev f__law_test : Nat := 20
abbrev f__law_clause : Nat := 21
abbrev f__law_known : Nat := 22
abbrev f__law_rule : Nat := 23
abbrev f__law_limit : Nat := 24
abbrev f__law_holds : Nat := 25
abbrev f__law_decides : Nat := 26
abbrev f__law_any_view : Nat := 27
abbrev f_law : Nat := 28
abbrev g_CHANGES : Nat := 0
abbrev g_FLAGS : Nat := 1
abbrev g_AFTER : Nat := 2
abbrev g_LONG : Nat := 3
abbrev g_TESTS : Nat := 4
abbrev g_MOST_CLAUSES : Nat := 5
abbrev g_MOST_SIZE : Nat := 6
abbrev ir_is_within : List U.St := [.ret (.and [.isa (.loc 0) ["int"], .not (.isa (.loc 0) ["bool"]), .cmp2 .le .le (.loc 1) (.loc 0) (.loc 2)])]
abbrev ir_is_one_of : List U.St := [.ret (.and [.isa (.loc 0) ["str"], .cmp .isin (.loc 0) (.loc 1)])]
abbrev ir_is_test : List U.St := [.ite (.not (.isa (.loc 0) ["str"]))
    [.ret (.lit (.bl false))]
    [], .ret (.or [.cmp .isin (.loc 0) (.glb g_TESTS), .and [.cmp .eq (.slc (.loc 0) none (some (.lit (.int 3)))) (.lit (.str [110, 111, 32])), .cmp .isin (.slc (.loc 0) (some (.lit (.int 3))) none) (.glb g_TESTS)]])]
abbrev ir_is_clause : List U.St := [.ite (.or [.not (.isa (.loc 0) ["tuple"]), .cmp .ne (.blt .len [.loc 0]) (.lit (.int 2)), .not (.isa (.sub (.loc 0) (.lit (.int 0))) ["tuple"])])
    [.ret (.lit (.bl false))]
    [], .ite (.or [.cmp .gt (.blt .len [.sub (.loc 0) (.lit (.int 0))]) (.lit (.int 3)), .not (.blt .all [.comp (.nm 1) [1] .over [.sub (.loc 0) (.lit (.int 0))] [] (.call f_is_test [.loc 1])])])
    [.ret (.lit (.bl false))]
    [], .ret (.call f_is_one_of [.sub (.loc 0) (.lit (.int 1)), .tup [.lit (.str [106, 111, 105, 110]), .lit (.str [110, 101, 119])]])]
abbrev ir_is_rule : List U.St := [.ret (.and [.isa (.loc 0) ["tuple"], .cmp .le (.blt .len [.loc 0]) (.glb g_MOST_CLAUSES), .blt .all [.comp (.nm 1) [1] .over [.loc 0] [] (.call f_is_clause [.loc 1])]])]
abbrev ir_is_view : List U.St := [.ite (.or [.not (.isa (.loc 0) ["tuple"]), .cmp .ne (.blt .len [.loc 0]) (.lit (.int 6)), .not (.call f_is_one_of [.sub (.loc 0) (.lit (.int 0)), .glb g_CHANGES])])
    [.ret (.lit (.bl false))]
    [], .ret (.and [.call f_is_within [.sub (.loc 0) (.lit (.int 1)), .lit (.int 1), .glb g_MOST_SIZE], .blt .all [.comp (.nm 1) [1] .over [.slc (.loc 0) (some (.lit (.int 2))) none] [] (.isa (.loc 1) ["bool"])]])]
abbrev ir_look_at_rule : List U.St := [.ite (.not (.call f_is_rule [.loc 0]))
    [.never]
    []]
abbrev ir_look_at_change : List U.St := [.ite (.not (.call f_is_one_of [.loc 0, .glb g_CHANGES]))
    [.never]
    []]
abbrev ir_look_at_view : List U.St := [.ite (.not (.call f_is_view [.loc 0]))
    [.never]
    []]
abbrev ir_holds_plainly : List U.St := [.ite (.cmp .isin (.loc 0) (.glb g_CHANGES))
    [.ret (.cmp .eq (.loc 2) (.loc 0))]
    [], .ite (.cmp .eq (.slc (.loc 0) none (some (.lit (.int 6)))) (.lit (.str [97, 102, 116, 101, 114, 32])))
    [.ret (.cmp .eq (.sub (.loc 1) (.lit (.int 0))) (.slc (.loc 0) (some (.lit (.int 6))) none))]
    [], .ite (.cmp .eq (.loc 0) (.lit (.str [115, 97, 109, 101])))
    [.ret (.cmp .eq (.sub (.loc 1) (.lit (.int 0))) (.loc 2))]
    [], .ite (.cmp .isin (.loc 0) (.glb g_FLAGS))
    [.ret (.sub (.loc 1) (.bin .add (.lit (.int 2)) (.idxG g_FLAGS (.loc 0))))]
    [], .ret (.cmp .ge (.sub (.loc 1) (.lit (.int 1))) (.blt .int [.slc (.loc 0) (some (.lit (.int 5))) none]))]
abbrev ir_holds : List U.St := [.ite (.cmp .eq (.slc (.loc 0) none (some (.lit (.int 3)))) (.lit (.str [110, 111, 32])))
    [.ret (.not (.call f_holds_plainly [.slc (.loc 0) (some (.lit (.int 3))) none, .loc 1, .loc 2]))]
    [], .ret (.call f_holds_plainly [.loc 0, .loc 1, .loc 2])]
abbrev ir_deciding : List U.St := [.for (.tp [.nm 3, .tp [.nm 4, .nm 5]]) .enum [.loc 0]
    [.ite (.blt .all [.comp (.nm 6) [6] .over [.loc 4] [] (.call f_holds [.loc 6, .loc 1, .loc 2])])
    [.retV 3]
    []], .ret (.lit (.non))]
abbrev ir_decide : List U.St := [.set 3 (.call f_deciding [.loc 0, .loc 1, .loc 2]), .ret (.ite (.cmp .is (.loc 3) (.lit (.non))) (.lit (.str [110, 101, 119])) (.sub (.sub (.loc 0) (.loc 3)) (.lit (.int 1))))]
abbrev ir_decision : List U.St := [.expr (.call f_look_at_rule [.loc 0]), .expr (.call f_look_at_view [.loc 1]), .expr (.call f_look_at_change [.loc 2]), .ret (.call f_decide [.loc 0, .loc 1, .loc 2])]
abbrev ir__law_well : List U.St := [.ite (.cmp .ge (.loc 0) (.bin .pow (.lit (.int 10)) (.lit (.int 18))))
    [.ret (.new (.lst [.bin .sub (.loc 0) (.bin .pow (.lit (.int 10)) (.lit (.int 18))), .bin .mod (.loc 0) (.lit (.int 2305843009213693951)), .loc 1]))]
    [], .ret (.new (.lst [.lit (.int 0), .bin .mod (.loc 0) (.lit (.int 2305843009213693951)), .loc 1]))]
abbrev ir__law_take : List U.St := [.ite (.cmp .gt (.sub (.loc 0) (.lit (.int 0))) (.lit (.int 0)))
    [.set 4 (.bin .mod (.sub (.loc 0) (.lit (.int 0))) (.loc 1)), .put (.loc 0) (.lit (.int 0)) (.bin .fdiv (.sub (.loc 0) (.lit (.int 0))) (.loc 1)), .retV 4]
    [], .put (.loc 0) (.lit (.int 2)) (.bin .add (.sub (.loc 0) (.lit (.int 2))) (.lit (.int 1))), .set 2 (.lit (.int 2305843009213693951)), .set 3 (.bin .mod (.bin .add (.sub (.loc 0) (.lit (.int 1))) (.bin .mul (.lit (.int 1000003)) (.sub (.loc 0) (.lit (.int 2))))) (.loc 2)), .set 3 (.bin .mod (.bin .add (.bin .add (.bin .mul (.loc 3) (.loc 3)) (.bin .mul (.lit (.int 7919)) (.bin .pow (.sub (.loc 0) (.lit (.int 2))) (.lit (.int 2))))) (.lit (.int 5))) (.loc 2)), .ret (.bin .mod (.bin .fdiv (.bin .mod (.bin .pow (.loc 3) (.lit (.int 3))) (.loc 2)) (.lit (.int 13))) (.loc 1))]
abbrev ir__law_bags : List U.St := [.ret (.comp (.tp [.nm 2, .nm 3]) [2, 3] .enum [.bin .add (.slc (.loc 0) none (some (.loc 1))) (.lst [.lit (.int 0)])] [] (.call f__law_well [.loc 3, .bin .mul (.lit (.int 977)) (.loc 2)]))]
abbrev ir__law_same : List U.St := [.ite (.or [.and [.isa (.loc 0) ["list"], .isa (.loc 1) ["list"]], .and [.isa (.loc 0) ["tuple"], .isa (.loc 1) ["tuple"]]])
    [.ret (.and [.cmp .eq (.blt .len [.loc 0]) (.blt .len [.loc 1]), .blt .all [.comp (.tp [.nm 2, .nm 3]) [2, 3] .zip [.loc 0, .loc 1] [] (.call f__law_same [.loc 2, .loc 3])]])]
    [], .ite (.or [.isa (.loc 0) ["bool", "list", "tuple"], .isa (.loc 1) ["bool", "list", "tuple"]])
    [.ret (.and [.isa (.loc 0) ["bool"], .isa (.loc 1) ["bool"], .cmp .eq (.loc 0) (.loc 1)])]
    [], .ite (.or [.isa (.loc 0) ["int"], .isa (.loc 1) ["int"]])
    [.ret (.and [.isa (.loc 0) ["int"], .isa (.loc 1) ["int"], .cmp .eq (.loc 0) (.loc 1)])]
    [], .ite (.or [.isa (.loc 0) ["str"], .isa (.loc 1) ["str"]])
    [.ret (.and [.isa (.loc 0) ["str"], .isa (.loc 1) ["str"], .cmp .eq (.loc 0) (.loc 1)])]
    [], .ret (.and [.cmp .is (.loc 0) (.lit (.non)), .cmp .is (.loc 1) (.lit (.non))])]
abbrev ir__law_changes : List U.St := [.ret (.lst [.lit (.str [98, 108, 97, 110, 107]), .lit (.str [101, 114, 97, 115, 101]), .lit (.str [108, 101, 116, 116, 101, 114]), .lit (.str [112, 97, 115, 116, 101])])]
abbrev ir__law_tests : List U.St := [.set 0 (.bin .add (.call f__law_changes []) (.comp (.nm 1) [1] .over [.call f__law_changes []] [] (.bin .add (.lit (.str [97, 102, 116, 101, 114, 32])) (.loc 1)))), .set 0 (.bin .add (.loc 0) (.lst [.lit (.str [115, 97, 109, 101]), .lit (.str [109, 111, 118, 101, 100]), .lit (.str [119, 97, 105, 116, 101, 100]), .lit (.str [115, 97, 118, 101, 100]), .lit (.str [117, 110, 100, 111, 110, 101])])), .ret (.bin .add (.loc 0) (.comp (.nm 2) [2] .range2 [.lit (.int 2), .lit (.int 10)] [] (.bin .add (.lit (.str [108, 111, 110, 103, 32])) (.blt .str [.loc 2]))))]
abbrev ir__law_test : List U.St := [.set 1 (.bin .add (.call f__law_tests []) (.lst [.lit (.str [115, 97, 109, 101]), .lit (.str [115, 97, 109, 101]), .lit (.str [108, 111, 110, 103, 32, 51]), .lit (.str [108, 111, 110, 103, 32, 50]), .lit (.str [109, 111, 118, 101, 100]), .lit (.str [115, 97, 118, 101, 100]), .lit (.str [117, 110, 100, 111, 110, 101])])), .ret (.bin .add (.sub (.lst [.lit (.str []), .lit (.str []), .lit (.str [110, 111, 32])]) (.call f__law_take [.loc 0, .lit (.int 3)])) (.sub (.loc 1) (.call f__law_take [.loc 0, .lit (.int 28)])))]
abbrev ir__law_clause : List U.St := [.set 1 (.blt .tuple [.comp (.nm 2) [2] .range1 [.sub (.lst [.lit (.int 0), .lit (.int 1), .lit (.int 1), .lit (.int 2), .lit (.int 2), .lit (.int 3)]) (.call f__law_take [.loc 0, .lit (.int 6)])] [] (.call f__law_test [.loc 0])]), .ret (.tup [.loc 1, .sub (.lst [.lit (.str [106, 111, 105, 110]), .lit (.str [106, 111, 105, 110]), .lit (.str [110, 101, 119])]) (.call f__law_take [.loc 0, .lit (.int 3)])])]
abbrev ir__law_known : List U.St := [.set 1 (.lst [.tup [.tup [.tup [.lit (.str [115, 97, 109, 101])], .lit (.str [106, 111, 105, 110])]], .tup [.tup [.tup [], .lit (.str [106, 111, 105, 110])]], .tup [.tup [.tup [.lit (.str [109, 111, 118, 101, 100])], .lit (.str [110, 101, 119])], .tup [.tup [.lit (.str [108, 111, 110, 103, 32, 51])], .lit (.str [110, 101, 119])], .tup [.tup [], .lit (.str [106, 111, 105, 110])]]]), .app 1 (.tup [.tup [.tup [.lit (.str [109, 111, 118, 101, 100])], .lit (.str [110, 101, 119])], .tup [.tup [.lit (.str [117, 110, 100, 111, 110, 101])], .lit (.str [110, 101, 119])], .tup [.tup [.lit (.str [115, 97, 109, 101])], .lit (.str [106, 111, 105, 110])], .tup [.tup [.lit (.str [98, 108, 97, 110, 107]), .lit (.str [97, 102, 116, 101, 114, 32, 108, 101, 116, 116, 101, 114])], .lit (.str [106, 111, 105, 110])]]), .app 1 (.tup [.tup [.tup [.lit (.str [115, 97, 118, 101, 100])], .lit (.str [110, 101, 119])], .tup [.tup [.lit (.str [108, 101, 116, 116, 101, 114])], .lit (.str [106, 111, 105, 110])]]), .ret (.sub (.loc 1) (.call f__law_take [.loc 0, .lit (.int 5)]))]
abbrev ir__law_rule : List U.St := [.set 2 (.call f__law_take [.loc 0, .lit (.int 4)]), .ite (.cmp .eq (.loc 2) (.lit (.int 0)))
    [.ret (.blt .tuple [.comp (.nm 5) [5] .range1 [.call f__law_take [.loc 0, .bin .add (.loc 1) (.lit (.int 1))]] [] (.call f__law_clause [.loc 0])])]
    [], .set 3 (.call f__law_known [.loc 0]), .set 4 (.call f__law_take [.loc 0, .blt .len [.loc 3]]), .ite (.cmp .eq (.loc 2) (.lit (.int 1)))
    [.set 3 (.bin .add (.bin .add (.slc (.loc 3) none (some (.loc 4))) (.tup [.call f__law_clause [.loc 0]])) (.slc (.loc 3) (some (.loc 4)) none))]
    [.ite (.cmp .eq (.loc 2) (.lit (.int 2)))
    [.set 3 (.bin .add (.bin .add (.slc (.loc 3) none (some (.loc 4))) (.bin .mul (.tup [.call f__law_clause [.loc 0]]) (.call f__law_take [.loc 0, .lit (.int 2)]))) (.slc (.loc 3) (some (.bin .add (.loc 4) (.lit (.int 1)))) none))]
    []], .ret (.slc (.loc 3) none (some (.loc 1)))]
abbrev ir__law_limit : List U.St := [.ret (.sub (.lst [.lit (.non), .lit (.non), .lit (.int 1), .lit (.int 2), .lit (.int 3)]) (.call f__law_take [.loc 0, .lit (.int 5)]))]
abbrev ir__law_holds : List U.St := [.ite (.cmp .eq (.slc (.loc 0) none (some (.lit (.int 3)))) (.lit (.str [110, 111, 32])))
    [.ret (.not (.call f__law_holds [.slc (.loc 0) (some (.lit (.int 3))) none, .loc 1, .loc 2]))]
    [], .ite (.cmp .isin (.loc 0) (.call f__law_changes []))
    [.ret (.cmp .eq (.loc 2) (.loc 0))]
    [], .ite (.cmp .eq (.slc (.loc 0) none (some (.lit (.int 5)))) (.lit (.str [97, 102, 116, 101, 114])))
    [.ret (.cmp .eq (.bin .add (.lit (.str [97, 102, 116, 101, 114, 32])) (.sub (.loc 1) (.lit (.int 0)))) (.loc 0))]
    [], .ite (.cmp .eq (.loc 0) (.lit (.str [115, 97, 109, 101])))
    [.ret (.cmp .eq (.sub (.loc 1) (.lit (.int 0))) (.loc 2))]
    [], .ite (.cmp .eq (.slc (.loc 0) none (some (.lit (.int 4)))) (.lit (.str [108, 111, 110, 103])))
    [.ret (.cmp .ge (.sub (.loc 1) (.lit (.int 1))) (.blt .int [.slc (.loc 0) (some (.lit (.int 5))) none]))]
    [], .ret (.dzip [.lst [.lit (.str [109, 111, 118, 101, 100]), .lit (.str [119, 97, 105, 116, 101, 100]), .lit (.str [115, 97, 118, 101, 100]), .lit (.str [117, 110, 100, 111, 110, 101])], .slc (.loc 1) (some (.lit (.int 2))) none] (.loc 0))]
abbrev ir__law_decides : List U.St := [.for (.tp [.nm 3, .nm 4]) .over [.loc 0]
    [.ite (.cmp .eq (.comp (.nm 5) [5] .over [.loc 3] [.not (.call f__law_holds [.loc 5, .loc 1, .loc 2])] (.loc 5)) (.lst []))
    [.retV 4]
    []], .ret (.lit (.str [110, 101, 119]))]
abbrev ir__law_any_view : List U.St := [.set 1 (.blt .tuple [.comp (.nm 2) [2] .range1 [.lit (.int 4)] [] (.cmp .eq (.call f__law_take [.loc 0, .lit (.int 2)]) (.lit (.int 0)))]), .ret (.bin .add (.tup [.sub (.call f__law_changes []) (.call f__law_take [.loc 0, .lit (.int 4)]), .bin .add (.lit (.int 1)) (.call f__law_take [.loc 0, .lit (.int 9)])]) (.loc 1))]
abbrev ir_law : List U.St := [.for (.nm 1) .over [.call f__law_bags [.loc 0, .lit (.int 10)]]
    [.set 2 (.call f__law_rule [.loc 1, .lit (.int 8)]), .for (.nm 3) .range1 [.lit (.int 12)]
    [.par [6, 7, 8] [.call f__law_any_view [.loc 1], .sub (.call f__law_changes []) (.call f__law_take [.loc 1, .lit (.int 4)]), .call f__law_test [.loc 1]], .ite (.not (.call f__law_same [.call f_decision [.loc 2, .loc 6, .loc 7], .call f__law_decides [.loc 2, .loc 6, .loc 7]]))
    [.ret (.lit (.bl false))]
    [], .set 4 (.ite (.call f__law_holds [.loc 8, .loc 6, .loc 7]) (.lit (.str [106, 111, 105, 110])) (.lit (.str [110, 101, 119]))), .ite (.not (.call f__law_same [.call f_decision [.tup [.tup [.tup [.loc 8], .lit (.str [106, 111, 105, 110])]], .loc 6, .loc 7], .loc 4]))
    [.ret (.lit (.bl false))]
    [], .set 5 (.ite (.cmp .eq (.slc (.loc 8) none (some (.lit (.int 3)))) (.lit (.str [110, 111, 32]))) (.slc (.loc 8) (some (.lit (.int 3))) none) (.loc 8)), .ite (.cmp .ne (.call f_decision [.tup [.tup [.tup [.loc 5], .lit (.str [106, 111, 105, 110])], .tup [.tup [.bin .add (.lit (.str [110, 111, 32])) (.loc 5)], .lit (.str [106, 111, 105, 110])], .tup [.tup [], .lit (.str [110, 101, 119])]], .loc 6, .loc 7]) (.lit (.str [106, 111, 105, 110])))
    [.ret (.lit (.bl false))]
    [], .ite (.cmp .ne (.call f_decision [.tup [.tup [.tup [.loc 5, .bin .add (.lit (.str [110, 111, 32])) (.loc 5)], .lit (.str [106, 111, 105, 110])]], .loc 6, .loc 7]) (.lit (.str [110, 101, 119])))
    [.ret (.lit (.bl false))]
    []]], .ret (.lit (.bl true))]
def defs : List Def := [
  ⟨3, 3, ir_is_within⟩,
  ⟨2, 2, ir_is_one_of⟩,
  ⟨1, 1, ir_is_test⟩,
  ⟨1, 2, ir_is_clause⟩,
  ⟨1, 2, ir_is_rule⟩,
  ⟨1, 2, ir_is_view⟩,
  ⟨1, 1, ir_look_at_rule⟩,
  ⟨1, 1, ir_look_at_change⟩,
  ⟨1, 1, ir_look_at_view⟩,
  ⟨3, 3, ir_holds_plainly⟩,
  ⟨3, 3, ir_holds⟩,
  ⟨3, 7, ir_deciding⟩,
  ⟨3, 4, ir_decide⟩,
  ⟨3, 3, ir_decision⟩,
  ⟨2, 2, ir__law_well⟩,
  ⟨2, 5, ir__law_take⟩,
  ⟨2, 4, ir__law_bags⟩,
  ⟨2, 4, ir__law_same⟩,
  ⟨0, 0, ir__law_changes⟩,
  ⟨0, 3, ir__law_tests⟩,
  ⟨1, 2, ir__law_test⟩,
  ⟨1, 3, ir__law_clause⟩,
  ⟨1, 2, ir__law_known⟩,
  ⟨2, 6, ir__law_rule⟩,
  ⟨1, 1, ir__law_limit⟩,
  ⟨3, 3, ir__law_holds⟩,
  ⟨3, 6, ir__law_decides⟩,
  ⟨1, 3, ir__law_any_view⟩,
  ⟨1, 9, ir_law⟩]
def G : Prg := ⟨defs, gl.map (·.2)⟩
def gm : Gm := gmOf fs gl fr nw ar
theorem bds : BDs fs := ⟨(fun _ _ _ _ _ _ us hl => match us, hl with | [_, _, _], _ => rfl), (fun _ _ _ _ _ _ us hl => match us, hl with | [_, _], _ => rfl), (fun _ _ _ _ _ _ us hl => match us, hl with | [_], _ => rfl), (fun _ _ _ _ _ _ us hl => match us, hl with | [_], _ => rfl), (fun _ _ _ _ _ _ us hl => match us, hl with | [_], _ => rfl), (fun _ _ _ _ _ _ us hl => match us, hl with | [_], _ => rfl), (fun _ _ _ _ _ _ us hl => match us, hl with | [_], _ => rfl), (fun _ _ _ _ _ _ us hl => match us, hl with | [_], _ => rfl), (fun _ _ _ _ _ _ us hl => match us, hl with | [_], _ => rfl), (fun _ _ _ _ _ _ us hl => match us, hl with | [_, _, _], _ => rfl), (fun _ _ _ _ _ _ us hl => match us, hl with | [_, _, _], _ => rfl), (fun _ _ _ _ _ _ us hl => match us, hl with | [_, _, _], _ => rfl), (fun _ _ _ _ _ _ us hl => match us, hl with | [_, _, _], _ => rfl), (fun _ _ _ _ _ _ us hl => match us, hl with | [_, _, _], _ => rfl), (fun _ _ _ _ _ _ us hl => match us, hl with | [_, _], _ => rfl), (fun _ _ _ _ _ _ us hl => match us, hl with | [_, _], _ => rfl), (fun _ _ _ _ _ _ us hl => match us, hl with | [_, _], _ => rfl), (fun _ _ _ _ _ _ us hl => match us, hl with | [_, _], _ => rfl), (fun _ _ _ _ _ _ us hl => match us, hl with | [], _ => rfl), (fun _ _ _ _ _ _ us hl => match us, hl with | [], _ => rfl), (fun _ _ _ _ _ _ us hl => match us, hl with | [_], _ => rfl), (fun _ _ _ _ _ _ us hl => match us, hl with | [_], _ => rfl), (fun _ _ _ _ _ _ us hl => match us, hl with | [_], _ => rfl), (fun _ _ _ _ _ _ us hl => match us, hl with | [_, _], _ => rfl), (fun _ _ _ _ _ _ us hl => match us, hl with | [_], _ => rfl), (fun _ _ _ _ _ _ us hl => match us, hl with | [_, _, _], _ => rfl), (fun _ _ _ _ _ _ us hl => match us, hl with | [_, _, _], _ => rfl), (fun _ _ _ _ _ _ us hl => match us, hl with | [_], _ => rfl), (fun _ _ _ _ _ _ us hl => match us, hl with | [_], _ => rfl), trivial⟩
end Lw

set_option Elab.async false
set_option linter.all false
set_option maxRecDepth 100000
set_option maxHeartbeats 0
namespace Lw
open PySem U
local macro_rules | `(tactic| walk_at "w") => `(tactic| repeat first
  | (with_reducible refine thenL_nx.mpr ?_) | (with_reducible refine thenL_rt.mpr ?_) | (with_reducible refine endF_rt.mpr ?_) | (with_reducible refine endF_nx.mpr ?_)
  | (with_reducible refine L_nil.mpr ?_) | (with_reducible refine L_cons.mpr ?_)
  | (with_reducible refine S_set.mpr ?_) | (with_reducible refine S_par.mpr ?_) | (with_reducible refine S_unp.mpr ?_) | (with_reducible refine S_expr.mpr ?_) | (with_reducible refine S_ret.mpr ?_)
  | (with_reducible refine S_retV.mpr ?_) | (with_reducible refine S_retN.mpr ?_) | (with_reducible refine S_ite.mpr ?_) | (with_reducible refine S_put.mpr ?_) | (with_reducible refine S_app ?_) | (with_reducible refine S_appR.mpr ?_)
  | (with_reducible refine W_loc.mpr ?_) | (with_reducible refine W_lit.mpr ?_) | (with_reducible refine W_glb.mpr ?_) | (with_reducible refine W_tup.mpr ?_) | (with_reducible refine W_lst.mpr ?_)
  | (with_reducible refine W_bin.mpr ?_) | (with_reducible refine W_neg.mpr ?_) | (with_reducible refine W_cmp.mpr ?_) | (with_reducible refine W_cmp2.mpr ?_) | (with_reducible refine W_not.mpr ?_)
  | (with_reducible refine W_and.mpr ?_) | (with_reducible refine W_and1.mpr ?_) | (with_reducible refine W_andc.mpr ?_) | (with_reducible refine W_or.mpr ?_) | (with_reducible refine W_or1.mpr ?_) | (with_reducible refine W_orc.mpr ?_)
  | (with_reducible refine W_ite.mpr ?_) | (with_reducible refine W_call.mpr ?_) | (with_reducible refine W_blt.mpr ?_) | (with_reducible refine W_isa.mpr ?_) | (with_reducible refine W_sub.mpr ?_)
  | (with_reducible refine W_slc.mpr ?_) | (with_reducible refine W_O0.mpr ?_) | (with_reducible refine W_O1.mpr ?_) | (with_reducible refine W_rev.mpr ?_) | (with_reducible refine W_new.mpr ?_)
  | (with_reducible refine W_R0.mpr ?_) | (with_reducible refine W_R1.mpr ?_) | (with_reducible refine W_A0.mpr ?_) | (with_reducible refine W_A1.mpr ?_) | (with_reducible refine W_K0.mpr ?_) | (with_reducible refine W_K1.mpr ?_)
  | (with_reducible refine W_dzip.mpr ?_) | (with_reducible refine W_idxG.mpr ?_) | (with_reducible refine W_newD.mpr ?_) | (with_reducible refine W_dget.mpr ?_) | (with_reducible refine W_ntD.mpr ?_)
  | ((with_reducible apply W_guard); (focus (first | exact iv_stb | exact iv_own | exact iv_leaf | rfl)))
  | ((with_reducible apply loc_i); focus rfl)
  | (with_reducible refine WO_i slcT ?_) | (with_reducible refine WO_i len_pk ?_) | (with_reducible refine WO_i tuple_pk ?_) | (with_reducible refine WO_i list_pk ?_) | (with_reducible refine WO_i all_pk ?_) | (with_reducible refine WO_i keep_mkL ?_) | (with_reducible refine WO_i hold_mkL ?_)
  | ((with_reducible refine WO_eqS ?_ ?_ ?_); (focus (first | rfl | exact okS_deed _ | exact okS_chg _ | exact okS_tst _ | exact okS_w0 _)); (focus (first | rfl | exact okS_deed _ | exact okS_chg _ | exact okS_tst _ | exact okS_w0 _)))
  | ((with_reducible refine WO_neS ?_ ?_ ?_); (focus (first | rfl | exact okS_deed _ | exact okS_chg _ | exact okS_tst _ | exact okS_w0 _)); (focus (first | rfl | exact okS_deed _ | exact okS_chg _ | exact okS_tst _ | exact okS_w0 _)))
  | ((with_reducible refine WO_inS ?_ ?_); focus rfl) | ((with_reducible refine WO_ninS ?_ ?_); focus rfl) | ((with_reducible refine WO_inL ?_ ?_ ?_); (focus rfl); (focus (first | rfl | exact okS_deed _ | exact okS_chg _ | exact okS_tst _ | exact okS_w0 _)))
  | ((with_reducible apply WO_i); focus rfl) | ((with_reducible apply B2_t); focus rfl) | ((with_reducible apply B2_f); focus rfl)
  | ((with_reducible refine sz_i ?_ ?_); focus rfl) | ((with_reducible refine iv_i ?_ ?_); (focus (first | exact iv_stb | exact iv_own | exact iv_leaf | rfl)))
  | ((with_reducible refine av_i ?_ ?_); focus rfl) | ((with_reducible refine rf_i ?_ ?_); focus rfl))
local macro_rules | `(tactic| walk_at "s") => `(tactic| repeat first
  | (with_reducible refine thenL_nx.mpr ?_) | (with_reducible refine thenL_rt.mpr ?_) | (with_reducible refine endF_rt.mpr ?_) | (with_reducible refine endF_nx.mpr ?_)
  | (with_reducible refine L_nil.mpr ?_) | (with_reducible refine L_cons.mpr ?_)
  | (with_reducible refine S_set.mpr ?_) | (with_reducible refine S_par.mpr ?_) | (with_reducible refine S_unp.mpr ?_) | (with_reducible refine S_expr.mpr ?_) | (with_reducible refine S_ret.mpr ?_)
  | (with_reducible refine S_retV.mpr ?_) | (with_reducible refine S_retN.mpr ?_) | (with_reducible refine S_ite.mpr ?_) | (with_reducible refine S_put.mpr ?_) | (with_reducible refine S_app ?_) | (with_reducible refine S_appR.mpr ?_)
  | (with_reducible refine W_loc.mpr ?_) | (with_reducible refine W_lit.mpr ?_) | (with_reducible refine W_glb.mpr ?_) | (with_reducible refine W_tup.mpr ?_) | (with_reducible refine W_lst.mpr ?_)
  | (with_reducible refine W_bin.mpr ?_) | (with_reducible refine W_neg.mpr ?_) | (with_reducible refine W_cmp.mpr ?_) | (with_reducible refine W_cmp2.mpr ?_) | (with_reducible refine W_not.mpr ?_)
  | (with_reducible refine W_and.mpr ?_) | (with_reducible refine W_and1.mpr ?_) | (with_reducible refine W_andc.mpr ?_) | (with_reducible refine W_or.mpr ?_) | (with_reducible refine W_or1.mpr ?_) | (with_reducible refine W_orc.mpr ?_)
  | (with_reducible refine W_call.mpr ?_) | (with_reducible refine W_blt.mpr ?_) | (with_reducible refine W_isa.mpr ?_) | (with_reducible refine W_sub.mpr ?_)
  | (with_reducible refine W_slc.mpr ?_) | (with_reducible refine W_O0.mpr ?_) | (with_reducible refine W_O1.mpr ?_) | (with_reducible refine W_rev.mpr ?_) | (with_reducible refine W_new.mpr ?_)
  | (with_reducible refine W_R0.mpr ?_) | (with_reducible refine W_R1.mpr ?_) | (with_reducible refine W_A0.mpr ?_) | (with_reducible refine W_A1.mpr ?_) | (with_reducible refine W_K0.mpr ?_) | (with_reducible refine W_K1.mpr ?_)
  | (with_reducible refine W_dzip.mpr ?_) | (with_reducible refine W_idxG.mpr ?_) | (with_reducible refine W_newD.mpr ?_) | (with_reducible refine W_dget.mpr ?_) | (with_reducible refine W_ntD.mpr ?_)
  | ((with_reducible apply W_guard); (focus (first | exact iv_stb | exact iv_own | exact iv_leaf | rfl)))
  | ((with_reducible apply loc_i); focus rfl)
  | (with_reducible refine WO_i slcT ?_) | (with_reducible refine WO_i len_pk ?_) | (with_reducible refine WO_i tuple_pk ?_) | (with_reducible refine WO_i list_pk ?_) | (with_reducible refine WO_i all_pk ?_) | (with_reducible refine WO_i keep_mkL ?_) | (with_reducible refine WO_i hold_mkL ?_)
  | ((with_reducible refine WO_eqS ?_ ?_ ?_); (focus (first | rfl | exact okS_deed _ | exact okS_chg _ | exact okS_tst _ | exact okS_w0 _)); (focus (first | rfl | exact okS_deed _ | exact okS_chg _ | exact okS_tst _ | exact okS_w0 _)))
  | ((with_reducible refine WO_neS ?_ ?_ ?_); (focus (first | rfl | exact okS_deed _ | exact okS_chg _ | exact okS_tst _ | exact okS_w0 _)); (focus (first | rfl | exact okS_deed _ | exact okS_chg _ | exact okS_tst _ | exact okS_w0 _)))
  | ((with_reducible refine WO_inS ?_ ?_); focus rfl) | ((with_reducible refine WO_ninS ?_ ?_); focus rfl) | ((with_reducible refine WO_inL ?_ ?_ ?_); (focus rfl); (focus (first | rfl | exact okS_deed _ | exact okS_chg _ | exact okS_tst _ | exact okS_w0 _)))
  | ((with_reducible apply WO_i); focus rfl) | ((with_reducible apply B2_t); focus rfl) | ((with_reducible apply B2_f); focus rfl)
  | ((with_reducible refine sz_i ?_ ?_); focus rfl) | ((with_reducible refine iv_i ?_ ?_); (focus (first | exact iv_stb | exact iv_own | exact iv_leaf | rfl)))
  | ((with_reducible refine av_i ?_ ?_); focus rfl) | ((with_reducible refine rf_i ?_ ?_); focus rfl))


abbrev pp : Int := 2305843009213693951
def bag (a b c : Int) : O := .lst [.leaf (.int a), .leaf (.int b), .leaf (.int c)]
def bagOk (t : Int) (o : O) : Prop := ∃ a b c, o = bag a b c ∧ 0 ≤ b ∧ b < pp ∧ 0 ≤ c ∧ c ≤ t
/-- the first L objects are wells, behind them stands tl -/
def Si (t : Int) (L : Nat) (tl : List O) (S : AS) : Prop := ∃ bs, bs.length = L ∧ (∀ o ∈ bs, bagOk t o) ∧ S.os = bs ++ tl
theorem Si.mono {t t' : Int} {L : Nat} {tl : List O} {S : AS} (h : Si t L tl S) (e : t ≤ t') : Si t' L tl S := by
  obtain ⟨bs, h1, h2, h3⟩ := h
  refine ⟨bs, h1, fun o ho => ?_, h3⟩
  obtain ⟨a, b, c, e1, e2, e3, e4, e5⟩ := h2 o ho
  exact ⟨a, b, c, e1, e2, e3, e4, Int.le_trans e5 e⟩
theorem Si.at {t : Int} {L : Nat} {tl : List O} {S : AS} {k : Nat} (h : Si t L tl S) (hk : k < L) : ∃ a b c, S.os[k]? = some (bag a b c) ∧ k < S.os.length ∧ 0 ≤ b ∧ b < pp ∧ 0 ≤ c ∧ c ≤ t := by
  obtain ⟨bs, h1, h2, h3⟩ := h
  obtain ⟨a, b, c, e1, e2⟩ := h2 bs[k] (List.getElem_mem (by omega))
  exact ⟨a, b, c, by rw [h3, List.getElem?_append_left (by omega), List.getElem?_eq_getElem (by omega), e1], by rw [h3, List.length_append]; omega, e2⟩
theorem Si.set {t t' : Int} {L : Nat} {tl : List O} {S : AS} {k : Nat} {a b c : Int} {f : Bool} (h : Si t L tl S) (hk : k < L) (e : t ≤ t') (h1 : 0 ≤ b) (h2 : b < pp) (h3 : 0 ≤ c) (h4 : c ≤ t') : Si t' L tl ⟨S.os.set k (bag a b c), f⟩ := by
  obtain ⟨bs, g1, g2, g3⟩ := h.mono e
  refine ⟨bs.set k (bag a b c), by rw [List.length_set]; exact g1, fun o ho => ?_, by show S.os.set k _ = _; rw [g3, List.set_append_left _ _ (by omega)]⟩
  rcases List.mem_or_eq_of_mem_set ho with ho | rfl
  · exact g2 o ho
  · exact ⟨a, b, c, rfl, h1, h2, h3, h4⟩
theorem Si.add {t : Int} {L : Nat} {tl js : List O} {S : AS} {f : Bool} (h : Si t L tl S) : Si t L (tl ++ js) ⟨S.os ++ js, f⟩ := by
  obtain ⟨bs, g1, g2, g3⟩ := h
  exact ⟨bs, g1, g2, by show S.os ++ js = _; rw [g3, List.append_assoc]⟩
theorem isVol_leaf {p : P} {s : Sta} : isVol ⟨.leaf p, s⟩ = false := rfl
theorem sub_bag0 {a b c : Int} {s s' : Sta} : subA ⟨bag a b c, s⟩ ⟨.leaf (.int 0), s'⟩ = some (R.p (.int a)) := rfl
theorem sub_bag1 {a b c : Int} {s s' : Sta} : subA ⟨bag a b c, s⟩ ⟨.leaf (.int 1), s'⟩ = some (R.p (.int b)) := rfl
theorem sub_bag2 {a b c : Int} {s s' : Sta} : subA ⟨bag a b c, s⟩ ⟨.leaf (.int 2), s'⟩ = some (R.p (.int c)) := rfl
theorem put_bag0 {a b c i : Int} : putO (bag a b c) (.int 0) (.int i) = some (bag i b c) := rfl
theorem put_bag2 {a b c i : Int} : putO (bag a b c) (.int 2) (.int i) = some (bag a b i) := rfl
theorem int_leaf {i : Int} : O.int? (.leaf (.int i)) = some i := rfl
theorem bl_leaf {i : Bool} : O.bl? (.leaf (.bl i)) = some i := rfl
theorem keep_leaf {p : P} {s : Sta} : R.keep ⟨.leaf p, s⟩ = some p := rfl
theorem hold_leaf {p : P} {s : Sta} : R.hold ⟨.leaf p, s⟩ = some (R.p p) := rfl
theorem ref_leaf {k : Nat} : refOf (.leaf (.ref k)) = some k := rfl
theorem cmp_gt {i j : Int} {s s' : Sta} : cmpR .gt ⟨.leaf (.int i), s⟩ ⟨.leaf (.int j), s'⟩ = some (decide (j < i)) := rfl
theorem bin_mod {i j : Int} {s s' : Sta} (h : 0 < j) : binR .mod ⟨.leaf (.int i), s⟩ ⟨.leaf (.int j), s'⟩ = some (R.p (.int (i % j))) := by
  simp only [binR, int_leaf, h, decide_true, if_true]
theorem bin_fdiv {i j : Int} {s s' : Sta} (h : 0 < j) (h2 : j < 1073741824) : binR .fdiv ⟨.leaf (.int i), s⟩ ⟨.leaf (.int j), s'⟩ = some (R.p (.int (i / j))) := by
  simp only [binR, int_leaf, h, h2, decide_true, Bool.and_self, if_true]
theorem bin_add {i j : Int} {s s' : Sta} : binR .add ⟨.leaf (.int i), s⟩ ⟨.leaf (.int j), s'⟩ = some (R.p (.int (i + j))) := rfl
theorem bin_sub {i j : Int} {s s' : Sta} : binR .sub ⟨.leaf (.int i), s⟩ ⟨.leaf (.int j), s'⟩ = some (R.p (.int (i - j))) := rfl
theorem bin_mul {i j : Int} {s s' : Sta} (h : ltSmall i = true ∨ ltSmall j = true) : binR .mul ⟨.leaf (.int i), s⟩ ⟨.leaf (.int j), s'⟩ = some (R.p (.int (i * j))) := by
  simp only [binR, mulR, int_leaf]
  rcases h with h | h <;> simp [h]
theorem bin_pow {i j : Int} {s s' : Sta} (h : 0 ≤ j) (h2 : j ≤ 1000000) (h3 : i.natAbs < 2 ^ 64) : binR .pow ⟨.leaf (.int i), s⟩ ⟨.leaf (.int j), s'⟩ = some (R.p (.int (i ^ j.toNat))) := by
  simp only [binR, int_leaf, h, h2, h3, decide_true, Bool.and_self, if_true]
theorem set_get {α : Type} {l : List α} {k : Nat} {x : α} (h : k < l.length) : (l.set k x)[k]? = some x := List.getElem?_set_self h
theorem small {i : Int} (h : 0 ≤ i) (h2 : i < 2 ^ 64) : ltSmall i = true := by
  unfold ltSmall
  simp only [Bool.and_eq_true, decide_eq_true_eq]
  omega
theorem isVol_stb' {o : O} : isVol ⟨o, .stb⟩ = false := by
  cases o <;> rfl
theorem isVol_own {o : O} : isVol ⟨o, .own⟩ = false := by
  cases o <;> rfl
theorem arg_leaf {p : P} {s : Sta} : argR ⟨.leaf p, s⟩ = some (R.p p) := rfl
theorem arg_stb {os : List O} : argR ⟨.lst os, .stb⟩ = some ⟨.lst os, .stb⟩ := rfl
theorem mkL_o {ps : List P} : (mkL ps).o = .lst (ps.map O.leaf) := rfl
theorem peek_lst {S : AS} {os : List O} {s : Sta} : peek S ⟨.lst os, s⟩ = ⟨.lst os, s⟩ := rfl
theorem peek_int {S : AS} {i : Int} {s : Sta} : peek S ⟨.leaf (.int i), s⟩ = ⟨.leaf (.int i), s⟩ := rfl
theorem peek_str {S : AS} {i : List Nat} {s : Sta} : peek S ⟨.leaf (.str i), s⟩ = ⟨.leaf (.str i), s⟩ := rfl
theorem peek_bl {S : AS} {i : Bool} {s : Sta} : peek S ⟨.leaf (.bl i), s⟩ = ⟨.leaf (.bl i), s⟩ := rfl
theorem peek_non {S : AS} {s : Sta} : peek S ⟨.leaf .non, s⟩ = ⟨.leaf .non, s⟩ := rfl
theorem peek_mkL {S : AS} {ps : List P} : peek S (mkL ps) = mkL ps := rfl
theorem subA_mkL {ps : List P} {i : R} : subA (mkL ps) i = subR (mkL ps) i := rfl
theorem subA_lst {os : List O} {s : Sta} {i : R} : subA ⟨.lst os, s⟩ i = subR ⟨.lst os, s⟩ i := rfl
theorem subA_leaf {p : P} {s : Sta} {i : R} : subA ⟨.leaf p, s⟩ i = subR ⟨.leaf p, s⟩ i := rfl
theorem peek_tup {S : AS} {ps : List P} {s : Sta} : peek S ⟨.leaf (.tup ps), s⟩ = ⟨.leaf (.tup ps), s⟩ := rfl
theorem cmp_lt {i j : Int} {s s' : Sta} : cmpR .lt ⟨.leaf (.int i), s⟩ ⟨.leaf (.int j), s'⟩ = some (decide (i < j)) := rfl
theorem cmp_ge {i j : Int} {s s' : Sta} : cmpR .ge ⟨.leaf (.int i), s⟩ ⟨.leaf (.int j), s'⟩ = some (decide (j ≤ i)) := rfl
theorem cmp_le {i j : Int} {s s' : Sta} : cmpR .le ⟨.leaf (.int i), s⟩ ⟨.leaf (.int j), s'⟩ = some (decide (i ≤ j)) := rfl
theorem take_si {n k L : Nat} {tl : List O} {t m : Int} {S : AS} {Q : R → AS → Prop} (h : Si t L tl S) (ht : t < 2 ^ 60) (hk : k < L) (hm : 0 < m) (hm2 : m < 1073741824)
    (q : ∀ (v : Int) (S' : AS), 0 ≤ v → v < m → Si (t + 1) L tl S' → Q (R.p (.int v)) S') : W (callF G (n + 1) f__law_take [R.p (.ref k), R.p (.int m)] S) Q := by
  obtain ⟨a, b, c, h1, hl, h2, h3, h4, h5⟩ := h.at hk
  refine call_ok (d := ⟨2, 5, ir__law_take⟩) rfl rfl ?_
  have hmod : ∀ i : Int, 0 ≤ i % m ∧ i % m < m := fun i => ⟨Int.emod_nonneg _ (by omega), Int.emod_lt_of_pos _ hm⟩
  simp only [ir__law_take, L_cons, L_nil, S_ite, S_set, S_put, S_ret, S_retV, S_retN, S_par, S_unp, S_expr, thenL_nx, thenL_rt, W_cmp, W_sub, W_loc, W_lit, W_glb, W_bin, W_neg, W_not, W_and, W_and1, W_andc, W_or, W_or1, W_orc, W_ite, W_call, W_blt, W_isa, W_slc, W_O0, W_O1, W_rev, W_new, W_tup, W_lst, W_R0, W_R1, W_A0, W_A1, W_K0, W_K1, List.map, List.replicate, List.append, List.cons_append, List.nil_append, List.getElem?_cons_zero, List.getElem?_cons_succ, Option.some.injEq, exists_eq_left', isVol_leaf, isVol_stb', isVol_own, W_g0, WO_some, B2_some, bl_leaf, int_leaf, keep_leaf, hold_leaf, ref_leaf, arg_leaf, arg_stb, mkL_o, peek_lst, peek_tup, hold_mkL, keep_mkL, isVol_mkL, cmp_gt, cmp_lt, cmp_ge, cmp_le, bin_add, bin_sub, setS, List.length, List.set, Nat.reduceAdd, Nat.reduceLT, Nat.reduceLeDiff, if_true, endF, Nat.sub_self, Nat.reduceSub, true_and, peek_int, peek_ref h1, sub_bag0, sub_bag1, sub_bag2, bin_mod hm, bin_fdiv hm hm2, h1, put_bag0, put_bag2]
  by_cases ha : 0 < a
  · rw [if_pos (by simpa using ha)]
    exact q _ _ (hmod a).1 (hmod a).2 (h.set hk (by omega) h2 h3 h4 (by omega))
  · rw [if_neg (by simpa using ha)]
    have hs : (S.os.set k (bag a b (c + 1)))[k]? = some (bag a b (c + 1)) := set_get hl
    have pk := fun s => peek_ref (S := ⟨S.os.set k (bag a b (c + 1)), true⟩) (s := s) hs
    have small3 : ltSmall 1000003 = true := by decide
    have small4 : ltSmall 7919 = true := by decide
    simp only [L_cons, L_nil, S_ite, S_set, S_put, S_ret, S_retV, S_retN, S_par, S_unp, S_expr, thenL_nx, thenL_rt, W_cmp, W_sub, W_loc, W_lit, W_glb, W_bin, W_neg, W_not, W_and, W_and1, W_andc, W_or, W_or1, W_orc, W_ite, W_call, W_blt, W_isa, W_slc, W_O0, W_O1, W_rev, W_new, W_tup, W_lst, W_R0, W_R1, W_A0, W_A1, W_K0, W_K1, List.map, List.replicate, List.append, List.cons_append, List.nil_append, List.getElem?_cons_zero, List.getElem?_cons_succ, Option.some.injEq, exists_eq_left', isVol_leaf, isVol_stb', isVol_own, W_g0, WO_some, B2_some, bl_leaf, int_leaf, keep_leaf, hold_leaf, ref_leaf, arg_leaf, arg_stb, mkL_o, peek_lst, peek_tup, hold_mkL, keep_mkL, isVol_mkL, cmp_gt, cmp_lt, cmp_ge, cmp_le, bin_add, bin_sub, setS, List.length, List.set, Nat.reduceAdd, Nat.reduceLT, Nat.reduceLeDiff, if_true, endF, Nat.sub_self, Nat.reduceSub, true_and, pk, peek_int, sub_bag1, sub_bag2, bin_mul (.inl small3), bin_mod (show (0 : Int) < 2305843009213693951 by decide)]
    generalize hn1 : (b + 1000003 * (c + 1)) % 2305843009213693951 = n1
    have r1 : 0 ≤ n1 ∧ n1 < pp := hn1 ▸ ⟨Int.emod_nonneg _ (by decide), Int.emod_lt_of_pos _ (by decide)⟩
    refine ⟨_, bin_mul (.inl (small r1.1 (by have := r1.2; omega))), ?_⟩
    simp only [L_cons, L_nil, S_ite, S_set, S_put, S_ret, S_retV, S_retN, S_par, S_unp, S_expr, thenL_nx, thenL_rt, W_cmp, W_sub, W_loc, W_lit, W_glb, W_bin, W_neg, W_not, W_and, W_and1, W_andc, W_or, W_or1, W_orc, W_ite, W_call, W_blt, W_isa, W_slc, W_O0, W_O1, W_rev, W_new, W_tup, W_lst, W_R0, W_R1, W_A0, W_A1, W_K0, W_K1, List.map, List.replicate, List.append, List.cons_append, List.nil_append, List.getElem?_cons_zero, List.getElem?_cons_succ, Option.some.injEq, exists_eq_left', isVol_leaf, isVol_stb', isVol_own, W_g0, WO_some, B2_some, bl_leaf, int_leaf, keep_leaf, hold_leaf, ref_leaf, arg_leaf, arg_stb, mkL_o, peek_lst, peek_tup, hold_mkL, keep_mkL, isVol_mkL, cmp_gt, cmp_lt, cmp_ge, cmp_le, bin_add, bin_sub, setS, List.length, List.set, Nat.reduceAdd, Nat.reduceLT, Nat.reduceLeDiff, if_true, endF, Nat.sub_self, Nat.reduceSub, true_and, pk, peek_int, sub_bag1, sub_bag2]
    refine ⟨_, bin_pow (by decide) (by decide) (by omega), ?_⟩
    simp only [L_cons, L_nil, S_ite, S_set, S_put, S_ret, S_retV, S_retN, S_par, S_unp, S_expr, thenL_nx, thenL_rt, W_cmp, W_sub, W_loc, W_lit, W_glb, W_bin, W_neg, W_not, W_and, W_and1, W_andc, W_or, W_or1, W_orc, W_ite, W_call, W_blt, W_isa, W_slc, W_O0, W_O1, W_rev, W_new, W_tup, W_lst, W_R0, W_R1, W_A0, W_A1, W_K0, W_K1, List.map, List.replicate, List.append, List.cons_append, List.nil_append, List.getElem?_cons_zero, List.getElem?_cons_succ, Option.some.injEq, exists_eq_left', isVol_leaf, isVol_stb', isVol_own, W_g0, WO_some, B2_some, bl_leaf, int_leaf, keep_leaf, hold_leaf, ref_leaf, arg_leaf, arg_stb, mkL_o, peek_lst, peek_tup, hold_mkL, keep_mkL, isVol_mkL, cmp_gt, cmp_lt, cmp_ge, cmp_le, bin_add, bin_sub, setS, List.length, List.set, Nat.reduceAdd, Nat.reduceLT, Nat.reduceLeDiff, if_true, endF, Nat.sub_self, Nat.reduceSub, true_and, bin_mul (.inl small4), bin_mod (show (0 : Int) < 2305843009213693951 by decide)]
    generalize hn2 : (n1 * n1 + 7919 * (c + 1) ^ (2 : Int).toNat + 5) % 2305843009213693951 = n2
    have r2 : 0 ≤ n2 ∧ n2 < pp := hn2 ▸ ⟨Int.emod_nonneg _ (by decide), Int.emod_lt_of_pos _ (by decide)⟩
    refine ⟨_, bin_pow (by decide) (by decide) (by have := r2.2; omega), ?_⟩
    simp only [L_cons, L_nil, S_ite, S_set, S_put, S_ret, S_retV, S_retN, S_par, S_unp, S_expr, thenL_nx, thenL_rt, W_cmp, W_sub, W_loc, W_lit, W_glb, W_bin, W_neg, W_not, W_and, W_and1, W_andc, W_or, W_or1, W_orc, W_ite, W_call, W_blt, W_isa, W_slc, W_O0, W_O1, W_rev, W_new, W_tup, W_lst, W_R0, W_R1, W_A0, W_A1, W_K0, W_K1, List.map, List.replicate, List.append, List.cons_append, List.nil_append, List.getElem?_cons_zero, List.getElem?_cons_succ, Option.some.injEq, exists_eq_left', isVol_leaf, isVol_stb', isVol_own, W_g0, WO_some, B2_some, bl_leaf, int_leaf, keep_leaf, hold_leaf, ref_leaf, arg_leaf, arg_stb, mkL_o, peek_lst, peek_tup, hold_mkL, keep_mkL, isVol_mkL, cmp_gt, cmp_lt, cmp_ge, cmp_le, bin_add, bin_sub, setS, List.length, List.set, Nat.reduceAdd, Nat.reduceLT, Nat.reduceLeDiff, if_true, endF, Nat.sub_self, Nat.reduceSub, true_and, bin_mod (show (0 : Int) < 2305843009213693951 by decide), bin_fdiv (show (0 : Int) < 13 by decide) (show (13 : Int) < 1073741824 by decide), bin_mod hm]
    exact q _ _ (hmod _).1 (hmod _).2 (h.set hk (by omega) h2 h3 (by omega) (by omega))
end Lw

set_option Elab.async false
set_option linter.all false
set_option maxRecDepth 100000
set_option maxHeartbeats 0
namespace Lw
open PySem U
local macro_rules | `(tactic| walk_at "w") => `(tactic| repeat first
  | (with_reducible refine thenL_nx.mpr ?_) | (with_reducible refine thenL_rt.mpr ?_) | (with_reducible refine endF_rt.mpr ?_) | (with_reducible refine endF_nx.mpr ?_)
  | (with_reducible refine L_nil.mpr ?_) | (with_reducible refine L_cons.mpr ?_)
  | (with_reducible refine S_set.mpr ?_) | (with_reducible refine S_par.mpr ?_) | (with_reducible refine S_unp.mpr ?_) | (with_reducible refine S_expr.mpr ?_) | (with_reducible refine S_ret.mpr ?_)
  | (with_reducible refine S_retV.mpr ?_) | (with_reducible refine S_retN.mpr ?_) | (with_reducible refine S_ite.mpr ?_) | (with_reducible refine S_put.mpr ?_) | (with_reducible refine S_app ?_) | (with_reducible refine S_appR.mpr ?_)
  | (with_reducible refine W_loc.mpr ?_) | (with_reducible refine W_lit.mpr ?_) | (with_reducible refine W_glb.mpr ?_) | (with_reducible refine W_tup.mpr ?_) | (with_reducible refine W_lst.mpr ?_)
  | (with_reducible refine W_bin.mpr ?_) | (with_reducible refine W_neg.mpr ?_) | (with_reducible refine W_cmp.mpr ?_) | (with_reducible refine W_cmp2.mpr ?_) | (with_reducible refine W_not.mpr ?_)
  | (with_reducible refine W_and.mpr ?_) | (with_reducible refine W_and1.mpr ?_) | (with_reducible refine W_andc.mpr ?_) | (with_reducible refine W_or.mpr ?_) | (with_reducible refine W_or1.mpr ?_) | (with_reducible refine W_orc.mpr ?_)
  | (with_reducible refine W_ite.mpr ?_) | (with_reducible refine W_call.mpr ?_) | (with_reducible refine W_blt.mpr ?_) | (with_reducible refine W_isa.mpr ?_) | (with_reducible refine W_sub.mpr ?_)
  | (with_reducible refine W_slc.mpr ?_) | (with_reducible refine W_O0.mpr ?_) | (with_reducible refine W_O1.mpr ?_) | (with_reducible refine W_rev.mpr ?_) | (with_reducible refine W_new.mpr ?_)
  | (with_reducible refine W_R0.mpr ?_) | (with_reducible refine W_R1.mpr ?_) | (with_reducible refine W_A0.mpr ?_) | (with_reducible refine W_A1.mpr ?_) | (with_reducible refine W_K0.mpr ?_) | (with_reducible refine W_K1.mpr ?_)
  | (with_reducible refine W_dzip.mpr ?_) | (with_reducible refine W_idxG.mpr ?_) | (with_reducible refine W_newD.mpr ?_) | (with_reducible refine W_dget.mpr ?_) | (with_reducible refine W_ntD.mpr ?_)
  | ((with_reducible apply W_guard); (focus (first | exact iv_stb | exact iv_own | exact iv_leaf | rfl)))
  | ((with_reducible apply loc_i); focus rfl)
  | (with_reducible refine WO_i slcT ?_) | (with_reducible refine WO_i len_pk ?_) | (with_reducible refine WO_i tuple_pk ?_) | (with_reducible refine WO_i list_pk ?_) | (with_reducible refine WO_i all_pk ?_) | (with_reducible refine WO_i keep_mkL ?_) | (with_reducible refine WO_i hold_mkL ?_)
  | ((with_reducible refine WO_eqS ?_ ?_ ?_); (focus (first | rfl | exact okS_deed _ | exact okS_chg _ | exact okS_tst _ | exact okS_w0 _)); (focus (first | rfl | exact okS_deed _ | exact okS_chg _ | exact okS_tst _ | exact okS_w0 _)))
  | ((with_reducible refine WO_neS ?_ ?_ ?_); (focus (first | rfl | exact okS_deed _ | exact okS_chg _ | exact okS_tst _ | exact okS_w0 _)); (focus (first | rfl | exact okS_deed _ | exact okS_chg _ | exact okS_tst _ | exact okS_w0 _)))
  | ((with_reducible refine WO_inS ?_ ?_); focus rfl) | ((with_reducible refine WO_ninS ?_ ?_); focus rfl) | ((with_reducible refine WO_inL ?_ ?_ ?_); (focus rfl); (focus (first | rfl | exact okS_deed _ | exact okS_chg _ | exact okS_tst _ | exact okS_w0 _)))
  | ((with_reducible apply WO_i); focus rfl) | ((with_reducible apply B2_t); focus rfl) | ((with_reducible apply B2_f); focus rfl)
  | ((with_reducible refine sz_i ?_ ?_); focus rfl) | ((with_reducible refine iv_i ?_ ?_); (focus (first | exact iv_stb | exact iv_own | exact iv_leaf | rfl)))
  | ((with_reducible refine av_i ?_ ?_); focus rfl) | ((with_reducible refine rf_i ?_ ?_); focus rfl))
local macro_rules | `(tactic| walk_at "s") => `(tactic| repeat first
  | (with_reducible refine thenL_nx.mpr ?_) | (with_reducible refine thenL_rt.mpr ?_) | (with_reducible refine endF_rt.mpr ?_) | (with_reducible refine endF_nx.mpr ?_)
  | (with_reducible refine L_nil.mpr ?_) | (with_reducible refine L_cons.mpr ?_)
  | (with_reducible refine S_set.mpr ?_) | (with_reducible refine S_par.mpr ?_) | (with_reducible refine S_unp.mpr ?_) | (with_reducible refine S_expr.mpr ?_) | (with_reducible refine S_ret.mpr ?_)
  | (with_reducible refine S_retV.mpr ?_) | (with_reducible refine S_retN.mpr ?_) | (with_reducible refine S_ite.mpr ?_) | (with_reducible refine S_put.mpr ?_) | (with_reducible refine S_app ?_) | (with_reducible refine S_appR.mpr ?_)
  | (with_reducible refine W_loc.mpr ?_) | (with_reducible refine W_lit.mpr ?_) | (with_reducible refine W_glb.mpr ?_) | (with_reducible refine W_tup.mpr ?_) | (with_reducible refine W_lst.mpr ?_)
  | (with_reducible refine W_bin.mpr ?_) | (with_reducible refine W_neg.mpr ?_) | (with_reducible refine W_cmp.mpr ?_) | (with_reducible refine W_cmp2.mpr ?_) | (with_reducible refine W_not.mpr ?_)
  | (with_reducible refine W_and.mpr ?_) | (with_reducible refine W_and1.mpr ?_) | (with_reducible refine W_andc.mpr ?_) | (with_reducible refine W_or.mpr ?_) | (with_reducible refine W_or1.mpr ?_) | (with_reducible refine W_orc.mpr ?_)
  | (with_reducible refine W_call.mpr ?_) | (with_reducible refine W_blt.mpr ?_) | (with_reducible refine W_isa.mpr ?_) | (with_reducible refine W_sub.mpr ?_)
  | (with_reducible refine W_slc.mpr ?_) | (with_reducible refine W_O0.mpr ?_) | (with_reducible refine W_O1.mpr ?_) | (with_reducible refine W_rev.mpr ?_) | (with_reducible refine W_new.mpr ?_)
  | (with_reducible refine W_R0.mpr ?_) | (with_reducible refine W_R1.mpr ?_) | (with_reducible refine W_A0.mpr ?_) | (with_reducible refine W_A1.mpr ?_) | (with_reducible refine W_K0.mpr ?_) | (with_reducible refine W_K1.mpr ?_)
  | (with_reducible refine W_dzip.mpr ?_) | (with_reducible refine W_idxG.mpr ?_) | (with_reducible refine W_newD.mpr ?_) | (with_reducible refine W_dget.mpr ?_) | (with_reducible refine W_ntD.mpr ?_)
  | ((with_reducible apply W_guard); (focus (first | exact iv_stb | exact iv_own | exact iv_leaf | rfl)))
  | ((with_reducible apply loc_i); focus rfl)
  | (with_reducible refine WO_i slcT ?_) | (with_reducible refine WO_i len_pk ?_) | (with_reducible refine WO_i tuple_pk ?_) | (with_reducible refine WO_i list_pk ?_) | (with_reducible refine WO_i all_pk ?_) | (with_reducible refine WO_i keep_mkL ?_) | (with_reducible refine WO_i hold_mkL ?_)
  | ((with_reducible refine WO_eqS ?_ ?_ ?_); (focus (first | rfl | exact okS_deed _ | exact okS_chg _ | exact okS_tst _ | exact okS_w0 _)); (focus (first | rfl | exact okS_deed _ | exact okS_chg _ | exact okS_tst _ | exact okS_w0 _)))
  | ((with_reducible refine WO_neS ?_ ?_ ?_); (focus (first | rfl | exact okS_deed _ | exact okS_chg _ | exact okS_tst _ | exact okS_w0 _)); (focus (first | rfl | exact okS_deed _ | exact okS_chg _ | exact okS_tst _ | exact okS_w0 _)))
  | ((with_reducible refine WO_inS ?_ ?_); focus rfl) | ((with_reducible refine WO_ninS ?_ ?_); focus rfl) | ((with_reducible refine WO_inL ?_ ?_ ?_); (focus rfl); (focus (first | rfl | exact okS_deed _ | exact okS_chg _ | exact okS_tst _ | exact okS_w0 _)))
  | ((with_reducible apply WO_i); focus rfl) | ((with_reducible apply B2_t); focus rfl) | ((with_reducible apply B2_f); focus rfl)
  | ((with_reducible refine sz_i ?_ ?_); focus rfl) | ((with_reducible refine iv_i ?_ ?_); (focus (first | exact iv_stb | exact iv_own | exact iv_leaf | rfl)))
  | ((with_reducible refine av_i ?_ ?_); focus rfl) | ((with_reducible refine rf_i ?_ ?_); focus rfl))


theorem sub_map {α : Type} {xs : List α} {f : α → P} {s s' : Sta} {v : Int} (h0 : 0 ≤ v) (h : v < (xs.length : Int)) : ∃ x ∈ xs, subA ⟨.lst ((xs.map f).map O.leaf), s⟩ ⟨.leaf (.int v), s'⟩ = some (R.p (f x)) := by
  obtain ⟨p, hp, e⟩ := sub_list (ps := xs.map f) (s := s) (s' := s') h0 (by rw [List.length_map]; exact h)
  obtain ⟨x, hx, rfl⟩ := List.mem_map.mp hp
  exact ⟨x, hx, e⟩
abbrev chgs : List Chg := [.blank, .erase, .letter, .paste]
theorem changes_eq {n : Nat} {S : AS} : callF G (n + 1) f__law_changes [] S = some (mkL (chgs.map fun c => .str c.s), S) := by kernel_rfl
abbrev tests21 : List W0 := [.chg .blank, .chg .erase, .chg .letter, .chg .paste, .aft .blank, .aft .erase, .aft .letter, .aft .paste, .same, .moved, .waited, .saved, .undone, .long .s2, .long .s3, .long .s4, .long .s5, .long .s6, .long .s7, .long .s8, .long .s9]
abbrev tests28 : List W0 := [.chg .blank, .chg .erase, .chg .letter, .chg .paste, .aft .blank, .aft .erase, .aft .letter, .aft .paste, .same, .moved, .waited, .saved, .undone, .long .s2, .long .s3, .long .s4, .long .s5, .long .s6, .long .s7, .long .s8, .long .s9, .same, .same, .long .s3, .long .s2, .moved, .saved, .undone]
theorem tests_eq {n : Nat} {S : AS} : callF G (n + 2) f__law_tests [] S = some (mkL (tests21.map fun c => .str c.s), S) := by kernel_rfl
abbrev pres : List Bool := [false, false, true]
theorem tst_len (t : Tst) : t.s.length ≤ 20 := by
  obtain ⟨n, w⟩ := t
  cases n <;> cases w <;> first
    | decide
    | (rename_i c; cases c <;> decide)
theorem add_strI {x y : List Nat} {s s' : Sta} (h : (x ++ y).length ≤ 100) : binR .add ⟨.leaf (.str x), s⟩ ⟨.leaf (.str y), s'⟩ = some (R.p (.str (x ++ y))) :=
  add_str (szI (by rw [← List.length_append]; omega))
section
variable {n k L : Nat} {tl : List O} {t : Int} {S : AS} {Q : R → AS → Prop}
theorem test_ok (h : Si t L tl S) (ht : t + 2 < 2 ^ 60) (hk : k < L)
    (q : ∀ (x : Tst) (S' : AS), Si (t + 2) L tl S' → Q (R.p (.str x.s)) S') : W (callF G (n + 3) f__law_test [R.p (.ref k)] S) Q := by
  refine call_ok (d := ⟨1, 2, ir__law_test⟩) rfl rfl ?_
  refine L_cons.mpr (S_set.mpr (W_bin.mpr (W_call.mpr (W_A0.mpr ⟨_, _, tests_eq (n := n), ?_⟩))))
  refine W.of (a := mkL (tests28.drop 21 |>.map fun c => .str c.s)) (S := S) rfl ?_
  refine ⟨mkL (tests28.map fun c => .str c.s), rfl, _, rfl, ?_⟩
  walk_at "w"
  refine take_si h (by omega) hk (by decide) (by decide) fun v S1 h0 h1 hs => ?_
  obtain ⟨p, -, e⟩ := sub_map (xs := pres) (f := fun b => .str (preS b)) (s := .own) (s' := .stb) h0 h1
  refine ⟨_, e, ?_⟩
  walk_at "w"
  refine take_si hs (by omega) hk (by decide) (by decide) fun v2 S2 h2 h3 hs2 => ?_
  obtain ⟨w, -, e2⟩ := sub_map (xs := tests28) (f := fun b => .str b.s) (s := .stb) (s' := .stb) h2 h3
  refine ⟨_, e2, ?_⟩
  refine ⟨_, add_strI (by have : (preS p ++ w.s).length ≤ 20 := tst_len ⟨p, w⟩; omega), ?_⟩
  walk_at "w"
  exact q ⟨p, w⟩ S2 (hs2.mono (by omega))
theorem typed {α : Type} {f : α → P} {R : α → Prop} : ∀ {qs : List P}, (∀ q ∈ qs, ∃ x, q = f x ∧ R x) → ∃ xs : List α, qs = xs.map f ∧ (∀ x ∈ xs, R x) ∧ xs.length = qs.length
  | [], _ => ⟨[], rfl, fun _ h => (by cases h), rfl⟩
  | q :: qs, h => by
    obtain ⟨x, rfl, hx⟩ := h q List.mem_cons_self
    obtain ⟨xs, rfl, hs, hl⟩ := typed (qs := qs) fun z hz => h z (List.mem_cons_of_mem _ hz)
    exact ⟨x :: xs, rfl, fun z hz => by rcases List.mem_cons.mp hz with rfl | hz; exact hx; exact hs z hz, by simp⟩
/-- range(m): turns that give what they should -/
theorem comp_rangeC {C : U.Ctx} {ρ : U.Env} {vs : List Nat} {e : E} {tt : Tg} {m J : Int} {α : Type} {f : α → P} {Pr : α → Prop} {F : List P → AS → Prop} (c : Int) (hm0 : 0 ≤ m) (hm1 : m ≤ J) (hJ : J ≤ 1000) (h : Si t L tl S)
    (step : ∀ p (j : Nat) (S : AS) (Q : Option P → AS → Prop), j < m → Si (t + c * j) L tl S → (∀ x S', Pr x → Si (t + c * j + c) L tl S' → Q (some (f x)) S') → turnC C tt (wipeE ρ vs) [] e p S Q)
    (q : ∀ (xs : List α) (S' : AS), (∀ x ∈ xs, Pr x) → (xs.length : Int) = m → Si (t + c * m) L tl S' → F (xs.map f) S') :
    WC C tt (wipeE ρ vs) [] e (rangeP 0 m.toNat) S fun qs S2 => sz qs.length = true ∧ F qs S2 := by
  refine WC_inv (I := fun j S => Si (t + c * j) L tl S) (Pq := fun p => ∃ x, p = f x ∧ Pr x) m.toNat _ 0 S _ (by rw [rangeP_length]; omega) (fun p hp j S Q hlt hj hq => ?_) (h.mono (by simp)) fun qs S2 hqs hl h2 => ?_
  · refine step p j S Q (by omega) hj fun x S' hx hs => hq _ _ ⟨x, rfl, hx⟩ (hs.mono ?_)
    rw [Int.natCast_add, Int.mul_add, ← Int.add_assoc]; simp
  · rw [rangeP_length] at hl h2
    obtain ⟨xs, rfl, hx, hxl⟩ := typed hqs
    refine ⟨by rw [hl]; exact szI (by omega), q xs S2 hx (by omega) (h2.mono ?_)⟩
    rw [Nat.zero_add, Int.toNat_of_nonneg hm0]
    exact Int.le_refl _
theorem comp_range {C : U.Ctx} {ρ : U.Env} {vs : List Nat} {e : E} {tt : Tg} {m J : Int} {α : Type} {f : α → P} {Pr : α → Prop} {F : List P → AS → Prop} (c : Int) (hm0 : 0 ≤ m) (hm1 : m ≤ J) (hJ : J ≤ 1000) (h : Si t L tl S)
    (step : ∀ p (j : Nat) (S : AS) (Q : Option P → AS → Prop), j < m → Si (t + c * j) L tl S → (∀ x S', Pr x → Si (t + c * j + c) L tl S' → Q (some (f x)) S') → turnC C tt (wipeE ρ vs) [] e p S Q)
    (q : ∀ (xs : List α) (S' : AS), (∀ x ∈ xs, Pr x) → (xs.length : Int) = m → Si (t + c * m) L tl S' → F (xs.map f) S') :
    WO (itR .range1 (([⟨.leaf (.int m), .stb⟩] : List R).map (peek S))) fun ps => WC C tt (wipeE ρ vs) [] e ps S fun qs S2 => sz qs.length = true ∧ F qs S2 :=
  ⟨_, itR1 (inR hm0 (by omega)), comp_rangeC c hm0 hm1 hJ h step q⟩
abbrev sizes6 : List Int := [0, 1, 1, 2, 2, 3]
theorem clause_ok (h : Si t L tl S) (ht : t + 10 < 2 ^ 60) (hk : k < L)
    (q : ∀ (x : Clause) (S' : AS), OkC x → Si (t + 8) L tl S' → Q (R.p x.e) S') : W (callF G (n + 4) f__law_clause [R.p (.ref k)] S) Q := by
  refine call_ok (d := ⟨1, 3, ir__law_clause⟩) rfl rfl ?_
  refine L_cons.mpr (S_set.mpr (W_blt.mpr (W_R1.mpr (W_comp (W_R1.mpr (W_sub.mpr (W.of (a := mkL (sizes6.map P.int)) (S := S) rfl ?_)))))))
  walk_at "w"
  refine take_si h (by omega) hk (by decide) (by decide) fun v S1 h0 h1 hs => ?_
  obtain ⟨m, hm, e⟩ := sub_map (xs := sizes6) (f := P.int) (s := .own) (s' := .stb) h0 h1
  have hm2 : 0 ≤ m ∧ m ≤ 3 := (show ∀ m ∈ sizes6, 0 ≤ m ∧ m ≤ 3 by decide) m hm
  refine ⟨_, e, ?_⟩
  walk_at "w"
  refine comp_range (c := 2) (f := fun x : Tst => .str x.s) (Pr := fun _ => True) hm2.1 hm2.2 (by decide) hs (fun p j S Q hj hS hq => ?_) fun xs S2 _ hl hs2 => ?_
  · unfold turnC
    refine ⟨_, rfl, ?_⟩
    refine W_And10.mpr ?_
    simp only [if_true]
    walk_at "w"
    refine test_ok hS (by omega) hk fun x S' hs' => ?_
    walk_at "w"
    exact hq x S' trivial (hs'.mono (by omega))
  · walk_at "w"
    refine take_si hs2 (by omega) hk (by decide) (by decide) fun v2 S3 h3 h4 hs3 => ?_
    obtain ⟨b, -, e2⟩ := sub_map (xs := [true, true, false]) (f := fun b => .str (deedS b)) (s := .own) (s' := .stb) h3 h4
    refine ⟨_, e2, ?_⟩
    walk_at "w"
    exact q ⟨xs, b⟩ S3 ⟨by show xs.length ≤ 3; omega⟩ (hs3.mono (by omega))
end
end Lw

set_option Elab.async false
set_option linter.all false
set_option maxRecDepth 100000
set_option maxHeartbeats 0
namespace Lw
open PySem U
local macro_rules | `(tactic| walk_at "w") => `(tactic| repeat first
  | (with_reducible refine thenL_nx.mpr ?_) | (with_reducible refine thenL_rt.mpr ?_) | (with_reducible refine endF_rt.mpr ?_) | (with_reducible refine endF_nx.mpr ?_)
  | (with_reducible refine L_nil.mpr ?_) | (with_reducible refine L_cons.mpr ?_)
  | (with_reducible refine S_set.mpr ?_) | (with_reducible refine S_par.mpr ?_) | (with_reducible refine S_unp.mpr ?_) | (with_reducible refine S_expr.mpr ?_) | (with_reducible refine S_ret.mpr ?_)
  | (with_reducible refine S_retV.mpr ?_) | (with_reducible refine S_retN.mpr ?_) | (with_reducible refine S_ite.mpr ?_) | (with_reducible refine S_put.mpr ?_) | (with_reducible refine S_app ?_) | (with_reducible refine S_appR.mpr ?_)
  | (with_reducible refine W_loc.mpr ?_) | (with_reducible refine W_lit.mpr ?_) | (with_reducible refine W_glb.mpr ?_) | (with_reducible refine W_tup.mpr ?_) | (with_reducible refine W_lst.mpr ?_)
  | (with_reducible refine W_bin.mpr ?_) | (with_reducible refine W_neg.mpr ?_) | (with_reducible refine W_cmp.mpr ?_) | (with_reducible refine W_cmp2.mpr ?_) | (with_reducible refine W_not.mpr ?_)
  | (with_reducible refine W_and.mpr ?_) | (with_reducible refine W_and1.mpr ?_) | (with_reducible refine W_andc.mpr ?_) | (with_reducible refine W_or.mpr ?_) | (with_reducible refine W_or1.mpr ?_) | (with_reducible refine W_orc.mpr ?_)
  | (with_reducible refine W_ite.mpr ?_) | (with_reducible refine W_call.mpr ?_) | (with_reducible refine W_blt.mpr ?_) | (with_reducible refine W_isa.mpr ?_) | (with_reducible refine W_sub.mpr ?_)
  | (with_reducible refine W_slc.mpr ?_) | (with_reducible refine W_O0.mpr ?_) | (with_reducible refine W_O1.mpr ?_) | (with_reducible refine W_rev.mpr ?_) | (with_reducible refine W_new.mpr ?_)
  | (with_reducible refine W_R0.mpr ?_) | (with_reducible refine W_R1.mpr ?_) | (with_reducible refine W_A0.mpr ?_) | (with_reducible refine W_A1.mpr ?_) | (with_reducible refine W_K0.mpr ?_) | (with_reducible refine W_K1.mpr ?_)
  | (with_reducible refine W_dzip.mpr ?_) | (with_reducible refine W_idxG.mpr ?_) | (with_reducible refine W_newD.mpr ?_) | (with_reducible refine W_dget.mpr ?_) | (with_reducible refine W_ntD.mpr ?_)
  | ((with_reducible apply W_guard); (focus (first | exact iv_stb | exact iv_own | exact iv_leaf | rfl)))
  | ((with_reducible apply loc_i); focus rfl)
  | (with_reducible refine WO_i slcT ?_) | (with_reducible refine WO_i len_pk ?_) | (with_reducible refine WO_i tuple_pk ?_) | (with_reducible refine WO_i list_pk ?_) | (with_reducible refine WO_i all_pk ?_) | (with_reducible refine WO_i keep_mkL ?_) | (with_reducible refine WO_i hold_mkL ?_)
  | ((with_reducible refine WO_eqS ?_ ?_ ?_); (focus (first | rfl | exact okS_deed _ | exact okS_chg _ | exact okS_tst _ | exact okS_w0 _)); (focus (first | rfl | exact okS_deed _ | exact okS_chg _ | exact okS_tst _ | exact okS_w0 _)))
  | ((with_reducible refine WO_neS ?_ ?_ ?_); (focus (first | rfl | exact okS_deed _ | exact okS_chg _ | exact okS_tst _ | exact okS_w0 _)); (focus (first | rfl | exact okS_deed _ | exact okS_chg _ | exact okS_tst _ | exact okS_w0 _)))
  | ((with_reducible refine WO_inS ?_ ?_); focus rfl) | ((with_reducible refine WO_ninS ?_ ?_); focus rfl) | ((with_reducible refine WO_inL ?_ ?_ ?_); (focus rfl); (focus (first | rfl | exact okS_deed _ | exact okS_chg _ | exact okS_tst _ | exact okS_w0 _)))
  | ((with_reducible apply WO_i); focus rfl) | ((with_reducible apply B2_t); focus rfl) | ((with_reducible apply B2_f); focus rfl)
  | ((with_reducible refine sz_i ?_ ?_); focus rfl) | ((with_reducible refine iv_i ?_ ?_); (focus (first | exact iv_stb | exact iv_own | exact iv_leaf | rfl)))
  | ((with_reducible refine av_i ?_ ?_); focus rfl) | ((with_reducible refine rf_i ?_ ?_); focus rfl))
local macro_rules | `(tactic| walk_at "s") => `(tactic| repeat first
  | (with_reducible refine thenL_nx.mpr ?_) | (with_reducible refine thenL_rt.mpr ?_) | (with_reducible refine endF_rt.mpr ?_) | (with_reducible refine endF_nx.mpr ?_)
  | (with_reducible refine L_nil.mpr ?_) | (with_reducible refine L_cons.mpr ?_)
  | (with_reducible refine S_set.mpr ?_) | (with_reducible refine S_par.mpr ?_) | (with_reducible refine S_unp.mpr ?_) | (with_reducible refine S_expr.mpr ?_) | (with_reducible refine S_ret.mpr ?_)
  | (with_reducible refine S_retV.mpr ?_) | (with_reducible refine S_retN.mpr ?_) | (with_reducible refine S_ite.mpr ?_) | (with_reducible refine S_put.mpr ?_) | (with_reducible refine S_app ?_) | (with_reducible refine S_appR.mpr ?_)
  | (with_reducible refine W_loc.mpr ?_) | (with_reducible refine W_lit.mpr ?_) | (with_reducible refine W_glb.mpr ?_) | (with_reducible refine W_tup.mpr ?_) | (with_reducible refine W_lst.mpr ?_)
  | (with_reducible refine W_bin.mpr ?_) | (with_reducible refine W_neg.mpr ?_) | (with_reducible refine W_cmp.mpr ?_) | (with_reducible refine W_cmp2.mpr ?_) | (with_reducible refine W_not.mpr ?_)
  | (with_reducible refine W_and.mpr ?_) | (with_reducible refine W_and1.mpr ?_) | (with_reducible refine W_andc.mpr ?_) | (with_reducible refine W_or.mpr ?_) | (with_reducible refine W_or1.mpr ?_) | (with_reducible refine W_orc.mpr ?_)
  | (with_reducible refine W_call.mpr ?_) | (with_reducible refine W_blt.mpr ?_) | (with_reducible refine W_isa.mpr ?_) | (with_reducible refine W_sub.mpr ?_)
  | (with_reducible refine W_slc.mpr ?_) | (with_reducible refine W_O0.mpr ?_) | (with_reducible refine W_O1.mpr ?_) | (with_reducible refine W_rev.mpr ?_) | (with_reducible refine W_new.mpr ?_)
  | (with_reducible refine W_R0.mpr ?_) | (with_reducible refine W_R1.mpr ?_) | (with_reducible refine W_A0.mpr ?_) | (with_reducible refine W_A1.mpr ?_) | (with_reducible refine W_K0.mpr ?_) | (with_reducible refine W_K1.mpr ?_)
  | (with_reducible refine W_dzip.mpr ?_) | (with_reducible refine W_idxG.mpr ?_) | (with_reducible refine W_newD.mpr ?_) | (with_reducible refine W_dget.mpr ?_) | (with_reducible refine W_ntD.mpr ?_)
  | ((with_reducible apply W_guard); (focus (first | exact iv_stb | exact iv_own | exact iv_leaf | rfl)))
  | ((with_reducible apply loc_i); focus rfl)
  | (with_reducible refine WO_i slcT ?_) | (with_reducible refine WO_i len_pk ?_) | (with_reducible refine WO_i tuple_pk ?_) | (with_reducible refine WO_i list_pk ?_) | (with_reducible refine WO_i all_pk ?_) | (with_reducible refine WO_i keep_mkL ?_) | (with_reducible refine WO_i hold_mkL ?_)
  | ((with_reducible refine WO_eqS ?_ ?_ ?_); (focus (first | rfl | exact okS_deed _ | exact okS_chg _ | exact okS_tst _ | exact okS_w0 _)); (focus (first | rfl | exact okS_deed _ | exact okS_chg _ | exact okS_tst _ | exact okS_w0 _)))
  | ((with_reducible refine WO_neS ?_ ?_ ?_); (focus (first | rfl | exact okS_deed _ | exact okS_chg _ | exact okS_tst _ | exact okS_w0 _)); (focus (first | rfl | exact okS_deed _ | exact okS_chg _ | exact okS_tst _ | exact okS_w0 _)))
  | ((with_reducible refine WO_inS ?_ ?_); focus rfl) | ((with_reducible refine WO_ninS ?_ ?_); focus rfl) | ((with_reducible refine WO_inL ?_ ?_ ?_); (focus rfl); (focus (first | rfl | exact okS_deed _ | exact okS_chg _ | exact okS_tst _ | exact okS_w0 _)))
  | ((with_reducible apply WO_i); focus rfl) | ((with_reducible apply B2_t); focus rfl) | ((with_reducible apply B2_f); focus rfl)
  | ((with_reducible refine sz_i ?_ ?_); focus rfl) | ((with_reducible refine iv_i ?_ ?_); (focus (first | exact iv_stb | exact iv_own | exact iv_leaf | rfl)))
  | ((with_reducible refine av_i ?_ ?_); focus rfl) | ((with_reducible refine rf_i ?_ ?_); focus rfl))


abbrev T0 (w : W0) : Tst := ⟨false, w⟩
abbrev rule0 : Rule := [⟨[T0 .same], true⟩]
abbrev rule1 : Rule := [⟨[], true⟩]
abbrev rule2 : Rule := [⟨[T0 .moved], false⟩, ⟨[T0 (.long .s3)], false⟩, ⟨[], true⟩]
abbrev rule3 : Rule := [⟨[T0 .moved], false⟩, ⟨[T0 .undone], false⟩, ⟨[T0 .same], true⟩, ⟨[T0 (.chg .blank), T0 (.aft .letter)], true⟩]
abbrev rule4 : Rule := [⟨[T0 .saved], false⟩, ⟨[T0 (.chg .letter)], true⟩]
abbrev rules5 : List Rule := [rule0, rule1, rule2, rule3, rule4]
theorem okR_of {r : Rule} (h : (decide (r.length ≤ 8) && r.all fun c => decide (c.ts.length ≤ 3)) = true) : OkR r := by
  simp only [Bool.and_eq_true, decide_eq_true_eq, List.all_eq_true] at h
  exact ⟨h.1, fun c hc => ⟨h.2 c hc⟩⟩
section
variable {n k L : Nat} {tl : List O} {t : Int} {S : AS} {Q : R → AS → Prop}
theorem known_ok (h : Si t L tl S) (ht : t + 2 < 2 ^ 60) (hk : k < L)
    (q : ∀ (r : Rule) (S' : AS), r ∈ rules5 → Si (t + 1) L tl S' → Q (R.p (encR r)) S') : W (callF G (n + 2) f__law_known [R.p (.ref k)] S) Q := by
  refine call_ok (d := ⟨1, 2, ir__law_known⟩) rfl rfl ?_
  refine L_cons.mpr (S_set.mpr (W.of (a := mkL ((rules5.take 3).map encR)) (S := S) rfl ?_))
  walk_at "w"
  refine ⟨by decide, ?_⟩
  walk_at "w"
  refine ⟨by decide, ?_⟩
  walk_at "w"
  refine take_si h (by omega) hk (by decide) (by decide) fun v S1 h0 h1 hs => ?_
  obtain ⟨r, hr, e⟩ := sub_map (xs := rules5) (f := encR) (s := .stb) (s' := .stb) h0 h1
  refine ⟨_, e, ?_⟩
  walk_at "w"
  exact q r S1 hr hs
theorem okR_sub {r : Rule} {lo hi : Option Int} (h : OkR r) : OkR (cut r lo hi) := ⟨Nat.le_trans (cut_len r lo hi) h.l, fun c hc => h.c c (cut_sub r lo hi c hc)⟩
theorem rules5_ok {r : Rule} (h : r ∈ rules5) : OkR r ∧ 1 ≤ r.length ∧ r.length ≤ 4 := by
  simp only [rules5, List.mem_cons, List.not_mem_nil, or_false] at h
  rcases h with rfl | rfl | rfl | rfl | rfl <;> exact ⟨okR_of (by decide), by decide, by decide⟩
theorem rule_ok {m : Int} (h : Si t L tl S) (ht : t + 1000 < 2 ^ 60) (hk : k < L) (hm0 : 0 ≤ m) (hm : m ≤ 8)
    (q : ∀ (r : Rule) (S' : AS), OkR r → (r.length : Int) ≤ m → Si (t + 100) L tl S' → Q (R.p (encR r)) S') : W (callF G (n + 5) f__law_rule [R.p (.ref k), R.p (.int m)] S) Q := by
  refine call_ok (d := ⟨2, 6, ir__law_rule⟩) rfl rfl ?_
  walk_at "w"
  refine take_si h (by omega) hk (by decide) (by decide) fun v S1 h0 h1 hs => ?_
  walk_at "w"
  refine B2_c (c := v = 0) rfl (fun hv => ?_) fun hv => ?_
  · walk_at "w"
    refine W_comp ?_
    walk_at "w"
    refine take_si hs (by omega) hk (by omega) (by omega) fun v2 S2 h2 h3 hs2 => ?_
    walk_at "w"
    refine comp_range (c := 8) (f := Clause.e) (Pr := OkC) h2 (Int.lt_add_one_iff.mp h3) (by omega) hs2 (fun p j S Q hj hS hq => ?_) fun xs S3 hx hl hs3 => ?_
    · unfold turnC
      refine ⟨_, rfl, ?_⟩
      refine W_And10.mpr ?_
      simp only [if_true]
      walk_at "w"
      refine clause_ok hS (by omega) hk fun x S' hx hs' => ?_
      walk_at "w"
      exact hq x S' hx (hs'.mono (by omega))
    · walk_at "w"
      exact q xs S3 ⟨by omega, hx⟩ (by omega) (hs3.mono (by omega))
  · walk_at "w"
    refine known_ok hs (by omega) hk fun r S2 hr hs2 => ?_
    obtain ⟨hr1, hr2, hr3⟩ := rules5_ok hr
    walk_at "w"
    refine take_si hs2 (by omega) hk (by omega) (by omega) fun at_ S3 a0 a1 hs3 => ?_
    walk_at "w"
    have fin : ∀ (r : Rule) (S' : AS), (∀ c ∈ r, OkC c) → Si (t + 100) L tl S' → Q (R.p (encR (cut r none (some m)))) S' := fun r S' hr hS => by
      have hl : ((cut r none (some m)).length : Int) ≤ m := by
        rw [cut_to _ _ hm0, List.length_take]
        omega
      exact q _ S' ⟨by omega, fun c hc => hr c (cut_sub _ _ _ c hc)⟩ hl hS
    have l1 := cut_len r none (some at_)
    have l2 := cut_len r (some at_) none
    have l3 := cut_len r (some (at_ + 1)) none
    have m1 : ∀ {lo hi : Option Int} {c}, c ∈ cut r lo hi → OkC c := fun hc => hr1.c _ (cut_sub _ _ _ _ hc)
    refine B2_c (c := v = 1) rfl (fun hv => ?_) fun hv => ?_
    · walk_at "w"
      refine clause_ok hs3 (by omega) hk fun c S4 hc hs4 => ?_
      walk_at "w"
      refine ⟨_, addT (f := Clause.e) (ys := [c]) (by simp only [List.length_cons, List.length_nil]; omega), ?_⟩
      walk_at "w"
      refine ⟨_, addT (by simp only [List.length_append, List.length_cons, List.length_nil]; omega), ?_⟩
      walk_at "w"
      refine fin _ S4 (fun x hx => ?_) (hs4.mono (by omega))
      simp only [List.mem_append, List.mem_singleton] at hx
      rcases hx with (hx | rfl) | hx
      · exact m1 hx
      · exact hc
      · exact m1 hx
    · walk_at "w"
      refine B2_c (c := v = 2) rfl (fun hv => ?_) fun hv => ?_
      · walk_at "w"
        refine clause_ok hs3 (by omega) hk fun c S4 hc hs4 => ?_
        walk_at "w"
        refine take_si hs4 (by omega) hk (by decide) (by decide) fun j S5 r0 r1 hs5 => ?_
        refine ⟨_, mulT (f := Clause.e) r0 (by omega), ?_⟩
        have hj : j.toNat ≤ 1 := by omega
        walk_at "w"
        refine ⟨_, addT (by rw [List.length_replicate]; omega), ?_⟩
        walk_at "w"
        refine ⟨_, addT (by rw [List.length_append, List.length_replicate]; omega), ?_⟩
        walk_at "w"
        refine fin _ S5 (fun x hx => ?_) (hs5.mono (by omega))
        simp only [List.mem_append] at hx
        rcases hx with (hx | hx) | hx
        · exact m1 hx
        · rw [List.eq_of_mem_replicate hx]; exact hc
        · exact m1 hx
      · walk_at "w"
        exact fin r S3 hr1.c (hs3.mono (by omega))
end
end Lw

set_option Elab.async false
set_option linter.all false
set_option maxRecDepth 100000
set_option maxHeartbeats 0
namespace Lw
open PySem U
local macro_rules | `(tactic| walk_at "w") => `(tactic| repeat first
  | (with_reducible refine thenL_nx.mpr ?_) | (with_reducible refine thenL_rt.mpr ?_) | (with_reducible refine endF_rt.mpr ?_) | (with_reducible refine endF_nx.mpr ?_)
  | (with_reducible refine L_nil.mpr ?_) | (with_reducible refine L_cons.mpr ?_)
  | (with_reducible refine S_set.mpr ?_) | (with_reducible refine S_par.mpr ?_) | (with_reducible refine S_unp.mpr ?_) | (with_reducible refine S_expr.mpr ?_) | (with_reducible refine S_ret.mpr ?_)
  | (with_reducible refine S_retV.mpr ?_) | (with_reducible refine S_retN.mpr ?_) | (with_reducible refine S_ite.mpr ?_) | (with_reducible refine S_put.mpr ?_) | (with_reducible refine S_app ?_) | (with_reducible refine S_appR.mpr ?_)
  | (with_reducible refine W_loc.mpr ?_) | (with_reducible refine W_lit.mpr ?_) | (with_reducible refine W_glb.mpr ?_) | (with_reducible refine W_tup.mpr ?_) | (with_reducible refine W_lst.mpr ?_)
  | (with_reducible refine W_bin.mpr ?_) | (with_reducible refine W_neg.mpr ?_) | (with_reducible refine W_cmp.mpr ?_) | (with_reducible refine W_cmp2.mpr ?_) | (with_reducible refine W_not.mpr ?_)
  | (with_reducible refine W_and.mpr ?_) | (with_reducible refine W_and1.mpr ?_) | (with_reducible refine W_andc.mpr ?_) | (with_reducible refine W_or.mpr ?_) | (with_reducible refine W_or1.mpr ?_) | (with_reducible refine W_orc.mpr ?_)
  | (with_reducible refine W_ite.mpr ?_) | (with_reducible refine W_call.mpr ?_) | (with_reducible refine W_blt.mpr ?_) | (with_reducible refine W_isa.mpr ?_) | (with_reducible refine W_sub.mpr ?_)
  | (with_reducible refine W_slc.mpr ?_) | (with_reducible refine W_O0.mpr ?_) | (with_reducible refine W_O1.mpr ?_) | (with_reducible refine W_rev.mpr ?_) | (with_reducible refine W_new.mpr ?_)
  | (with_reducible refine W_R0.mpr ?_) | (with_reducible refine W_R1.mpr ?_) | (with_reducible refine W_A0.mpr ?_) | (with_reducible refine W_A1.mpr ?_) | (with_reducible refine W_K0.mpr ?_) | (with_reducible refine W_K1.mpr ?_)
  | (with_reducible refine W_dzip.mpr ?_) | (with_reducible refine W_idxG.mpr ?_) | (with_reducible refine W_newD.mpr ?_) | (with_reducible refine W_dget.mpr ?_) | (with_reducible refine W_ntD.mpr ?_)
  | ((with_reducible apply W_guard); (focus (first | exact iv_stb | exact iv_own | exact iv_leaf | rfl)))
  | ((with_reducible apply loc_i); focus rfl)
  | (with_reducible refine WO_i slcT ?_) | (with_reducible refine WO_i len_pk ?_) | (with_reducible refine WO_i tuple_pk ?_) | (with_reducible refine WO_i list_pk ?_) | (with_reducible refine WO_i all_pk ?_) | (with_reducible refine WO_i keep_mkL ?_) | (with_reducible refine WO_i hold_mkL ?_)
  | ((with_reducible refine WO_eqS ?_ ?_ ?_); (focus (first | rfl | exact okS_deed _ | exact okS_chg _ | exact okS_tst _ | exact okS_w0 _)); (focus (first | rfl | exact okS_deed _ | exact okS_chg _ | exact okS_tst _ | exact okS_w0 _)))
  | ((with_reducible refine WO_neS ?_ ?_ ?_); (focus (first | rfl | exact okS_deed _ | exact okS_chg _ | exact okS_tst _ | exact okS_w0 _)); (focus (first | rfl | exact okS_deed _ | exact okS_chg _ | exact okS_tst _ | exact okS_w0 _)))
  | ((with_reducible refine WO_inS ?_ ?_); focus rfl) | ((with_reducible refine WO_ninS ?_ ?_); focus rfl) | ((with_reducible refine WO_inL ?_ ?_ ?_); (focus rfl); (focus (first | rfl | exact okS_deed _ | exact okS_chg _ | exact okS_tst _ | exact okS_w0 _)))
  | ((with_reducible apply WO_i); focus rfl) | ((with_reducible apply B2_t); focus rfl) | ((with_reducible apply B2_f); focus rfl)
  | ((with_reducible refine sz_i ?_ ?_); focus rfl) | ((with_reducible refine iv_i ?_ ?_); (focus (first | exact iv_stb | exact iv_own | exact iv_leaf | rfl)))
  | ((with_reducible refine av_i ?_ ?_); focus rfl) | ((with_reducible refine rf_i ?_ ?_); focus rfl))
local macro_rules | `(tactic| walk_at "s") => `(tactic| repeat first
  | (with_reducible refine thenL_nx.mpr ?_) | (with_reducible refine thenL_rt.mpr ?_) | (with_reducible refine endF_rt.mpr ?_) | (with_reducible refine endF_nx.mpr ?_)
  | (with_reducible refine L_nil.mpr ?_) | (with_reducible refine L_cons.mpr ?_)
  | (with_reducible refine S_set.mpr ?_) | (with_reducible refine S_par.mpr ?_) | (with_reducible refine S_unp.mpr ?_) | (with_reducible refine S_expr.mpr ?_) | (with_reducible refine S_ret.mpr ?_)
  | (with_reducible refine S_retV.mpr ?_) | (with_reducible refine S_retN.mpr ?_) | (with_reducible refine S_ite.mpr ?_) | (with_reducible refine S_put.mpr ?_) | (with_reducible refine S_app ?_) | (with_reducible refine S_appR.mpr ?_)
  | (with_reducible refine W_loc.mpr ?_) | (with_reducible refine W_lit.mpr ?_) | (with_reducible refine W_glb.mpr ?_) | (with_reducible refine W_tup.mpr ?_) | (with_reducible refine W_lst.mpr ?_)
  | (with_reducible refine W_bin.mpr ?_) | (with_reducible refine W_neg.mpr ?_) | (with_reducible refine W_cmp.mpr ?_) | (with_reducible refine W_cmp2.mpr ?_) | (with_reducible refine W_not.mpr ?_)
  | (with_reducible refine W_and.mpr ?_) | (with_reducible refine W_and1.mpr ?_) | (with_reducible refine W_andc.mpr ?_) | (with_reducible refine W_or.mpr ?_) | (with_reducible refine W_or1.mpr ?_) | (with_reducible refine W_orc.mpr ?_)
  | (with_reducible refine W_call.mpr ?_) | (with_reducible refine W_blt.mpr ?_) | (with_reducible refine W_isa.mpr ?_) | (with_reducible refine W_sub.mpr ?_)
  | (with_reducible refine W_slc.mpr ?_) | (with_reducible refine W_O0.mpr ?_) | (with_reducible refine W_O1.mpr ?_) | (with_reducible refine W_rev.mpr ?_) | (with_reducible refine W_new.mpr ?_)
  | (with_reducible refine W_R0.mpr ?_) | (with_reducible refine W_R1.mpr ?_) | (with_reducible refine W_A0.mpr ?_) | (with_reducible refine W_A1.mpr ?_) | (with_reducible refine W_K0.mpr ?_) | (with_reducible refine W_K1.mpr ?_)
  | (with_reducible refine W_dzip.mpr ?_) | (with_reducible refine W_idxG.mpr ?_) | (with_reducible refine W_newD.mpr ?_) | (with_reducible refine W_dget.mpr ?_) | (with_reducible refine W_ntD.mpr ?_)
  | ((with_reducible apply W_guard); (focus (first | exact iv_stb | exact iv_own | exact iv_leaf | rfl)))
  | ((with_reducible apply loc_i); focus rfl)
  | (with_reducible refine WO_i slcT ?_) | (with_reducible refine WO_i len_pk ?_) | (with_reducible refine WO_i tuple_pk ?_) | (with_reducible refine WO_i list_pk ?_) | (with_reducible refine WO_i all_pk ?_) | (with_reducible refine WO_i keep_mkL ?_) | (with_reducible refine WO_i hold_mkL ?_)
  | ((with_reducible refine WO_eqS ?_ ?_ ?_); (focus (first | rfl | exact okS_deed _ | exact okS_chg _ | exact okS_tst _ | exact okS_w0 _)); (focus (first | rfl | exact okS_deed _ | exact okS_chg _ | exact okS_tst _ | exact okS_w0 _)))
  | ((with_reducible refine WO_neS ?_ ?_ ?_); (focus (first | rfl | exact okS_deed _ | exact okS_chg _ | exact okS_tst _ | exact okS_w0 _)); (focus (first | rfl | exact okS_deed _ | exact okS_chg _ | exact okS_tst _ | exact okS_w0 _)))
  | ((with_reducible refine WO_inS ?_ ?_); focus rfl) | ((with_reducible refine WO_ninS ?_ ?_); focus rfl) | ((with_reducible refine WO_inL ?_ ?_ ?_); (focus rfl); (focus (first | rfl | exact okS_deed _ | exact okS_chg _ | exact okS_tst _ | exact okS_w0 _)))
  | ((with_reducible apply WO_i); focus rfl) | ((with_reducible apply B2_t); focus rfl) | ((with_reducible apply B2_f); focus rfl)
  | ((with_reducible refine sz_i ?_ ?_); focus rfl) | ((with_reducible refine iv_i ?_ ?_); (focus (first | exact iv_stb | exact iv_own | exact iv_leaf | rfl)))
  | ((with_reducible refine av_i ?_ ?_); focus rfl) | ((with_reducible refine rf_i ?_ ?_); focus rfl))


section
variable {n k L : Nat} {tl : List O} {t : Int} {S : AS} {Q : R → AS → Prop}
theorem any_view_ok (h : Si t L tl S) (ht : t + 100 < 2 ^ 60) (hk : k < L)
    (q : ∀ (v : Vw) (S' : AS), OkV v → Si (t + 6) L tl S' → Q (R.p v.e) S') : W (callF G (n + 3) f__law_any_view [R.p (.ref k)] S) Q := by
  refine call_ok (d := ⟨1, 3, ir__law_any_view⟩) rfl rfl ?_
  walk_at "w"
  refine W_comp ?_
  walk_at "w"
  refine comp_rangeC (c := 1) (m := 4) (J := 4) (f := fun b : Bool => .bl b) (Pr := fun _ => True) (by decide) (by decide) (by decide) h (fun p j S Q hj hS hq => ?_) fun xs S3 _ hl hs3 => ?_
  · unfold turnC
    refine ⟨_, rfl, ?_⟩
    refine W_And10.mpr ?_
    simp only [if_true]
    walk_at "w"
    refine take_si hS (by omega) hk (by decide) (by decide) fun v S' _ _ hs' => ?_
    walk_at "w"
    refine hq _ S' trivial (hs'.mono (by omega))
  · walk_at "w"
    refine ⟨_, _, changes_eq (n := n + 1), ?_⟩
    walk_at "w"
    refine take_si hs3 (by omega) hk (by decide) (by decide) fun v1 S4 h0 h1 hs4 => ?_
    obtain ⟨c, -, e⟩ := sub_map (xs := chgs) (f := fun c => .str c.s) (s := .own) (s' := .stb) h0 h1
    refine ⟨_, e, ?_⟩
    walk_at "w"
    refine take_si hs4 (by omega) hk (by decide) (by decide) fun v2 S5 h2 h3 hs5 => ?_
    walk_at "w"
    match xs, hl with
    | [a, b, c', d], _ =>
      walk_at "w"
      exact q ⟨c, 1 + v2, a, b, c', d⟩ S5 ⟨by show 1 ≤ 1 + v2; omega, by show 1 + v2 ≤ 9; omega⟩ (hs5.mono (by omega))
end
end Lw

set_option Elab.async false
set_option linter.all false
set_option maxRecDepth 100000
set_option maxHeartbeats 0
namespace Lw
open PySem U
local macro_rules | `(tactic| walk_at "w") => `(tactic| repeat first
  | (with_reducible refine thenL_nx.mpr ?_) | (with_reducible refine thenL_rt.mpr ?_) | (with_reducible refine endF_rt.mpr ?_) | (with_reducible refine endF_nx.mpr ?_)
  | (with_reducible refine L_nil.mpr ?_) | (with_reducible refine L_cons.mpr ?_)
  | (with_reducible refine S_set.mpr ?_) | (with_reducible refine S_par.mpr ?_) | (with_reducible refine S_unp.mpr ?_) | (with_reducible refine S_expr.mpr ?_) | (with_reducible refine S_ret.mpr ?_)
  | (with_reducible refine S_retV.mpr ?_) | (with_reducible refine S_retN.mpr ?_) | (with_reducible refine S_ite.mpr ?_) | (with_reducible refine S_put.mpr ?_) | (with_reducible refine S_app ?_) | (with_reducible refine S_appR.mpr ?_)
  | (with_reducible refine W_loc.mpr ?_) | (with_reducible refine W_lit.mpr ?_) | (with_reducible refine W_glb.mpr ?_) | (with_reducible refine W_tup.mpr ?_) | (with_reducible refine W_lst.mpr ?_)
  | (with_reducible refine W_bin.mpr ?_) | (with_reducible refine W_neg.mpr ?_) | (with_reducible refine W_cmp.mpr ?_) | (with_reducible refine W_cmp2.mpr ?_) | (with_reducible refine W_not.mpr ?_)
  | (with_reducible refine W_and.mpr ?_) | (with_reducible refine W_and1.mpr ?_) | (with_reducible refine W_andc.mpr ?_) | (with_reducible refine W_or.mpr ?_) | (with_reducible refine W_or1.mpr ?_) | (with_reducible refine W_orc.mpr ?_)
  | (with_reducible refine W_ite.mpr ?_) | (with_reducible refine W_call.mpr ?_) | (with_reducible refine W_blt.mpr ?_) | (with_reducible refine W_isa.mpr ?_) | (with_reducible refine W_sub.mpr ?_)
  | (with_reducible refine W_slc.mpr ?_) | (with_reducible refine W_O0.mpr ?_) | (with_reducible refine W_O1.mpr ?_) | (with_reducible refine W_rev.mpr ?_) | (with_reducible refine W_new.mpr ?_)
  | (with_reducible refine W_R0.mpr ?_) | (with_reducible refine W_R1.mpr ?_) | (with_reducible refine W_A0.mpr ?_) | (with_reducible refine W_A1.mpr ?_) | (with_reducible refine W_K0.mpr ?_) | (with_reducible refine W_K1.mpr ?_)
  | (with_reducible refine W_dzip.mpr ?_) | (with_reducible refine W_idxG.mpr ?_) | (with_reducible refine W_newD.mpr ?_) | (with_reducible refine W_dget.mpr ?_) | (with_reducible refine W_ntD.mpr ?_)
  | ((with_reducible apply W_guard); (focus (first | exact iv_stb | exact iv_own | exact iv_leaf | rfl)))
  | ((with_reducible apply loc_i); focus rfl)
  | (with_reducible refine WO_i slcT ?_) | (with_reducible refine WO_i len_pk ?_) | (with_reducible refine WO_i tuple_pk ?_) | (with_reducible refine WO_i list_pk ?_) | (with_reducible refine WO_i all_pk ?_) | (with_reducible refine WO_i keep_mkL ?_) | (with_reducible refine WO_i hold_mkL ?_)
  | ((with_reducible refine WO_eqS ?_ ?_ ?_); (focus (first | rfl | exact okS_deed _ | exact okS_chg _ | exact okS_tst _ | exact okS_w0 _)); (focus (first | rfl | exact okS_deed _ | exact okS_chg _ | exact okS_tst _ | exact okS_w0 _)))
  | ((with_reducible refine WO_neS ?_ ?_ ?_); (focus (first | rfl | exact okS_deed _ | exact okS_chg _ | exact okS_tst _ | exact okS_w0 _)); (focus (first | rfl | exact okS_deed _ | exact okS_chg _ | exact okS_tst _ | exact okS_w0 _)))
  | ((with_reducible refine WO_inS ?_ ?_); focus rfl) | ((with_reducible refine WO_ninS ?_ ?_); focus rfl) | ((with_reducible refine WO_inL ?_ ?_ ?_); (focus rfl); (focus (first | rfl | exact okS_deed _ | exact okS_chg _ | exact okS_tst _ | exact okS_w0 _)))
  | ((with_reducible apply WO_i); focus rfl) | ((with_reducible apply B2_t); focus rfl) | ((with_reducible apply B2_f); focus rfl)
  | ((with_reducible refine sz_i ?_ ?_); focus rfl) | ((with_reducible refine iv_i ?_ ?_); (focus (first | exact iv_stb | exact iv_own | exact iv_leaf | rfl)))
  | ((with_reducible refine av_i ?_ ?_); focus rfl) | ((with_reducible refine rf_i ?_ ?_); focus rfl))
local macro_rules | `(tactic| walk_at "s") => `(tactic| repeat first
  | (with_reducible refine thenL_nx.mpr ?_) | (with_reducible refine thenL_rt.mpr ?_) | (with_reducible refine endF_rt.mpr ?_) | (with_reducible refine endF_nx.mpr ?_)
  | (with_reducible refine L_nil.mpr ?_) | (with_reducible refine L_cons.mpr ?_)
  | (with_reducible refine S_set.mpr ?_) | (with_reducible refine S_par.mpr ?_) | (with_reducible refine S_unp.mpr ?_) | (with_reducible refine S_expr.mpr ?_) | (with_reducible refine S_ret.mpr ?_)
  | (with_reducible refine S_retV.mpr ?_) | (with_reducible refine S_retN.mpr ?_) | (with_reducible refine S_ite.mpr ?_) | (with_reducible refine S_put.mpr ?_) | (with_reducible refine S_app ?_) | (with_reducible refine S_appR.mpr ?_)
  | (with_reducible refine W_loc.mpr ?_) | (with_reducible refine W_lit.mpr ?_) | (with_reducible refine W_glb.mpr ?_) | (with_reducible refine W_tup.mpr ?_) | (with_reducible refine W_lst.mpr ?_)
  | (with_reducible refine W_bin.mpr ?_) | (with_reducible refine W_neg.mpr ?_) | (with_reducible refine W_cmp.mpr ?_) | (with_reducible refine W_cmp2.mpr ?_) | (with_reducible refine W_not.mpr ?_)
  | (with_reducible refine W_and.mpr ?_) | (with_reducible refine W_and1.mpr ?_) | (with_reducible refine W_andc.mpr ?_) | (with_reducible refine W_or.mpr ?_) | (with_reducible refine W_or1.mpr ?_) | (with_reducible refine W_orc.mpr ?_)
  | (with_reducible refine W_call.mpr ?_) | (with_reducible refine W_blt.mpr ?_) | (with_reducible refine W_isa.mpr ?_) | (with_reducible refine W_sub.mpr ?_)
  | (with_reducible refine W_slc.mpr ?_) | (with_reducible refine W_O0.mpr ?_) | (with_reducible refine W_O1.mpr ?_) | (with_reducible refine W_rev.mpr ?_) | (with_reducible refine W_new.mpr ?_)
  | (with_reducible refine W_R0.mpr ?_) | (with_reducible refine W_R1.mpr ?_) | (with_reducible refine W_A0.mpr ?_) | (with_reducible refine W_A1.mpr ?_) | (with_reducible refine W_K0.mpr ?_) | (with_reducible refine W_K1.mpr ?_)
  | (with_reducible refine W_dzip.mpr ?_) | (with_reducible refine W_idxG.mpr ?_) | (with_reducible refine W_newD.mpr ?_) | (with_reducible refine W_dget.mpr ?_) | (with_reducible refine W_ntD.mpr ?_)
  | ((with_reducible apply W_guard); (focus (first | exact iv_stb | exact iv_own | exact iv_leaf | rfl)))
  | ((with_reducible apply loc_i); focus rfl)
  | (with_reducible refine WO_i slcT ?_) | (with_reducible refine WO_i len_pk ?_) | (with_reducible refine WO_i tuple_pk ?_) | (with_reducible refine WO_i list_pk ?_) | (with_reducible refine WO_i all_pk ?_) | (with_reducible refine WO_i keep_mkL ?_) | (with_reducible refine WO_i hold_mkL ?_)
  | ((with_reducible refine WO_eqS ?_ ?_ ?_); (focus (first | rfl | exact okS_deed _ | exact okS_chg _ | exact okS_tst _ | exact okS_w0 _)); (focus (first | rfl | exact okS_deed _ | exact okS_chg _ | exact okS_tst _ | exact okS_w0 _)))
  | ((with_reducible refine WO_neS ?_ ?_ ?_); (focus (first | rfl | exact okS_deed _ | exact okS_chg _ | exact okS_tst _ | exact okS_w0 _)); (focus (first | rfl | exact okS_deed _ | exact okS_chg _ | exact okS_tst _ | exact okS_w0 _)))
  | ((with_reducible refine WO_inS ?_ ?_); focus rfl) | ((with_reducible refine WO_ninS ?_ ?_); focus rfl) | ((with_reducible refine WO_inL ?_ ?_ ?_); (focus rfl); (focus (first | rfl | exact okS_deed _ | exact okS_chg _ | exact okS_tst _ | exact okS_w0 _)))
  | ((with_reducible apply WO_i); focus rfl) | ((with_reducible apply B2_t); focus rfl) | ((with_reducible apply B2_f); focus rfl)
  | ((with_reducible refine sz_i ?_ ?_); focus rfl) | ((with_reducible refine iv_i ?_ ?_); (focus (first | exact iv_stb | exact iv_own | exact iv_leaf | rfl)))
  | ((with_reducible refine av_i ?_ ?_); focus rfl) | ((with_reducible refine rf_i ?_ ?_); focus rfl))


section
variable {n : Nat} {S : AS}
theorem is_test_eq (t : Tst) : callF G (n + 1) f_is_test [R.p (.str t.s)] S = some (R.p (.bl true), S) := by
  obtain ⟨a, w⟩ := t
  cases w with
  | chg e => cases a <;> cases e <;> kernel_rfl
  | aft e => cases a <;> cases e <;> kernel_rfl
  | long e => cases a <;> cases e <;> kernel_rfl
  | _ => cases a <;> kernel_rfl
theorem is_deed_eq (b : Bool) : callF G (n + 1) f_is_one_of [R.p (.str (deedS b)), R.p (.tup [.str [106, 111, 105, 110], .str [110, 101, 119]])] S = some (R.p (.bl true), S) := by
  cases b <;> kernel_rfl
theorem filterMap_some {α β : Type} {f : α → β} : ∀ xs : List α, xs.filterMap (fun x => some (f x)) = xs.map f
  | [] => rfl
  | x :: xs => by rw [List.filterMap_cons, List.map_cons, filterMap_some xs]
/-- a comprehension over typed items that computes g, the store as it is -/
theorem WC_typed {C : U.Ctx} {t : Tg} {ρ : U.Env} {e : E} {α : Type} {f : α → P} {g : α → P} {F : List P → AS → Prop} {xs : List α} (step : ∀ x ∈ xs, ∀ (Q : Option P → AS → Prop), Q (some (g x)) S → turnC C t ρ [] e (f x) S Q) (q : F (xs.map g) S) : WC C t ρ [] e (xs.map f) S F := by
  induction xs generalizing F with
  | nil => unfold WC; exact q
  | cons x xs ih =>
    rw [List.map_cons]
    unfold WC
    refine step x List.mem_cons_self _ ?_
    exact ih (fun z hz => step z (List.mem_cons_of_mem _ hz)) q
theorem turn_nm {C : U.Ctx} {i : Nat} {ρ : U.Env} {e : E} {p : P} {Q : Option P → AS → Prop} (hi : decide (i < ρ.length) = true) (h : W (evE C e (ρ.set i (some (R.p p))) S) fun r S2 => WO r.keep fun q => Q (some q) S2) : turnC C (.nm i) ρ [] e p S Q := by
  unfold turnC
  refine ⟨_, if_pos (of_decide_eq_true hi), ?_⟩
  refine W_And10.mpr ?_
  simp only [if_true]
  exact h
theorem all_true {α : Type} {xs : List α} : (xs.all fun _ => true) = true := by
  rw [List.all_eq_true]; exact fun _ _ => rfl
theorem len_le {xs : List P} {j : Nat} (h : xs.length ≤ j) : decide (((xs.length : Int)) ≤ (j : Int)) = true := decide_eq_true (by omega)
theorem is_clause_eq {c : Clause} (hc : OkC c) : callF G (n + 2) f_is_clause [R.p c.e] S = some (R.p (.bl true), S) := by
  have h : W (callF G (n + 2) f_is_clause [R.p c.e] S) fun r S' => r = R.p (.bl true) ∧ S' = S := by
    refine call_ok (d := ⟨1, 2, ir_is_clause⟩) rfl rfl ?_
    walk_at "w"
    refine B2_f (m := some (decide ((3 : Int) < (c.ts.length : Int)))) (congrArg some (decide_eq_false (by have := hc.l; omega))) ?_
    walk_at "w"
    refine W_comp ?_
    walk_at "w"
    refine WC_typed (f := fun t : Tst => .str t.s) (g := fun _ => .bl true) (fun x hx Q hq => turn_nm rfl ?_) ?_
    · walk_at "w"
      refine W.of (is_test_eq x) ?_
      walk_at "w"
      exact hq
    · refine ⟨szI (by rw [List.length_map]; have := hc.l; omega), ?_⟩
      walk_at "w"
      refine B2_f (by rw [all_true]; rfl) ?_
      walk_at "w"
      refine W.of (is_deed_eq (n := n) c.j) ?_
      walk_at "w"
      exact ⟨rfl, rfl⟩
  obtain ⟨r, S', h1, rfl, rfl⟩ := h
  exact h1
theorem is_rule_eq {r : Rule} (hr : OkR r) : callF G (n + 3) f_is_rule [R.p (encR r)] S = some (R.p (.bl true), S) := by
  have h : W (callF G (n + 3) f_is_rule [R.p (encR r)] S) fun r S' => r = R.p (.bl true) ∧ S' = S := by
    refine call_ok (d := ⟨1, 2, ir_is_rule⟩) rfl rfl ?_
    walk_at "w"
    refine B2_t (m := some (decide ((r.length : Int) ≤ 8))) (congrArg some (decide_eq_true (by have := hr.l; omega))) ?_
    walk_at "w"
    refine W_comp ?_
    walk_at "w"
    refine WC_typed (f := Clause.e) (g := fun _ => .bl true) (fun x hx Q hq => turn_nm rfl ?_) ?_
    · walk_at "w"
      refine W.of (is_clause_eq (hr.c x hx)) ?_
      walk_at "w"
      exact hq
    · refine ⟨szI (by rw [List.length_map]; have := hr.l; omega), ?_⟩
      walk_at "w"
      rw [all_true]
      exact ⟨rfl, rfl⟩
  obtain ⟨r, S', h1, rfl, rfl⟩ := h
  exact h1
theorem look_rule_eq {r : Rule} (hr : OkR r) : callF G (n + 4) f_look_at_rule [R.p (encR r)] S = some (R.p .non, S) := by
  have h : W (callF G (n + 4) f_look_at_rule [R.p (encR r)] S) fun r S' => r = R.p .non ∧ S' = S := by
    refine call_ok (d := ⟨1, 1, ir_look_at_rule⟩) rfl rfl ?_
    walk_at "w"
    refine W.of (is_rule_eq hr) ?_
    walk_at "w"
    exact ⟨rfl, rfl⟩
  obtain ⟨r, S', h1, rfl, rfl⟩ := h
  exact h1
theorem holds_eq (t : Tst) (v : Vw) (c : Chg) : callF G (n + 2) f_holds [R.p (.str t.s), R.p v.e, R.p (.str c.s)] S = some (R.p (.bl (t.on v c)), S) := by
  obtain ⟨a, w⟩ := t
  obtain ⟨d, i, m, w', s, u⟩ := v
  cases w with
  | chg e => cases a <;> cases e <;> cases c <;> kernel_rfl
  | aft e => cases a <;> cases e <;> cases d <;> kernel_rfl
  | same => cases a <;> cases d <;> cases c <;> kernel_rfl
  | long e => cases a <;> cases e <;> kernel_rfl
  | _ => cases a <;> kernel_rfl
theorem any_all {v : Vw} {c : Chg} {x : Clause} : (x.ts.all fun t => t.on v c) = x.on v c := rfl
def ixP : Option Nat → P
  | some i => .int i
  | none => .non
theorem deciding_eq {r : Rule} (hr : OkR r) (v : Vw) (c : Chg) : callF G (n + 3) f_deciding [R.p (encR r), R.p v.e, R.p (.str c.s)] S = some (R.p (ixP (dIx v c r 0)), S) := by
  have h : W (callF G (n + 3) f_deciding [R.p (encR r), R.p v.e, R.p (.str c.s)] S) fun x S' => x = R.p (ixP (dIx v c r 0)) ∧ S' = S := by
    refine call_ok (d := ⟨3, 7, ir_deciding⟩) rfl rfl ?_
    walk_at "w"
    refine S_for ?_
    walk_at "w"
    suffices H : ∀ (xs : Rule) (j : Nat) (a3 a4 a5 : Option R) (F : Fl → Prop), (∀ x ∈ xs, OkC x) → (∀ ρ, dIx v c xs j = none → F (.nx ρ S)) → (∀ i, dIx v c xs j = some i → F (.rt (R.p (.int i)) S)) → WF ⟨callF G (n + 2), G.glb⟩ (.tp [.nm 3, .tp [.nm 4, .nm 5]]) [.ite (.blt .all [.comp (.nm 6) [6] .over [.loc 4] [] (.call f_holds [.loc 6, .loc 1, .loc 2])]) [.retV 3] []] (enumP (xs.map Clause.e) j) [some (R.p (encR r)), some (R.p v.e), some (R.p (.str c.s)), a3, a4, a5, none] S F by
      refine H r 0 none none none _ hr.c (fun ρ hn => ?_) fun i hi => ?_
      · rw [hn]
        walk_at "w"
        exact ⟨rfl, rfl⟩
      · rw [hi]
        walk_at "w"
        exact ⟨rfl, rfl⟩
    intro xs
    induction xs with
    | nil => exact fun j a3 a4 a5 F hx hn hi => WF_nil (hn _ rfl)
    | cons x xs ih =>
      intro j a3 a4 a5 F hx hn hi
      rw [List.map_cons]
      unfold enumP
      refine WF_cons ?_
      refine ⟨_, rfl, ?_⟩
      walk_at "w"
      refine W_comp ?_
      walk_at "w"
      refine WC_typed (f := fun t : Tst => .str t.s) (g := fun t => .bl (t.on v c)) (fun t ht Q hq => turn_nm rfl ?_) ?_
      · walk_at "w"
        refine W.of (holds_eq t v c) ?_
        walk_at "w"
        exact hq
      · refine ⟨szI (by rw [List.length_map]; have := (hx x List.mem_cons_self).l; omega), ?_⟩
        walk_at "w"
        refine B2_b (b := x.on v c) rfl (fun hb => ?_) fun hb => ?_
        · walk_at "w"
          exact hi j (by simp only [dIx, hb, if_true])
        · walk_at "w"
          refine ih (j + 1) _ _ _ F (fun z hz => hx z (List.mem_cons_of_mem _ hz)) (fun ρ h => hn ρ ?_) fun i h => hi i ?_
          · simpa [dIx, hb] using h
          · simpa [dIx, hb] using h
  obtain ⟨r, S', h1, rfl, rfl⟩ := h
  exact h1
end
end Lw

set_option Elab.async false
set_option linter.all false
set_option maxRecDepth 100000
set_option maxHeartbeats 0
namespace Lw
open PySem U
local macro_rules | `(tactic| walk_at "w") => `(tactic| repeat first
  | (with_reducible refine thenL_nx.mpr ?_) | (with_reducible refine thenL_rt.mpr ?_) | (with_reducible refine endF_rt.mpr ?_) | (with_reducible refine endF_nx.mpr ?_)
  | (with_reducible refine L_nil.mpr ?_) | (with_reducible refine L_cons.mpr ?_)
  | (with_reducible refine S_set.mpr ?_) | (with_reducible refine S_par.mpr ?_) | (with_reducible refine S_unp.mpr ?_) | (with_reducible refine S_expr.mpr ?_) | (with_reducible refine S_ret.mpr ?_)
  | (with_reducible refine S_retV.mpr ?_) | (with_reducible refine S_retN.mpr ?_) | (with_reducible refine S_ite.mpr ?_) | (with_reducible refine S_put.mpr ?_) | (with_reducible refine S_app ?_) | (with_reducible refine S_appR.mpr ?_)
  | (with_reducible refine W_loc.mpr ?_) | (with_reducible refine W_lit.mpr ?_) | (with_reducible refine W_glb.mpr ?_) | (with_reducible refine W_tup.mpr ?_) | (with_reducible refine W_lst.mpr ?_)
  | (with_reducible refine W_bin.mpr ?_) | (with_reducible refine W_neg.mpr ?_) | (with_reducible refine W_cmp.mpr ?_) | (with_reducible refine W_cmp2.mpr ?_) | (with_reducible refine W_not.mpr ?_)
  | (with_reducible refine W_and.mpr ?_) | (with_reducible refine W_and1.mpr ?_) | (with_reducible refine W_andc.mpr ?_) | (with_reducible refine W_or.mpr ?_) | (with_reducible refine W_or1.mpr ?_) | (with_reducible refine W_orc.mpr ?_)
  | (with_reducible refine W_ite.mpr ?_) | (with_reducible refine W_call.mpr ?_) | (with_reducible refine W_blt.mpr ?_) | (with_reducible refine W_isa.mpr ?_) | (with_reducible refine W_sub.mpr ?_)
  | (with_reducible refine W_slc.mpr ?_) | (with_reducible refine W_O0.mpr ?_) | (with_reducible refine W_O1.mpr ?_) | (with_reducible refine W_rev.mpr ?_) | (with_reducible refine W_new.mpr ?_)
  | (with_reducible refine W_R0.mpr ?_) | (with_reducible refine W_R1.mpr ?_) | (with_reducible refine W_A0.mpr ?_) | (with_reducible refine W_A1.mpr ?_) | (with_reducible refine W_K0.mpr ?_) | (with_reducible refine W_K1.mpr ?_)
  | (with_reducible refine W_dzip.mpr ?_) | (with_reducible refine W_idxG.mpr ?_) | (with_reducible refine W_newD.mpr ?_) | (with_reducible refine W_dget.mpr ?_) | (with_reducible refine W_ntD.mpr ?_)
  | ((with_reducible apply W_guard); (focus (first | exact iv_stb | exact iv_own | exact iv_leaf | rfl)))
  | ((with_reducible apply loc_i); focus rfl)
  | (with_reducible refine WO_i slcT ?_) | (with_reducible refine WO_i len_pk ?_) | (with_reducible refine WO_i tuple_pk ?_) | (with_reducible refine WO_i list_pk ?_) | (with_reducible refine WO_i all_pk ?_) | (with_reducible refine WO_i keep_mkL ?_) | (with_reducible refine WO_i hold_mkL ?_)
  | ((with_reducible refine WO_eqS ?_ ?_ ?_); (focus (first | rfl | exact okS_deed _ | exact okS_chg _ | exact okS_tst _ | exact okS_w0 _)); (focus (first | rfl | exact okS_deed _ | exact okS_chg _ | exact okS_tst _ | exact okS_w0 _)))
  | ((with_reducible refine WO_neS ?_ ?_ ?_); (focus (first | rfl | exact okS_deed _ | exact okS_chg _ | exact okS_tst _ | exact okS_w0 _)); (focus (first | rfl | exact okS_deed _ | exact okS_chg _ | exact okS_tst _ | exact okS_w0 _)))
  | ((with_reducible refine WO_inS ?_ ?_); focus rfl) | ((with_reducible refine WO_ninS ?_ ?_); focus rfl) | ((with_reducible refine WO_inL ?_ ?_ ?_); (focus rfl); (focus (first | rfl | exact okS_deed _ | exact okS_chg _ | exact okS_tst _ | exact okS_w0 _)))
  | ((with_reducible apply WO_i); focus rfl) | ((with_reducible apply B2_t); focus rfl) | ((with_reducible apply B2_f); focus rfl)
  | ((with_reducible refine sz_i ?_ ?_); focus rfl) | ((with_reducible refine iv_i ?_ ?_); (focus (first | exact iv_stb | exact iv_own | exact iv_leaf | rfl)))
  | ((with_reducible refine av_i ?_ ?_); focus rfl) | ((with_reducible refine rf_i ?_ ?_); focus rfl))
local macro_rules | `(tactic| walk_at "s") => `(tactic| repeat first
  | (with_reducible refine thenL_nx.mpr ?_) | (with_reducible refine thenL_rt.mpr ?_) | (with_reducible refine endF_rt.mpr ?_) | (with_reducible refine endF_nx.mpr ?_)
  | (with_reducible refine L_nil.mpr ?_) | (with_reducible refine L_cons.mpr ?_)
  | (with_reducible refine S_set.mpr ?_) | (with_reducible refine S_par.mpr ?_) | (with_reducible refine S_unp.mpr ?_) | (with_reducible refine S_expr.mpr ?_) | (with_reducible refine S_ret.mpr ?_)
  | (with_reducible refine S_retV.mpr ?_) | (with_reducible refine S_retN.mpr ?_) | (with_reducible refine S_ite.mpr ?_) | (with_reducible refine S_put.mpr ?_) | (with_reducible refine S_app ?_) | (with_reducible refine S_appR.mpr ?_)
  | (with_reducible refine W_loc.mpr ?_) | (with_reducible refine W_lit.mpr ?_) | (with_reducible refine W_glb.mpr ?_) | (with_reducible refine W_tup.mpr ?_) | (with_reducible refine W_lst.mpr ?_)
  | (with_reducible refine W_bin.mpr ?_) | (with_reducible refine W_neg.mpr ?_) | (with_reducible refine W_cmp.mpr ?_) | (with_reducible refine W_cmp2.mpr ?_) | (with_reducible refine W_not.mpr ?_)
  | (with_reducible refine W_and.mpr ?_) | (with_reducible refine W_and1.mpr ?_) | (with_reducible refine W_andc.mpr ?_) | (with_reducible refine W_or.mpr ?_) | (with_reducible refine W_or1.mpr ?_) | (with_reducible refine W_orc.mpr ?_)
  | (with_reducible refine W_call.mpr ?_) | (with_reducible refine W_blt.mpr ?_) | (with_reducible refine W_isa.mpr ?_) | (with_reducible refine W_sub.mpr ?_)
  | (with_reducible refine W_slc.mpr ?_) | (with_reducible refine W_O0.mpr ?_) | (with_reducible refine W_O1.mpr ?_) | (with_reducible refine W_rev.mpr ?_) | (with_reducible refine W_new.mpr ?_)
  | (with_reducible refine W_R0.mpr ?_) | (with_reducible refine W_R1.mpr ?_) | (with_reducible refine W_A0.mpr ?_) | (with_reducible refine W_A1.mpr ?_) | (with_reducible refine W_K0.mpr ?_) | (with_reducible refine W_K1.mpr ?_)
  | (with_reducible refine W_dzip.mpr ?_) | (with_reducible refine W_idxG.mpr ?_) | (with_reducible refine W_newD.mpr ?_) | (with_reducible refine W_dget.mpr ?_) | (with_reducible refine W_ntD.mpr ?_)
  | ((with_reducible apply W_guard); (focus (first | exact iv_stb | exact iv_own | exact iv_leaf | rfl)))
  | ((with_reducible apply loc_i); focus rfl)
  | (with_reducible refine WO_i slcT ?_) | (with_reducible refine WO_i len_pk ?_) | (with_reducible refine WO_i tuple_pk ?_) | (with_reducible refine WO_i list_pk ?_) | (with_reducible refine WO_i all_pk ?_) | (with_reducible refine WO_i keep_mkL ?_) | (with_reducible refine WO_i hold_mkL ?_)
  | ((with_reducible refine WO_eqS ?_ ?_ ?_); (focus (first | rfl | exact okS_deed _ | exact okS_chg _ | exact okS_tst _ | exact okS_w0 _)); (focus (first | rfl | exact okS_deed _ | exact okS_chg _ | exact okS_tst _ | exact okS_w0 _)))
  | ((with_reducible refine WO_neS ?_ ?_ ?_); (focus (first | rfl | exact okS_deed _ | exact okS_chg _ | exact okS_tst _ | exact okS_w0 _)); (focus (first | rfl | exact okS_deed _ | exact okS_chg _ | exact okS_tst _ | exact okS_w0 _)))
  | ((with_reducible refine WO_inS ?_ ?_); focus rfl) | ((with_reducible refine WO_ninS ?_ ?_); focus rfl) | ((with_reducible refine WO_inL ?_ ?_ ?_); (focus rfl); (focus (first | rfl | exact okS_deed _ | exact okS_chg _ | exact okS_tst _ | exact okS_w0 _)))
  | ((with_reducible apply WO_i); focus rfl) | ((with_reducible apply B2_t); focus rfl) | ((with_reducible apply B2_f); focus rfl)
  | ((with_reducible refine sz_i ?_ ?_); focus rfl) | ((with_reducible refine iv_i ?_ ?_); (focus (first | exact iv_stb | exact iv_own | exact iv_leaf | rfl)))
  | ((with_reducible refine av_i ?_ ?_); focus rfl) | ((with_reducible refine rf_i ?_ ?_); focus rfl))


section
variable {n : Nat} {S : AS}
theorem dIx_none {v : Vw} {c : Chg} : ∀ {r : Rule} {j : Nat}, dIx v c r j = none → dec r v c = false
  | [], _, _ => rfl
  | x :: xs, j, h => by
    unfold dIx at h
    split at h
    · cases h
    · rename_i hx
      unfold dec
      rw [if_neg hx]
      exact dIx_none h
theorem dIx_some {v : Vw} {c : Chg} : ∀ {r : Rule} {j i : Nat}, dIx v c r j = some i → ∃ x, j ≤ i ∧ r[i - j]? = some x ∧ dec r v c = x.j
  | [], _, _, h => by cases h
  | x :: xs, j, i, h => by
    unfold dIx at h
    split at h
    · rename_i hx
      cases h
      refine ⟨x, Nat.le_refl _, by simp, ?_⟩
      unfold dec
      rw [if_pos hx]
    · rename_i hx
      obtain ⟨y, h1, h2, h3⟩ := dIx_some h
      refine ⟨y, by omega, ?_, ?_⟩
      · rw [show i - j = (i - (j + 1)) + 1 from by omega, List.getElem?_cons_succ]
        exact h2
      · unfold dec
        rw [if_neg hx]
        exact h3
theorem sub_map_at {α : Type} {f : α → P} {xs : List α} {x : α} {i : Nat} {s s' : Sta} (h : xs[i]? = some x) : subA ⟨.leaf (.tup (xs.map f)), s⟩ ⟨.leaf (.int (i : Int)), s'⟩ = some (R.p (f x)) := by
  have hl : i < xs.length := (List.getElem?_eq_some_iff.mp h).1
  show ((L2.atI (xs.map f) (i : Int)).map R.p) = _
  rw [atI_get (by omega) (by rw [List.length_map]; omega), Int.toNat_natCast, List.getElem?_map, h]
  rfl
theorem decide_eq {r : Rule} (hr : OkR r) (v : Vw) (c : Chg) : callF G (n + 4) f_decide [R.p (encR r), R.p v.e, R.p (.str c.s)] S = some (R.p (.str (deedS (dec r v c))), S) := by
  have h : W (callF G (n + 4) f_decide [R.p (encR r), R.p v.e, R.p (.str c.s)] S) fun x S' => x = R.p (.str (deedS (dec r v c))) ∧ S' = S := by
    refine call_ok (d := ⟨3, 4, ir_decide⟩) rfl rfl ?_
    walk_at "w"
    refine W.of (deciding_eq hr v c) ?_
    cases hd : dIx v c r 0 with
    | none =>
      walk_at "w"
      rw [dIx_none hd]
      exact ⟨rfl, rfl⟩
    | some i =>
      obtain ⟨x, -, h2, h3⟩ := dIx_some hd
      rw [Nat.sub_zero] at h2
      walk_at "w"
      refine ⟨_, sub_map_at h2, ?_⟩
      walk_at "w"
      rw [h3]
      exact ⟨rfl, rfl⟩
  obtain ⟨r, S', h1, rfl, rfl⟩ := h
  exact h1
end
end Lw

set_option Elab.async false
set_option linter.all false
set_option maxRecDepth 100000
set_option maxHeartbeats 0
namespace Lw
open PySem U
local macro_rules | `(tactic| walk_at "w") => `(tactic| repeat first
  | (with_reducible refine thenL_nx.mpr ?_) | (with_reducible refine thenL_rt.mpr ?_) | (with_reducible refine endF_rt.mpr ?_) | (with_reducible refine endF_nx.mpr ?_)
  | (with_reducible refine L_nil.mpr ?_) | (with_reducible refine L_cons.mpr ?_)
  | (with_reducible refine S_set.mpr ?_) | (with_reducible refine S_par.mpr ?_) | (with_reducible refine S_unp.mpr ?_) | (with_reducible refine S_expr.mpr ?_) | (with_reducible refine S_ret.mpr ?_)
  | (with_reducible refine S_retV.mpr ?_) | (with_reducible refine S_retN.mpr ?_) | (with_reducible refine S_ite.mpr ?_) | (with_reducible refine S_put.mpr ?_) | (with_reducible refine S_app ?_) | (with_reducible refine S_appR.mpr ?_)
  | (with_reducible refine W_loc.mpr ?_) | (with_reducible refine W_lit.mpr ?_) | (with_reducible refine W_glb.mpr ?_) | (with_reducible refine W_tup.mpr ?_) | (with_reducible refine W_lst.mpr ?_)
  | (with_reducible refine W_bin.mpr ?_) | (with_reducible refine W_neg.mpr ?_) | (with_reducible refine W_cmp.mpr ?_) | (with_reducible refine W_cmp2.mpr ?_) | (with_reducible refine W_not.mpr ?_)
  | (with_reducible refine W_and.mpr ?_) | (with_reducible refine W_and1.mpr ?_) | (with_reducible refine W_andc.mpr ?_) | (with_reducible refine W_or.mpr ?_) | (with_reducible refine W_or1.mpr ?_) | (with_reducible refine W_orc.mpr ?_)
  | (with_reducible refine W_ite.mpr ?_) | (with_reducible refine W_call.mpr ?_) | (with_reducible refine W_blt.mpr ?_) | (with_reducible refine W_isa.mpr ?_) | (with_reducible refine W_sub.mpr ?_)
  | (with_reducible refine W_slc.mpr ?_) | (with_reducible refine W_O0.mpr ?_) | (with_reducible refine W_O1.mpr ?_) | (with_reducible refine W_rev.mpr ?_) | (with_reducible refine W_new.mpr ?_)
  | (with_reducible refine W_R0.mpr ?_) | (with_reducible refine W_R1.mpr ?_) | (with_reducible refine W_A0.mpr ?_) | (with_reducible refine W_A1.mpr ?_) | (with_reducible refine W_K0.mpr ?_) | (with_reducible refine W_K1.mpr ?_)
  | (with_reducible refine W_dzip.mpr ?_) | (with_reducible refine W_idxG.mpr ?_) | (with_reducible refine W_newD.mpr ?_) | (with_reducible refine W_dget.mpr ?_) | (with_reducible refine W_ntD.mpr ?_)
  | ((with_reducible apply W_guard); (focus (first | exact iv_stb | exact iv_own | exact iv_leaf | rfl)))
  | ((with_reducible apply loc_i); focus rfl)
  | (with_reducible refine WO_i slcT ?_) | (with_reducible refine WO_i len_pk ?_) | (with_reducible refine WO_i tuple_pk ?_) | (with_reducible refine WO_i list_pk ?_) | (with_reducible refine WO_i all_pk ?_) | (with_reducible refine WO_i keep_mkL ?_) | (with_reducible refine WO_i hold_mkL ?_)
  | ((with_reducible refine WO_eqS ?_ ?_ ?_); (focus (first | rfl | exact okS_deed _ | exact okS_chg _ | exact okS_tst _ | exact okS_w0 _)); (focus (first | rfl | exact okS_deed _ | exact okS_chg _ | exact okS_tst _ | exact okS_w0 _)))
  | ((with_reducible refine WO_neS ?_ ?_ ?_); (focus (first | rfl | exact okS_deed _ | exact okS_chg _ | exact okS_tst _ | exact okS_w0 _)); (focus (first | rfl | exact okS_deed _ | exact okS_chg _ | exact okS_tst _ | exact okS_w0 _)))
  | ((with_reducible refine WO_inS ?_ ?_); focus rfl) | ((with_reducible refine WO_ninS ?_ ?_); focus rfl) | ((with_reducible refine WO_inL ?_ ?_ ?_); (focus rfl); (focus (first | rfl | exact okS_deed _ | exact okS_chg _ | exact okS_tst _ | exact okS_w0 _)))
  | ((with_reducible apply WO_i); focus rfl) | ((with_reducible apply B2_t); focus rfl) | ((with_reducible apply B2_f); focus rfl)
  | ((with_reducible refine sz_i ?_ ?_); focus rfl) | ((with_reducible refine iv_i ?_ ?_); (focus (first | exact iv_stb | exact iv_own | exact iv_leaf | rfl)))
  | ((with_reducible refine av_i ?_ ?_); focus rfl) | ((with_reducible refine rf_i ?_ ?_); focus rfl))
local macro_rules | `(tactic| walk_at "s") => `(tactic| repeat first
  | (with_reducible refine thenL_nx.mpr ?_) | (with_reducible refine thenL_rt.mpr ?_) | (with_reducible refine endF_rt.mpr ?_) | (with_reducible refine endF_nx.mpr ?_)
  | (with_reducible refine L_nil.mpr ?_) | (with_reducible refine L_cons.mpr ?_)
  | (with_reducible refine S_set.mpr ?_) | (with_reducible refine S_par.mpr ?_) | (with_reducible refine S_unp.mpr ?_) | (with_reducible refine S_expr.mpr ?_) | (with_reducible refine S_ret.mpr ?_)
  | (with_reducible refine S_retV.mpr ?_) | (with_reducible refine S_retN.mpr ?_) | (with_reducible refine S_ite.mpr ?_) | (with_reducible refine S_put.mpr ?_) | (with_reducible refine S_app ?_) | (with_reducible refine S_appR.mpr ?_)
  | (with_reducible refine W_loc.mpr ?_) | (with_reducible refine W_lit.mpr ?_) | (with_reducible refine W_glb.mpr ?_) | (with_reducible refine W_tup.mpr ?_) | (with_reducible refine W_lst.mpr ?_)
  | (with_reducible refine W_bin.mpr ?_) | (with_reducible refine W_neg.mpr ?_) | (with_reducible refine W_cmp.mpr ?_) | (with_reducible refine W_cmp2.mpr ?_) | (with_reducible refine W_not.mpr ?_)
  | (with_reducible refine W_and.mpr ?_) | (with_reducible refine W_and1.mpr ?_) | (with_reducible refine W_andc.mpr ?_) | (with_reducible refine W_or.mpr ?_) | (with_reducible refine W_or1.mpr ?_) | (with_reducible refine W_orc.mpr ?_)
  | (with_reducible refine W_call.mpr ?_) | (with_reducible refine W_blt.mpr ?_) | (with_reducible refine W_isa.mpr ?_) | (with_reducible refine W_sub.mpr ?_)
  | (with_reducible refine W_slc.mpr ?_) | (with_reducible refine W_O0.mpr ?_) | (with_reducible refine W_O1.mpr ?_) | (with_reducible refine W_rev.mpr ?_) | (with_reducible refine W_new.mpr ?_)
  | (with_reducible refine W_R0.mpr ?_) | (with_reducible refine W_R1.mpr ?_) | (with_reducible refine W_A0.mpr ?_) | (with_reducible refine W_A1.mpr ?_) | (with_reducible refine W_K0.mpr ?_) | (with_reducible refine W_K1.mpr ?_)
  | (with_reducible refine W_dzip.mpr ?_) | (with_reducible refine W_idxG.mpr ?_) | (with_reducible refine W_newD.mpr ?_) | (with_reducible refine W_dget.mpr ?_) | (with_reducible refine W_ntD.mpr ?_)
  | ((with_reducible apply W_guard); (focus (first | exact iv_stb | exact iv_own | exact iv_leaf | rfl)))
  | ((with_reducible apply loc_i); focus rfl)
  | (with_reducible refine WO_i slcT ?_) | (with_reducible refine WO_i len_pk ?_) | (with_reducible refine WO_i tuple_pk ?_) | (with_reducible refine WO_i list_pk ?_) | (with_reducible refine WO_i all_pk ?_) | (with_reducible refine WO_i keep_mkL ?_) | (with_reducible refine WO_i hold_mkL ?_)
  | ((with_reducible refine WO_eqS ?_ ?_ ?_); (focus (first | rfl | exact okS_deed _ | exact okS_chg _ | exact okS_tst _ | exact okS_w0 _)); (focus (first | rfl | exact okS_deed _ | exact okS_chg _ | exact okS_tst _ | exact okS_w0 _)))
  | ((with_reducible refine WO_neS ?_ ?_ ?_); (focus (first | rfl | exact okS_deed _ | exact okS_chg _ | exact okS_tst _ | exact okS_w0 _)); (focus (first | rfl | exact okS_deed _ | exact okS_chg _ | exact okS_tst _ | exact okS_w0 _)))
  | ((with_reducible refine WO_inS ?_ ?_); focus rfl) | ((with_reducible refine WO_ninS ?_ ?_); focus rfl) | ((with_reducible refine WO_inL ?_ ?_ ?_); (focus rfl); (focus (first | rfl | exact okS_deed _ | exact okS_chg _ | exact okS_tst _ | exact okS_w0 _)))
  | ((with_reducible apply WO_i); focus rfl) | ((with_reducible apply B2_t); focus rfl) | ((with_reducible apply B2_f); focus rfl)
  | ((with_reducible refine sz_i ?_ ?_); focus rfl) | ((with_reducible refine iv_i ?_ ?_); (focus (first | exact iv_stb | exact iv_own | exact iv_leaf | rfl)))
  | ((with_reducible refine av_i ?_ ?_); focus rfl) | ((with_reducible refine rf_i ?_ ?_); focus rfl))


section
variable {n : Nat} {S : AS}
theorem cmp_leI {i j : Int} {s s' : Sta} : cmpR .le ⟨.leaf (.int i), s⟩ ⟨.leaf (.int j), s'⟩ = some (decide (i ≤ j)) := rfl
theorem within_eq {i a b : Int} (h1 : a ≤ i) (h2 : i ≤ b) : callF G (n + 1) f_is_within [R.p (.int i), R.p (.int a), R.p (.int b)] S = some (R.p (.bl true), S) := by
  have h : W (callF G (n + 1) f_is_within [R.p (.int i), R.p (.int a), R.p (.int b)] S) fun x S' => x = R.p (.bl true) ∧ S' = S := by
    refine call_ok (d := ⟨3, 3, ir_is_within⟩) rfl rfl ?_
    walk_at "w"
    simp only [decide_eq_true h1, if_true]
    walk_at "w"
    exact ⟨congrArg (fun b => R.p (.bl b)) (decide_eq_true h2), rfl⟩
  obtain ⟨r, S', h1, rfl, rfl⟩ := h
  exact h1
theorem is_chg_eq (c : Chg) {p : P} (hp : G.glb[g_CHANGES]? = some p) : callF G (n + 1) f_is_one_of [R.p (.str c.s), R.p p] S = some (R.p (.bl true), S) := by
  cases hp
  cases c <;> kernel_rfl
theorem is_view_eq {v : Vw} (hv : OkV v) : callF G (n + 2) f_is_view [R.p v.e] S = some (R.p (.bl true), S) := by
  have h : W (callF G (n + 2) f_is_view [R.p v.e] S) fun x S' => x = R.p (.bl true) ∧ S' = S := by
    refine call_ok (d := ⟨1, 2, ir_is_view⟩) rfl rfl ?_
    walk_at "w"
    refine W.of (is_chg_eq (n := n) v.c rfl) ?_
    walk_at "w"
    refine W.of (within_eq (n := n) hv.lo hv.hi) ?_
    walk_at "w"
    refine W.of (a := mkL [.bl true, .bl true, .bl true, .bl true]) (S := S) rfl ?_
    walk_at "w"
    exact ⟨rfl, rfl⟩
  obtain ⟨r, S', h1, rfl, rfl⟩ := h
  exact h1
theorem look_view_eq {v : Vw} (hv : OkV v) : callF G (n + 3) f_look_at_view [R.p v.e] S = some (R.p .non, S) := by
  have h : W (callF G (n + 3) f_look_at_view [R.p v.e] S) fun r S' => r = R.p .non ∧ S' = S := by
    refine call_ok (d := ⟨1, 1, ir_look_at_view⟩) rfl rfl ?_
    walk_at "w"
    refine W.of (is_view_eq hv) ?_
    walk_at "w"
    exact ⟨rfl, rfl⟩
  obtain ⟨r, S', h1, rfl, rfl⟩ := h
  exact h1
theorem look_change_eq (c : Chg) : callF G (n + 2) f_look_at_change [R.p (.str c.s)] S = some (R.p .non, S) := by
  have h : W (callF G (n + 2) f_look_at_change [R.p (.str c.s)] S) fun r S' => r = R.p .non ∧ S' = S := by
    refine call_ok (d := ⟨1, 1, ir_look_at_change⟩) rfl rfl ?_
    walk_at "w"
    refine W.of (is_chg_eq (n := n) c rfl) ?_
    walk_at "w"
    exact ⟨rfl, rfl⟩
  obtain ⟨r, S', h1, rfl, rfl⟩ := h
  exact h1
theorem decision_eq {r : Rule} (hr : OkR r) {v : Vw} (hv : OkV v) (c : Chg) : callF G (n + 5) f_decision [R.p (encR r), R.p v.e, R.p (.str c.s)] S = some (R.p (.str (deedS (dec r v c))), S) := by
  have h : W (callF G (n + 5) f_decision [R.p (encR r), R.p v.e, R.p (.str c.s)] S) fun x S' => x = R.p (.str (deedS (dec r v c))) ∧ S' = S := by
    refine call_ok (d := ⟨3, 3, ir_decision⟩) rfl rfl ?_
    walk_at "w"
    refine W.of (look_rule_eq hr) ?_
    walk_at "w"
    refine W.of (look_view_eq hv) ?_
    walk_at "w"
    refine W.of (look_change_eq c) ?_
    walk_at "w"
    refine W.of (decide_eq hr v c) ?_
    walk_at "w"
    exact ⟨rfl, rfl⟩
  obtain ⟨r, S', h1, rfl, rfl⟩ := h
  exact h1
end
end Lw

set_option Elab.async false
set_option linter.all false
set_option maxRecDepth 100000
set_option maxHeartbeats 0
namespace Lw
open PySem U
local macro_rules | `(tactic| walk_at "w") => `(tactic| repeat first
  | (with_reducible refine thenL_nx.mpr ?_) | (with_reducible refine thenL_rt.mpr ?_) | (with_reducible refine endF_rt.mpr ?_) | (with_reducible refine endF_nx.mpr ?_)
  | (with_reducible refine L_nil.mpr ?_) | (with_reducible refine L_cons.mpr ?_)
  | (with_reducible refine S_set.mpr ?_) | (with_reducible refine S_par.mpr ?_) | (with_reducible refine S_unp.mpr ?_) | (with_reducible refine S_expr.mpr ?_) | (with_reducible refine S_ret.mpr ?_)
  | (with_reducible refine S_retV.mpr ?_) | (with_reducible refine S_retN.mpr ?_) | (with_reducible refine S_ite.mpr ?_) | (with_reducible refine S_put.mpr ?_) | (with_reducible refine S_app ?_) | (with_reducible refine S_appR.mpr ?_)
  | (with_reducible refine W_loc.mpr ?_) | (with_reducible refine W_lit.mpr ?_) | (with_reducible refine W_glb.mpr ?_) | (with_reducible refine W_tup.mpr ?_) | (with_reducible refine W_lst.mpr ?_)
  | (with_reducible refine W_bin.mpr ?_) | (with_reducible refine W_neg.mpr ?_) | (with_reducible refine W_cmp.mpr ?_) | (with_reducible refine W_cmp2.mpr ?_) | (with_reducible refine W_not.mpr ?_)
  | (with_reducible refine W_and.mpr ?_) | (with_reducible refine W_and1.mpr ?_) | (with_reducible refine W_andc.mpr ?_) | (with_reducible refine W_or.mpr ?_) | (with_reducible refine W_or1.mpr ?_) | (with_reducible refine W_orc.mpr ?_)
  | (with_reducible refine W_ite.mpr ?_) | (with_reducible refine W_call.mpr ?_) | (with_reducible refine W_blt.mpr ?_) | (with_reducible refine W_isa.mpr ?_) | (with_reducible refine W_sub.mpr ?_)
  | (with_reducible refine W_slc.mpr ?_) | (with_reducible refine W_O0.mpr ?_) | (with_reducible refine W_O1.mpr ?_) | (with_reducible refine W_rev.mpr ?_) | (with_reducible refine W_new.mpr ?_)
  | (with_reducible refine W_R0.mpr ?_) | (with_reducible refine W_R1.mpr ?_) | (with_reducible refine W_A0.mpr ?_) | (with_reducible refine W_A1.mpr ?_) | (with_reducible refine W_K0.mpr ?_) | (with_reducible refine W_K1.mpr ?_)
  | (with_reducible refine W_dzip.mpr ?_) | (with_reducible refine W_idxG.mpr ?_) | (with_reducible refine W_newD.mpr ?_) | (with_reducible refine W_dget.mpr ?_) | (with_reducible refine W_ntD.mpr ?_)
  | ((with_reducible apply W_guard); (focus (first | exact iv_stb | exact iv_own | exact iv_leaf | rfl)))
  | ((with_reducible apply loc_i); focus rfl)
  | (with_reducible refine WO_i slcT ?_) | (with_reducible refine WO_i len_pk ?_) | (with_reducible refine WO_i tuple_pk ?_) | (with_reducible refine WO_i list_pk ?_) | (with_reducible refine WO_i all_pk ?_) | (with_reducible refine WO_i keep_mkL ?_) | (with_reducible refine WO_i hold_mkL ?_)
  | ((with_reducible refine WO_eqS ?_ ?_ ?_); (focus (first | rfl | exact okS_deed _ | exact okS_chg _ | exact okS_tst _ | exact okS_w0 _)); (focus (first | rfl | exact okS_deed _ | exact okS_chg _ | exact okS_tst _ | exact okS_w0 _)))
  | ((with_reducible refine WO_neS ?_ ?_ ?_); (focus (first | rfl | exact okS_deed _ | exact okS_chg _ | exact okS_tst _ | exact okS_w0 _)); (focus (first | rfl | exact okS_deed _ | exact okS_chg _ | exact okS_tst _ | exact okS_w0 _)))
  | ((with_reducible refine WO_inS ?_ ?_); focus rfl) | ((with_reducible refine WO_ninS ?_ ?_); focus rfl) | ((with_reducible refine WO_inL ?_ ?_ ?_); (focus rfl); (focus (first | rfl | exact okS_deed _ | exact okS_chg _ | exact okS_tst _ | exact okS_w0 _)))
  | ((with_reducible apply WO_i); focus rfl) | ((with_reducible apply B2_t); focus rfl) | ((with_reducible apply B2_f); focus rfl)
  | ((with_reducible refine sz_i ?_ ?_); focus rfl) | ((with_reducible refine iv_i ?_ ?_); (focus (first | exact iv_stb | exact iv_own | exact iv_leaf | rfl)))
  | ((with_reducible refine av_i ?_ ?_); focus rfl) | ((with_reducible refine rf_i ?_ ?_); focus rfl))
local macro_rules | `(tactic| walk_at "s") => `(tactic| repeat first
  | (with_reducible refine thenL_nx.mpr ?_) | (with_reducible refine thenL_rt.mpr ?_) | (with_reducible refine endF_rt.mpr ?_) | (with_reducible refine endF_nx.mpr ?_)
  | (with_reducible refine L_nil.mpr ?_) | (with_reducible refine L_cons.mpr ?_)
  | (with_reducible refine S_set.mpr ?_) | (with_reducible refine S_par.mpr ?_) | (with_reducible refine S_unp.mpr ?_) | (with_reducible refine S_expr.mpr ?_) | (with_reducible refine S_ret.mpr ?_)
  | (with_reducible refine S_retV.mpr ?_) | (with_reducible refine S_retN.mpr ?_) | (with_reducible refine S_ite.mpr ?_) | (with_reducible refine S_put.mpr ?_) | (with_reducible refine S_app ?_) | (with_reducible refine S_appR.mpr ?_)
  | (with_reducible refine W_loc.mpr ?_) | (with_reducible refine W_lit.mpr ?_) | (with_reducible refine W_glb.mpr ?_) | (with_reducible refine W_tup.mpr ?_) | (with_reducible refine W_lst.mpr ?_)
  | (with_reducible refine W_bin.mpr ?_) | (with_reducible refine W_neg.mpr ?_) | (with_reducible refine W_cmp.mpr ?_) | (with_reducible refine W_cmp2.mpr ?_) | (with_reducible refine W_not.mpr ?_)
  | (with_reducible refine W_and.mpr ?_) | (with_reducible refine W_and1.mpr ?_) | (with_reducible refine W_andc.mpr ?_) | (with_reducible refine W_or.mpr ?_) | (with_reducible refine W_or1.mpr ?_) | (with_reducible refine W_orc.mpr ?_)
  | (with_reducible refine W_call.mpr ?_) | (with_reducible refine W_blt.mpr ?_) | (with_reducible refine W_isa.mpr ?_) | (with_reducible refine W_sub.mpr ?_)
  | (with_reducible refine W_slc.mpr ?_) | (with_reducible refine W_O0.mpr ?_) | (with_reducible refine W_O1.mpr ?_) | (with_reducible refine W_rev.mpr ?_) | (with_reducible refine W_new.mpr ?_)
  | (with_reducible refine W_R0.mpr ?_) | (with_reducible refine W_R1.mpr ?_) | (with_reducible refine W_A0.mpr ?_) | (with_reducible refine W_A1.mpr ?_) | (with_reducible refine W_K0.mpr ?_) | (with_reducible refine W_K1.mpr ?_)
  | (with_reducible refine W_dzip.mpr ?_) | (with_reducible refine W_idxG.mpr ?_) | (with_reducible refine W_newD.mpr ?_) | (with_reducible refine W_dget.mpr ?_) | (with_reducible refine W_ntD.mpr ?_)
  | ((with_reducible apply W_guard); (focus (first | exact iv_stb | exact iv_own | exact iv_leaf | rfl)))
  | ((with_reducible apply loc_i); focus rfl)
  | (with_reducible refine WO_i slcT ?_) | (with_reducible refine WO_i len_pk ?_) | (with_reducible refine WO_i tuple_pk ?_) | (with_reducible refine WO_i list_pk ?_) | (with_reducible refine WO_i all_pk ?_) | (with_reducible refine WO_i keep_mkL ?_) | (with_reducible refine WO_i hold_mkL ?_)
  | ((with_reducible refine WO_eqS ?_ ?_ ?_); (focus (first | rfl | exact okS_deed _ | exact okS_chg _ | exact okS_tst _ | exact okS_w0 _)); (focus (first | rfl | exact okS_deed _ | exact okS_chg _ | exact okS_tst _ | exact okS_w0 _)))
  | ((with_reducible refine WO_neS ?_ ?_ ?_); (focus (first | rfl | exact okS_deed _ | exact okS_chg _ | exact okS_tst _ | exact okS_w0 _)); (focus (first | rfl | exact okS_deed _ | exact okS_chg _ | exact okS_tst _ | exact okS_w0 _)))
  | ((with_reducible refine WO_inS ?_ ?_); focus rfl) | ((with_reducible refine WO_ninS ?_ ?_); focus rfl) | ((with_reducible refine WO_inL ?_ ?_ ?_); (focus rfl); (focus (first | rfl | exact okS_deed _ | exact okS_chg _ | exact okS_tst _ | exact okS_w0 _)))
  | ((with_reducible apply WO_i); focus rfl) | ((with_reducible apply B2_t); focus rfl) | ((with_reducible apply B2_f); focus rfl)
  | ((with_reducible refine sz_i ?_ ?_); focus rfl) | ((with_reducible refine iv_i ?_ ?_); (focus (first | exact iv_stb | exact iv_own | exact iv_leaf | rfl)))
  | ((with_reducible refine av_i ?_ ?_); focus rfl) | ((with_reducible refine rf_i ?_ ?_); focus rfl))


section
variable {n : Nat} {S : AS}
theorem lholds_eq (t : Tst) (v : Vw) (c : Chg) : callF G (n + 3) f__law_holds [R.p (.str t.s), R.p v.e, R.p (.str c.s)] S = some (R.p (.bl (t.on v c)), S) := by
  obtain ⟨a, w⟩ := t
  obtain ⟨d, i, m, w', s, u⟩ := v
  cases w with
  | chg e => cases a <;> cases e <;> cases c <;> kernel_rfl
  | aft e => cases a <;> cases e <;> cases d <;> kernel_rfl
  | same => cases a <;> cases d <;> cases c <;> kernel_rfl
  | long e => cases a <;> cases e <;> kernel_rfl
  | _ => cases a <;> kernel_rfl
/-- a comprehension over typed items that keeps those of which g holds -/
theorem WC_filt {C : U.Ctx} {t : Tg} {ρ : U.Env} {e : E} {cd : List E} {α : Type} {f : α → P} {g : α → Bool} {F : List P → AS → Prop} {xs : List α} (step : ∀ x ∈ xs, ∀ (Q : Option P → AS → Prop), Q (if g x = true then some (f x) else none) S → turnC C t ρ cd e (f x) S Q) (q : F ((xs.filter g).map f) S) : WC C t ρ cd e (xs.map f) S F := by
  induction xs generalizing F with
  | nil => unfold WC; exact q
  | cons x xs ih =>
    rw [List.map_cons]
    unfold WC
    refine step x List.mem_cons_self _ ?_
    refine ih (fun z hz => step z (List.mem_cons_of_mem _ hz)) ?_
    rw [List.filter_cons] at q
    cases h : g x with
    | true => rw [h] at q; exact q
    | false => rw [h] at q; exact q
theorem turn_nmc {C : U.Ctx} {i : Nat} {ρ : U.Env} {e cd : E} {p : P} {Q : Option P → AS → Prop} {b : Bool} (hi : decide (i < ρ.length) = true) (hc : W (evE C cd (ρ.set i (some (R.p p))) S) fun x S1 => x = R.p (.bl b) ∧ S1 = S) (h : b = true → W (evE C e (ρ.set i (some (R.p p))) S) fun r S2 => WO r.keep fun q => Q (some q) S2) (h2 : b = false → Q none S) : turnC C (.nm i) ρ [cd] e p S Q := by
  unfold turnC
  refine ⟨_, if_pos (of_decide_eq_true hi), ?_⟩
  refine W_And11.mpr ?_
  refine W.mono hc ?_
  rintro _ _ ⟨rfl, rfl⟩
  refine ⟨b, rfl, ?_⟩
  cases b
  · exact h2 rfl
  · exact h rfl
theorem filt_empty {α : Type} {g : α → Bool} : ∀ {xs : List α}, ((xs.filter fun x => !g x).isEmpty) = xs.all g
  | [] => rfl
  | x :: xs => by
    rw [List.filter_cons, List.all_cons]
    cases h : g x with
    | true => simpa using filt_empty
    | false => rfl
theorem ldecides_eq {r : Rule} (hr : OkR r) (v : Vw) (c : Chg) : callF G (n + 4) f__law_decides [R.p (encR r), R.p v.e, R.p (.str c.s)] S = some (R.p (.str (deedS (dec r v c))), S) := by
  have h : W (callF G (n + 4) f__law_decides [R.p (encR r), R.p v.e, R.p (.str c.s)] S) fun x S' => x = R.p (.str (deedS (dec r v c))) ∧ S' = S := by
    refine call_ok (d := ⟨3, 6, ir__law_decides⟩) rfl rfl ?_
    walk_at "w"
    refine S_for ?_
    walk_at "w"
    suffices H : ∀ (xs : Rule) (a3 a4 : Option R) (F : Fl → Prop), (∀ x ∈ xs, OkC x) → (dec xs v c = false → ∀ ρ, F (.nx ρ S)) → (F (.rt (R.p (.str (deedS (dec xs v c)))) S)) → WF ⟨callF G (n + 3), G.glb⟩ (.tp [.nm 3, .nm 4]) [.ite (.cmp .eq (.comp (.nm 5) [5] .over [.loc 3] [.not (.call f__law_holds [.loc 5, .loc 1, .loc 2])] (.loc 5)) (.lst [])) [.retV 4] []] (xs.map Clause.e) [some (R.p (encR r)), some (R.p v.e), some (R.p (.str c.s)), a3, a4, none] S F by
      refine H r none none _ hr.c (fun hn ρ => ?_) ?_
      · rw [hn]
        walk_at "w"
        exact ⟨rfl, rfl⟩
      · walk_at "w"
        exact ⟨rfl, rfl⟩
    intro xs
    induction xs with
    | nil => exact fun a3 a4 F hx hn hi => WF_nil (hn rfl _)
    | cons x xs ih =>
      intro a3 a4 F hx hn hi
      rw [List.map_cons]
      refine WF_cons ?_
      refine ⟨_, rfl, ?_⟩
      walk_at "w"
      refine W_comp ?_
      walk_at "w"
      refine WC_filt (f := fun t : Tst => .str t.s) (g := fun t => !t.on v c) (fun t ht Q hq => turn_nmc (b := !t.on v c) rfl ?_ (fun hb => ?_) fun hb => ?_) ?_
      · walk_at "w"
        refine W.of (lholds_eq t v c) ?_
        walk_at "w"
        exact ⟨rfl, rfl⟩
      · walk_at "w"
        rw [hb] at hq
        exact hq
      · rw [hb] at hq
        exact hq
      · refine ⟨szI (by rw [List.length_map]; have := (hx x List.mem_cons_self).l; have := List.length_filter_le (fun t => !t.on v c) x.ts; omega), ?_⟩
        walk_at "w"
        refine ⟨_, cmp_eqNil (n := 0) (okPs_map fun t _ => okS_tst t) (by decide), ?_⟩
        walk_at "w"
        have e : (((x.ts.filter fun t => !t.on v c).map fun t => P.str t.s).isEmpty) = x.on v c := by
          rw [← any_all, ← filt_empty]
          generalize (x.ts.filter fun t => !t.on v c) = ys
          cases ys <;> rfl
        refine B2_b (b := x.on v c) (congrArg some e) (fun hb => ?_) fun hb => ?_
        · walk_at "w"
          simp only [dec, hb, if_true] at hi
          exact hi
        · walk_at "w"
          refine ih _ _ F (fun z hz => hx z (List.mem_cons_of_mem _ hz)) (fun h ρ => hn ?_ ρ) ?_
          · simpa [dec, hb] using h
          · simpa [dec, hb] using hi
  obtain ⟨r, S', h1, rfl, rfl⟩ := h
  exact h1
theorem same_deed1 (a : Bool) : callF G (n + 1) f__law_same [R.p (.str (deedS a)), R.p (.str (deedS a))] S = some (R.p (.bl true), S) := by
  cases a <;> kernel_rfl
theorem same_deed (a b : Bool) : callF G (n + 1) f__law_same [R.p (.str (deedS a)), R.p (.str (deedS b))] S = some (R.p (.bl (a == b)), S) := by
  cases a <;> cases b <;> kernel_rfl
end
end Lw

set_option Elab.async false
set_option linter.all false
set_option maxRecDepth 100000
set_option maxHeartbeats 0
namespace Lw
open PySem U
local macro_rules | `(tactic| walk_at "w") => `(tactic| repeat first
  | (with_reducible refine thenL_nx.mpr ?_) | (with_reducible refine thenL_rt.mpr ?_) | (with_reducible refine endF_rt.mpr ?_) | (with_reducible refine endF_nx.mpr ?_)
  | (with_reducible refine L_nil.mpr ?_) | (with_reducible refine L_cons.mpr ?_)
  | (with_reducible refine S_set.mpr ?_) | (with_reducible refine S_par.mpr ?_) | (with_reducible refine S_unp.mpr ?_) | (with_reducible refine S_expr.mpr ?_) | (with_reducible refine S_ret.mpr ?_)
  | (with_reducible refine S_retV.mpr ?_) | (with_reducible refine S_retN.mpr ?_) | (with_reducible refine S_ite.mpr ?_) | (with_reducible refine S_put.mpr ?_) | (with_reducible refine S_app ?_) | (with_reducible refine S_appR.mpr ?_)
  | (with_reducible refine W_loc.mpr ?_) | (with_reducible refine W_lit.mpr ?_) | (with_reducible refine W_glb.mpr ?_) | (with_reducible refine W_tup.mpr ?_) | (with_reducible refine W_lst.mpr ?_)
  | (with_reducible refine W_bin.mpr ?_) | (with_reducible refine W_neg.mpr ?_) | (with_reducible refine W_cmp.mpr ?_) | (with_reducible refine W_cmp2.mpr ?_) | (with_reducible refine W_not.mpr ?_)
  | (with_reducible refine W_and.mpr ?_) | (with_reducible refine W_and1.mpr ?_) | (with_reducible refine W_andc.mpr ?_) | (with_reducible refine W_or.mpr ?_) | (with_reducible refine W_or1.mpr ?_) | (with_reducible refine W_orc.mpr ?_)
  | (with_reducible refine W_ite.mpr ?_) | (with_reducible refine W_call.mpr ?_) | (with_reducible refine W_blt.mpr ?_) | (with_reducible refine W_isa.mpr ?_) | (with_reducible refine W_sub.mpr ?_)
  | (with_reducible refine W_slc.mpr ?_) | (with_reducible refine W_O0.mpr ?_) | (with_reducible refine W_O1.mpr ?_) | (with_reducible refine W_rev.mpr ?_) | (with_reducible refine W_new.mpr ?_)
  | (with_reducible refine W_R0.mpr ?_) | (with_reducible refine W_R1.mpr ?_) | (with_reducible refine W_A0.mpr ?_) | (with_reducible refine W_A1.mpr ?_) | (with_reducible refine W_K0.mpr ?_) | (with_reducible refine W_K1.mpr ?_)
  | (with_reducible refine W_dzip.mpr ?_) | (with_reducible refine W_idxG.mpr ?_) | (with_reducible refine W_newD.mpr ?_) | (with_reducible refine W_dget.mpr ?_) | (with_reducible refine W_ntD.mpr ?_)
  | ((with_reducible apply W_guard); (focus (first | exact iv_stb | exact iv_own | exact iv_leaf | rfl)))
  | ((with_reducible apply loc_i); focus rfl)
  | (with_reducible refine WO_i slcT ?_) | (with_reducible refine WO_i len_pk ?_) | (with_reducible refine WO_i tuple_pk ?_) | (with_reducible refine WO_i list_pk ?_) | (with_reducible refine WO_i all_pk ?_) | (with_reducible refine WO_i keep_mkL ?_) | (with_reducible refine WO_i hold_mkL ?_)
  | ((with_reducible refine WO_eqS ?_ ?_ ?_); (focus (first | rfl | exact okS_deed _ | exact okS_chg _ | exact okS_tst _ | exact okS_w0 _)); (focus (first | rfl | exact okS_deed _ | exact okS_chg _ | exact okS_tst _ | exact okS_w0 _)))
  | ((with_reducible refine WO_neS ?_ ?_ ?_); (focus (first | rfl | exact okS_deed _ | exact okS_chg _ | exact okS_tst _ | exact okS_w0 _)); (focus (first | rfl | exact okS_deed _ | exact okS_chg _ | exact okS_tst _ | exact okS_w0 _)))
  | ((with_reducible refine WO_inS ?_ ?_); focus rfl) | ((with_reducible refine WO_ninS ?_ ?_); focus rfl) | ((with_reducible refine WO_inL ?_ ?_ ?_); (focus rfl); (focus (first | rfl | exact okS_deed _ | exact okS_chg _ | exact okS_tst _ | exact okS_w0 _)))
  | ((with_reducible apply WO_i); focus rfl) | ((with_reducible apply B2_t); focus rfl) | ((with_reducible apply B2_f); focus rfl)
  | ((with_reducible refine sz_i ?_ ?_); focus rfl) | ((with_reducible refine iv_i ?_ ?_); (focus (first | exact iv_stb | exact iv_own | exact iv_leaf | rfl)))
  | ((with_reducible refine av_i ?_ ?_); focus rfl) | ((with_reducible refine rf_i ?_ ?_); focus rfl))
local macro_rules | `(tactic| walk_at "s") => `(tactic| repeat first
  | (with_reducible refine thenL_nx.mpr ?_) | (with_reducible refine thenL_rt.mpr ?_) | (with_reducible refine endF_rt.mpr ?_) | (with_reducible refine endF_nx.mpr ?_)
  | (with_reducible refine L_nil.mpr ?_) | (with_reducible refine L_cons.mpr ?_)
  | (with_reducible refine S_set.mpr ?_) | (with_reducible refine S_par.mpr ?_) | (with_reducible refine S_unp.mpr ?_) | (with_reducible refine S_expr.mpr ?_) | (with_reducible refine S_ret.mpr ?_)
  | (with_reducible refine S_retV.mpr ?_) | (with_reducible refine S_retN.mpr ?_) | (with_reducible refine S_ite.mpr ?_) | (with_reducible refine S_put.mpr ?_) | (with_reducible refine S_app ?_) | (with_reducible refine S_appR.mpr ?_)
  | (with_reducible refine W_loc.mpr ?_) | (with_reducible refine W_lit.mpr ?_) | (with_reducible refine W_glb.mpr ?_) | (with_reducible refine W_tup.mpr ?_) | (with_reducible refine W_lst.mpr ?_)
  | (with_reducible refine W_bin.mpr ?_) | (with_reducible refine W_neg.mpr ?_) | (with_reducible refine W_cmp.mpr ?_) | (with_reducible refine W_cmp2.mpr ?_) | (with_reducible refine W_not.mpr ?_)
  | (with_reducible refine W_and.mpr ?_) | (with_reducible refine W_and1.mpr ?_) | (with_reducible refine W_andc.mpr ?_) | (with_reducible refine W_or.mpr ?_) | (with_reducible refine W_or1.mpr ?_) | (with_reducible refine W_orc.mpr ?_)
  | (with_reducible refine W_call.mpr ?_) | (with_reducible refine W_blt.mpr ?_) | (with_reducible refine W_isa.mpr ?_) | (with_reducible refine W_sub.mpr ?_)
  | (with_reducible refine W_slc.mpr ?_) | (with_reducible refine W_O0.mpr ?_) | (with_reducible refine W_O1.mpr ?_) | (with_reducible refine W_rev.mpr ?_) | (with_reducible refine W_new.mpr ?_)
  | (with_reducible refine W_R0.mpr ?_) | (with_reducible refine W_R1.mpr ?_) | (with_reducible refine W_A0.mpr ?_) | (with_reducible refine W_A1.mpr ?_) | (with_reducible refine W_K0.mpr ?_) | (with_reducible refine W_K1.mpr ?_)
  | (with_reducible refine W_dzip.mpr ?_) | (with_reducible refine W_idxG.mpr ?_) | (with_reducible refine W_newD.mpr ?_) | (with_reducible refine W_dget.mpr ?_) | (with_reducible refine W_ntD.mpr ?_)
  | ((with_reducible apply W_guard); (focus (first | exact iv_stb | exact iv_own | exact iv_leaf | rfl)))
  | ((with_reducible apply loc_i); focus rfl)
  | (with_reducible refine WO_i slcT ?_) | (with_reducible refine WO_i len_pk ?_) | (with_reducible refine WO_i tuple_pk ?_) | (with_reducible refine WO_i list_pk ?_) | (with_reducible refine WO_i all_pk ?_) | (with_reducible refine WO_i keep_mkL ?_) | (with_reducible refine WO_i hold_mkL ?_)
  | ((with_reducible refine WO_eqS ?_ ?_ ?_); (focus (first | rfl | exact okS_deed _ | exact okS_chg _ | exact okS_tst _ | exact okS_w0 _)); (focus (first | rfl | exact okS_deed _ | exact okS_chg _ | exact okS_tst _ | exact okS_w0 _)))
  | ((with_reducible refine WO_neS ?_ ?_ ?_); (focus (first | rfl | exact okS_deed _ | exact okS_chg _ | exact okS_tst _ | exact okS_w0 _)); (focus (first | rfl | exact okS_deed _ | exact okS_chg _ | exact okS_tst _ | exact okS_w0 _)))
  | ((with_reducible refine WO_inS ?_ ?_); focus rfl) | ((with_reducible refine WO_ninS ?_ ?_); focus rfl) | ((with_reducible refine WO_inL ?_ ?_ ?_); (focus rfl); (focus (first | rfl | exact okS_deed _ | exact okS_chg _ | exact okS_tst _ | exact okS_w0 _)))
  | ((with_reducible apply WO_i); focus rfl) | ((with_reducible apply B2_t); focus rfl) | ((with_reducible apply B2_f); focus rfl)
  | ((with_reducible refine sz_i ?_ ?_); focus rfl) | ((with_reducible refine iv_i ?_ ?_); (focus (first | exact iv_stb | exact iv_own | exact iv_leaf | rfl)))
  | ((with_reducible refine av_i ?_ ?_); focus rfl) | ((with_reducible refine rf_i ?_ ?_); focus rfl))


theorem well_ok {n j : Nat} {c u : Int} {S : AS} {Q : R → AS → Prop} (h : Si 20000 j [] S) (h0 : 0 ≤ u) (h1 : u ≤ 20000)
    (q : ∀ S', Si 20000 (j + 1) [] S' → Q (R.p (.ref j)) S') : W (callF G (n + 1) f__law_well [R.p (.int c), R.p (.int u)] S) Q := by
  refine call_ok (d := ⟨2, 2, ir__law_well⟩) rfl rfl ?_
  have fin : ∀ a : Int, Q (R.p (.ref S.os.length)) ⟨S.os ++ [bag a (c % 2305843009213693951) u], true⟩ := fun a => by
    obtain ⟨bs, g1, g2, g3⟩ := h
    rw [List.append_nil] at g3
    rw [g3, g1]
    refine q _ ⟨bs ++ [bag a (c % 2305843009213693951) u], by rw [List.length_append, g1]; rfl, fun o ho => ?_, by rw [List.append_nil]⟩
    rcases List.mem_append.mp ho with ho | ho
    · exact g2 o ho
    · have e : o = bag a (c % 2305843009213693951) u := by simpa using ho
      exact ⟨a, _, u, e, Int.emod_nonneg _ (by decide), Int.emod_lt_of_pos _ (by decide), h0, h1⟩
  simp only [ir__law_well, L_cons, L_nil, S_ite, S_set, S_put, S_ret, S_retV, S_retN, S_par, S_unp, S_expr, thenL_nx, thenL_rt, W_cmp, W_sub, W_loc, W_lit, W_glb, W_bin, W_neg, W_not, W_and, W_and1, W_andc, W_or, W_or1, W_orc, W_ite, W_call, W_blt, W_isa, W_slc, W_O0, W_O1, W_rev, W_new, W_tup, W_lst, W_R0, W_R1, W_A0, W_A1, W_K0, W_K1, List.map, List.replicate, List.append, List.cons_append, List.nil_append, List.getElem?_cons_zero, List.getElem?_cons_succ, Option.some.injEq, exists_eq_left', isVol_leaf, isVol_stb', isVol_own, W_g0, WO_some, B2_some, bl_leaf, int_leaf, keep_leaf, hold_leaf, ref_leaf, arg_leaf, arg_stb, mkL_o, peek_lst, peek_tup, hold_mkL, keep_mkL, isVol_mkL, cmp_gt, cmp_lt, cmp_ge, cmp_le, bin_add, bin_sub, setS, List.length, List.set, Nat.reduceAdd, Nat.reduceLT, Nat.reduceLeDiff, if_true, endF, Nat.sub_self, Nat.reduceSub, true_and]
  refine ⟨_, bin_pow (by decide) (by decide) (by decide), ?_⟩
  simp only [L_cons, L_nil, S_ite, S_set, S_put, S_ret, S_retV, S_retN, S_par, S_unp, S_expr, thenL_nx, thenL_rt, W_cmp, W_sub, W_loc, W_lit, W_glb, W_bin, W_neg, W_not, W_and, W_and1, W_andc, W_or, W_or1, W_orc, W_ite, W_call, W_blt, W_isa, W_slc, W_O0, W_O1, W_rev, W_new, W_tup, W_lst, W_R0, W_R1, W_A0, W_A1, W_K0, W_K1, List.map, List.replicate, List.append, List.cons_append, List.nil_append, List.getElem?_cons_zero, List.getElem?_cons_succ, Option.some.injEq, exists_eq_left', isVol_leaf, isVol_stb', isVol_own, W_g0, WO_some, B2_some, bl_leaf, int_leaf, keep_leaf, hold_leaf, ref_leaf, arg_leaf, arg_stb, mkL_o, peek_lst, peek_tup, hold_mkL, keep_mkL, isVol_mkL, cmp_gt, cmp_lt, cmp_ge, cmp_le, bin_add, bin_sub, setS, List.length, List.set, Nat.reduceAdd, Nat.reduceLT, Nat.reduceLeDiff, if_true, endF, Nat.sub_self, Nat.reduceSub, true_and, peek_int]
  by_cases hc : (10 : Int) ^ (18 : Int).toNat ≤ c
  · rw [if_pos (by simpa using hc)]
    refine ⟨_, bin_pow (by decide) (by decide) (by decide), ?_⟩
    simp only [L_cons, L_nil, S_ite, S_set, S_put, S_ret, S_retV, S_retN, S_par, S_unp, S_expr, thenL_nx, thenL_rt, W_cmp, W_sub, W_loc, W_lit, W_glb, W_bin, W_neg, W_not, W_and, W_and1, W_andc, W_or, W_or1, W_orc, W_ite, W_call, W_blt, W_isa, W_slc, W_O0, W_O1, W_rev, W_new, W_tup, W_lst, W_R0, W_R1, W_A0, W_A1, W_K0, W_K1, List.map, List.replicate, List.append, List.cons_append, List.nil_append, List.getElem?_cons_zero, List.getElem?_cons_succ, Option.some.injEq, exists_eq_left', isVol_leaf, isVol_stb', isVol_own, W_g0, WO_some, B2_some, bl_leaf, int_leaf, keep_leaf, hold_leaf, ref_leaf, arg_leaf, arg_stb, mkL_o, peek_lst, peek_tup, hold_mkL, keep_mkL, isVol_mkL, cmp_gt, cmp_lt, cmp_ge, cmp_le, bin_add, bin_sub, setS, List.length, List.set, Nat.reduceAdd, Nat.reduceLT, Nat.reduceLeDiff, if_true, endF, Nat.sub_self, Nat.reduceSub, true_and, bin_mod (show (0 : Int) < 2305843009213693951 by decide)]
    exact ⟨rfl, W.of rfl ⟨_, rfl, fin _⟩⟩
  · rw [if_neg (by simpa using hc)]
    simp only [L_cons, L_nil, S_ite, S_set, S_put, S_ret, S_retV, S_retN, S_par, S_unp, S_expr, thenL_nx, thenL_rt, W_cmp, W_sub, W_loc, W_lit, W_glb, W_bin, W_neg, W_not, W_and, W_and1, W_andc, W_or, W_or1, W_orc, W_ite, W_call, W_blt, W_isa, W_slc, W_O0, W_O1, W_rev, W_new, W_tup, W_lst, W_R0, W_R1, W_A0, W_A1, W_K0, W_K1, List.map, List.replicate, List.append, List.cons_append, List.nil_append, List.getElem?_cons_zero, List.getElem?_cons_succ, Option.some.injEq, exists_eq_left', isVol_leaf, isVol_stb', isVol_own, W_g0, WO_some, B2_some, bl_leaf, int_leaf, keep_leaf, hold_leaf, ref_leaf, arg_leaf, arg_stb, mkL_o, peek_lst, peek_tup, hold_mkL, keep_mkL, isVol_mkL, cmp_gt, cmp_lt, cmp_ge, cmp_le, bin_add, bin_sub, setS, List.length, List.set, Nat.reduceAdd, Nat.reduceLT, Nat.reduceLeDiff, if_true, endF, Nat.sub_self, Nat.reduceSub, true_and, bin_mod (show (0 : Int) < 2305843009213693951 by decide)]
    exact ⟨rfl, W.of rfl ⟨_, rfl, fin _⟩⟩
theorem bags_ok {n : Nat} {m : Int} {ns : List Int} {Q : R → AS → Prop} (hm0 : 0 ≤ m) (hm : m ≤ 12) (q : ∀ (ks : List P) (S' : AS) (L : Nat), (∀ p ∈ ks, ∃ k, p = .ref k ∧ k < L) → (ks.length : Int) ≤ m + 1 → Si 20000 L [] S' → Q (mkL ks) S') :
    W (callF G (n + 2) f__law_bags [R.p (.scr ns), R.p (.int m)] ⟨[], false⟩) Q := by
  refine call_ok (d := ⟨2, 4, ir__law_bags⟩) rfl rfl ?_
  simp only [ir__law_bags, L_cons, L_nil, S_ret]
  refine W_comp ?_
  simp only [L_cons, L_nil, S_ite, S_set, S_put, S_ret, S_retV, S_retN, S_par, S_unp, S_expr, thenL_nx, thenL_rt, W_cmp, W_sub, W_loc, W_lit, W_glb, W_bin, W_neg, W_not, W_and, W_and1, W_andc, W_or, W_or1, W_orc, W_ite, W_call, W_blt, W_isa, W_slc, W_O0, W_O1, W_rev, W_new, W_tup, W_lst, W_R0, W_R1, W_A0, W_A1, W_K0, W_K1, List.map, List.replicate, List.append, List.cons_append, List.nil_append, List.getElem?_cons_zero, List.getElem?_cons_succ, Option.some.injEq, exists_eq_left', isVol_leaf, isVol_stb', isVol_own, W_g0, WO_some, B2_some, bl_leaf, int_leaf, keep_leaf, hold_leaf, ref_leaf, arg_leaf, arg_stb, mkL_o, peek_lst, peek_tup, hold_mkL, keep_mkL, isVol_mkL, cmp_gt, cmp_lt, cmp_ge, cmp_le, bin_add, bin_sub, setS, List.length, List.set, Nat.reduceAdd, Nat.reduceLT, Nat.reduceLeDiff, if_true, endF, Nat.sub_self, Nat.reduceSub, true_and, slc_scr]
  refine ⟨rfl, ?_⟩
  have hl : (ns.take m.toNat).length ≤ 12 := by rw [List.length_take]; omega
  refine ⟨_, add_lst (qs := [.int 0]) (decide_eq_true (by rw [cut_to _ _ hm0, List.length_map, List.length_singleton]; omega)), ?_⟩
  rw [cut_to _ _ hm0]
  simp only [L_cons, L_nil, S_ite, S_set, S_put, S_ret, S_retV, S_retN, S_par, S_unp, S_expr, thenL_nx, thenL_rt, W_cmp, W_sub, W_loc, W_lit, W_glb, W_bin, W_neg, W_not, W_and, W_and1, W_andc, W_or, W_or1, W_orc, W_ite, W_call, W_blt, W_isa, W_slc, W_O0, W_O1, W_rev, W_new, W_tup, W_lst, W_R0, W_R1, W_A0, W_A1, W_K0, W_K1, List.map, List.replicate, List.append, List.cons_append, List.nil_append, List.getElem?_cons_zero, List.getElem?_cons_succ, Option.some.injEq, exists_eq_left', isVol_leaf, isVol_stb', isVol_own, W_g0, WO_some, B2_some, bl_leaf, int_leaf, keep_leaf, hold_leaf, ref_leaf, arg_leaf, arg_stb, mkL_o, peek_lst, peek_tup, hold_mkL, keep_mkL, isVol_mkL, cmp_gt, cmp_lt, cmp_ge, cmp_le, bin_add, bin_sub, setS, List.length, List.set, Nat.reduceAdd, Nat.reduceLT, Nat.reduceLeDiff, if_true, endF, Nat.sub_self, Nat.reduceSub, true_and, peek_mkL]
  have hlen : ((((ns.take m.toNat).map P.int ++ [P.int 0]).length : Nat) : Int) ≤ m + 1 := by rw [List.length_append, List.length_map, List.length_take, List.length_singleton]; omega
  refine ⟨rfl, _, itR_enumL, ?_⟩
  generalize hps : (ns.take m.toNat).map P.int ++ [P.int 0] = ps at hlen
  have hint : ∀ x ∈ ps, ∃ c, x = P.int c := fun x hx => by
    rw [← hps] at hx
    rcases List.mem_append.mp hx with hx | hx
    · obtain ⟨c, _, rfl⟩ := List.mem_map.mp hx
      exact ⟨c, rfl⟩
    · exact ⟨0, by simpa using hx⟩
  have hel := enum_length ps 0
  refine WC_inv (I := fun j S => Si 20000 j [] S) (Pq := fun p => ∃ k, p = .ref k ∧ k < (enumP ps 0).length) (enumP ps 0).length _ 0 _ _ (by omega) (fun p hp j S Q hlt hj hq => ?_) ⟨[], rfl, fun o ho => (by cases ho), rfl⟩ fun qs S' hqs hl hs => ?_
  · obtain ⟨i, x, rfl, hx, hi⟩ := mem_enum hp
    obtain ⟨c, rfl⟩ := hint x hx
    have small9 : ltSmall 977 = true := by decide
    unfold turnC
    refine ⟨_, rfl, ?_⟩
    simp only [wipeE, W_And10, L_cons, L_nil, S_ite, S_set, S_put, S_ret, S_retV, S_retN, S_par, S_unp, S_expr, thenL_nx, thenL_rt, W_cmp, W_sub, W_loc, W_lit, W_glb, W_bin, W_neg, W_not, W_and, W_and1, W_andc, W_or, W_or1, W_orc, W_ite, W_call, W_blt, W_isa, W_slc, W_O0, W_O1, W_rev, W_new, W_tup, W_lst, W_R0, W_R1, W_A0, W_A1, W_K0, W_K1, List.map, List.replicate, List.append, List.cons_append, List.nil_append, List.getElem?_cons_zero, List.getElem?_cons_succ, Option.some.injEq, exists_eq_left', isVol_leaf, isVol_stb', isVol_own, W_g0, WO_some, B2_some, bl_leaf, int_leaf, keep_leaf, hold_leaf, ref_leaf, arg_leaf, arg_stb, mkL_o, peek_lst, peek_tup, hold_mkL, keep_mkL, isVol_mkL, cmp_gt, cmp_lt, cmp_ge, cmp_le, bin_add, bin_sub, setS, List.length, List.set, Nat.reduceAdd, Nat.reduceLT, Nat.reduceLeDiff, if_true, endF, Nat.sub_self, Nat.reduceSub, true_and, bin_mul (.inl small9)]
    refine well_ok hj (by omega) (by omega) fun S' hb => ?_
    simp only [L_cons, L_nil, S_ite, S_set, S_put, S_ret, S_retV, S_retN, S_par, S_unp, S_expr, thenL_nx, thenL_rt, W_cmp, W_sub, W_loc, W_lit, W_glb, W_bin, W_neg, W_not, W_and, W_and1, W_andc, W_or, W_or1, W_orc, W_ite, W_call, W_blt, W_isa, W_slc, W_O0, W_O1, W_rev, W_new, W_tup, W_lst, W_R0, W_R1, W_A0, W_A1, W_K0, W_K1, List.map, List.replicate, List.append, List.cons_append, List.nil_append, List.getElem?_cons_zero, List.getElem?_cons_succ, Option.some.injEq, exists_eq_left', isVol_leaf, isVol_stb', isVol_own, W_g0, WO_some, B2_some, bl_leaf, int_leaf, keep_leaf, hold_leaf, ref_leaf, arg_leaf, arg_stb, mkL_o, peek_lst, peek_tup, hold_mkL, keep_mkL, isVol_mkL, cmp_gt, cmp_lt, cmp_ge, cmp_le, bin_add, bin_sub, setS, List.length, List.set, Nat.reduceAdd, Nat.reduceLT, Nat.reduceLeDiff, if_true, endF, Nat.sub_self, Nat.reduceSub, true_and]
    exact hq _ S' ⟨j, rfl, hlt⟩ hb
  · refine ⟨szI (by omega), ?_⟩
    rw [Nat.zero_add] at hs
    exact q qs S' _ hqs (by omega) hs
end Lw

set_option Elab.async false
set_option linter.all false
set_option maxRecDepth 100000
set_option maxHeartbeats 0
namespace Lw
open PySem U
local macro_rules | `(tactic| walk_at "w") => `(tactic| repeat first
  | (with_reducible refine thenL_nx.mpr ?_) | (with_reducible refine thenL_rt.mpr ?_) | (with_reducible refine endF_rt.mpr ?_) | (with_reducible refine endF_nx.mpr ?_)
  | (with_reducible refine L_nil.mpr ?_) | (with_reducible refine L_cons.mpr ?_)
  | (with_reducible refine S_set.mpr ?_) | (with_reducible refine S_par.mpr ?_) | (with_reducible refine S_unp.mpr ?_) | (with_reducible refine S_expr.mpr ?_) | (with_reducible refine S_ret.mpr ?_)
  | (with_reducible refine S_retV.mpr ?_) | (with_reducible refine S_retN.mpr ?_) | (with_reducible refine S_ite.mpr ?_) | (with_reducible refine S_put.mpr ?_) | (with_reducible refine S_app ?_) | (with_reducible refine S_appR.mpr ?_)
  | (with_reducible refine W_loc.mpr ?_) | (with_reducible refine W_lit.mpr ?_) | (with_reducible refine W_glb.mpr ?_) | (with_reducible refine W_tup.mpr ?_) | (with_reducible refine W_lst.mpr ?_)
  | (with_reducible refine W_bin.mpr ?_) | (with_reducible refine W_neg.mpr ?_) | (with_reducible refine W_cmp.mpr ?_) | (with_reducible refine W_cmp2.mpr ?_) | (with_reducible refine W_not.mpr ?_)
  | (with_reducible refine W_and.mpr ?_) | (with_reducible refine W_and1.mpr ?_) | (with_reducible refine W_andc.mpr ?_) | (with_reducible refine W_or.mpr ?_) | (with_reducible refine W_or1.mpr ?_) | (with_reducible refine W_orc.mpr ?_)
  | (with_reducible refine W_ite.mpr ?_) | (with_reducible refine W_call.mpr ?_) | (with_reducible refine W_blt.mpr ?_) | (with_reducible refine W_isa.mpr ?_) | (with_reducible refine W_sub.mpr ?_)
  | (with_reducible refine W_slc.mpr ?_) | (with_reducible refine W_O0.mpr ?_) | (with_reducible refine W_O1.mpr ?_) | (with_reducible refine W_rev.mpr ?_) | (with_reducible refine W_new.mpr ?_)
  | (with_reducible refine W_R0.mpr ?_) | (with_reducible refine W_R1.mpr ?_) | (with_reducible refine W_A0.mpr ?_) | (with_reducible refine W_A1.mpr ?_) | (with_reducible refine W_K0.mpr ?_) | (with_reducible refine W_K1.mpr ?_)
  | (with_reducible refine W_dzip.mpr ?_) | (with_reducible refine W_idxG.mpr ?_) | (with_reducible refine W_newD.mpr ?_) | (with_reducible refine W_dget.mpr ?_) | (with_reducible refine W_ntD.mpr ?_)
  | ((with_reducible apply W_guard); (focus (first | exact iv_stb | exact iv_own | exact iv_leaf | rfl)))
  | ((with_reducible apply loc_i); focus rfl)
  | (with_reducible refine WO_i slcT ?_) | (with_reducible refine WO_i len_pk ?_) | (with_reducible refine WO_i tuple_pk ?_) | (with_reducible refine WO_i list_pk ?_) | (with_reducible refine WO_i all_pk ?_) | (with_reducible refine WO_i keep_mkL ?_) | (with_reducible refine WO_i hold_mkL ?_)
  | ((with_reducible refine WO_eqS ?_ ?_ ?_); (focus (first | rfl | exact okS_deed _ | exact okS_chg _ | exact okS_tst _ | exact okS_w0 _)); (focus (first | rfl | exact okS_deed _ | exact okS_chg _ | exact okS_tst _ | exact okS_w0 _)))
  | ((with_reducible refine WO_neS ?_ ?_ ?_); (focus (first | rfl | exact okS_deed _ | exact okS_chg _ | exact okS_tst _ | exact okS_w0 _)); (focus (first | rfl | exact okS_deed _ | exact okS_chg _ | exact okS_tst _ | exact okS_w0 _)))
  | ((with_reducible refine WO_inS ?_ ?_); focus rfl) | ((with_reducible refine WO_ninS ?_ ?_); focus rfl) | ((with_reducible refine WO_inL ?_ ?_ ?_); (focus rfl); (focus (first | rfl | exact okS_deed _ | exact okS_chg _ | exact okS_tst _ | exact okS_w0 _)))
  | ((with_reducible apply WO_i); focus rfl) | ((with_reducible apply B2_t); focus rfl) | ((with_reducible apply B2_f); focus rfl)
  | ((with_reducible refine sz_i ?_ ?_); focus rfl) | ((with_reducible refine iv_i ?_ ?_); (focus (first | exact iv_stb | exact iv_own | exact iv_leaf | rfl)))
  | ((with_reducible refine av_i ?_ ?_); focus rfl) | ((with_reducible refine rf_i ?_ ?_); focus rfl))
local macro_rules | `(tactic| walk_at "s") => `(tactic| repeat first
  | (with_reducible refine thenL_nx.mpr ?_) | (with_reducible refine thenL_rt.mpr ?_) | (with_reducible refine endF_rt.mpr ?_) | (with_reducible refine endF_nx.mpr ?_)
  | (with_reducible refine L_nil.mpr ?_) | (with_reducible refine L_cons.mpr ?_)
  | (with_reducible refine S_set.mpr ?_) | (with_reducible refine S_par.mpr ?_) | (with_reducible refine S_unp.mpr ?_) | (with_reducible refine S_expr.mpr ?_) | (with_reducible refine S_ret.mpr ?_)
  | (with_reducible refine S_retV.mpr ?_) | (with_reducible refine S_retN.mpr ?_) | (with_reducible refine S_ite.mpr ?_) | (with_reducible refine S_put.mpr ?_) | (with_reducible refine S_app ?_) | (with_reducible refine S_appR.mpr ?_)
  | (with_reducible refine W_loc.mpr ?_) | (with_reducible refine W_lit.mpr ?_) | (with_reducible refine W_glb.mpr ?_) | (with_reducible refine W_tup.mpr ?_) | (with_reducible refine W_lst.mpr ?_)
  | (with_reducible refine W_bin.mpr ?_) | (with_reducible refine W_neg.mpr ?_) | (with_reducible refine W_cmp.mpr ?_) | (with_reducible refine W_cmp2.mpr ?_) | (with_reducible refine W_not.mpr ?_)
  | (with_reducible refine W_and.mpr ?_) | (with_reducible refine W_and1.mpr ?_) | (with_reducible refine W_andc.mpr ?_) | (with_reducible refine W_or.mpr ?_) | (with_reducible refine W_or1.mpr ?_) | (with_reducible refine W_orc.mpr ?_)
  | (with_reducible refine W_call.mpr ?_) | (with_reducible refine W_blt.mpr ?_) | (with_reducible refine W_isa.mpr ?_) | (with_reducible refine W_sub.mpr ?_)
  | (with_reducible refine W_slc.mpr ?_) | (with_reducible refine W_O0.mpr ?_) | (with_reducible refine W_O1.mpr ?_) | (with_reducible refine W_rev.mpr ?_) | (with_reducible refine W_new.mpr ?_)
  | (with_reducible refine W_R0.mpr ?_) | (with_reducible refine W_R1.mpr ?_) | (with_reducible refine W_A0.mpr ?_) | (with_reducible refine W_A1.mpr ?_) | (with_reducible refine W_K0.mpr ?_) | (with_reducible refine W_K1.mpr ?_)
  | (with_reducible refine W_dzip.mpr ?_) | (with_reducible refine W_idxG.mpr ?_) | (with_reducible refine W_newD.mpr ?_) | (with_reducible refine W_dget.mpr ?_) | (with_reducible refine W_ntD.mpr ?_)
  | ((with_reducible apply W_guard); (focus (first | exact iv_stb | exact iv_own | exact iv_leaf | rfl)))
  | ((with_reducible apply loc_i); focus rfl)
  | (with_reducible refine WO_i slcT ?_) | (with_reducible refine WO_i len_pk ?_) | (with_reducible refine WO_i tuple_pk ?_) | (with_reducible refine WO_i list_pk ?_) | (with_reducible refine WO_i all_pk ?_) | (with_reducible refine WO_i keep_mkL ?_) | (with_reducible refine WO_i hold_mkL ?_)
  | ((with_reducible refine WO_eqS ?_ ?_ ?_); (focus (first | rfl | exact okS_deed _ | exact okS_chg _ | exact okS_tst _ | exact okS_w0 _)); (focus (first | rfl | exact okS_deed _ | exact okS_chg _ | exact okS_tst _ | exact okS_w0 _)))
  | ((with_reducible refine WO_neS ?_ ?_ ?_); (focus (first | rfl | exact okS_deed _ | exact okS_chg _ | exact okS_tst _ | exact okS_w0 _)); (focus (first | rfl | exact okS_deed _ | exact okS_chg _ | exact okS_tst _ | exact okS_w0 _)))
  | ((with_reducible refine WO_inS ?_ ?_); focus rfl) | ((with_reducible refine WO_ninS ?_ ?_); focus rfl) | ((with_reducible refine WO_inL ?_ ?_ ?_); (focus rfl); (focus (first | rfl | exact okS_deed _ | exact okS_chg _ | exact okS_tst _ | exact okS_w0 _)))
  | ((with_reducible apply WO_i); focus rfl) | ((with_reducible apply B2_t); focus rfl) | ((with_reducible apply B2_f); focus rfl)
  | ((with_reducible refine sz_i ?_ ?_); focus rfl) | ((with_reducible refine iv_i ?_ ?_); (focus (first | exact iv_stb | exact iv_own | exact iv_leaf | rfl)))
  | ((with_reducible refine av_i ?_ ?_); focus rfl) | ((with_reducible refine rf_i ?_ ?_); focus rfl))


/-- a step known by an equation -/
theorem W_eq {f n : Nat} {args : List R} {S : AS} {r : R} {Q : R → AS → Prop} (h : callF G n f args S = some (r, S)) (q : Q r S) : W (callF G n f args S) Q := ⟨r, S, h, q⟩
theorem deed_ite {b : Bool} : deedS b = if b = true then deedS true else deedS false := by cases b <;> rfl
theorem dec1 {t : Tst} {v : Vw} {c : Chg} : dec [⟨[t], true⟩] v c = t.on v c := by
  simp only [dec, Clause.on, List.all_cons, List.all_nil, Bool.and_true]
  cases t.on v c <;> rfl
theorem on_neg {w : W0} {v : Vw} {c : Chg} : Tst.on v c ⟨true, w⟩ = !Tst.on v c ⟨false, w⟩ := rfl
theorem dec2 {w : W0} {v : Vw} {c : Chg} : dec [⟨[⟨false, w⟩], true⟩, ⟨[⟨true, w⟩], true⟩, ⟨[], false⟩] v c = true := by
  simp only [dec, Clause.on, List.all_cons, List.all_nil, Bool.and_true, on_neg]
  cases Tst.on v c ⟨false, w⟩ <;> rfl
theorem dec3 {w : W0} {v : Vw} {c : Chg} : dec [⟨[⟨false, w⟩, ⟨true, w⟩], true⟩] v c = false := by
  simp only [dec, Clause.on, List.all_cons, List.all_nil, Bool.and_true, on_neg]
  cases Tst.on v c ⟨false, w⟩ <;> rfl
theorem law_plain (ns : List Int) : W (callF G 20 f_law [R.p (.scr ns)] ⟨[], false⟩) fun r _ => r = R.p (.bl true) := by
  refine call_ok (d := ⟨1, 9, ir_law⟩) rfl rfl ?_
  refine L_cons.mpr (S_for ?_)
  walk_at "w"
  refine bags_ok (n := 17) (by decide) (by decide) fun ks S' L hks hlen hs => ?_
  walk_at "w"
  refine WF_inv (I := fun j ρ S => (∃ x0 x1 x2 x3 x4 x5 x6 x7 x8, ρ = [x0, x1, x2, x3, x4, x5, x6, x7, x8]) ∧ Si (20000 + 10000 * j) L [] S) 11 ks 0 _ S' _ (by omega) (fun p hp j ρ S F hj hI hF => ?_) ⟨⟨_, _, _, _, _, _, _, _, _, rfl⟩, hs.mono (by omega)⟩ fun ρ' S2 hI => ?_
  · obtain ⟨k, rfl, hk⟩ := hks p hp
    obtain ⟨⟨x0, x1, x2, x3, x4, x5, x6, x7, x8, rfl⟩, hS⟩ := hI
    refine ⟨_, rfl, ?_⟩
    walk_at "w"
    refine rule_ok (n := 14) hS (by omega) hk (by decide) (by decide) fun r S1 hr hrl hs1 => ?_
    walk_at "w"
    refine S_for ?_
    walk_at "w"
    refine WF_inv (I := fun i ρ S => (∃ x3 x4 x5 x6 x7 x8, ρ = [x0, some (R.p (.ref k)), some (R.p (encR r)), x3, x4, x5, x6, x7, x8]) ∧ Si (20000 + 10000 * j + 100 + 100 * i) L [] S) 12 _ 0 _ S1 _ (by rw [rangeP_length]; decide) (fun p hp i ρ S F hi hI hF => ?_) ⟨⟨_, _, _, _, _, _, rfl⟩, hs1.mono (by omega)⟩ fun ρ' S2 hI => ?_
    · obtain ⟨⟨y3, y4, y5, y6, y7, y8, rfl⟩, hS⟩ := hI
      refine ⟨_, rfl, ?_⟩
      walk_at "w"
      refine any_view_ok (n := 16) hS (by omega) hk fun v S2 hv hs2 => ?_
      walk_at "w"
      refine ⟨_, _, changes_eq (n := 18), ?_⟩
      walk_at "w"
      refine take_si hs2 (by omega) hk (by decide) (by decide) fun u S3 h0 h1 hs3 => ?_
      obtain ⟨c, -, e⟩ := sub_map (xs := chgs) (f := fun c => .str c.s) (s := .own) (s' := .stb) h0 h1
      refine ⟨_, e, ?_⟩
      walk_at "w"
      refine test_ok (n := 16) hs3 (by omega) hk fun t S4 hs4 => ?_
      walk_at "w"
      refine W_eq (decision_eq (n := 14) hr hv c) ?_
      walk_at "w"
      refine W_eq (ldecides_eq (n := 15) hr v c) ?_
      walk_at "w"
      refine W_eq (same_deed1 (n := 18) _) ?_
      walk_at "w"
      refine W_eq (lholds_eq (n := 16) t v c) ?_
      have o1 : OkR [⟨[t], true⟩] := okR_of rfl
      have key : ∀ F : R → AS → Prop, F (R.p (.str (deedS (t.on v c)))) S4 → B2 (R.p (.bl (t.on v c))).o.bl? (W (evE ⟨callF G 19, G.glb⟩ (.lit (.str [106, 111, 105, 110])) [x0, some (R.p (.ref k)), some (R.p (encR r)), some (R.p p), y4, y5, some (R.p v.e), some (R.p (.str c.s)), some (R.p (.str t.s))] S4) F) (W (evE ⟨callF G 19, G.glb⟩ (.lit (.str [110, 101, 119])) [x0, some (R.p (.ref k)), some (R.p (encR r)), some (R.p p), y4, y5, some (R.p v.e), some (R.p (.str c.s)), some (R.p (.str t.s))] S4) F) := fun F h => by
        refine B2_b rfl (fun hb => ?_) fun hb => ?_
        · rw [hb] at h; exact W_lit.mpr h
        · rw [hb] at h; exact W_lit.mpr h
      refine key _ ?_
      walk_at "w"
      refine W_eq (decision_eq (n := 14) o1 hv c) ?_
      rw [dec1]
      walk_at "w"
      refine W_eq (same_deed1 (n := 18) _) ?_
      walk_at "s"
      obtain ⟨ng, w⟩ := t
      have o2 : OkR [⟨[⟨false, w⟩], true⟩, ⟨[⟨true, w⟩], true⟩, ⟨[], false⟩] := okR_of rfl
      have o3 : OkR [⟨[⟨false, w⟩, ⟨true, w⟩], true⟩] := okR_of rfl
      have key2 : ∀ F : R → AS → Prop, F (R.p (.str w.s)) S4 → W (evE ⟨callF G 19, G.glb⟩ (.ite (.cmp .eq (.slc (.loc 8) none (some (.lit (.int 3)))) (.lit (.str [110, 111, 32]))) (.slc (.loc 8) (some (.lit (.int 3))) none) (.loc 8)) [x0, some (R.p (.ref k)), some (R.p (encR r)), some (R.p p), some (R.p (.str (deedS (Tst.on v c ⟨ng, w⟩)))), y5, some (R.p v.e), some (R.p (.str c.s)), some (R.p (.str (Tst.s ⟨ng, w⟩)))] S4) F := fun F h => by
        have h : ∀ {m}, m = some (R.p (.str w.s), S4) → W m F := fun e => ⟨_, _, e, h⟩
        refine h ?_
        cases w with
        | chg e => cases ng <;> cases e <;> kernel_rfl
        | aft e => cases ng <;> cases e <;> kernel_rfl
        | long e => cases ng <;> cases e <;> kernel_rfl
        | _ => cases ng <;> kernel_rfl
      refine key2 _ ?_
      walk_at "w"
      have hw : ([110, 111, 32] ++ w.s).length ≤ 100 := by have : ([110, 111, 32] ++ w.s).length ≤ 20 := tst_len ⟨true, w⟩; omega
      refine ⟨_, add_strI hw, ?_⟩
      walk_at "w"
      refine W_eq (decision_eq (n := 14) o2 hv c) ?_
      rw [dec2]
      walk_at "w"
      refine ⟨_, add_strI hw, ?_⟩
      walk_at "w"
      refine W_eq (decision_eq (n := 14) o3 hv c) ?_
      rw [dec3]
      walk_at "w"
      exact hF _ _ ⟨⟨_, _, _, _, _, _, rfl⟩, hs4.mono (by omega)⟩
    · obtain ⟨⟨y3, y4, y5, y6, y7, y8, rfl⟩, hS⟩ := hI
      rw [rangeP_length] at hS
      walk_at "w"
      exact hF _ _ ⟨⟨_, _, _, _, _, _, _, _, _, rfl⟩, hS.mono (by simp; omega)⟩
  · walk_at "w"
    rfl
theorem plain : ∀ ns : List Int, ns.length ≤ 63 → ∃ S', callF G 20 f_law [R.p (.scr ns)] ⟨[], false⟩ = some (R.p (.bl true), S') := fun ns _ => by
  obtain ⟨r, S', h, e⟩ := law_plain ns
  subst e
  exact ⟨S', h⟩
end Lw

set_option Elab.async false
set_option linter.all false
set_option maxRecDepth 100000
set_option maxHeartbeats 0
namespace Lw
open PySem L2 U
def loose0 : List Str := [("UndoError" : Str), ("InvalidRule" : Str), ("InvalidView" : Str), ("InvalidChange" : Str), ("CHANGES" : Str), ("FLAGS" : Str), ("AFTER" : Str), ("LONG" : Str), ("TESTS" : Str), ("MOST_CLAUSES" : Str), ("MOST_SIZE" : Str), ("is_within" : Str), ("is_one_of" : Str), ("is_test" : Str), ("is_clause" : Str), ("is_rule" : Str), ("is_view" : Str), ("look_at_rule" : Str), ("look_at_change" : Str), ("look_at_view" : Str), ("holds_plainly" : Str), ("holds" : Str), ("deciding" : Str), ("decide" : Str), ("decision" : Str), ("_law_well" : Str), ("_law_take" : Str), ("_law_bags" : Str), ("_law_same" : Str), ("_law_changes" : Str), ("_law_tests" : Str), ("_law_test" : Str), ("_law_clause" : Str), ("_law_known" : Str), ("_law_rule" : Str), ("_law_limit" : Str), ("_law_holds" : Str), ("_law_decides" : Str), ("_law_any_view" : Str)]
def loose : List Str := loose0
abbrev Rw : PySem.W.OpenRow := PySem.W.OpenLaw.row PySem.Challenge.rw_undosteps_k03_decisions
abbrev hk : PySem.W.Hook := hookU 6 (faOf fs fr) (fs.map Fd.d) gl
def ob (s : PySem.W.SharedT) : AlU := obsUG 6 (faOf fs fr) (fs.map Fd.d) gl (HandSHeadRun.getT s)
theorem ob_eq (s : PySem.W.SharedT) : ob s = hk.obs s.abs := obsUG_eq (HandSHeadRun.getT_eq s)
theorem run (w : World) : HandSHeadRun.RunEq Rw (PySem.W.view Rw.prog [42]) hk ob 4000 loose w := by
  intro os
  kernel_rfl
theorem okd : okDefs gm G fs 0 = true := by decide +kernel
theorem cmp : fs.map (fun d => cSs gm d.N 40 (defScope d.st) 60 (defBody d.st)) = G.defs.map fun e => some e.body := by kernel_rfl
end Lw

open PySem PySem.W PySem.Calls PyProof.Rows
theorem PySem.Challenge.cw_undosteps_k03_decisions_holds : PySem.Challenge.rw_undosteps_k03_decisions.Holds := by
  w_on; o_law
  refine HandSHeadRun.head_any (r := OpenLaw.row PySem.Challenge.rw_undosteps_k03_decisions) (q := view (OpenLaw.row PySem.Challenge.rw_undosteps_k03_decisions).prog [42]) (H := Lw.hk) (ob := Lw.ob) (M := 4000) (loose := Lw.loose) (d := HandSHeadRun.topDef (OpenLaw.row PySem.Challenge.rw_undosteps_k03_decisions).prog 42) (kwd := []) Lw.ob_eq
    (by kernel_rfl) (fun s => by kernel_rfl) Lw.run (by kernel_rfl) (by kernel_rfl) (by kernel_rfl) (by rfl) (by first | assumption | decide +kernel) (by decide +kernel) ⟨rfl, rfl, rfl, rfl, rfl, by decide +kernel⟩ ?hw ?hc
  case hw => w_witness2
  case hc =>
    refine L2.walk_ofE (l := PySem.Challenge.rw_undosteps_k03_decisions) (n := 63) (k := 20) (x := "_law_script") (CX := L2.CX0) rfl (by decide) (by kernel_rfl) ⟨rfl, by decide, by decide⟩ ?F (fun _ _ _ _ z => z)
    intro w mg fa h Y G hmg0
    obtain ⟨K, KX, c⟩ := Y
    have hmg : mg ("law" : PySem.Str) = some (.ref fa) := by
      have e : (HandSHeadRun.topDef (OpenLaw.row PySem.Challenge.rw_undosteps_k03_decisions).prog 42).name = ("law" : PySem.Str) := by kernel_rfl
      rw [← e]
      exact hmg0
    obtain ⟨fd, hb, hF⟩ := U.law_end (P' := (PySem.Challenge.rw_undosteps_k03_decisions).prog) (w := w) (G := Lw.G) (i := 28) (mx := 63) (n := 40) (m := 60) rfl rfl Lw.bds Lw.okd Lw.cmp Lw.plain KX G hmg c
    exact ⟨K, fd, U.spLawN 63 K, KX, hb, fun H a ns hl _ hS => ⟨a, ns, rfl, hl, hS, fun _ => rfl⟩, hF⟩
