import PyProof.Rows.All
import Wide.All
import OpenK.AllK
import Wide.FinOn
import KE.KDictKeyed
import KE.KDictWalk
import HandS.ForMost
import HandS.ForExc
import HandS.IsInst
import HandS.TupAny
import HandS.Conv
import HandS.Codes
import HandS.Style
import HandS.Zip
import HandS.Defaults
import HandS.AnyAll
import HandS.Comp
import HandS.Deep
import HandS.Strs
import HandS.SetFor
import HandS.TupSets
import HandS.ReCall
import KE.GoesMore
import HandS.Iter
import HandS.HeadHook4
import HandS.HeadWalk
import HandS.TryOnly
import HandS.Dict
import KE.KDictCopyH
import KE.SortData
import KE.DataMinMax
import KE.DatumOrd
import HandS.Head0
import HandS.Head1
import HandS.Head2
import PySem.Challenge.RW_restlesshelf_k01_whole_shelves
set_option Elab.async false
set_option linter.all false
set_option maxRecDepth 100000
set_option maxHeartbeats 4000000
/-! DK: dicts whose keys are any values without objects of their own (numbers, bools, texts, None, tuples of such, mixed), the key's own value kept. -/
namespace DK
open PySem PySem.W PyProof.Rows PySem.Spec
open Sem (wp)
open SeqAt

/-- a key, the value that is the key, the value -/
abbrev Ent := NestedKey × Value × Value
def ent (w : World) (x : Ent) : DictEntry := ⟨x.1.hash w, x.2.1, x.2.2⟩
def KIs (h : Heap) (k : NestedKey) (v : Value) : Prop := NestedIs h k v ∧ k.depth ≤ 8
def valOf (xs : List Ent) (k : NestedKey) : Option Value := (xs.find? fun x => decide (x.1 = k)).map (·.2.2)
def repl (k : NestedKey) (v : Value) (x : Ent) : Ent := if x.1 = k then (x.1, x.2.1, v) else x
def put (xs : List Ent) (k : NestedKey) (key v : Value) : List Ent := if (valOf xs k).isSome then xs.map (repl k v) else xs ++ [(k, key, v)]
/-- the dict at d -/
structure IsD (w : World) (h : Heap) (d : Addr) (xs : List Ent) (ep : Nat) : Prop where
  ob : ∃ o es, h.get? d = some o ∧ o.ExactDict ∧ o.data = .dict es ep ∧ es.toList = xs.map (ent w)
  ks : ∀ x ∈ xs, KIs h x.1 x.2.1
  nd : (xs.map (·.1)).Nodup

section
variable {prog : Program} {w : World} {A : Around} {E : Value → Shared → Prop} {s : Shared} {d : Addr} {xs : List Ent} {k : NestedKey} {key v : Value} {ep : Nat}
theorem KIs.inj {h : Heap} {x y : NestedKey} {v : Value} (a : KIs h x v) (b : KIs h y v) : x = y := NestedIs.inj _ _ _ a.1 b.1
theorem KIs.keeps {h h' : Heap} {k : NestedKey} {v : Value} {d : Addr} {o : Obj} {es ep} (x : KIs h k v) (ho : h.get? d = some o) (hd : o.data = .dict es ep) (hs : Heap.SameBut d h h') : KIs h' k v :=
  ⟨NestedIs.at (fun b ob vs n hb hc => by
    refine (hs.2 b fun e => ?_).trans hb
    subst e
    rw [ho] at hb
    cases hb
    rw [hd] at hc
    cases hc) k _ x.1, x.2⟩
theorem hash_of {A : Around} {Q : Int → Shared → Prop} (hu : A.units + 8 < cLine) (hk : KIs s.heap k v) (h : Q (k.hash w) { s with toks := s.toks + k.draws }) : wpAny (model prog w) A (pyHash v) Q E s :=
  pyHash_key _ _ _ _ _ hk.1 (by have := hk.2; omega) h
theorem eqb_of {x y : NestedKey} {a b : Value} {Q : Bool → Shared → Prop} (hu : A.units + 8 < cLine) (hx : KIs s.heap x a) (hy : KIs s.heap y b) (h : Q (decide (x = y)) s) : wpAny (model prog w) A (eqBool a b) Q E s :=
  eqAt_key x y A s _ _ hx.1 hy.1 (by have := hx.2; omega) _ _ _ _ (by rw [← NestedKey.decide_eq]; exact h)
theorem quiet_of {Q : Bool → Shared → Prop} (hk : KIs s.heap k v) (h : Q true s) : wpAny (model prog w) A (eqIsQuiet 8 v) Q E s := quiet_key k v 8 s hk.1 hk.2 A E Q h
theorem text_is {h : Heap} {k : NestedKey} {x : Str} {t : Tok} (a : KIs h k (.str x t)) : k = .text x := by
  obtain ⟨a, _⟩ := a
  cases a
  rfl

theorem at_get {k : NestedKey} {xs : List Ent} (hn : (xs.map (·.1)).Nodup) {j : Nat} {p : Value × Value} (hj : xs[j]? = some (k, p)) : valOf xs k = some p.2 := by
  induction xs generalizing j with
  | nil => simp at hj
  | cons x xs ih =>
    rw [List.map_cons, List.nodup_cons] at hn
    cases j with
    | zero =>
      simp at hj
      subst hj
      simp [valOf]
    | succ j =>
      have hj' : xs[j]? = some (k, p) := by simpa using hj
      have ne : ¬ x.1 = k := fun e => hn.1 (by rw [e]; exact List.mem_map.mpr ⟨_, List.mem_of_getElem? hj', rfl⟩)
      have := ih hn.2 hj'
      simpa [valOf, List.find?_cons, ne] using this
theorem at_none {k : NestedKey} {xs : List Ent} (h : ∀ (j : Nat) (p : Value × Value), xs[j]? ≠ some (k, p)) : valOf xs k = none := by
  have : (xs.find? fun x => decide (x.1 = k)) = none := by
    rw [List.find?_eq_none]
    intro x hx hk
    obtain ⟨j, hj⟩ := List.mem_iff_getElem?.mp hx
    have hk' : x.1 = k := of_decide_eq_true hk
    exact h j x.2 (by rw [hj, ← hk'])
  simp [valOf, this]
theorem uniq {k : NestedKey} {xs : List Ent} (hn : (xs.map (·.1)).Nodup) {i j : Nat} {p q : Value × Value} (hi : xs[i]? = some (k, p)) (hj : xs[j]? = some (k, q)) : i = j := by
  obtain ⟨h1, e1⟩ := List.getElem?_eq_some_iff.mp hi
  obtain ⟨h2, e2⟩ := List.getElem?_eq_some_iff.mp hj
  have g1 : i < (xs.map (·.1)).length := by simpa using h1
  have g2 : j < (xs.map (·.1)).length := by simpa using h2
  refine (List.getElem_inj hn (h₀ := g1) (h₁ := g2)).mp ?_
  rw [List.getElem_map, List.getElem_map, e1, e2]

theorem tells_quiet {stored : List Value} {Q : Bool → Shared → Prop} (hkey : KIs s.heap k key)
    (hst : ∀ v ∈ stored, ∃ k', KIs s.heap k' v) (h : Q false s) : wpAny (model prog w) A (tableMayTell key stored) Q E s := by
  unfold tableMayTell
  split
  · exact wpAny_pure h
  · refine wpAny_bind (quiet_of hkey ?_)
    simp only [Bool.not_true, Bool.false_eq_true, if_false]
    refine wpAny_bind ?_
    refine wpAny_forIn_list _ (fun rest r s' => s' = s ∧ r = (none, ()) ∧ ∀ v ∈ rest, ∃ k', KIs s.heap k' v) _ ?_ ?_ _ _ ⟨rfl, rfl, hst⟩
    · rintro x rest r s' ⟨rfl, rfl, hr⟩
      obtain ⟨k', hb⟩ := hr x List.mem_cons_self
      refine wpAny_bind (quiet_of hb ?_)
      simp only [Bool.not_true, Bool.false_eq_true, if_false]
      exact wpAny_pure ⟨rfl, rfl, fun v hv => hr v (List.mem_cons_of_mem _ hv)⟩
    · rintro r s' ⟨rfl, rfl, _⟩
      exact wpAny_pure h

theorem find {o : Obj} {es : Array DictEntry} {Q : Option Nat → Shared → Prop} (hu : A.units + 8 < cLine) (hkey : KIs s.heap k key)
    (ho : s.heap.get? d = some o) (hd : o.data = .dict es ep) (he : es.toList = xs.map (ent w)) (his : ∀ x ∈ xs, KIs s.heap x.1 x.2.1) (hn : (xs.map (·.1)).Nodup)
    (hnone : (∀ (j : Nat) (p : Value × Value), xs[j]? ≠ some (k, p)) → Q none s) (hsome : ∀ (j : Nat) (p : Value × Value), xs[j]? = some (k, p) → Q (some j) s) :
    wpAny (model prog w) A (dictFind d key (k.hash w)) Q E s := by
  have hsz : es.size = xs.length := by rw [← Array.length_toList, he, List.length_map]
  have entry_at : ∀ j : Nat, es[j]? = (xs[j]?).map (ent w) := fun j => by rw [← Array.getElem?_toList, he, List.getElem?_map]
  have haskey : ∀ (j : Nat) (p : Value × Value), xs[j]? = some (k, p) → ((es[j]?.map (·.hash)) == some (k.hash w)) = true := by
    intro j p hj
    rw [entry_at j, hj]
    simp [ent]
  have hmem : ∀ e ∈ es, ∃ x ∈ xs, e = ent w x := by
    intro e hin
    have : e ∈ xs.map (ent w) := he ▸ Array.mem_toList_iff.mpr hin
    obtain ⟨x, hx, rfl⟩ := List.mem_map.mp this
    exact ⟨x, hx, rfl⟩
  have hany : ¬ (es.any fun e => e.key == key && e.hash != k.hash w) = true := by
    rw [← Array.any_toList, List.any_eq_true]
    rintro ⟨e, hin, hc⟩
    obtain ⟨x, hx, rfl⟩ := hmem e (Array.mem_toList_iff.mp hin)
    simp only [ent, Bool.and_eq_true, beq_iff_eq, bne_iff_ne, ne_eq] at hc
    obtain ⟨hxa, hne⟩ := hc
    have := his x hx
    rw [hxa] at this
    exact hne (by rw [this.inj hkey])
  have hst : ∀ v ∈ (placesWithHash es.size (fun i => es[i]?.map (·.hash)) (k.hash w)).filterMap (fun i => es[i]?.map (·.key)), ∃ k', KIs s.heap k' v := by
    intro v hv
    obtain ⟨i, _, hi⟩ := List.mem_filterMap.mp hv
    cases hei : es[i]? with
    | none => rw [hei] at hi; cases hi
    | some e =>
      rw [hei] at hi
      obtain rfl : e.key = v := by simpa using hi
      obtain ⟨x, hx, rfl⟩ := hmem e (Array.mem_of_getElem? hei)
      exact ⟨x.1, his x hx⟩
  -- the end of a walk over the places
  have fin : ∀ (i : Nat) (hit : Option Nat), ([] : List Nat) = (List.range' i (es.size - i)).filter (fun i => (es[i]?.map (·.hash)) == some (k.hash w)) → i ≤ es.size →
      ((hit = none ∧ ∀ j p, j < i → xs[j]? ≠ some (k, p)) ∨ ∃ j p, hit = some j ∧ j < i ∧ xs[j]? = some (k, p)) → Q hit s := by
    intro i hit hr hi hH
    have hall : ∀ j, i ≤ j → j < es.size → ((es[j]?.map (·.hash)) == some (k.hash w)) = false := by
      intro j h1 h2
      have := List.filter_eq_nil_iff.mp hr.symm j (List.mem_range'_1.mpr ⟨h1, by omega⟩)
      simpa using this
    rcases hH with ⟨rfl, hno⟩ | ⟨j, p, rfl, _, hj⟩
    · refine hnone fun j p hj => ?_
      rcases Nat.lt_or_ge j i with h | h
      · exact hno j p h hj
      · have hjl : j < es.size := by
          rw [hsz]
          rcases Nat.lt_or_ge j xs.length with h' | h'
          · exact h'
          · rw [List.getElem?_eq_none h'] at hj; exact nomatch hj
        have := hall j h hjl
        rw [haskey j p hj] at this
        exact absurd this (by decide)
    · exact hsome j p hj
  -- one place
  have one : ∀ (x : Nat) (rest : List Nat) (i : Nat) (hit : Option Nat), x :: rest = (List.range' i (es.size - i)).filter (fun i => (es[i]?.map (·.hash)) == some (k.hash w)) → i ≤ es.size →
      ((hit = none ∧ ∀ j p, j < i → xs[j]? ≠ some (k, p)) ∨ ∃ j p, hit = some j ∧ j < i ∧ xs[j]? = some (k, p)) →
      ∃ k' key' v', es[x]? = some ⟨k'.hash w, key', v'⟩ ∧ KIs s.heap k' key' ∧ xs[x]? = some (k', key', v') ∧ (k'.hash w == k.hash w) = true ∧
        rest = (List.range' (x + 1) (es.size - (x + 1))).filter (fun i => (es[i]?.map (·.hash)) == some (k.hash w)) ∧ x + 1 ≤ es.size ∧
        ((hit = none ∧ ∀ j p, j < x → xs[j]? ≠ some (k, p)) ∨ ∃ j p, hit = some j ∧ j < x ∧ xs[j]? = some (k, p)) ∧
        (¬ k' = k → ((hit = none ∧ ∀ j p, j < x + 1 → xs[j]? ≠ some (k, p)) ∨ ∃ j p, hit = some j ∧ j < x + 1 ∧ xs[j]? = some (k, p))) := by
    intro x rest i hit hr hi hH
    obtain ⟨hix, hxn, hpx, hskip, hrest⟩ := filter_range'_cons _ _ _ _ _ hr.symm
    have hlt : x < es.size := by omega
    have hrest' : rest = (List.range' (x + 1) (es.size - (x + 1))).filter (fun i => (es[i]?.map (·.hash)) == some (k.hash w)) := by rw [hrest]; congr 2; omega
    obtain ⟨⟨k', b, v'⟩, hkv⟩ : ∃ y, xs[x]? = some y := ⟨xs[x]'(by rw [← hsz]; exact hlt), List.getElem?_eq_getElem _⟩
    have hib : KIs s.heap k' b := his _ (List.mem_of_getElem? hkv)
    have hex : es[x]? = some ⟨k'.hash w, b, v'⟩ := by rw [entry_at x, hkv]; rfl
    have hHx : (hit = none ∧ ∀ j p, j < x → xs[j]? ≠ some (k, p)) ∨ ∃ j p, hit = some j ∧ j < x ∧ xs[j]? = some (k, p) := by
      rcases hH with ⟨h0, hno⟩ | ⟨j, p, h1, hji, hj⟩
      · refine .inl ⟨h0, fun j p hjx hj => ?_⟩
        rcases Nat.lt_or_ge j i with h | h
        · exact hno j p h hj
        · have := hskip j h hjx
          rw [haskey j p hj] at this
          exact absurd this (by decide)
      · exact .inr ⟨j, p, h1, by omega, hj⟩
    refine ⟨k', b, v', hex, hib, hkv, ?_, hrest', hlt, hHx, fun hne => ?_⟩
    · rw [hex] at hpx
      simpa using hpx
    · rcases hHx with ⟨h0, hno⟩ | ⟨j, p, h1, hjx, hj⟩
      · refine .inl ⟨h0, fun j p hjx hj => ?_⟩
        rcases Nat.lt_or_ge j x with h | h
        · exact hno j p h hj
        · have hjx' : j = x := by omega
          subst hjx'
          rw [hkv] at hj
          injection hj with hj
          injection hj with hj
          exact hne hj
      · exact .inr ⟨j, p, h1, by omega, hj⟩
  have start : placesWithHash es.size (fun i => es[i]?.map (·.hash)) (k.hash w) = (List.range' 0 (es.size - 0)).filter (fun i => (es[i]?.map (·.hash)) == some (k.hash w)) := by rw [placesWithHash, List.range_eq_range', Nat.sub_zero]
  have start0 : ((none : Option Nat) = none ∧ ∀ j p, j < 0 → xs[j]? ≠ some (k, p)) ∨ ∃ j p, (none : Option Nat) = some j ∧ j < 0 ∧ xs[j]? = some (k, p) := .inl ⟨rfl, fun _ _ h => absurd h (Nat.not_lt_zero _)⟩
  have plain : wpAny (model prog w) A (dictWalkPlain d key (k.hash w) es (placesWithHash es.size (fun i => es[i]?.map (·.hash)) (k.hash w))) Q E s := by
    unfold dictWalkPlain
    refine wpAny_bind ?_
    refine wpAny_forIn_list _
      (fun rest b s' => s' = s ∧ ∃ i, b = (none, ()) ∧ rest = (List.range' i (es.size - i)).filter (fun i => (es[i]?.map (·.hash)) == some (k.hash w)) ∧ i ≤ es.size ∧
        ((none : Option Nat) = none ∧ ∀ j p, j < i → xs[j]? ≠ some (k, p))) _ ?_ ?_ _ _
      ⟨rfl, 0, rfl, start, Nat.zero_le _, rfl, fun _ _ h => absurd h (Nat.not_lt_zero _)⟩
    · rintro x rest b s' ⟨rfl, i, rfl, hr, hi, hH⟩
      obtain ⟨k', key', v', hex, hib, hkv, hh, hr', hi', _, hstay⟩ := one x rest i none hr hi (.inl hH)
      rw [hex]
      dsimp only
      rw [if_pos hh]
      refine wpAny_bind (wpAny_dictEpoch ho hd (wpAny_bind (eqb_of (x := k') (y := k) hu hib hkey (wpAny_bind (wpAny_dictEpoch ho hd ?_)))))
      show wpAny _ _ (if (ep != ep) = true then _ else _) _ E _
      rw [if_neg (by simp)]
      by_cases hkk : k' = k
      · rw [decide_eq_true hkk]
        subst hkk
        exact wpAny_bind (wpAny_rule (wpAny_pure (wpAny_pure (hsome x _ hkv))))
      · rw [decide_eq_false hkk]
        refine wpAny_bind (wpAny_rule (wpAny_pure ⟨rfl, x + 1, rfl, hr', hi', ?_⟩))
        rcases hstay hkk with h | ⟨_, _, h, _⟩
        · exact h
        · cases h
    · rintro b s' ⟨rfl, i, rfl, hr, hi, hH⟩
      exact wpAny_pure (fin i none hr hi (.inl hH))
  unfold dictFind
  try with_reducible refine wpAny_holding ?_
  refine wpAny_bind (wpAny_dictEntries ho hd ?_)
  dsimp only
  have found : ∀ x t, key = .str x t → (es.all fun e => isExactStrKey e.key) = true → wpAny (model prog w) A (foundByValue d key es x) Q E s := by
    rintro x t rfl hall
    have hk := text_is hkey
    subst hk
    unfold foundByValue
    have hidx : ∀ j (hj : j < es.size), (es[j].key.isStr x) = true → ∃ p, xs[j]? = some (NestedKey.text x, p) := by
      intro j hj hs
      obtain ⟨y, hy⟩ : ∃ y, xs[j]? = some y := ⟨xs[j]'(by rw [← hsz]; exact hj), List.getElem?_eq_getElem _⟩
      have e1 := entry_at j
      rw [hy, Array.getElem?_eq_getElem hj] at e1
      have e2 : es[j] = ent w y := Option.some.inj e1
      rw [e2] at hs
      obtain ⟨k', key', v'⟩ := y
      unfold ent at hs
      dsimp only at hs
      unfold Value.isStr at hs
      split at hs
      · rename_i y t'
        have : y = x := eq_of_beq hs
        subst this
        have := text_is (his _ (List.mem_of_getElem? hy))
        have h' : k' = .text y := this
        subst h'
        exact ⟨_, hy⟩
      · cases hs
    cases hf : es.findIdx? (fun e => e.key.isStr x) with
    | none =>
      refine wpAny_pure (hnone fun j p hj => ?_)
      have e1 := entry_at j
      rw [hj] at e1
      obtain ⟨hlt, e2⟩ := Array.getElem?_eq_some_iff.mp e1
      have h1 := Array.findIdx?_eq_none_iff.mp hf es[j] (Array.getElem_mem hlt)
      have h2 := his _ (List.mem_of_getElem? hj)
      have h3 := (Array.all_eq_true_iff_forall_mem.mp hall) es[j] (Array.getElem_mem hlt)
      rw [e2] at h1 h3
      obtain ⟨a, b⟩ := p
      unfold ent at h1 h3
      dsimp only at h1 h3 h2
      unfold isExactStrKey at h3
      split at h3
      · rename_i y t'
        have := text_is h2
        cases this
        simp [Value.isStr] at h1
      · cases h3
    | some i =>
      obtain ⟨hlt, hi, _⟩ := Array.findIdx?_eq_some_iff_getElem.mp hf
      obtain ⟨p, hp⟩ := hidx i hlt hi
      have e1 := entry_at i
      rw [hp, Array.getElem?_eq_getElem hlt] at e1
      have e2 : es[i] = ent w (NestedKey.text x, p) := Option.some.inj e1
      simp only [Array.getElem?_eq_getElem hlt]
      have hib : KIs s.heap (.text x) es[i].key := by rw [e2]; exact his _ (List.mem_of_getElem? hp)
      refine wpAny_bind (wpAny_dictEpoch ho hd (wpAny_bind (eqb_of hu hib hkey (wpAny_bind (wpAny_dictEpoch ho hd ?_)))))
      show wpAny _ _ (if (ep != ep) = true then _ else _) _ E _
      rw [if_neg (by simp), decide_eq_true rfl]
      exact wpAny_bind (wpAny_rule (wpAny_pure (hsome i p hp)))
  by_cases hall : ((key :: (placesWithHash es.size (fun i => es[i]?.map (·.hash)) (k.hash w)).filterMap (fun i => es[i]?.map (·.key))).all carriedByValue) = true
  · rw [if_pos hall]
    split
    · split
      · rename_i x t h
        exact found x t rfl h
      · exact plain
    · exact plain
  · rw [if_neg hall, if_neg hany]
    by_cases hstr : ∃ x t, key = .str x t ∧ (es.all fun e => isExactStrKey e.key) = true
    · obtain ⟨x, t, rfl, h⟩ := hstr
      dsimp only
      rw [if_pos h]
      exact found x t rfl h
    by_cases hone : (((placesWithHash es.size (fun i => es[i]?.map (·.hash)) (k.hash w)).filterMap (fun i => es[i]?.map (·.key))) == [key]) = true <;>
    (first | rw [if_pos hone] | rw [if_neg hone]) <;>
    cases key <;>
    dsimp only <;>
    (try rw [if_neg (show ¬ (es.all fun e => isExactStrKey e.key) = true from fun h => hstr ⟨_, _, rfl, h⟩)]) <;>
    (first | refine wpAny_bind (wpAny_pure ?_) | refine wpAny_bind (tells_quiet hkey hst ?_)) <;> (
    rw [if_neg (by simp)]
    refine wpAny_bind ?_
    refine wpAny_forIn_list _
      (fun rest b s' => s' = s ∧ ∃ i hit, b = (none, hit) ∧ rest = (List.range' i (es.size - i)).filter (fun i => (es[i]?.map (·.hash)) == some (k.hash w)) ∧ i ≤ es.size ∧
        ((hit = none ∧ ∀ j p, j < i → xs[j]? ≠ some (k, p)) ∨ ∃ j p, hit = some j ∧ j < i ∧ xs[j]? = some (k, p))) _ ?_ ?_ _ _
      ⟨rfl, 0, none, rfl, start, Nat.zero_le _, start0⟩
    · rintro x rest b s' ⟨rfl, i, hit, rfl, hr, hi, hH⟩
      obtain ⟨k', key', v', hex, hib, hkv, hh, hr', hi', hHx, hstay⟩ := one x rest i hit hr hi hH
      rw [hex]
      dsimp only
      rw [if_pos hh]
      refine wpAny_bind (wpAny_dictEpoch ho hd (wpAny_bind (eqb_of (x := k') (y := k) hu hib hkey (wpAny_bind (wpAny_dictEpoch ho hd ?_)))))
      show wpAny _ _ (if (ep != ep) = true then _ else _) _ E _
      rw [if_neg (by simp)]
      by_cases hkk : k' = k
      · rw [decide_eq_true hkk]
        subst hkk
        rcases hHx with ⟨rfl, _⟩ | ⟨j, p, _, hjx, hj⟩
        · first | rw [if_pos rfl] | skip
          simp only [Option.isSome_none, Bool.false_eq_true, if_false]
          first | refine wpAny_bind (wpAny_pure ?_) | skip
          refine wpAny_bind (wpAny_rule ?_)
          split
          · exact wpAny_pure (wpAny_pure (hsome x _ hkv))
          · exact wpAny_pure ⟨rfl, x + 1, some x, rfl, hr', hi', .inr ⟨x, _, rfl, Nat.lt_succ_self x, hkv⟩⟩
        · exact absurd (uniq hn hj hkv) (by omega)
      · rw [decide_eq_false hkk]
        simp only [Bool.false_eq_true, if_false]
        refine wpAny_bind (wpAny_rule ?_)
        first | rw [if_neg (by simp)] | skip
        first
          | exact wpAny_pure ⟨rfl, x + 1, hit, rfl, hr', hi', hstay hkk⟩
          | exact wpAny_bind (wpAny_pure (wpAny_pure ⟨rfl, x + 1, hit, rfl, hr', hi', hstay hkk⟩))
    · rintro b s' ⟨rfl, i, hit, rfl, hr, hi, hH⟩
      exact wpAny_pure (fin i hit hr hi hH))

theorem IsD.typeIs {s : Shared} (hm : IsD w s.heap d xs ep) : s.TypeIs (.ref d) "dict" := let ⟨o, _, ho, hc, _⟩ := hm.ob; ⟨o, ho, hc.1⟩
theorem IsD.new (h : Heap) : IsD w (h.push { cls := .type "dict", data := .dict #[] }) h.objs.size [] 0 :=
  ⟨⟨_, #[], Heap.get?_push_size _ rfl, ⟨rfl, rfl, rfl⟩, rfl, rfl⟩, fun _ hx => by simp at hx, List.nodup_nil⟩
theorem dget {Q : Option Value → Shared → Prop} (hu : A.units + 8 < cLine) (hkey : KIs s.heap k key) (hm : IsD w s.heap d xs ep)
    (h : Q (valOf xs k) { s with toks := s.toks + k.draws }) : wpAny (model prog w) A (dictGet d key) Q E s := by
  obtain ⟨⟨o, es, ho, hc, hd, he⟩, his, hn⟩ := hm
  unfold dictGet
  try with_reducible refine wpAny_holding ?_
  refine wpAny_bind (hash_of hu hkey (wpAny_bind (find (s := { s with toks := s.toks + k.draws }) hu hkey ho hd he his hn ?_ ?_)))
  · intro hno
    rw [at_none hno] at h
    exact wpAny_pure h
  · intro j p hj
    rw [at_get hn hj] at h
    refine wpAny_bind (wpAny_dictEntries (s := { s with toks := s.toks + k.draws }) ho hd ?_)
    rw [show es[j]? = (xs[j]?).map (ent w) by rw [← Array.getElem?_toList, he, List.getElem?_map], hj]
    exact wpAny_pure h
theorem keys_repl (xs : List Ent) (k : NestedKey) (v : Value) : (xs.map (repl k v)).map (·.1) = xs.map (·.1) := by
  induction xs with
  | nil => rfl
  | cons x xs ih =>
    simp only [List.map_cons, ih]
    by_cases hk : x.1 = k <;> simp [repl, hk]
theorem repl_none (xs : List Ent) (k : NestedKey) (v : Value) (hn : k ∉ xs.map (·.1)) : xs.map (repl k v) = xs := by
  induction xs with
  | nil => rfl
  | cons x xs ih =>
    simp only [List.map_cons, List.mem_cons, not_or] at hn ⊢
    rw [repl, if_neg (fun e => hn.1 e.symm), ih hn.2]
theorem modify_repl (k : NestedKey) (v : Value) : ∀ {xs : List Ent} {j : Nat} {p : Value × Value}, (xs.map (·.1)).Nodup → xs[j]? = some (k, p) → (xs.map (ent w)).modify j (fun e => { e with val := v }) = (xs.map (repl k v)).map (ent w) := by
  intro xs
  induction xs with
  | nil => intro j p _ hj; simp at hj
  | cons x rest ih =>
    intro j p hn hj
    rw [List.map_cons, List.nodup_cons] at hn
    cases j with
    | zero =>
      simp only [List.getElem?_cons_zero, Option.some.injEq] at hj
      subst hj
      rw [List.map_cons, List.map_cons, repl_none rest k v hn.1, repl, if_pos rfl, List.map_cons]
      rfl
    | succ j =>
      simp only [List.getElem?_cons_succ] at hj
      have hmem : k ∈ rest.map (·.1) := List.mem_map.mpr ⟨(k, p), List.mem_of_getElem? hj, rfl⟩
      have hne : ¬ x.1 = k := fun e => hn.1 (e ▸ hmem)
      rw [List.map_cons, List.map_cons, repl, if_neg hne, List.map_cons]
      show ent w x :: (rest.map (ent w)).modify j _ = ent w x :: (rest.map (repl k v)).map (ent w)
      rw [ih hn.2 hj]
theorem not_in {xs : List Ent} {k : NestedKey} (h : ∀ (j : Nat) (p : Value × Value), xs[j]? ≠ some (k, p)) : k ∉ xs.map (·.1) := by
  intro hm
  obtain ⟨x, hx, rfl⟩ := List.mem_map.mp hm
  obtain ⟨j, hj⟩ := List.mem_iff_getElem?.mp hx
  exact h j x.2 hj
/-- the epoch behind a store -/
def epo (xs : List Ent) (k : NestedKey) (ep : Nat) : Nat := if (valOf xs k).isSome then ep else ep + 1
theorem dset {Q : Unit → Shared → Prop} (hu : A.units + 8 < cLine) (hkey : KIs s.heap k key) (hm : IsD w s.heap d xs ep)
    (hQ : ∀ h', IsD w h' d (put xs k key v) (epo xs k ep) → Heap.SameBut d s.heap h' → Q () { s with heap := h', toks := s.toks + k.draws })
    (hsz : xs.length ≤ sizeLine) : wpAny (model prog w) A (dictSet d key v) Q E s := by
  obtain ⟨⟨o, es, ho, hc, hd, he⟩, his, hn⟩ := hm
  have hes : es.size = xs.length := by rw [← Array.length_toList, he, List.length_map]
  unfold dictSet
  try with_reducible refine wpAny_holding ?_
  refine wpAny_bind (hash_of hu hkey ?_)
  unfold dictSetHashed
  try with_reducible refine wpAny_holding ?_
  refine wpAny_bind (find (s := { s with toks := s.toks + k.draws }) hu hkey ho hd he his hn ?_ ?_)
  · intro hno
    have hnot : k ∉ xs.map (·.1) := not_in hno
    have e1 : put xs k key v = xs ++ [(k, key, v)] := by unfold put; rw [at_none hno]; rfl
    have e2 : epo xs k ep = ep + 1 := by unfold epo; rw [at_none hno]; rfl
    rw [e1, e2] at hQ
    refine wpAny_bind (wpAny_rule (wpAny_updateDictKeys (hz := by omega) (s := { s with toks := s.toks + k.draws }) ho hd (hQ _ ⟨⟨_, _, Heap.get?_update_self _ ho (Obj.isFreed_of_dict (Obj.data_mapDictKeys hd _)),
      hc.mapDictKeys _, Obj.data_mapDictKeys hd _, ?_⟩, ?_, ?_⟩ (Heap.SameBut.update ..))))
    · simp [he, ent]
    · intro x hx
      rcases List.mem_append.mp hx with hx | hx
      · exact (his x hx).keeps ho hd (Heap.SameBut.update ..)
      · simp only [List.mem_singleton] at hx
        subst hx
        exact hkey.keeps ho hd (Heap.SameBut.update ..)
    · rw [List.map_append, List.nodup_append]
      refine ⟨hn, by simp, ?_⟩
      intro x hx y hy
      simp only [List.map_cons, List.map_nil, List.mem_singleton] at hy
      subst hy
      exact fun e => hnot (e ▸ hx)
  · intro j p hj
    have e1 : put xs k key v = xs.map (repl k v) := by unfold put; rw [at_get hn hj]; rfl
    have e2 : epo xs k ep = ep := by unfold epo; rw [at_get hn hj]; rfl
    rw [e1, e2] at hQ
    refine wpAny_bind (wpAny_rule (wpAny_bind (wpAny_updateDict (s := { s with toks := s.toks + k.draws }) ho hd (wpAny_point (hQ _ ⟨⟨_, _, Heap.get?_update_self _ ho (Obj.isFreed_of_dict (Obj.data_mapDict hd _)),
      hc.mapDict _, Obj.data_mapDict hd _, ?_⟩, ?_, ?_⟩ (Heap.SameBut.update ..))))))
    · have := modify_repl (w := w) k v hn hj
      rw [← he] at this
      obtain ⟨l⟩ := es
      simpa using this
    · intro x hx
      obtain ⟨y, hy, rfl⟩ := List.mem_map.mp hx
      unfold repl
      split <;> exact (his y hy).keeps ho hd (Heap.SameBut.update ..)
    · rw [keys_repl]; exact hn

theorem contains_d {Q : Bool → Shared → Prop} (hu : A.in1.units + 8 < cLine) (hkey : KIs s.heap k key) (hd : (d == sysModules) = false) (hm : IsD w s.heap d xs ep)
    (h : Q (valOf xs k).isSome { s with toks := s.toks + k.draws }) : wpAny (model prog w) A (contains (.ref d) key) Q E s := by
  refine wpAny_contains_slot hm.typeIs PySem.F.slot_dict_contains ?_
  refine call_meetsIn PySem.F.slot_dict_contains hm.typeIs PySem.F.entry_dict_contains (PySem.F.args_dict_contains_2 _ _) (S := fun A' R s' => A' = A ∧ s' = s ∧ R (.ok (.ret (.bool (valOf xs k).isSome))) { s with toks := s.toks + k.draws }) (fun A' R s' hS => ?_) ⟨rfl, rfl, wpAny_truthy_bool h⟩
  obtain ⟨rfl, rfl, hq⟩ := hS
  show wpAny _ _ (dictGet d key >>= _) _ _ _
  refine wpAny_bind (dget hu hkey hm ?_)
  cases hf : valOf xs k with
  | some p =>
    rw [hf] at hq
    show wpAny _ _ (ret (.bool true)) _ _ _
    exact wpAny_pure hq
  | none =>
    rw [hf] at hq
    show wpAny _ _ (Builtin.Dict.pendingKey? d key >>= _) _ _ _
    exact wpAny_bind (wpAny_pendingKey_other hd (wpAny_pure hq))
theorem in_d {Q : Value → Shared → Prop} (hu : A.in1.units + 8 < cLine) (hkey : KIs s.heap k key) (hd : (d == sysModules) = false) (hm : IsD w s.heap d xs ep)
    (h : Q (.bool (valOf xs k).isSome) { s with toks := s.toks + k.draws }) : wpAny (model prog w) A (compareOp .In key (.ref d)) Q E s := by
  show wpAny _ _ (do return .bool (← contains (.ref d) key)) Q E s
  exact wpAny_bind (contains_d hu hkey hd hm (wpAny_pure h))
theorem notIn_d {Q : Value → Shared → Prop} (hu : A.in1.units + 8 < cLine) (hkey : KIs s.heap k key) (hd : (d == sysModules) = false) (hm : IsD w s.heap d xs ep)
    (h : Q (.bool (!(valOf xs k).isSome)) { s with toks := s.toks + k.draws }) : wpAny (model prog w) A (compareOp .NotIn key (.ref d)) Q E s := by
  show wpAny _ _ (do return .bool (!(← contains (.ref d) key))) Q E s
  exact wpAny_bind (contains_d hu hkey hd hm (wpAny_pure h))
theorem getItem_d {x : Value} {Q : Value → Shared → Prop} (hu : A.in1.units + 8 < cLine) (hkey : KIs s.heap k key) (hm : IsD w s.heap d xs ep) (hv : valOf xs k = some x)
    (h : Q x { s with toks := s.toks + k.draws }) : wpAny (model prog w) A (getItem (.ref d) key) Q E s := by
  unfold getItem
  try with_reducible refine wpAny_holding ?_
  refine wpAny_bind (wpAny_sequenceKey hm.typeIs (by decide) ?_)
  refine wpAny_bind (wpAny_callSpecial?_slot (name := Str.ofString "__getitem__") hm.typeIs PySem.F.slot_dict_getitem
    (wpAny_call_entry PySem.F.slot_dict_getitem hm.typeIs PySem.F.entry_dict_getitem ?_ (PySem.args_dict_getitem _ _)))
  show wpAny _ _ (dictGet d key >>= _) _ _ s
  refine wpAny_bind (dget hu hkey hm ?_)
  rw [hv]
  exact wpAny_pure ⟨x, rfl, wpAny_pure h⟩
theorem setItem_d {Q : Unit → Shared → Prop} (hu : A.in1.units + 8 < cLine) (hkey : KIs s.heap k key) (hm : IsD w s.heap d xs ep)
    (hQ : ∀ h', IsD w h' d (put xs k key v) (epo xs k ep) → Heap.SameBut d s.heap h' → Q () { s with heap := h', toks := s.toks + k.draws })
    (hsz : xs.length ≤ sizeLine) : wpAny (model prog w) A (setItem (.ref d) key v) Q E s := by
  unfold setItem
  try with_reducible refine wpAny_holding ?_
  refine wpAny_bind (wpAny_sequenceKey hm.typeIs (by decide) ?_)
  refine wpAny_bind (wpAny_callSpecial?_slot (name := Str.ofString "__setitem__") hm.typeIs PySem.F.slot_dict_setitem
    (wpAny_call_entry PySem.F.slot_dict_setitem hm.typeIs PySem.F.entry_dict_setitem ?_ (PySem.args_dict_setitem _ _ _)))
  show wpAny _ _ (Builtin.Dict.notOrdered "__setitem__" ⟨[.ref d, key, v], []⟩ >>= _) _ _ s
  refine wpAny_bind (wpAny_notOrdered_dict hm.typeIs ?_)
  show wpAny _ _ (dictSet d key v >>= _) _ _ s
  exact wpAny_bind (dset hu hkey hm (fun h' hm' hs' => wpAny_pure ⟨.none, rfl, wpAny_pure (hQ h' hm' hs')⟩) hsz)
theorem meets_get (d : Addr) (key : Value) (hd : (d == sysModules) = false) :
    MeetsIn prog w (Builtin.«dict.get» ⟨[.ref d, key], []⟩) (fun A R s => A.in1.units + 8 < cLine ∧ ∃ k xs ep, KIs s.heap k key ∧ IsD w s.heap d xs ep ∧
      R (.ok (.ret ((valOf xs k).getD .none))) { s with toks := s.toks + k.draws }) :=
  .of_wp fun A R s ⟨hu, k, xs, ep, hkey, hm, h⟩ => by
    show wpAny _ _ (dictGet d key >>= _) _ _ s
    refine wpAny_bind (dget hu hkey hm ?_)
    cases hf : valOf xs k with
    | some v =>
      rw [hf] at h
      exact wpAny_pure ⟨v, rfl, h⟩
    | none =>
      rw [hf] at h
      show wpAny _ _ (Builtin.Dict.missed d key >>= _) _ _ _
      exact wpAny_bind (wpAny_missed_other hd (wpAny_pure ⟨.none, rfl, h⟩))
theorem meets_getOr (d : Addr) (key : Value) (hd : (d == sysModules) = false) (dflt : Value) :
    MeetsIn prog w (Builtin.«dict.get» ⟨[.ref d, key, dflt], []⟩) (fun A R s => A.in1.units + 8 < cLine ∧ ∃ k xs ep, KIs s.heap k key ∧ IsD w s.heap d xs ep ∧
      R (.ok (.ret ((valOf xs k).getD dflt))) { s with toks := s.toks + k.draws }) :=
  .of_wp fun A R s ⟨hu, k, xs, ep, hkey, hm, h⟩ => by
    show wpAny _ _ (dictGet d key >>= _) _ _ s
    refine wpAny_bind (dget hu hkey hm ?_)
    cases hf : valOf xs k with
    | some v =>
      rw [hf] at h
      exact wpAny_pure ⟨v, rfl, h⟩
    | none =>
      rw [hf] at h
      show wpAny _ _ (Builtin.Dict.missed d key >>= _) _ _ _
      exact wpAny_bind (wpAny_missed_other hd (wpAny_pure ⟨dflt, rfl, h⟩))
theorem get_d {Q : Value → Shared → Prop} (hu : A.in1.units + 8 < cLine) (hkey : KIs s.heap k key) (hd : (d == sysModules) = false) (hm : IsD w s.heap d xs ep)
    (h : Q ((valOf xs k).getD .none) { s with toks := s.toks + k.draws }) : wpAny (model prog w) A (call (.builtin "dict.get") [.ref d, key]) Q E s :=
  call_meetsIn PySem.F.slot_dict_get hm.typeIs PySem.F.entry_dict_get (PySem.F.args_dict_get_2 _ _) (meets_get d key hd) ⟨hu, k, xs, ep, hkey, hm, h⟩
theorem getOr_d {x : Value} {Q : Value → Shared → Prop} (hu : A.in1.units + 8 < cLine) (hkey : KIs s.heap k key) (hd : (d == sysModules) = false) (hm : IsD w s.heap d xs ep)
    (h : Q ((valOf xs k).getD x) { s with toks := s.toks + k.draws }) : wpAny (model prog w) A (call (.builtin "dict.get") [.ref d, key, x]) Q E s :=
  call_meetsIn PySem.F.slot_dict_get hm.typeIs PySem.F.entry_dict_get (PySem.F.args_dict_get_3 _ _ _) (meets_getOr d key hd x) ⟨hu, k, xs, ep, hkey, hm, h⟩
theorem IsD.raw {h : Heap} (hm : IsD w h d xs ep) : ∃ es, h.DictRaw d es ep ∧ es.size = xs.length ∧ ∀ i (hi : i < es.size), ∃ x, xs[i]? = some x ∧ es[i].key = x.2.1 ∧ es[i].val = x.2.2 := by
  obtain ⟨⟨o, es, ho, hc, hd, he⟩, _, _⟩ := hm
  have hs : es.size = xs.length := by rw [← Array.length_toList, he, List.length_map]
  refine ⟨es, ⟨o, ho, hc, hd⟩, hs, fun i hi => ?_⟩
  have e1 : es[i]? = (xs[i]?).map (ent w) := by rw [← Array.getElem?_toList, he, List.getElem?_map]
  obtain ⟨y, hy⟩ : ∃ y, xs[i]? = some y := ⟨xs[i]'(by rw [← hs]; exact hi), List.getElem?_eq_getElem _⟩
  rw [hy, Array.getElem?_eq_getElem hi] at e1
  have e2 : es[i] = ent w y := Option.some.inj e1
  exact ⟨y, hy, by rw [e2]; rfl, by rw [e2]; rfl⟩

/-! ### displays -/
def putAll : List Ent → Nat → List Ent → List Ent × Nat
  | acc, ep, [] => (acc, ep)
  | acc, ep, (k, key, v) :: r => putAll (put acc k key v) (epo acc k ep) r
theorem put_len (xs : List Ent) (k : NestedKey) (key v : Value) : (put xs k key v).length ≤ xs.length + 1 := by
  unfold put
  split <;> simp
theorem storeAll {d : Addr} (hu : A.units + 8 < cLine) : ∀ (ps acc : List Ent) (ep : Nat) (s : Shared) (Q : PUnit → Shared → Prop), (∀ x ∈ ps, KIs s.heap x.1 x.2.1) → IsD w s.heap d acc ep → acc.length + ps.length ≤ sizeLine →
    (∀ h' tk, IsD w h' d (putAll acc ep ps).1 (putAll acc ep ps).2 → Heap.SameBut d s.heap h' → Q PUnit.unit { s with heap := h', toks := tk }) →
    wpAny (model prog w) A (forIn (ps.map (·.2)) PUnit.unit fun (x : Value × Value) (_ : PUnit) => (do dictSet d x.1 x.2; pure (ForInStep.yield PUnit.unit) : Sem (ForInStep PUnit))) Q E s
  | [], acc, ep, s, Q, _, hm, _, hQ => by
    rw [List.map_nil, List.forIn_nil]
    exact wpAny_pure (hQ s.heap s.toks hm (Heap.SameBut.refl _ _))
  | (k, key, v) :: ps, acc, ep, s, Q, hk, hm, hsz, hQ => by
    rw [List.length_cons] at hsz
    rw [List.map_cons, List.forIn_cons]
    refine wpAny_bind (wpAny_bind (dset hu (hk _ List.mem_cons_self) hm (fun h₁ hm₁ hs₁ => wpAny_pure ?_) (by omega)))
    obtain ⟨o, es, ho, _, hd, _⟩ := hm.ob
    exact storeAll hu ps _ _ _ Q (fun x hx => (hk x (List.mem_cons_of_mem _ hx)).keeps ho hd hs₁) hm₁ (by have e := put_len acc k key v; dsimp only; omega) fun h' tk hm' hs' => hQ h' tk hm' (hs₁.trans hs')
theorem subDict_d {pairs : List (Sem Value × Sem Value)} {Q : Addr → Shared → Prop} (hu : A.units + 8 < cLine) (hlen : pairs.length ≤ 15)
    (h : wpAny (model prog w) A (evalPairs pairs) (fun vs s₁ => ∃ ps : List Ent, vs = ps.map (·.2) ∧ (∀ x ∈ ps, KIs s₁.heap x.1 x.2.1) ∧ IsD w s₁.heap s.heap.objs.size [] 0 ∧
      ∀ h' tk, IsD w h' s.heap.objs.size (putAll [] 0 ps).1 (putAll [] 0 ps).2 → Heap.SameBut s.heap.objs.size s₁.heap h' → Q s.heap.objs.size { s₁ with heap := h', toks := tk }) E
      { s with heap := s.heap.push { cls := .type "dict", data := .dict #[] } }) :
    wpAny (model prog w) A (subDict pairs) Q E s := by
  unfold subDict
  refine wpAny_bind (wpAny_alloc ?_)
  refine wpAny_bind (wpAny_holding ?_)
  rw [if_pos hlen]
  refine wpAny_bind (wpAny_mono (wpAny_evalPairs_len h) (fun vs s₁ h₁ => ?_) fun _ _ e => e)
  obtain ⟨hvl, ps, hc, hk, hm, hQ⟩ := h₁
  subst hc
  have hsz : ([] : List Ent).length + ps.length ≤ sizeLine := by
    rw [List.length_map] at hvl
    rw [sizeLine_eq, List.length_nil]; omega
  refine wpAny_holding ?_
  exact wpAny_bind (storeAll hu ps [] 0 s₁ _ hk hm hsz fun h' tk hm' hs' => wpAny_pure (wpAny_pure (hQ h' tk hm' hs')))
theorem display_d {env : Env} {keys : List (Option Expr)} {values : List Expr} {pos : Pos} {Q : Value → Shared → Prop} (hu : A.units + 8 < cLine)
    (hall : keys.all (·.isSome) = true) (hl : keys.length = values.length) (h0 : keys ≠ []) (hlen : keys.length ≤ 15)
    (h : wpAny (model prog w) A (evalPairs (pairTrees keys values env pos)) (fun vs s₁ => ∃ ps : List Ent, vs = ps.map (·.2) ∧ (∀ x ∈ ps, KIs s₁.heap x.1 x.2.1) ∧ IsD w s₁.heap s.heap.objs.size [] 0 ∧
      ∀ h' tk, IsD w h' s.heap.objs.size (putAll [] 0 ps).1 (putAll [] 0 ps).2 → Heap.SameBut s.heap.objs.size s₁.heap h' → Q (.ref s.heap.objs.size) { s₁ with heap := h', toks := tk }) E
      { s with heap := s.heap.push { cls := .type "dict", data := .dict #[] } }) :
    wpAny (model prog w) A (eval (.Dict keys values pos) env) Q E s := by
  have hn := pairTrees_length keys values env pos hall hl
  have h0' : pairTrees keys values env pos ≠ [] := by
    intro he
    rw [he] at hn
    exact h0 (List.length_eq_zero_iff.mp hn.symm)
  rw [arm_eval_Dict, zip_pairTrees keys values env pos hall hl, dictDisplay_pairs _ h0' (by omega)]
  exact wpAny_bind (wpAny_standAt (wpAny_bind (subDict_d (Q := fun d s' => wpAny (model prog w) A (pure (Value.ref d)) Q E s') hu (by omega)
    (wpAny_mono h (fun vs s₁ h₁ => by obtain ⟨ps, hc, hk, hm, hq⟩ := h₁; exact ⟨ps, hc, hk, hm, fun h' tk a b => wpAny_pure (hq h' tk a b)⟩) fun _ _ e => e))))
end
end DK

set_option Elab.async false
set_option linter.all false
set_option maxRecDepth 100000
set_option maxHeartbeats 4000000
/-! DL1: values as data, an abstract heap of numbered mutable objects, their meaning over L2's heap, results. -/
namespace DL
open PySem PySem.Spec PyProof.Rows L2

/-- a value as data; `ref n` is the n-th mutable object, `fn n` the n-th def of the text -/
inductive D where
  | non | bl (b : Bool) | int (i : Int) | str (s : Str) | tup (l : List D) | ref (n : Nat) | fn (n : Nat)
  deriving Inhabited

/-- a mutable object -/
inductive MO where
  | lst (l : List D)
  /-- a list that is only read (the script) -/
  | frz (l : List D)
  /-- a dict: keys and values in the order of insertion; its epoch -/
  | dct (kvs : List (D × D)) (ep : Nat)
  /-- an instance of the c-th class: its fields -/
  | ins (c : Nat) (fs : List (Str × D))
  deriving Inhabited

mutual
/-- the key that a value is -/
def D.nk : D → NestedKey
  | .non => .none
  | .bl b => .num (if b then 1 else 0)
  | .int i => .num i
  | .str s => .text s
  | .tup l => .tup (D.nks l)
  | .ref _ => .none
  | .fn _ => .none
def D.nks : List D → List NestedKey
  | [] => []
  | d :: l => d.nk :: D.nks l
end
mutual
/-- a value that may be a key -/
def D.kok : Nat → D → Bool
  | _, .non => true
  | _, .bl _ => true
  | _, .int _ => true
  | _, .str _ => true
  | 0, .tup _ => false
  | n + 1, .tup l => D.koks n l
  | _, .ref _ => false
  | _, .fn _ => false
def D.koks : Nat → List D → Bool
  | _, [] => true
  | n, d :: l => D.kok n d && D.koks n l
end

abbrev Hh := List MO
abbrev Env := List (Option D)

/-- an exception: the number of its class, its fields -/
structure Ex where
  c : Nat
  fs : List (Str × D)

inductive R (α : Type) where
  | ok (a : α) (h : Hh) | exc (x : Ex) (h : Hh) | bad

def R.bind {α β : Type} (r : R α) (k : α → Hh → R β) : R β := match r with
  | .ok a h => k a h
  | .exc x h => .exc x h
  | .bad => .bad
@[simp] theorem R.bind_ok {α β : Type} (a : α) (h : Hh) (k : α → Hh → R β) : (R.ok a h).bind k = k a h := rfl
@[simp] theorem R.bind_exc {α β : Type} (x : Ex) (h : Hh) (k : α → Hh → R β) : (R.exc x h : R α).bind k = .exc x h := rfl
@[simp] theorem R.bind_bad {α β : Type} (k : α → Hh → R β) : (R.bad : R α).bind k = .bad := rfl

/-- what a result is to satisfy -/
def R.sat {α : Type} (r : R α) (P : α → Hh → Prop) (E : Ex → Hh → Prop) : Prop := match r with
  | .ok a h => P a h
  | .exc x h => E x h
  | .bad => False
theorem R.sat_bind {α β : Type} {r : R α} {k : α → Hh → R β} {P : β → Hh → Prop} {E : Ex → Hh → Prop} (h : (r.bind k).sat P E) : r.sat (fun a h => (k a h).sat P E) E := by
  cases r with
  | ok a hh => exact h
  | exc x hh => exact h
  | bad => exact h
theorem R.sat_mono {α : Type} {r : R α} {P P' : α → Hh → Prop} {E E' : Ex → Hh → Prop} (h : r.sat P E) (hp : ∀ a h, P a h → P' a h) (he : ∀ x h, E x h → E' x h) : r.sat P' E' := by
  cases r with
  | ok a hh => exact hp _ _ h
  | exc x hh => exact he _ _ h
  | bad => exact h
/-- a size that must fit -/
def fits {α : Type} (n : Nat) (r : R α) : R α := if n ≤ 16000000 then r else .bad
theorem fits_ok {α : Type} {n : Nat} {r : R α} (h : n ≤ 16000000) : fits n r = r := if_pos h
theorem fits_sat {α : Type} {n : Nat} {r : R α} {P : α → Hh → Prop} {E : Ex → Hh → Prop} (h : (fits n r).sat P E) : n < sizeLine ∧ r.sat P E := by
  unfold fits at h
  split at h
  · rename_i q
    exact ⟨by rw [sizeLine_eq]; omega, h⟩
  · exact h.elim

/-! ### what data means over the heap -/
/-- the static facts: the written part; the tables of code objects that grow; where the defs stand; where the classes stand -/
structure Gs where
  w : World
  tabs : List Addr
  fnA : Nat → Addr
  clA : Nat → Addr

/-- a tuple: locked (its object is known: it has no dict), or one of the written part -/
def TupK (K : PySem.W.Frag) (H : Hp) (a : Addr) (xs : List V) : Prop :=
  (∃ o : Obj, H a = some (.frz o (.tup xs)) ∧ o.dict = none) ∨
    ∃ (o : Obj) (its : Array Value) (n : Nat), K.lookup a = some o ∧ o.cls = .type "tuple" ∧ o.dict = none ∧ o.data = .seq its n ∧ its.size ≤ sizeLine ∧ Vals xs its.toList
theorem TupK.sqT {K : PySem.W.Frag} {H : Hp} {a : Addr} {xs : List V} (h : TupK K H a xs) : SqT K H a xs := by
  rcases h with ⟨o, h, _⟩ | ⟨o, its, n, h1, h2, _, h3, h4, h5⟩
  · exact .inl (.inr ⟨o, h⟩)
  · exact .inr ⟨o, its, n, h1, h2, h3, h4, h5⟩
mutual
def RV (K : PySem.W.Frag) (G : Gs) (ρ : List Addr) (H : Hp) : D → V → Prop
  | .non, v => v = .non
  | .bl b, v => v = .bl b
  | .int i, v => v = .int i
  | .str s, v => v = .str s
  | .tup l, v => ∃ a xs, v = .ref a ∧ TupK K H a xs ∧ RVs K G ρ H l xs
  | .ref n, v => ∃ a, v = .ref a ∧ ρ[n]? = some a
  | .fn n, v => v = .ref (G.fnA n)
def RVs (K : PySem.W.Frag) (G : Gs) (ρ : List Addr) (H : Hp) : List D → List V → Prop
  | [], xs => xs = []
  | d :: l, xs => ∃ v r, xs = v :: r ∧ RV K G ρ H d v ∧ RVs K G ρ H l r
end

/-- the dict at a, its entries xs -/
def RawD (w : World) (a : Addr) (xs : List DK.Ent) (ep : Nat) : Heap → Prop := fun h => ∃ o es, h.get? a = some o ∧ o.ExactDict ∧ o.data = .dict es ep ∧ es.toList = xs.map (DK.ent w)
/-- a key and its value as they lie -/
def EntR (K : PySem.W.Frag) (G : Gs) (ρ : List Addr) (H : Hp) (p : D × D) (x : DK.Ent) : Prop :=
  x.1 = p.1.nk ∧ D.kok 8 p.1 = true ∧ ∃ vk vv, RelV vk x.2.1 ∧ RelV vv x.2.2 ∧ RV K G ρ H p.1 vk ∧ RV K G ρ H p.2 vv
def EntsR (K : PySem.W.Frag) (G : Gs) (ρ : List Addr) (H : Hp) : List (D × D) → List DK.Ent → Prop
  | [], xs => xs = []
  | p :: l, xs => ∃ x r, xs = x :: r ∧ EntR K G ρ H p x ∧ EntsR K G ρ H l r
structure DctR (K : PySem.W.Frag) (G : Gs) (ρ : List Addr) (H : Hp) (a : Addr) (kvs : List (D × D)) (ep : Nat) (xs : List DK.Ent) : Prop where
  raw : H a = some (.ext (RawD G.w a xs ep))
  sm : (a == sysModules) = false
  nd : (kvs.map fun p => p.1.nk).Nodup
  sz : kvs.length ≤ sizeLine
  es : EntsR K G ρ H kvs xs
structure InsR (K : PySem.W.Frag) (G : Gs) (ρ : List Addr) (H : Hp) (a : Addr) (c : Nat) (fs : List (Str × D)) (dx : Addr) (vs : List V) : Prop where
  ob : H a = some (.ins (G.clA c) dx ((fs.map (·.1)).zip vs))
  own : H dx = some (.own a)
  out : dx ∉ ρ
  vs : RVs K G ρ H (fs.map (·.2)) vs

/-- a list that is only read -/
def SqH (H : Hp) (a : Addr) (xs : List V) : Prop := H a = some (.lst xs) ∨ ∃ o, H a = some (.frz o (.lst xs))
theorem SqH.at {H H' : Hp} {a : Addr} {xs : List V} (q : SqH H a xs) (k : H' a = H a) : SqH H' a xs := q.imp (fun z => k.trans z) fun ⟨o, z⟩ => ⟨o, k.trans z⟩
def RO (K : PySem.W.Frag) (G : Gs) (ρ : List Addr) (H : Hp) (a : Addr) : MO → Prop
  | .lst l => ∃ xs, H a = some (.lst xs) ∧ RVs K G ρ H l xs
  | .frz l => ∃ xs, SqH H a xs ∧ RVs K G ρ H l xs
  | .dct kvs ep => ∃ xs, DctR K G ρ H a kvs ep xs
  | .ins c fs => ∃ dx vs, InsR K G ρ H a c fs dx vs

structure Rep (K : PySem.W.Frag) (G : Gs) (ρ : List Addr) (hh : Hh) (H : Hp) : Prop where
  len : ρ.length = hh.length
  nd : ρ.Nodup
  ob : ∀ (n : Nat) (o : MO), hh[n]? = some o → ∃ a, ρ[n]? = some a ∧ RO K G ρ H a o
  tb : ∀ P ∈ G.tabs, ∃ ps : Array Value, H P = some (.tbl ps) ∧ TriplesOk ps.toList

/-- the later state: more objects, the tuples and the locked things as they were, what isn't counted as it was (but for the tables) -/
structure Ext (ρ : List Addr) (H : Hp) (ρ' : List Addr) (H' : Hp) : Prop where
  pre : ∃ more, ρ' = ρ ++ more ∧ ∀ b ∈ more, H b = none
  tups : ∀ b xs, H b = some (.tup xs) → H' b = some (.tup xs)
  frzs : ∀ b o u, H b = some (.frz o u) → H' b = some (.frz o u)
  side : ∀ b u, H b = some u → b ∉ ρ → (∀ ps, u ≠ .tbl ps) → H' b = some u
  dom : ∀ b, H' b = none → H b = none
theorem Ext.refl (ρ : List Addr) (H : Hp) : Ext ρ H ρ H := ⟨⟨[], by simp, by simp⟩, fun _ _ h => h, fun _ _ _ h => h, fun _ _ h _ _ => h, fun _ h => h⟩
theorem Ext.trans {ρ ρ1 ρ2 : List Addr} {H H1 H2 : Hp} (a : Ext ρ H ρ1 H1) (b : Ext ρ1 H1 ρ2 H2) : Ext ρ H ρ2 H2 := by
  obtain ⟨m1, e1, f1⟩ := a.pre
  obtain ⟨m2, e2, f2⟩ := b.pre
  refine ⟨⟨m1 ++ m2, by rw [e2, e1, List.append_assoc], fun c hc => ?_⟩, fun c xs h => b.tups _ _ (a.tups _ _ h), fun c o u h => b.frzs _ _ _ (a.frzs _ _ _ h), fun c u h n t => ?_, fun c h => a.dom c (b.dom c h)⟩
  · rcases List.mem_append.mp hc with hc | hc
    · exact f1 c hc
    · exact a.dom c (f2 c hc)
  · refine b.side c u (a.side c u h n t) (fun hc => ?_) t
    rw [e1] at hc
    rcases List.mem_append.mp hc with hc | hc
    · exact n hc
    · rw [f1 c hc] at h; cases h
/-- what is new behind is new ahead -/
theorem Ext.notin {ρ ρ' : List Addr} {H H' : Hp} (e : Ext ρ H ρ' H') {a : Addr} {u : HO} (h : H a = some u) (n : a ∉ ρ) : a ∉ ρ' := fun hc => by
  obtain ⟨m, rfl, f⟩ := e.pre
  rcases List.mem_append.mp hc with hc | hc
  · exact n hc
  · rw [f a hc] at h; cases h
theorem Ext.get {ρ ρ' : List Addr} {H H' : Hp} (e : Ext ρ H ρ' H') {n : Nat} {a : Addr} (h : ρ[n]? = some a) : ρ'[n]? = some a := by
  obtain ⟨m, rfl, _⟩ := e.pre
  rw [List.getElem?_append_left (List.getElem?_eq_some_iff.mp h).1]
  exact h
theorem Ext.tupK {ρ ρ' : List Addr} {H H' : Hp} (e : Ext ρ H ρ' H') {K : PySem.W.Frag} {a : Addr} {xs : List V} (h : TupK K H a xs) : TupK K H' a xs := by
  rcases h with ⟨o, h, d⟩ | h
  · exact .inl ⟨o, e.frzs _ _ _ h, d⟩
  · exact .inr h
mutual
theorem RV.ext {K : PySem.W.Frag} {G : Gs} {ρ ρ' : List Addr} {H H' : Hp} (e : Ext ρ H ρ' H') : ∀ (d : D) (v : V), RV K G ρ H d v → RV K G ρ' H' d v
  | .non, v, h => by simp only [RV] at h ⊢; exact h
  | .bl b, v, h => by simp only [RV] at h ⊢; exact h
  | .int i, v, h => by simp only [RV] at h ⊢; exact h
  | .str s, v, h => by simp only [RV] at h ⊢; exact h
  | .tup l, v, h => by
    simp only [RV] at h ⊢
    obtain ⟨a, xs, e1, e2, e3⟩ := h
    exact ⟨a, xs, e1, e.tupK e2, RVs.ext e l xs e3⟩
  | .ref n, v, h => by
    simp only [RV] at h ⊢
    obtain ⟨a, e1, e2⟩ := h
    exact ⟨a, e1, e.get e2⟩
  | .fn n, v, h => by simp only [RV] at h ⊢; exact h
theorem RVs.ext {K : PySem.W.Frag} {G : Gs} {ρ ρ' : List Addr} {H H' : Hp} (e : Ext ρ H ρ' H') : ∀ (l : List D) (xs : List V), RVs K G ρ H l xs → RVs K G ρ' H' l xs
  | [], xs, h => by simp only [RVs] at h ⊢; exact h
  | d :: l, xs, h => by
    simp only [RVs] at h ⊢
    obtain ⟨v, r, e1, e2, e3⟩ := h
    exact ⟨v, r, e1, RV.ext e d v e2, RVs.ext e l r e3⟩
end
mutual
theorem RV.more {K : PySem.W.Frag} {G : Gs} {ρ ρ' : List Addr} {H : Hp} (e : ∀ {n : Nat} {b : Addr}, ρ[n]? = some b → ρ'[n]? = some b) : ∀ (d : D) (v : V), RV K G ρ H d v → RV K G ρ' H d v
  | .non, v, h => by simp only [RV] at h ⊢; exact h
  | .bl b, v, h => by simp only [RV] at h ⊢; exact h
  | .int i, v, h => by simp only [RV] at h ⊢; exact h
  | .str s, v, h => by simp only [RV] at h ⊢; exact h
  | .tup l, v, h => by
    simp only [RV] at h ⊢
    obtain ⟨a, xs, e1, e2, e3⟩ := h
    exact ⟨a, xs, e1, e2, RVs.more e l xs e3⟩
  | .ref n, v, h => by
    simp only [RV] at h ⊢
    obtain ⟨a, e1, e2⟩ := h
    exact ⟨a, e1, e e2⟩
  | .fn n, v, h => by simp only [RV] at h ⊢; exact h
theorem RVs.more {K : PySem.W.Frag} {G : Gs} {ρ ρ' : List Addr} {H : Hp} (e : ∀ {n : Nat} {b : Addr}, ρ[n]? = some b → ρ'[n]? = some b) : ∀ (l : List D) (xs : List V), RVs K G ρ H l xs → RVs K G ρ' H l xs
  | [], xs, h => by simp only [RVs] at h ⊢; exact h
  | d :: l, xs, h => by
    simp only [RVs] at h ⊢
    obtain ⟨v, r, e1, e2, e3⟩ := h
    exact ⟨v, r, e1, RV.more e d v e2, RVs.more e l r e3⟩
end
theorem RVs.nil {K : PySem.W.Frag} {G : Gs} {ρ : List Addr} {H : Hp} : RVs K G ρ H [] [] := by simp [RVs]
theorem RVs.cons {K : PySem.W.Frag} {G : Gs} {ρ : List Addr} {H : Hp} {d : D} {v : V} {l : List D} {xs : List V} (h : RV K G ρ H d v) (t : RVs K G ρ H l xs) : RVs K G ρ H (d :: l) (v :: xs) := by
  simp only [RVs]
  exact ⟨v, xs, rfl, h, t⟩
theorem RVs.inv_cons {K : PySem.W.Frag} {G : Gs} {ρ : List Addr} {H : Hp} {d : D} {l : List D} {xs : List V} (h : RVs K G ρ H (d :: l) xs) : ∃ v r, xs = v :: r ∧ RV K G ρ H d v ∧ RVs K G ρ H l r := by
  simpa only [RVs] using h
theorem RVs.inv_nil {K : PySem.W.Frag} {G : Gs} {ρ : List Addr} {H : Hp} {xs : List V} (h : RVs K G ρ H [] xs) : xs = [] := by simpa only [RVs] using h
theorem RVs.length {K : PySem.W.Frag} {G : Gs} {ρ : List Addr} {H : Hp} : ∀ {l : List D} {xs : List V}, RVs K G ρ H l xs → xs.length = l.length
  | [], _, h => by rw [h.inv_nil]; rfl
  | _ :: _, _, h => by
    obtain ⟨v, r, rfl, _, t⟩ := h.inv_cons
    rw [List.length_cons, List.length_cons, RVs.length t]
theorem RVs.get {K : PySem.W.Frag} {G : Gs} {ρ : List Addr} {H : Hp} : ∀ {l : List D} {xs : List V} {i : Nat} {d : D}, RVs K G ρ H l xs → l[i]? = some d → ∃ v, xs[i]? = some v ∧ RV K G ρ H d v
  | [], _, _, _, _, e => by simp at e
  | x :: l, _, 0, d, h, e => by
    obtain ⟨v, r, rfl, q, _⟩ := h.inv_cons
    simp at e
    subst e
    exact ⟨v, rfl, q⟩
  | x :: l, _, i + 1, d, h, e => by
    obtain ⟨v, r, rfl, _, t⟩ := h.inv_cons
    obtain ⟨u, e1, e2⟩ := RVs.get (i := i) t (by simpa using e)
    exact ⟨u, by simpa using e1, e2⟩
theorem RVs.get' {K : PySem.W.Frag} {G : Gs} {ρ : List Addr} {H : Hp} {l : List D} {xs : List V} {i : Nat} {v : V} (h : RVs K G ρ H l xs) (e : xs[i]? = some v) : ∃ d, l[i]? = some d ∧ RV K G ρ H d v := by
  have hl := h.length
  have hi := (List.getElem?_eq_some_iff.mp e).1
  obtain ⟨u, e1, e2⟩ := h.get (i := i) (d := l[i]'(by omega)) (List.getElem?_eq_getElem (by omega))
  rw [e] at e1
  cases e1
  exact ⟨_, List.getElem?_eq_getElem (by omega), e2⟩
theorem RVs.append {K : PySem.W.Frag} {G : Gs} {ρ : List Addr} {H : Hp} : ∀ {l l' : List D} {xs ys : List V}, RVs K G ρ H l xs → RVs K G ρ H l' ys → RVs K G ρ H (l ++ l') (xs ++ ys)
  | [], _, _, _, h, t => by rw [h.inv_nil]; exact t
  | _ :: _, _, _, _, h, t => by
    obtain ⟨v, r, rfl, q, s⟩ := h.inv_cons
    exact .cons q (RVs.append s t)
theorem RVs.take {K : PySem.W.Frag} {G : Gs} {ρ : List Addr} {H : Hp} : ∀ {l : List D} {xs : List V} (n : Nat), RVs K G ρ H l xs → RVs K G ρ H (l.take n) (xs.take n)
  | [], _, n, h => by rw [h.inv_nil]; simp [RVs]
  | _ :: _, _, 0, h => by simp [RVs]
  | _ :: _, _, n + 1, h => by
    obtain ⟨v, r, rfl, q, s⟩ := h.inv_cons
    exact .cons q (RVs.take n s)
theorem RVs.drop {K : PySem.W.Frag} {G : Gs} {ρ : List Addr} {H : Hp} : ∀ {l : List D} {xs : List V} (n : Nat), RVs K G ρ H l xs → RVs K G ρ H (l.drop n) (xs.drop n)
  | [], _, n, h => by rw [h.inv_nil]; simp [RVs]
  | _ :: _, _, 0, h => h
  | _ :: _, _, n + 1, h => by
    obtain ⟨v, r, rfl, q, s⟩ := h.inv_cons
    exact RVs.drop n s
theorem RVs.set {K : PySem.W.Frag} {G : Gs} {ρ : List Addr} {H : Hp} {d : D} {v : V} (hd : RV K G ρ H d v) : ∀ {l : List D} {xs : List V} (n : Nat), RVs K G ρ H l xs → RVs K G ρ H (l.set n d) (xs.set n v)
  | [], _, n, h => by rw [h.inv_nil]; simp [RVs]
  | _ :: _, _, 0, h => by
    obtain ⟨v', r, rfl, q, s⟩ := h.inv_cons
    exact .cons hd s
  | _ :: _, _, n + 1, h => by
    obtain ⟨v', r, rfl, q, s⟩ := h.inv_cons
    exact .cons q (RVs.set hd n s)
theorem RVs.eraseIdx {K : PySem.W.Frag} {G : Gs} {ρ : List Addr} {H : Hp} : ∀ {l : List D} {xs : List V} (n : Nat), RVs K G ρ H l xs → RVs K G ρ H (l.eraseIdx n) (xs.eraseIdx n)
  | [], _, n, h => by rw [h.inv_nil]; simp [RVs]
  | _ :: _, _, 0, h => by
    obtain ⟨v', r, rfl, q, s⟩ := h.inv_cons
    exact s
  | _ :: _, _, n + 1, h => by
    obtain ⟨v', r, rfl, q, s⟩ := h.inv_cons
    exact .cons q (RVs.eraseIdx n s)
theorem RVs.reverse {K : PySem.W.Frag} {G : Gs} {ρ : List Addr} {H : Hp} : ∀ {l : List D} {xs : List V}, RVs K G ρ H l xs → RVs K G ρ H l.reverse xs.reverse
  | [], _, h => by rw [h.inv_nil]; simp [RVs]
  | _ :: _, _, h => by
    obtain ⟨v, r, rfl, q, s⟩ := h.inv_cons
    rw [List.reverse_cons, List.reverse_cons]
    exact (RVs.reverse s).append (.cons q .nil)
theorem RVs.ints {K : PySem.W.Frag} {G : Gs} {ρ : List Addr} {H : Hp} : ∀ {ns : List Int} {xs : List V}, RVs K G ρ H (ns.map D.int) xs → xs = ns.map V.int
  | [], _, h => h.inv_nil
  | n :: ns, _, h => by
    obtain ⟨v, r, rfl, q, s⟩ := h.inv_cons
    simp only [RV] at q
    rw [q, RVs.ints s]
    rfl
theorem RVs.of_ints {K : PySem.W.Frag} {G : Gs} {ρ : List Addr} {H : Hp} : ∀ (ns : List Int), RVs K G ρ H (ns.map D.int) (ns.map V.int)
  | [] => .nil
  | n :: ns => .cons (by simp [RV]) (RVs.of_ints ns)

/-- the object at the n-th place changes -/
theorem nodup_at {ρ : List Addr} (h : ρ.Nodup) {i j : Nat} {a : Addr} (hi : ρ[i]? = some a) (hj : ρ[j]? = some a) : i = j := by
  obtain ⟨h1, e1⟩ := List.getElem?_eq_some_iff.mp hi
  obtain ⟨h2, e2⟩ := List.getElem?_eq_some_iff.mp hj
  exact (List.getElem_inj h).mp (e1.trans e2.symm)
/-- what may be stored into -/
def Mutb (o : HO) : Prop := (∀ xs, o ≠ .tup xs) ∧ ∀ q u, o ≠ .frz q u
theorem mutb_lst {xs : List V} : Mutb (.lst xs) := ⟨fun _ h => (nomatch h), fun _ _ h => (nomatch h)⟩
theorem mutb_ext {φ : Heap → Prop} : Mutb (.ext φ) := ⟨fun _ h => (nomatch h), fun _ _ h => (nomatch h)⟩
theorem mutb_ins {C dx : Addr} {fs : List (Str × V)} : Mutb (.ins C dx fs) := ⟨fun _ h => (nomatch h), fun _ _ h => (nomatch h)⟩
theorem Ext.updM {ρ : List Addr} {H : Hp} {a : Addr} {u o : HO} (h : H a = some u) (m : Mutb u) (ha : a ∈ ρ) : Ext ρ H ρ (upd H a o) := by
  refine ⟨⟨[], by simp, by simp⟩, fun b ys e => ?_, fun b q u' e => ?_, fun b u' e n _ => ?_, fun b e => ?_⟩
  · rw [upd_ne]
    · exact e
    · rintro rfl; rw [h] at e; cases e; exact m.1 _ rfl
  · rw [upd_ne]
    · exact e
    · rintro rfl; rw [h] at e; cases e; exact m.2 _ _ rfl
  · rw [upd_ne]
    · exact e
    · rintro rfl; exact n ha
  · by_cases q : b = a
    · subst q; rw [upd_same] at e; cases e
    · rwa [upd_ne q] at e
theorem Ext.upd {ρ : List Addr} {H : Hp} {a : Addr} {xs : List V} {o : HO} (h : H a = some (.lst xs)) (ha : a ∈ ρ) : Ext ρ H ρ (upd H a o) := .updM h mutb_lst ha
theorem Ext.laid {ρ : List Addr} {H : Hp} {a : Addr} {o : HO} (h : H a = none) : Ext ρ H ρ (L2.upd H a o) := by
  refine ⟨⟨[], by simp, by simp⟩, fun b ys e => ?_, fun b q u e => ?_, fun b u e n _ => ?_, fun b e => ?_⟩
  · rw [upd_ne (ne_of_none e h)]
    exact e
  · rw [upd_ne (ne_of_none e h)]
    exact e
  · rw [upd_ne (ne_of_none e h)]
    exact e
  · by_cases q : b = a
    · subst q; exact h
    · rwa [upd_ne q] at e
theorem EntR.ext {K : PySem.W.Frag} {G : Gs} {ρ ρ' : List Addr} {H H' : Hp} (e : Ext ρ H ρ' H') {p : D × D} {x : DK.Ent} (h : EntR K G ρ H p x) : EntR K G ρ' H' p x :=
  let ⟨a, b, vk, vv, r1, r2, r3, r4⟩ := h
  ⟨a, b, vk, vv, r1, r2, RV.ext e _ _ r3, RV.ext e _ _ r4⟩
theorem EntsR.map {K : PySem.W.Frag} {G : Gs} {ρ ρ' : List Addr} {H H' : Hp} (f : ∀ d v, RV K G ρ H d v → RV K G ρ' H' d v) : ∀ {l : List (D × D)} {xs : List DK.Ent}, EntsR K G ρ H l xs → EntsR K G ρ' H' l xs
  | [], _, h => h
  | _ :: _, _, ⟨x, r, e, ⟨a, b, vk, vv, r1, r2, r3, r4⟩, t⟩ => ⟨x, r, e, ⟨a, b, vk, vv, r1, r2, f _ _ r3, f _ _ r4⟩, t.map f⟩
theorem EntsR.ext {K : PySem.W.Frag} {G : Gs} {ρ ρ' : List Addr} {H H' : Hp} (e : Ext ρ H ρ' H') {l : List (D × D)} {xs : List DK.Ent} (h : EntsR K G ρ H l xs) : EntsR K G ρ' H' l xs := h.map fun d v => RV.ext e d v
theorem RO.at {K : PySem.W.Frag} {G : Gs} {ρ : List Addr} {H : Hp} {a : Addr} {o : MO} (h : RO K G ρ H a o) : ∃ u, H a = some u ∧ ((∃ xs, u = .lst xs) ∨ (∃ ob xs, u = .frz ob (.lst xs)) ∨ (∃ φ, u = .ext φ) ∨ ∃ C dx fs, u = .ins C dx fs) := by
  cases o with
  | lst l => obtain ⟨xs, e, _⟩ := h; exact ⟨_, e, .inl ⟨xs, rfl⟩⟩
  | frz l =>
    obtain ⟨xs, e | ⟨ob, e⟩, _⟩ := h
    · exact ⟨_, e, .inl ⟨xs, rfl⟩⟩
    · exact ⟨_, e, .inr (.inl ⟨ob, xs, rfl⟩)⟩
  | dct kvs ep => obtain ⟨xs, h⟩ := h; exact ⟨_, h.raw, .inr (.inr (.inl ⟨_, rfl⟩))⟩
  | ins c fs => obtain ⟨dx, vs, h⟩ := h; exact ⟨_, h.ob, .inr (.inr (.inr ⟨_, _, _, rfl⟩))⟩
theorem RO.ext {K : PySem.W.Frag} {G : Gs} {ρ ρ' : List Addr} {H H' : Hp} {a : Addr} {o : MO} (h : RO K G ρ H a o) (e : Ext ρ H ρ' H') (k : H' a = H a) : RO K G ρ' H' a o := by
  cases o with
  | lst l => obtain ⟨xs, q, r⟩ := h; exact ⟨xs, k.trans q, r.ext e⟩
  | frz l => obtain ⟨xs, q, r⟩ := h; exact ⟨xs, q.at k, r.ext e⟩
  | dct kvs ep => obtain ⟨xs, h⟩ := h; exact ⟨xs, k.trans h.raw, h.sm, h.nd, h.sz, h.es.ext e⟩
  | ins c fs => obtain ⟨dx, vs, h⟩ := h; exact ⟨dx, vs, k.trans h.ob, e.side _ _ h.own h.out (fun _ z => (nomatch z)), e.notin h.own h.out, h.vs.ext e⟩
theorem RO.more {K : PySem.W.Frag} {G : Gs} {ρ ρ' : List Addr} {H : Hp} {a : Addr} {o : MO} (h : RO K G ρ H a o) (e : ∀ {n : Nat} {b : Addr}, ρ[n]? = some b → ρ'[n]? = some b) (n : ∀ b y, H b = some (.own y) → b ∉ ρ → b ∉ ρ') : RO K G ρ' H a o := by
  cases o with
  | lst l => obtain ⟨xs, q, r⟩ := h; exact ⟨xs, q, RVs.more e _ _ r⟩
  | frz l => obtain ⟨xs, q, r⟩ := h; exact ⟨xs, q, RVs.more e _ _ r⟩
  | dct kvs ep => obtain ⟨xs, h⟩ := h; exact ⟨xs, h.raw, h.sm, h.nd, h.sz, h.es.map fun d v => RV.more e d v⟩
  | ins c fs => obtain ⟨dx, vs, h⟩ := h; exact ⟨dx, vs, h.ob, h.own, n _ _ h.own h.out, RVs.more e _ _ h.vs⟩
theorem Rep.lst {K : PySem.W.Frag} {G : Gs} {ρ : List Addr} {hh : Hh} {H : Hp} (rep : Rep K G ρ hh H) {n : Nat} {l : List D} (h : hh[n]? = some (.lst l)) : ∃ a xs, ρ[n]? = some a ∧ H a = some (.lst xs) ∧ RVs K G ρ H l xs := by
  obtain ⟨a, e, xs, q, r⟩ := rep.ob n _ h
  exact ⟨a, xs, e, q, r⟩
/-- a list object is stored into -/
theorem Rep.set {K : PySem.W.Frag} {G : Gs} {ρ : List Addr} {hh : Hh} {H : Hp} (rep : Rep K G ρ hh H) {n : Nat} {a : Addr} {l l' : List D} {xs ys : List V} (hn : hh[n]? = some (.lst l)) (ha : ρ[n]? = some a) (hx : H a = some (.lst xs)) (hy : RVs K G ρ H l' ys) :
    Rep K G ρ (hh.set n (.lst l')) (upd H a (.lst ys)) ∧ Ext ρ H ρ (upd H a (.lst ys)) := by
  have e : Ext ρ H ρ (L2.upd H a (.lst ys)) := Ext.upd hx (List.mem_of_getElem? ha)
  refine ⟨⟨by rw [List.length_set]; exact rep.len, rep.nd, fun m o hm => ?_, fun P hP => ?_⟩, e⟩
  · by_cases hmn : n = m
    · subst hmn
      rw [List.getElem?_set_self (List.getElem?_eq_some_iff.mp hn).1] at hm
      cases hm
      exact ⟨a, ha, ys, upd_same, hy.ext e⟩
    · rw [List.getElem?_set_ne hmn] at hm
      obtain ⟨b, e1, e2⟩ := rep.ob m o hm
      have nb : b ≠ a := by rintro rfl; exact hmn (nodup_at rep.nd ha e1)
      exact ⟨b, e1, e2.ext e (upd_ne nb)⟩
  · obtain ⟨ps, e1, e2⟩ := rep.tb P hP
    refine ⟨ps, ?_, e2⟩
    rw [upd_ne]
    · exact e1
    · rintro rfl; rw [hx] at e1; cases e1
/-- any counted object changes -/
theorem Rep.setM {K : PySem.W.Frag} {G : Gs} {ρ : List Addr} {hh : Hh} {H : Hp} (rep : Rep K G ρ hh H) {n : Nat} {a : Addr} {mo mo' : MO} {u o' : HO} (hn : hh[n]? = some mo) (ha : ρ[n]? = some a) (hx : H a = some u) (m : Mutb u) (nt : ∀ ps, u ≠ .tbl ps)
    (ho : Ext ρ H ρ (upd H a o') → RO K G ρ (upd H a o') a mo') : Rep K G ρ (hh.set n mo') (upd H a o') ∧ Ext ρ H ρ (upd H a o') := by
  have e : Ext ρ H ρ (L2.upd H a o') := Ext.updM hx m (List.mem_of_getElem? ha)
  refine ⟨⟨by rw [List.length_set]; exact rep.len, rep.nd, fun k o hm => ?_, fun P hP => ?_⟩, e⟩
  · by_cases hmn : n = k
    · subst hmn
      rw [List.getElem?_set_self (List.getElem?_eq_some_iff.mp hn).1] at hm
      cases hm
      exact ⟨a, ha, ho e⟩
    · rw [List.getElem?_set_ne hmn] at hm
      obtain ⟨b, e1, e2⟩ := rep.ob k o hm
      have nb : b ≠ a := by rintro rfl; exact hmn (nodup_at rep.nd ha e1)
      exact ⟨b, e1, e2.ext e (upd_ne nb)⟩
  · obtain ⟨ps, e1, e2⟩ := rep.tb P hP
    refine ⟨ps, ?_, e2⟩
    rw [upd_ne]
    · exact e1
    · rintro rfl; rw [hx] at e1; cases e1; exact nt _ rfl
/-- an object that stands at a and isn't counted yet is counted -/
theorem Rep.countM {K : PySem.W.Frag} {G : Gs} {ρ : List Addr} {hh : Hh} {H : Hp} (rep : Rep K G ρ hh H) {a : Addr} {mo : MO} {u : HO} (h : H a = some u) (no : ∀ y, u ≠ .own y) (ha : a ∉ ρ) (hx : RO K G (ρ ++ [a]) H a mo) :
    Rep K G (ρ ++ [a]) (hh ++ [mo]) H := by
  have get : ∀ {n : Nat} {b : Addr}, ρ[n]? = some b → (ρ ++ [a])[n]? = some b := fun {n b} h => by
    rw [List.getElem?_append_left (List.getElem?_eq_some_iff.mp h).1]; exact h
  refine ⟨by simp [rep.len], ?_, fun m ob hm => ?_, rep.tb⟩
  · exact List.nodup_append.mpr ⟨rep.nd, by simp, fun x hx y hy z => ha (by simp at hy; rw [← hy, ← z]; exact hx)⟩
  · by_cases hl : m < hh.length
    · rw [List.getElem?_append_left hl] at hm
      obtain ⟨b, e1, e2⟩ := rep.ob m ob hm
      exact ⟨b, get e1, e2.more get fun c y hc nc hm => (List.mem_append.mp hm).elim nc fun hm => by simp at hm; subst hm; rw [h] at hc; cases hc; exact no _ rfl⟩
    · rw [List.getElem?_append_right (by omega)] at hm
      have : m - hh.length = 0 := by
        have := (List.getElem?_eq_some_iff.mp hm).1
        simp at this
        omega
      rw [this] at hm
      cases hm
      refine ⟨a, ?_, hx⟩
      rw [List.getElem?_append_right (by rw [rep.len]; omega), rep.len, this]
      rfl
/-- a new object that is not counted (a tuple, a list that is used up) -/
theorem Rep.side {K : PySem.W.Frag} {G : Gs} {ρ : List Addr} {hh : Hh} {H : Hp} (rep : Rep K G ρ hh H) {a : Addr} {o : HO} (h : H a = none) : Rep K G ρ hh (upd H a o) := by
  have e : Ext ρ H ρ (L2.upd H a o) := Ext.laid h
  refine ⟨rep.len, rep.nd, fun m ob hm => ?_, fun P hP => ?_⟩
  · obtain ⟨b, e1, e2⟩ := rep.ob m ob hm
    obtain ⟨u, hu, _⟩ := e2.at
    exact ⟨b, e1, e2.ext e (upd_ne (ne_of_none hu h))⟩
  · obtain ⟨ps, e1, e2⟩ := rep.tb P hP
    exact ⟨ps, by rw [upd_ne (ne_of_none e1 h)]; exact e1, e2⟩
/-- a list that stands at a and isn't counted yet is counted -/
theorem Rep.count {K : PySem.W.Frag} {G : Gs} {ρ : List Addr} {hh : Hh} {H : Hp} (rep : Rep K G ρ hh H) {a : Addr} {l : List D} {xs : List V} (h : H a = some (.lst xs)) (ha : a ∉ ρ) (hx : RVs K G ρ H l xs) :
    Rep K G (ρ ++ [a]) (hh ++ [.lst l]) H := by
  have get : ∀ {n : Nat} {b : Addr}, ρ[n]? = some b → (ρ ++ [a])[n]? = some b := fun {n b} h => by
    rw [List.getElem?_append_left (List.getElem?_eq_some_iff.mp h).1]; exact h
  have get' : ∀ {H : Hp} (d : D) (v : V), RV K G ρ H d v → RV K G (ρ ++ [a]) H d v := fun {H} d v h => RV.more get d v h
  refine ⟨by simp [rep.len], ?_, fun m ob hm => ?_, rep.tb⟩
  · exact List.nodup_append.mpr ⟨rep.nd, by simp, fun x hx y hy z => ha (by simp at hy; rw [← hy, ← z]; exact hx)⟩
  · by_cases hl : m < hh.length
    · rw [List.getElem?_append_left hl] at hm
      obtain ⟨b, e1, e2⟩ := rep.ob m ob hm
      exact ⟨b, get e1, e2.more get fun c y hc nc hm => (List.mem_append.mp hm).elim nc fun hm => by simp at hm; subst hm; rw [h] at hc; cases hc⟩
    · rw [List.getElem?_append_right (by omega)] at hm
      have : m - hh.length = 0 := by
        have := (List.getElem?_eq_some_iff.mp hm).1
        simp at this
        omega
      rw [this] at hm
      cases hm
      refine ⟨a, ?_, xs, h, RVs.more get _ _ hx⟩
      rw [List.getElem?_append_right (by rw [rep.len]; omega), rep.len, this]
      rfl
theorem Rep.notin {K : PySem.W.Frag} {G : Gs} {ρ : List Addr} {hh : Hh} {H : Hp} (rep : Rep K G ρ hh H) {a : Addr} (h : H a = none) : a ∉ ρ := fun hm => by
  obtain ⟨i, hi, e⟩ := List.getElem_of_mem hm
  have hl : i < hh.length := by rw [← rep.len]; exact hi
  obtain ⟨b, e1, e2⟩ := rep.ob i _ (List.getElem?_eq_getElem hl)
  rw [List.getElem?_eq_getElem hi] at e1
  obtain ⟨u, hu, _⟩ := e2.at
  cases e1
  rw [e, h] at hu
  cases hu

/-- the slots -/
structure RE (K : PySem.W.Frag) (G : Gs) (ρ : List Addr) (H : Hp) (env : Env) (σ : L2.St) : Prop where
  len : env.length = σ.length
  at' : ∀ (i : Nat) (d : D), env[i]? = some (some d) → ∃ v, σ[i]? = some (some v) ∧ RV K G ρ H d v
theorem RE.ext {K : PySem.W.Frag} {G : Gs} {ρ ρ' : List Addr} {H H' : Hp} {env : Env} {σ : L2.St} (r : RE K G ρ H env σ) (e : Ext ρ H ρ' H') : RE K G ρ' H' env σ :=
  ⟨r.len, fun i d h => let ⟨v, e1, e2⟩ := r.at' i d h; ⟨v, e1, RV.ext e d v e2⟩⟩
theorem RE.set {K : PySem.W.Frag} {G : Gs} {ρ : List Addr} {H : Hp} {env : Env} {σ : L2.St} (r : RE K G ρ H env σ) (i : Nat) {d : D} {v : V} (h : RV K G ρ H d v) : RE K G ρ H (env.set i (some d)) (σ.set i (some v)) := by
  refine ⟨by rw [List.length_set, List.length_set]; exact r.len, fun j d' hj => ?_⟩
  by_cases e : i = j
  · subst e
    have hi : i < env.length := by
      have := (List.getElem?_eq_some_iff.mp hj).1
      rwa [List.length_set] at this
    rw [List.getElem?_set_self hi] at hj
    cases hj
    exact ⟨v, by rw [List.getElem?_set_self (by rw [← r.len]; exact hi)], h⟩
  · rw [List.getElem?_set_ne e] at hj
    obtain ⟨u, e1, e2⟩ := r.at' j d' hj
    exact ⟨u, by rw [List.getElem?_set_ne e]; exact e1, e2⟩
end DL

set_option Elab.async false
set_option linter.all false
set_option maxRecDepth 100000
set_option maxHeartbeats 4000000
/-! DL2: judgements over data: expressions, arguments, fresh lists, sequences, tests; their rules. -/
namespace DL
open PySem PySem.Spec PyProof.Rows L2

abbrev EΦ := Env → Hh → R D
abbrev LΦ := Env → Hh → R (List D)
abbrev TΦ := Env → Hh → R Bool

/-- an exception as it lies: its class, its own dict -/
def XR (K : PySem.W.Frag) (G : Gs) (ρ : List Addr) (H : Hp) (x : Ex) (cls : Value) (dx : Option Addr) : Prop :=
  cls = .ref (G.clA x.c) ∧ match dx with
    | none => x.fs = []
    | some d => ∃ vs, RVs K G ρ H (x.fs.map (·.2)) vs ∧ H d = some (.xd ((x.fs.map (·.1)).zip vs))

/-- what a result gives: its value's meaning to Q, an exception to W -/
def Sat (K : PySem.W.Frag) (G : Gs) (W : WX) {α β : Type} (rep : Hp → List Addr → Hp → α → β → Prop) (ρ : List Addr) (H : Hp) (σ : L2.St) (Q : β → Hp → Prop) (r : R α) : Prop :=
  r.sat (fun a hh' => ∀ b H' ρ', Ext ρ H ρ' H' → Rep K G ρ' hh' H' → rep H ρ' H' a b → Q b H')
    (fun x hh' => ∀ cls dx H' ρ', Ext ρ H ρ' H' → Rep K G ρ' hh' H' → XR K G ρ' H' x cls dx → W cls dx σ H')
/-- the reading of a function of the slots and the heap -/
def tG (K : PySem.W.Frag) (G : Gs) (W : WX) {α β : Type} (rep : Hp → List Addr → Hp → α → β → Prop) (φ : Env → Hh → R α) : L2.St → Hp → (β → Hp → Prop) → Prop := fun σ H Q =>
  ∃ ρ hh env, Rep K G ρ hh H ∧ RE K G ρ H env σ ∧ Sat K G W rep ρ H σ Q (φ env hh)

section
variable {K : PySem.W.Frag} {G : Gs} {W : WX} {α β γ δ : Type} {rep1 : Hp → List Addr → Hp → α → β → Prop} {rep2 : Hp → List Addr → Hp → γ → δ → Prop} {ρ : List Addr} {hh : Hh} {H : Hp} {σ : L2.St} {env : Env}
/-- rep is kept backwards from a later start -/
def Later {α β : Type} (rep : Hp → List Addr → Hp → α → β → Prop) : Prop := ∀ ρ H ρ1 H1 ρ' H' a b, Ext ρ H ρ1 H1 → Ext ρ1 H1 ρ' H' → rep H1 ρ' H' a b → rep H ρ' H' a b
theorem Sat.later {Q : δ → Hp → Prop} {r : R γ} {ρ1 : List Addr} {H1 : Hp} (l : Later rep2) (e : Ext ρ H ρ1 H1) (h : Sat K G W rep2 ρ H σ Q r) : Sat K G W rep2 ρ1 H1 σ Q r :=
  R.sat_mono h (fun a hh' q b H' ρ' e' rp rb => q b H' ρ' (e.trans e') rp (l _ _ _ _ _ _ _ _ e e' rb)) fun x hh' q cls dx H' ρ' e' rp xr => q cls dx H' ρ' (e.trans e') rp xr
theorem Sat.mk {Q : δ → Hp → Prop} {a : γ} {b : δ} {hh' : Hh} {ρ' : List Addr} {H' : Hp} (h : Sat K G W rep2 ρ H σ Q (.ok a hh')) (e : Ext ρ H ρ' H') (rp : Rep K G ρ' hh' H') (rb : rep2 H ρ' H' a b) : Q b H' := h b H' ρ' e rp rb
theorem Sat.fits {Q : δ → Hp → Prop} {n : Nat} {r : R γ} (h : Sat K G W rep2 ρ H σ Q (DL.fits n r)) : n < sizeLine ∧ Sat K G W rep2 ρ H σ Q r := fits_sat h
/-- one function after another -/
theorem tG.seq {φ : Env → Hh → R α} {k : α → Hh → R γ} {Q : δ → Hp → Prop} {rest : β → Hp → Prop} (l : Later rep2) (rp : Rep K G ρ hh H) (re : RE K G ρ H env σ) (sat : Sat K G W rep2 ρ H σ Q ((φ env hh).bind k))
    (step : ∀ a b ρ1 hh1 H1, Ext ρ H ρ1 H1 → Rep K G ρ1 hh1 H1 → RE K G ρ1 H1 env σ → rep1 H ρ1 H1 a b → Sat K G W rep2 ρ1 H1 σ Q (k a hh1) → rest b H1) : tG K G W rep1 φ σ H rest := by
  refine ⟨ρ, hh, env, rp, re, ?_⟩
  refine R.sat_mono (R.sat_bind sat) (fun a hh1 q b H1 ρ1 e rp1 rb => ?_) fun x hh' q => q
  exact step a b ρ1 hh1 H1 e rp1 (re.ext e) rb (Sat.later l e q)
theorem tG.one {φ : Env → Hh → R γ} {Q : δ → Hp → Prop} (rp : Rep K G ρ hh H) (re : RE K G ρ H env σ) (sat : Sat K G W rep2 ρ H σ Q (φ env hh)) : tG K G W rep2 φ σ H Q := ⟨ρ, hh, env, rp, re, sat⟩
end

def rV (K : PySem.W.Frag) (G : Gs) : Hp → List Addr → Hp → D → V → Prop := fun _ ρ H d v => RV K G ρ H d v
def rVs (K : PySem.W.Frag) (G : Gs) : Hp → List Addr → Hp → List D → List V → Prop := fun _ ρ H d v => RVs K G ρ H d v
/-- a list that was made on the way and that nobody else knows -/
def rL (K : PySem.W.Frag) (G : Gs) : Hp → List Addr → Hp → List D → V → Prop := fun H0 ρ H l v => ∃ a xs, v = .ref a ∧ H a = some (.lst xs) ∧ H0 a = none ∧ a ∉ ρ ∧ RVs K G ρ H l xs
/-- a list that can be read -/
def rR (K : PySem.W.Frag) (G : Gs) : Hp → List Addr → Hp → List D → V → Prop := fun _ ρ H l v => ∃ a xs, v = .ref a ∧ SqL K H a xs ∧ RVs K G ρ H l xs
/-- a list or a tuple that can be read -/
def rQ (K : PySem.W.Frag) (G : Gs) : Hp → List Addr → Hp → List D → V → Prop := fun _ ρ H l v => ∃ a xs, v = .ref a ∧ (SqL K H a xs ∨ SqT K H a xs) ∧ RVs K G ρ H l xs
def rB : Hp → List Addr → Hp → Bool → Bool → Prop := fun _ _ _ a b => a = b
theorem later_V {K : PySem.W.Frag} {G : Gs} : Later (rV K G) := fun _ _ _ _ _ _ _ _ _ _ h => h
theorem later_Vs {K : PySem.W.Frag} {G : Gs} : Later (rVs K G) := fun _ _ _ _ _ _ _ _ _ _ h => h
theorem later_R {K : PySem.W.Frag} {G : Gs} : Later (rR K G) := fun _ _ _ _ _ _ _ _ _ _ h => h
theorem later_Q {K : PySem.W.Frag} {G : Gs} : Later (rQ K G) := fun _ _ _ _ _ _ _ _ _ _ h => h
theorem later_B : Later rB := fun _ _ _ _ _ _ _ _ _ _ h => h
theorem later_L {K : PySem.W.Frag} {G : Gs} : Later (rL K G) := fun ρ H ρ1 H1 ρ' H' a b e e' ⟨p, xs, h1, h2, h3, h4, h5⟩ => ⟨p, xs, h1, h2, e.dom p h3, h4, h5⟩

section
variable (X : Cx) (G : Gs) (W : WX)
structure SE (e : Expr) (φ : EΦ) : Prop where
  pe : PE X e (tG X.K G W (rV X.K G) φ)
structure SA (es : List Expr) (φ : LΦ) : Prop where
  pa : PA X es (tG X.K G W (rVs X.K G) φ)
structure SL (e : Expr) (φ : LΦ) : Prop where
  pe : PE X e (tG X.K G W (rL X.K G) φ)
structure SR (e : Expr) (φ : LΦ) : Prop where
  pe : PE X e (tG X.K G W (rR X.K G) φ)
structure SQ (e : Expr) (φ : LΦ) : Prop where
  pe : PE X e (tG X.K G W (rQ X.K G) φ)
structure ST (e : Expr) (φ : TΦ) : Prop where
  pt : PT X e (tG X.K G W rB φ)
end

theorem PE.weak {X : Cx} {e : Expr} {t t' : TE} (h : PE X e t) (w : ∀ σ H Q, t' σ H Q → t σ H Q) : PE X e t' := ⟨fun pins s σ H Q I q => h.run pins s σ H Q I (w σ H Q q)⟩
theorem PT.weak {X : Cx} {e : Expr} {t t' : TT} (h : PT X e t) (w : ∀ σ H Q, t' σ H Q → t σ H Q) : PT X e t' := ⟨fun pins s σ H Q I q => h.run pins s σ H Q I (w σ H Q q)⟩
theorem PA.weak {X : Cx} {es : List Expr} {t t' : TA} (h : PA X es t) (w : ∀ σ H Q, t' σ H Q → t σ H Q) : PA X es t' := ⟨fun pos pins s σ H Q I q => h.run pos pins s σ H Q I (w σ H Q q)⟩

/-! ### tuples are locked when they are made -/
theorem tupF {P : Program} {w : World} {H : Hp} {h : Heap} {p : Addr} {its : List Value} {xs : List V} (e : h.get? p = some { cls := .type "tuple", data := .seq its.toArray }) (r : Vals xs its) (z : xs.length ≤ sizeLine) :
    ObjOk P w H h p (.frz { cls := .type "tuple", data := .seq its.toArray } (.tup xs)) := ⟨e, z, its, r, ⟨_, e, rfl, _, rfl⟩⟩
/-- what is wanted of a new tuple -/
def NewT (H : Hp) (xs : List V) (Q : VK) : Prop := ∀ p o, H p = none → o.dict = none → Q (.ref p) (upd H p (.frz o (.tup xs)))
def tTupF (t : TA) : TE := fun σ H Q => t σ H fun xs H1 => xs.length ≤ sizeLine ∧ NewT H1 xs Q
theorem pe_tupF {X : Cx} {es : List Expr} {t : TA} {pos : Pos} {x1} (h : PA X es t) : PE X (.Tuple es x1 pos) (tTupF t) := by
  refine ⟨fun pins s σ H Q I hq => ?_⟩
  refine wpAny_Tuple_spliced (thn (h.run pos pins s σ H _ I hq) fun us s1 ⟨xs, H1, I1, r, z, q⟩ => ⟨by rw [← r.length]; exact z, ?_⟩)
  have hf : H1 s1.heap.objs.size = none := I1.hok.fresh (Nat.le_refl _)
  exact ⟨.ref s1.heap.objs.size, _, I1.laid (t' := s1.toks) (fun b u e => Heap.get?_push_of_some _ e) (Nat.le_refl _) (tupF (Heap.get?_push_size _ rfl) r z), rfl, q _ _ hf rfl⟩
/-- t + u -/
def rCatF (K : PySem.W.Frag) : R2 := fun x y H Q => ∃ a b xs ys, x = .ref a ∧ y = .ref b ∧ SqT K H a xs ∧ SqT K H b ys ∧ xs.length + ys.length ≤ sizeLine ∧
  (xs = [] → Q (.ref b) H) ∧ (xs ≠ [] → ys = [] → Q (.ref a) H) ∧ (xs ≠ [] → ys ≠ [] → NewT H (xs ++ ys) Q)
theorem op_catF {X : Cx} : OpR X (binaryOp .Add) (rCatF X.K) := by
  intro pins s σ H x y v u Q I rx ry h
  obtain ⟨a, b, xs, ys, rfl, rfl, ha, hb, hz, q0, q1, q2⟩ := h
  cases rx
  cases ry
  obtain ⟨its, r1, p1, _⟩ := I.tuple ha
  obtain ⟨its2, r2, p2, _⟩ := I.tuple hb
  by_cases hx : xs = []
  · subst hx
    cases r1
    exact cat_tup0 p1 p2 ⟨.ref b, H, I, rfl, q0 rfl⟩
  · refine HT.cat_tup p1 p2 (fun z => hx (r1.nil_iff.mp z)) (fun z => ⟨.ref a, H, I, rfl, q1 hx (r2.nil_iff.mp z)⟩) (fun z => ?_) (by rw [← r1.length, ← r2.length]; exact hz)
    exact ⟨.ref s.heap.objs.size, _, I.laid (t' := s.toks) (fun b ob q => Heap.get?_push_of_some _ q) (Nat.le_refl _) (tupF (Heap.get?_push_size _ rfl) (r1.append r2) (by rw [List.length_append]; exact hz)), rfl, q2 hx (fun w => z (r2.nil_iff.mpr w)) _ _ (I.hok.fresh (Nat.le_refl _)) rfl⟩
/-- t[lo:hi]: the whole of it is t itself -/
def rSlF (K : PySem.W.Frag) : V → Option Int → Option Int → Hp → VK → Prop := fun x lo hi H Q => ∃ a xs, x = .ref a ∧ SqT K H a xs ∧
  (HT.sIx xs.length 0 lo = 0 ∧ HT.sIx xs.length xs.length hi = xs.length → Q (.ref a) H) ∧ (¬ (HT.sIx xs.length 0 lo = 0 ∧ HT.sIx xs.length xs.length hi = xs.length) → NewT H (cutV xs lo hi) Q)
theorem sl_tupF {X : Cx} : SlR X (rSlF X.K) := by
  intro pins s σ H x v vl vu lo hi sl Q I rx hs pl pu h
  obtain ⟨a, xs, rfl, hx, q1, q2⟩ := h
  cases rx
  obtain ⟨its, r, ht, hz⟩ := I.tuple hx
  have hlen : its.toArray.size = xs.length := by rw [List.size_toArray]; exact r.length.symm
  refine ⟨"tuple", _, PyProof.Rows.slot_tuple_getitem.lookup, ht.typeIs, ?_⟩
  by_cases hw : HT.sIx xs.length 0 lo = 0 ∧ HT.sIx xs.length xs.length hi = xs.length
  · exact getItem_tuple_whole ht hs pl pu (by rw [hlen]; exact hw) ⟨.ref a, H, I, rfl, q1 hw⟩
  · refine HT.getItem_tuple_cut ht hs pl pu (by rw [hlen]; exact hw) ?_ (by rw [hlen]; exact hz)
    rw [hlen]
    exact ⟨.ref s.heap.objs.size, _, I.laid (t' := s.toks) (fun b ob q => Heap.get?_push_of_some _ q) (Nat.le_refl _) (tupF (Heap.get?_push_size _ rfl) ((r.drop (HT.sIx xs.length 0 lo)).take (HT.sIx xs.length xs.length hi - HT.sIx xs.length 0 lo)) (Nat.le_trans (cutV_length xs lo hi) hz)), rfl, q2 hw _ _ (I.hok.fresh (Nat.le_refl _)) rfl⟩
/-- tuple(l), tuple(t) -/
theorem call_tupleF {X : Cx} : CallR X (.type "tuple") (fun xs H Q => ∃ p ys, xs = [.ref p] ∧ ((SqL X.K H p ys ∧ NewT H ys Q) ∨ (SqT X.K H p ys ∧ Q (.ref p) H))) := by
  intro pins s σ H xs us Q I r h
  obtain ⟨p, ys, rfl, h⟩ := h
  obtain ⟨u, rfl, ru⟩ := vals1 r
  obtain rfl : u = .ref p := ru
  rcases h with ⟨hs, q⟩ | ⟨hs, q⟩
  · obtain ⟨its, rv, pl, hz⟩ := I.list hs
    refine call_tuple_list pl.isList (fun h' hk => ?_) (by rw [List.size_toArray, ← rv.length]; exact hz)
    have I1 : Inv X pins σ H { s with heap := h' } := I.kept (t' := s.toks) hk
    exact ⟨.ref h'.objs.size, _, I1.laid (t' := s.toks) (fun b o e => Heap.get?_push_of_some _ e) (Nat.le_refl _) (tupF (Heap.get?_push_size _ rfl) rv hz), rfl, q _ _ (I1.hok.fresh (Nat.le_refl _)) rfl⟩
  · obtain ⟨its, rv, pl, hz⟩ := I.tuple hs
    exact call_tuple_tup pl ⟨.ref p, H, I, rfl, q⟩
/-- tuple(range(..)) -/
def tTupRgF (te : L2.St → Hp → (Int → Int → Hp → Prop) → Prop) : TE := fun σ H Q => te σ H fun a b H1 => RgOk a b ∧ NewT H1 (rgV a b) Q
theorem pe_tupRgF {X : Cx} {e : Expr} {te : L2.St → Hp → (Int → Int → Hp → Prop) → Prop} {p pos : Pos} (hc : X.calm = true) (hg : Gl X "tuple") (hm : X.mg "tuple" = none) (he : PRg X e te) (na : starEach [e] X.env = (false, eval e X.env) :: starEach [] X.env := by rfl) : PE X (.Call (.Name "tuple" p) [e] [] pos) (tTupRgF te) := by
  refine ⟨fun pins s σ H Q I h => ?_⟩
  refine Call_ (ld_blt I hg hm boot_tuple (PyProof.Rows.callWith_type1 (args_cons (thn (he pins s σ H _ I h) fun x s1 ⟨r, a, b, t, u, v, H1, ex, hr, I1, ok, q⟩ => args_nil ?_) na) na))
  subst ex
  obtain ⟨b1, b2, b3, b4, b5⟩ := ok
  refine call_tuple_range (n := (b - a).toNat) (I1.ok.hd hc) hr (small_one b1 b2 b3 b4) (rangeSize_nat a b) b5 fun h' tk acc hk hi => ?_
  have I2 : Inv X pins σ H1 { s1 with heap := h', toks := tk } := I1.kept hk
  refine ⟨.ref h'.objs.size, _, I2.laid (t' := tk) (fun c o e => Heap.get?_push_of_some _ e) (Nat.le_refl _) (tupF (its := acc.toList) (Heap.get?_push_size _ rfl) (vals_rg hi) (by rw [rgV_length, sizeLine_eq]; omega)), rfl, q _ _ (I2.hok.fresh (Nat.le_refl _)) rfl⟩

/-! ### the functions -/
def E.var (i : Nat) : EΦ := fun env h => match env[i]? with
  | some (some d) => .ok d h
  | _ => .bad
def E.con (d : D) : EΦ := fun _ h => .ok d h
def L.nil : LΦ := fun _ h => .ok [] h
def L.cons (a : EΦ) (b : LΦ) : LΦ := fun env h => (a env h).bind fun x h => (b env h).bind fun xs h => .ok (x :: xs) h
def E.tup (a : LΦ) : EΦ := fun env h => (a env h).bind fun l h => fits l.length (.ok (.tup l) h)
def L.disp (a : LΦ) : LΦ := fun env h => (a env h).bind fun l h => fits l.length (.ok l h)
/-- a fresh list becomes an object -/
def E.ofL (a : LΦ) : EΦ := fun env h => (a env h).bind fun l h => .ok (.ref h.length) (h ++ [.lst l])
def rdL (h : Hh) : D → R (List D)
  | .ref n => match h[n]? with
    | some (.lst l) => .ok l h
    | some (.frz l) => .ok l h
    | _ => .bad
  | _ => .bad
def rdQ (h : Hh) : D → R (List D)
  | .tup l => .ok l h
  | d => rdL h d
def R.of (a : EΦ) : LΦ := fun env h => (a env h).bind fun d h => rdL h d
def Q.of (a : EΦ) : LΦ := fun env h => (a env h).bind fun d h => rdQ h d
def E.op2 (f : D → D → Hh → R D) (a b : EΦ) : EΦ := fun env h => (a env h).bind fun x h => (b env h).bind fun y h => f x y h
def E.op1 (f : D → Hh → R D) (a : EΦ) : EΦ := fun env h => (a env h).bind fun x h => f x h
def E.ifx (t : TΦ) (a b : EΦ) : EΦ := fun env h => (t env h).bind fun c h => if c then a env h else b env h
def E.app (m : List D → Hh → R D) (a : LΦ) : EΦ := fun env h => (a env h).bind m
def truthD (h : Hh) : D → R Bool
  | .non => .ok false h
  | .bl b => .ok b h
  | .int i => .ok (i != 0) h
  | .str s => fits s.length (.ok (s.length != 0) h)
  | .tup l => .ok (!l.isEmpty) h
  | .ref n => (rdL h (.ref n)).bind fun l h => .ok (!l.isEmpty) h
  | .fn _ => .bad
def T.tru (a : EΦ) : TΦ := fun env h => (a env h).bind fun d h => truthD h d
def T.truQ (a : LΦ) : TΦ := fun env h => (a env h).bind fun l h => .ok (!l.isEmpty) h
def T.val (a : EΦ) : TΦ := fun env h => (a env h).bind fun d h => match d with
  | .bl b => .ok b h
  | _ => .bad
def T.and (a b : TΦ) : TΦ := fun env h => (a env h).bind fun c h => if c then b env h else .ok false h
def T.or (a b : TΦ) : TΦ := fun env h => (a env h).bind fun c h => if c then .ok true h else b env h
def T.not (a : TΦ) : TΦ := fun env h => (a env h).bind fun c h => .ok (!c) h
/-- a test as a value (its expression gives a bool) -/
def E.ofT (a : TΦ) : EΦ := fun env h => (a env h).bind fun c h => .ok (.bl c) h
def E.and (a b : EΦ) : EΦ := fun env h => (a env h).bind fun d h => match d with
  | .bl true => b env h
  | .bl false => .ok (.bl false) h
  | _ => .bad
def E.or (a b : EΦ) : EΦ := fun env h => (a env h).bind fun d h => match d with
  | .bl true => .ok (.bl true) h
  | .bl false => b env h
  | _ => .bad

section
variable {X : Cx} {G : Gs} {W : WX} {e a b c : Expr} {es : List Expr} {pos : Pos}

theorem SE.var {i : Nat} {x : Str} (hN : X.N[i]? = some x := by rfl) (hv : Vis X.env.scope x := by first | exact Or.inl rfl | exact Or.inr (Or.inl rfl) | exact Or.inr (Or.inr rfl)) (hd : (x == ("__debug__" : Str)) = false := by decide)
    (hcd : (x == ("__classdict__" : Str)) = false := by decide) : SE X G W (.Name x pos) (E.var i) := by
  refine ⟨PE.weak (pe_var hN hv hd hcd) ?_⟩
  rintro σ H Q ⟨ρ, hh, env, rp, re, sat⟩
  unfold E.var at sat
  split at sat
  · rename_i d hd
    obtain ⟨v, e1, e2⟩ := re.at' _ _ hd
    exact ⟨v, e1, sat.mk (Ext.refl _ _) rp e2⟩
  · exact sat.elim
theorem SE.ofC {v : V} {d : D} (h : PE X e (tC v)) (r : ∀ ρ H, RV X.K G ρ H d v) : SE X G W e (E.con d) := by
  refine ⟨PE.weak h ?_⟩
  rintro σ H Q ⟨ρ, hh, env, rp, re, sat⟩
  exact sat.mk (Ext.refl _ _) rp (r ρ H)
theorem SE.int {i : Int} {j : Nat} : SE X G W (.Constant (.int i) j pos) (E.con (.int i)) := .ofC pe_int fun _ _ => by simp only [RV]
theorem SE.bl {b : Bool} {j : Nat} : SE X G W (.Constant (.bool b) j pos) (E.con (.bl b)) := .ofC pe_bl fun _ _ => by simp only [RV]
theorem SE.non {j : Nat} : SE X G W (.Constant .none j pos) (E.con .non) := .ofC pe_non fun _ _ => by simp only [RV]
theorem SE.str {x : Str} {j : Nat} : SE X G W (.Constant (.str x) j pos) (E.con (.str x)) := .ofC pe_str fun _ _ => by simp only [RV]
/-- a name of the module -/
theorem SE.glob {x : Str} {v : V} {u : Value} {d : D} (hg : Gl X x) (hm : X.mg x = some u) (r : RelV v u) (rd : ∀ ρ H, RV X.K G ρ H d v) (hd : (x == ("__debug__" : Str)) = false := by decide) : SE X G W (.Name x pos) (E.con d) :=
  .ofC (pe_glob hg hm r hd) rd

/-- a new tuple -/
theorem newT {K : PySem.W.Frag} {ρ : List Addr} {hh : Hh} {H : Hp} {σ : L2.St} {Q : VK} {l : List D} {xs : List V} (rp : Rep K G ρ hh H) (sat : Sat K G W (rV K G) ρ H σ Q (.ok (.tup l) hh)) (rxs : RVs K G ρ H l xs) : NewT H xs Q := fun p o hp hd => by
  refine sat.mk (Ext.laid hp) (rp.side hp) ?_
  show RV K G ρ _ (.tup l) (.ref p)
  simp only [RV]
  exact ⟨p, xs, rfl, .inl ⟨o, upd_same, hd⟩, RVs.ext (Ext.laid hp) _ _ rxs⟩
theorem SA.nil : SA X G W [] L.nil := by
  refine ⟨PA.weak pa_nil ?_⟩
  rintro σ H Q ⟨ρ, hh, env, rp, re, sat⟩
  exact sat.mk (Ext.refl _ _) rp RVs.nil
theorem SA.cons {φ : EΦ} {ψ : LΦ} (ha : SE X G W e φ) (hr : SA X G W es ψ) (hs : starEach (e :: es) X.env = (false, eval e X.env) :: starEach es X.env := by rfl) : SA X G W (e :: es) (L.cons φ ψ) := by
  refine ⟨PA.weak (pa_cons ha.pe hr.pa hs) ?_⟩
  rintro σ H Q ⟨ρ, hh, env, rp, re, sat⟩
  refine tG.seq later_Vs rp re sat fun x v ρ1 hh1 H1 e1 rp1 re1 rx sat1 => ?_
  refine tG.seq later_Vs rp1 re1 sat1 fun xs vs ρ2 hh2 H2 e2 rp2 re2 rxs sat2 => ?_
  exact sat2.mk (Ext.refl _ _) rp2 (.cons (RV.ext e2 _ _ rx) rxs)
theorem SE.tup {φ : LΦ} {k : Nat} (h : SA X G W es φ) : SE X G W (.Tuple es k pos) (E.tup φ) := by
  refine ⟨PE.weak (pe_tupF h.pa) ?_⟩
  rintro σ H Q ⟨ρ, hh, env, rp, re, sat⟩
  refine tG.seq later_V rp re sat fun l xs ρ1 hh1 H1 e1 rp1 re1 rxs sat1 => ?_
  obtain ⟨hz, sat1⟩ := Sat.fits sat1
  have hl : xs.length = l.length := RVs.length rxs
  exact ⟨by rw [hl]; exact Nat.le_of_lt hz, newT rp1 sat1 rxs⟩
theorem SL.disp {φ : LΦ} (h : SA X G W es φ) : SL X G W (.List es pos) (L.disp φ) := by
  refine ⟨PE.weak (pe_lst h.pa) ?_⟩
  rintro σ H Q ⟨ρ, hh, env, rp, re, sat⟩
  refine tG.seq later_L rp re sat fun l xs ρ1 hh1 H1 e1 rp1 re1 rxs sat1 => ?_
  obtain ⟨hz, sat1⟩ := fits_sat sat1
  have hl : xs.length = l.length := RVs.length rxs
  refine ⟨by rw [hl]; exact Nat.le_of_lt hz, fun p hp => ?_⟩
  exact Sat.mk sat1 (Ext.laid hp) (rp1.side hp) ⟨p, xs, rfl, upd_same, hp, rp1.notin hp, RVs.ext (Ext.laid hp) _ _ rxs⟩
theorem SE.ofL {φ : LΦ} (h : SL X G W e φ) : SE X G W e (E.ofL φ) := by
  refine ⟨PE.weak h.pe ?_⟩
  rintro σ H Q ⟨ρ, hh, env, rp, re, sat⟩
  refine ⟨ρ, hh, env, rp, re, ?_⟩
  refine R.sat_mono (R.sat_bind sat) (fun l hh1 q v H1 ρ1 e1 rp1 rl => ?_) fun x hh' q => q
  obtain ⟨p, xs, rfl, hp, h0, hn, rxs⟩ := rl
  have get : ∀ {n : Nat} {b : Addr}, ρ1[n]? = some b → (ρ1 ++ [p])[n]? = some b := fun {n b} h => by
    rw [List.getElem?_append_left (List.getElem?_eq_some_iff.mp h).1]; exact h
  refine q (.ref p) H1 (ρ1 ++ [p]) ?_ (rp1.count hp hn rxs) ?_
  · obtain ⟨m, em, fm⟩ := e1.pre
    exact ⟨⟨m ++ [p], by rw [em, List.append_assoc], fun b hb => (List.mem_append.mp hb).elim (fm b) fun hb => by simp at hb; rw [hb]; exact h0⟩, e1.tups, e1.frzs, e1.side, e1.dom⟩
  · show RV X.K G (ρ1 ++ [p]) H1 (.ref hh1.length) (.ref p)
    simp only [RV]
    refine ⟨p, rfl, ?_⟩
    rw [List.getElem?_append_right (by rw [rp1.len]; exact Nat.le_refl _), rp1.len, Nat.sub_self]
    rfl
theorem rdL_ok {K : PySem.W.Frag} {ρ : List Addr} {hh : Hh} {H : Hp} {α β : Type} {d : D} {v : V} (rp : Rep K G ρ hh H) (r : RV K G ρ H d v) {P : List D → Hh → Prop} {E : Ex → Hh → Prop} (h : (rdL hh d).sat P E) :
    ∃ l a xs, v = .ref a ∧ SqL K H a xs ∧ RVs K G ρ H l xs ∧ P l hh := by
  unfold rdL at h
  split at h
  · rename_i n
    simp only [RV] at r
    obtain ⟨a, rfl, ha⟩ := r
    split at h
    · rename_i l hn
      obtain ⟨b, e1, xs, e2, e3⟩ := rp.ob _ _ hn
      rw [ha] at e1; cases e1
      exact ⟨l, a, xs, rfl, .inl (.inl e2), e3, h⟩
    · rename_i l hn
      obtain ⟨b, e1, xs, e2, e3⟩ := rp.ob _ _ hn
      rw [ha] at e1; cases e1
      exact ⟨l, a, xs, rfl, .inl e2, e3, h⟩
    · exact h.elim
  · exact h.elim
theorem rdQ_ok {K : PySem.W.Frag} {ρ : List Addr} {hh : Hh} {H : Hp} {d : D} {v : V} (rp : Rep K G ρ hh H) (r : RV K G ρ H d v) {P : List D → Hh → Prop} {E : Ex → Hh → Prop} (h : (rdQ hh d).sat P E) :
    ∃ l a xs, v = .ref a ∧ (SqL K H a xs ∨ SqT K H a xs) ∧ RVs K G ρ H l xs ∧ P l hh := by
  unfold rdQ at h
  split at h
  · rename_i l
    simp only [RV] at r
    obtain ⟨a, xs, rfl, e1, e2⟩ := r
    exact ⟨l, a, xs, rfl, .inr e1.sqT, e2, h⟩
  · obtain ⟨l, a, xs, h1, h2, h3, h4⟩ := rdL_ok (α := Unit) (β := Unit) rp r h
    exact ⟨l, a, xs, h1, .inl h2, h3, h4⟩
theorem SR.ofE {φ : EΦ} (h : SE X G W e φ) : SR X G W e (R.of φ) := by
  refine ⟨PE.weak h.pe ?_⟩
  rintro σ H Q ⟨ρ, hh, env, rp, re, sat⟩
  refine tG.seq later_R rp re sat fun d v ρ1 hh1 H1 e1 rp1 re1 rd sat1 => ?_
  obtain ⟨l, p, xs, rfl, h1, h2, h3⟩ := rdL_ok (α := Unit) (β := Unit) rp1 rd sat1
  exact h3 _ _ _ (Ext.refl _ _) rp1 ⟨p, xs, rfl, h1, h2⟩
theorem SQ.ofE {φ : EΦ} (h : SE X G W e φ) : SQ X G W e (Q.of φ) := by
  refine ⟨PE.weak h.pe ?_⟩
  rintro σ H Q ⟨ρ, hh, env, rp, re, sat⟩
  refine tG.seq later_Q rp re sat fun d v ρ1 hh1 H1 e1 rp1 re1 rd sat1 => ?_
  obtain ⟨l, p, xs, rfl, h1, h2, h3⟩ := rdQ_ok rp1 rd sat1
  exact h3 _ _ _ (Ext.refl _ _) rp1 ⟨p, xs, rfl, h1, h2⟩
theorem SR.ofL {φ : LΦ} (h : SL X G W e φ) : SR X G W e φ := by
  refine ⟨PE.weak h.pe ?_⟩
  rintro σ H Q ⟨ρ, hh, env, rp, re, sat⟩
  refine ⟨ρ, hh, env, rp, re, R.sat_mono sat (fun l hh1 q v H1 ρ1 e1 rp1 rl => ?_) fun x hh' q => q⟩
  obtain ⟨p, xs, rfl, hp, h0, hn, rxs⟩ := rl
  exact q _ _ _ e1 rp1 ⟨p, xs, rfl, .inl (.inl hp), rxs⟩
theorem SQ.ofR {φ : LΦ} (h : SR X G W e φ) : SQ X G W e φ := by
  refine ⟨PE.weak h.pe ?_⟩
  rintro σ H Q ⟨ρ, hh, env, rp, re, sat⟩
  refine ⟨ρ, hh, env, rp, re, R.sat_mono sat (fun l hh1 q v H1 ρ1 e1 rp1 rl => ?_) fun x hh' q => q⟩
  obtain ⟨p, xs, rfl, hp, rxs⟩ := rl
  exact q _ _ _ e1 rp1 ⟨p, xs, rfl, .inl hp, rxs⟩
theorem SQ.ofL {φ : LΦ} (h : SL X G W e φ) : SQ X G W e φ := .ofR (.ofL h)

/-! ### operators by values -/
/-- what an operation of values gives: no exception -/
def rOp (K : PySem.W.Frag) (G : Gs) (f : D → D → Hh → R D) : R2 := fun x y H Q => ∃ ρ hh dx dy, Rep K G ρ hh H ∧ RV K G ρ H dx x ∧ RV K G ρ H dy y ∧ Sat K G (fun _ _ _ _ => False) (rV K G) ρ H [] Q (f dx dy hh)
structure SOp (X : Cx) (G : Gs) (op : Value → Value → Sem Value) (f : D → D → Hh → R D) : Prop where
  op : OpR X op (rOp X.K G f)
  nox : ∀ x y h, ∀ e h', f x y h ≠ .exc e h'
theorem Sat.nox {K : PySem.W.Frag} {G : Gs} {W W' : WX} {α β : Type} {rep : Hp → List Addr → Hp → α → β → Prop} {ρ : List Addr} {H : Hp} {σ σ' : L2.St} {Q : β → Hp → Prop} {r : R α} (h : Sat K G W rep ρ H σ Q r) (n : ∀ e h', r ≠ .exc e h') : Sat K G W' rep ρ H σ' Q r := by
  cases r with
  | ok a hh => exact h
  | exc x hh => exact (n x hh rfl).elim
  | bad => exact h
theorem SE.bin {op : Operator} {f : D → D → Hh → R D} {φ ψ : EΦ} (ho : SOp X G (binaryOp op) f) (ha : SE X G W a φ) (hb : SE X G W b ψ) : SE X G W (.BinOp a op b pos) (E.op2 f φ ψ) := by
  refine ⟨PE.weak (pe_op ho.op ha.pe hb.pe) ?_⟩
  rintro σ H Q ⟨ρ, hh, env, rp, re, sat⟩
  refine tG.seq later_V rp re sat fun x v ρ1 hh1 H1 e1 rp1 re1 rx sat1 => ?_
  refine tG.seq later_V rp1 re1 sat1 fun y u ρ2 hh2 H2 e2 rp2 re2 ry sat2 => ?_
  exact ⟨ρ2, hh2, x, y, rp2, RV.ext e2 _ _ rx, ry, sat2.nox (ho.nox _ _ _)⟩
theorem SE.cmp {op : CmpOp} {f : D → D → Hh → R D} {φ ψ : EΦ} (ho : SOp X G (compareOp op) f) (ha : SE X G W a φ) (hb : SE X G W b ψ) (hm : behindInMarks op b = false := by first | exact nomark _ | rfl) : SE X G W (.Compare a [op] [b] pos) (E.op2 f φ ψ) := by
  refine ⟨PE.weak (pe_cmpR ho.op ha.pe hb.pe hm) ?_⟩
  rintro σ H Q ⟨ρ, hh, env, rp, re, sat⟩
  refine tG.seq later_V rp re sat fun x v ρ1 hh1 H1 e1 rp1 re1 rx sat1 => ?_
  refine tG.seq later_V rp1 re1 sat1 fun y u ρ2 hh2 H2 e2 rp2 re2 ry sat2 => ?_
  exact ⟨ρ2, hh2, x, y, rp2, RV.ext e2 _ _ rx, ry, sat2.nox (ho.nox _ _ _)⟩
theorem ST.cmp {op : CmpOp} {f : D → D → Hh → R D} {φ ψ : EΦ} (ho : SOp X G (compareOp op) f) (ha : SE X G W a φ) (hb : SE X G W b ψ) (hm : behindInMarks op b = false := by first | exact nomark _ | rfl) : ST X G W (.Compare a [op] [b] pos) (T.val (E.op2 f φ ψ)) := by
  refine ⟨PT.weak (pt_cmpR ho.op ha.pe hb.pe hm) ?_⟩
  rintro σ H Q ⟨ρ, hh, env, rp, re, sat⟩
  have sat' : Sat X.K G W rB ρ H σ Q ((φ env hh).bind fun x h => (ψ env h).bind fun y h => (f x y h).bind fun d h => match d with
    | .bl b => .ok b h
    | _ => .bad) := by
    have : ∀ {α β γ : Type} (r : R α) (k : α → Hh → R β) (l : β → Hh → R γ), (r.bind k).bind l = r.bind fun a h => (k a h).bind l := by
      intro α β γ r k l; cases r <;> rfl
    unfold T.val E.op2 at sat
    simp only [this] at sat
    exact sat
  refine tG.seq later_B rp re sat' fun x v ρ1 hh1 H1 e1 rp1 re1 rx sat1 => ?_
  refine tG.seq later_B rp1 re1 sat1 fun y u ρ2 hh2 H2 e2 rp2 re2 ry sat2 => ?_
  refine ⟨ρ2, hh2, x, y, rp2, RV.ext e2 _ _ rx, ry, ?_⟩
  cases q : f x y hh2 with
  | ok d hh3 =>
    rw [q] at sat2
    intro v3 H3 ρ3 e3 rp3 r3
    cases d with
    | bl k =>
      have r3' : v3 = .bl k := by simpa [rV, RV] using r3
      exact ⟨k, r3', sat2 k H3 ρ3 e3 rp3 rfl⟩
    | _ => exact sat2.elim
  | exc x2 hh3 => exact (ho.nox _ _ _ _ _ q).elim
  | bad => rw [q] at sat2; exact sat2.elim
theorem ST.tru {φ : EΦ} (ha : SE X G W a φ) (he : ∀ whole, isTrue a X.env whole = (do let v ← whole; standAt a.pos; holding [v] (truthy v)) := by intro _; rfl) : ST X G W a (T.tru φ) := by
  refine ⟨PT.weak (pt_truth ha.pe he) ?_⟩
  rintro σ H Q ⟨ρ, hh, env, rp, re, sat⟩
  refine tG.seq later_B rp re sat fun d v ρ1 hh1 H1 e1 rp1 re1 rd sat1 => ?_
  have rd' : RV X.K G ρ1 H1 d v := rd
  cases d with
  | non => simp only [RV] at rd'; subst rd'; exact ⟨false, rfl, sat1.mk (Ext.refl _ _) rp1 rfl⟩
  | bl k => simp only [RV] at rd'; subst rd'; exact ⟨k, rfl, sat1.mk (Ext.refl _ _) rp1 rfl⟩
  | int i => simp only [RV] at rd'; subst rd'; exact ⟨_, rfl, sat1.mk (Ext.refl _ _) rp1 rfl⟩
  | str s =>
    simp only [RV] at rd'; subst rd'
    obtain ⟨hz, sat1⟩ := fits_sat sat1
    refine ⟨_, ⟨Nat.le_of_lt hz, rfl⟩, Sat.mk sat1 (Ext.refl _ _) rp1 ?_⟩
    show (s.length != 0) = ((s.length : Int) != 0)
    cases s.length <;> rfl
  | tup l =>
    simp only [RV] at rd'
    obtain ⟨p, xs, rfl, e2, e3⟩ := rd'
    refine ⟨!xs.isEmpty, .inr (.inl ⟨xs, e2.sqT, rfl⟩), sat1.mk (Ext.refl _ _) rp1 ?_⟩
    have := e3.length
    show (!l.isEmpty) = !xs.isEmpty
    cases l <;> cases xs <;> simp_all
  | ref n =>
    obtain ⟨l, p, xs, rfl, h1, h2, h3⟩ := rdL_ok (α := Unit) (β := Unit) rp1 rd (R.sat_bind sat1)
    refine ⟨!xs.isEmpty, .inl ⟨xs, h1, rfl⟩, h3 _ _ _ (Ext.refl _ _) rp1 ?_⟩
    have := h2.length
    show (!l.isEmpty) = !xs.isEmpty
    cases l <;> cases xs <;> simp_all
  | fn n => exact sat1.elim
theorem ST.truQ {φ : LΦ} (ha : SQ X G W a φ) (he : ∀ whole, isTrue a X.env whole = (do let v ← whole; standAt a.pos; holding [v] (truthy v)) := by intro _; rfl) : ST X G W a (T.truQ φ) := by
  refine ⟨PT.weak (pt_truth ha.pe he) ?_⟩
  rintro σ H Q ⟨ρ, hh, env, rp, re, sat⟩
  refine tG.seq later_B rp re sat fun l v ρ1 hh1 H1 e1 rp1 re1 rd sat1 => ?_
  obtain ⟨p, xs, rfl, h1, h2⟩ := rd
  have hlen := h2.length
  have : (!l.isEmpty) = !xs.isEmpty := by cases l <;> cases xs <;> simp_all
  rcases h1 with h1 | h1
  · exact ⟨!xs.isEmpty, .inl ⟨xs, h1, rfl⟩, sat1.mk (Ext.refl _ _) rp1 this⟩
  · exact ⟨!xs.isEmpty, .inr (.inl ⟨xs, h1, rfl⟩), sat1.mk (Ext.refl _ _) rp1 this⟩
theorem ST.val {φ : EΦ} (ha : SE X G W a φ) (he : ∀ whole, isTrue a X.env whole = (do let v ← whole; standAt a.pos; holding [v] (truthy v)) := by intro _; rfl) : ST X G W a (T.val φ) := by
  refine ⟨PT.weak (pt_val ha.pe he) ?_⟩
  rintro σ H Q ⟨ρ, hh, env, rp, re, sat⟩
  refine tG.seq later_B rp re sat fun d v ρ1 hh1 H1 e1 rp1 re1 rd sat1 => ?_
  have rd' : RV X.K G ρ1 H1 d v := rd
  cases d with
  | bl k => simp only [RV] at rd'; subst rd'; exact ⟨k, rfl, sat1.mk (Ext.refl _ _) rp1 rfl⟩
  | _ => exact sat1.elim
theorem ST.not {φ : TΦ} (ha : ST X G W a φ) : ST X G W (.UnaryOp .Not a pos) (T.not φ) := by
  refine ⟨PT.weak (pt_not ha.pt) ?_⟩
  rintro σ H Q ⟨ρ, hh, env, rp, re, sat⟩
  refine tG.seq later_B rp re sat fun d v ρ1 hh1 H1 e1 rp1 re1 rd sat1 => ?_
  have : d = v := rd
  subst this
  exact sat1.mk (Ext.refl _ _) rp1 rfl
/-- chains of and, or -/
structure SW (X : Cx) (G : Gs) (W : WX) (e : Expr) (φ : TΦ) : Prop where
  pw : PW X e (tG X.K G W rB φ)
theorem PW.weak {X : Cx} {e : Expr} {t t' : TT} (h : PW X e t) (w : ∀ σ H Q, t' σ H Q → t σ H Q) : PW X e t' := ⟨fun wh pins s σ H Q I q => h.run wh pins s σ H Q I (w σ H Q q)⟩
theorem SW.st {φ : TΦ} (h : SW X G W e φ) : ST X G W e φ := ⟨h.pw.pt⟩
theorem SW.and1 {φ : TΦ} (ha : ST X G W a φ) : SW X G W (.BoolOp .And [a] pos) φ := ⟨pw_and1 ha.pt⟩
theorem SW.or1 {φ : TΦ} (ha : ST X G W a φ) : SW X G W (.BoolOp .Or [a] pos) φ := ⟨pw_or1 ha.pt⟩
theorem SW.and {φ ψ : TΦ} {rest : List Expr} (ha : ST X G W a φ) (hb : SW X G W (.BoolOp .And (b :: rest) pos) ψ) : SW X G W (.BoolOp .And (a :: b :: rest) pos) (T.and φ ψ) := by
  refine ⟨PW.weak (pw_and ha.pt hb.pw) ?_⟩
  rintro σ H Q ⟨ρ, hh, env, rp, re, sat⟩
  refine tG.seq later_B rp re sat fun d v ρ1 hh1 H1 e1 rp1 re1 rd sat1 => ?_
  have : d = v := rd
  subst this
  cases d with
  | true => exact iteT ⟨ρ1, hh1, env, rp1, re1, sat1⟩
  | false => exact iteF (Sat.mk sat1 (Ext.refl _ _) rp1 rfl)
theorem SW.or {φ ψ : TΦ} {rest : List Expr} (ha : ST X G W a φ) (hb : SW X G W (.BoolOp .Or (b :: rest) pos) ψ) : SW X G W (.BoolOp .Or (a :: b :: rest) pos) (T.or φ ψ) := by
  refine ⟨PW.weak (pw_or ha.pt hb.pw) ?_⟩
  rintro σ H Q ⟨ρ, hh, env, rp, re, sat⟩
  refine tG.seq later_B rp re sat fun d v ρ1 hh1 H1 e1 rp1 re1 rd sat1 => ?_
  have : d = v := rd
  subst this
  cases d with
  | true => exact iteT (Sat.mk sat1 (Ext.refl _ _) rp1 rfl)
  | false => exact iteF ⟨ρ1, hh1, env, rp1, re1, sat1⟩
theorem SE.one {op : BoolOp} {φ : EΦ} (ha : SE X G W a φ) : SE X G W (.BoolOp op [a] pos) φ := ⟨pe_one ha.pe⟩
theorem SE.and {φ ψ : EΦ} {rest : List Expr} (ha : SE X G W a φ) (hb : SE X G W (.BoolOp .And (b :: rest) pos) ψ) : SE X G W (.BoolOp .And (a :: b :: rest) pos) (E.and φ ψ) := by
  refine ⟨PE.weak (pe_and ha.pe hb.pe) ?_⟩
  rintro σ H Q ⟨ρ, hh, env, rp, re, sat⟩
  refine tG.seq later_V rp re sat fun d v ρ1 hh1 H1 e1 rp1 re1 rd sat1 => ?_
  have rd' : RV X.K G ρ1 H1 d v := rd
  cases d with
  | bl k =>
    simp only [RV] at rd'
    refine ⟨k, rd', ?_⟩
    cases k with
    | true => exact iteT ⟨ρ1, hh1, env, rp1, re1, sat1⟩
    | false => exact iteF (Sat.mk sat1 (Ext.refl _ _) rp1 (by show RV _ _ _ _ _ _; simp only [RV]))
  | _ => exact sat1.elim
theorem SE.or {φ ψ : EΦ} {rest : List Expr} (ha : SE X G W a φ) (hb : SE X G W (.BoolOp .Or (b :: rest) pos) ψ) : SE X G W (.BoolOp .Or (a :: b :: rest) pos) (E.or φ ψ) := by
  refine ⟨PE.weak (pe_or ha.pe hb.pe) ?_⟩
  rintro σ H Q ⟨ρ, hh, env, rp, re, sat⟩
  refine tG.seq later_V rp re sat fun d v ρ1 hh1 H1 e1 rp1 re1 rd sat1 => ?_
  have rd' : RV X.K G ρ1 H1 d v := rd
  cases d with
  | bl k =>
    simp only [RV] at rd'
    refine ⟨k, rd', ?_⟩
    cases k with
    | true => exact iteT (Sat.mk sat1 (Ext.refl _ _) rp1 (by show RV _ _ _ _ _ _; simp only [RV]))
    | false => exact iteF ⟨ρ1, hh1, env, rp1, re1, sat1⟩
  | _ => exact sat1.elim
/-- not a, as a value -/
theorem SE.not {φ : EΦ} (ha : SE X G W a φ) : SE X G W (.UnaryOp .Not a pos) (E.ofT (T.not (T.val φ))) := by
  refine ⟨PE.weak (pe_not ha.pe) ?_⟩
  rintro σ H Q ⟨ρ, hh, env, rp, re, sat⟩
  have sat' : Sat X.K G W (rV X.K G) ρ H σ Q ((φ env hh).bind fun d h => match d with
    | .bl b => .ok (.bl (!b)) h
    | _ => .bad) := by
    unfold E.ofT T.not T.val at sat
    cases q : φ env hh with
    | ok d h =>
      rw [q] at sat
      cases d <;> exact sat
    | exc x h => rw [q] at sat; exact sat
    | bad => rw [q] at sat; exact sat
  refine tG.seq later_V rp re sat' fun d v ρ1 hh1 H1 e1 rp1 re1 rd sat1 => ?_
  have rd' : RV X.K G ρ1 H1 d v := rd
  cases d with
  | bl k =>
    simp only [RV] at rd'
    exact ⟨k, rd', Sat.mk sat1 (Ext.refl _ _) rp1 (by show RV _ _ _ _ _ _; simp only [RV])⟩
  | _ => exact sat1.elim
theorem SE.ifx {τ : TΦ} {φ ψ : EΦ} (hc : ST X G W c τ) (ha : SE X G W a φ) (hb : SE X G W b ψ) : SE X G W (.IfExp c a b pos) (E.ifx τ φ ψ) := by
  refine ⟨PE.weak (pe_ifExp hc.pt ha.pe hb.pe) ?_⟩
  rintro σ H Q ⟨ρ, hh, env, rp, re, sat⟩
  refine tG.seq later_V rp re sat fun d v ρ1 hh1 H1 e1 rp1 re1 rd sat1 => ?_
  have : d = v := rd
  subst this
  cases d with
  | true => exact iteT ⟨ρ1, hh1, env, rp1, re1, sat1⟩
  | false => exact iteF ⟨ρ1, hh1, env, rp1, re1, sat1⟩
/-! ### is None -/
def D.isN : D → Bool
  | .non => true
  | _ => false
theorem isN_ok {K : PySem.W.Frag} {ρ : List Addr} {H : Hp} {d : D} {v : V} (r : RV K G ρ H d v) : decide (v = .non) = d.isN := by
  cases d <;> simp only [RV] at r
  · subst r; rfl
  · subst r; rfl
  · subst r; rfl
  · subst r; rfl
  · obtain ⟨a, xs, rfl, _⟩ := r; rfl
  · obtain ⟨a, rfl, _⟩ := r; rfl
  · subst r; rfl
theorem SE.isN {φ : EΦ} {j : Nat} {p2 : Pos} (ha : SE X G W a φ) : SE X G W (.Compare a [.Is] [.Constant .none j p2] pos) (E.op1 (fun d h => .ok (.bl d.isN) h) φ) := by
  refine ⟨PE.weak (pe_cmp (pc_isN ha.pe)) ?_⟩
  rintro σ H Q ⟨ρ, hh, env, rp, re, sat⟩
  refine tG.seq later_V rp re sat fun d v ρ1 hh1 H1 e1 rp1 re1 rd sat1 => ?_
  exact sat1.mk (Ext.refl _ _) rp1 (by show RV _ _ _ _ _ _; simp only [RV]; rw [isN_ok rd])
theorem SE.notN {φ : EΦ} {j : Nat} {p2 : Pos} (ha : SE X G W a φ) : SE X G W (.Compare a [.IsNot] [.Constant .none j p2] pos) (E.op1 (fun d h => .ok (.bl (!d.isN)) h) φ) := by
  refine ⟨PE.weak (pe_cmp (pc_notN ha.pe)) ?_⟩
  rintro σ H Q ⟨ρ, hh, env, rp, re, sat⟩
  refine tG.seq later_V rp re sat fun d v ρ1 hh1 H1 e1 rp1 re1 rd sat1 => ?_
  exact sat1.mk (Ext.refl _ _) rp1 (by show RV _ _ _ _ _ _; simp only [RV]; rw [isN_ok rd])
/-- a bool's expression (a comparison) as a test -/
theorem ST.isN {φ : EΦ} {j : Nat} {p2 : Pos} (ha : SE X G W a φ) : ST X G W (.Compare a [.Is] [.Constant .none j p2] pos) (fun env h => (φ env h).bind fun d h => .ok d.isN h) := by
  refine ⟨PT.weak (pt_cmp (pc_isN ha.pe)) ?_⟩
  rintro σ H Q ⟨ρ, hh, env, rp, re, sat⟩
  refine tG.seq later_B rp re sat fun d v ρ1 hh1 H1 e1 rp1 re1 rd sat1 => ?_
  exact ⟨_, rfl, sat1.mk (Ext.refl _ _) rp1 (isN_ok rd).symm⟩
theorem ST.notN {φ : EΦ} {j : Nat} {p2 : Pos} (ha : SE X G W a φ) : ST X G W (.Compare a [.IsNot] [.Constant .none j p2] pos) (fun env h => (φ env h).bind fun d h => .ok (!d.isN) h) := by
  refine ⟨PT.weak (pt_cmp (pc_notN ha.pe)) ?_⟩
  rintro σ H Q ⟨ρ, hh, env, rp, re, sat⟩
  refine tG.seq later_B rp re sat fun d v ρ1 hh1 H1 e1 rp1 re1 rd sat1 => ?_
  exact ⟨_, rfl, sat1.mk (Ext.refl _ _) rp1 (by show (!d.isN) = !decide (v = .non); rw [isN_ok rd])⟩
/-- a chain of two comparisons -/
def E.chain (f g : D → D → Hh → R D) (a b c : EΦ) : EΦ := fun env h => (a env h).bind fun x h => (b env h).bind fun y h => (f x y h).bind fun d h => match d with
  | .bl true => (c env h).bind fun z h => g y z h
  | .bl false => .ok (.bl false) h
  | _ => .bad
theorem SE.chain {op op' : CmpOp} {f g : D → D → Hh → R D} {φ ψ χ : EΦ} (ho : SOp X G (compareOp op) f) (ho' : SOp X G (compareOp op') g) (ha : SE X G W a φ) (hb : SE X G W b ψ) (hc : SE X G W c χ)
    (h : PE X (.Compare a [op, op'] [b, c] pos) (tChain (rOp X.K G f) (rOp X.K G g) (tG X.K G W (rV X.K G) φ) (tG X.K G W (rV X.K G) ψ) (tG X.K G W (rV X.K G) χ))) : SE X G W (.Compare a [op, op'] [b, c] pos) (E.chain f g φ ψ χ) := by
  refine ⟨PE.weak h ?_⟩
  rintro σ H Q ⟨ρ, hh, env, rp, re, sat⟩
  refine tG.seq later_V rp re sat fun x v ρ1 hh1 H1 e1 rp1 re1 rx sat1 => ?_
  refine tG.seq later_V rp1 re1 sat1 fun y u ρ2 hh2 H2 e2 rp2 re2 ry sat2 => ?_
  refine ⟨ρ2, hh2, x, y, rp2, RV.ext e2 _ _ rx, ry, ?_⟩
  cases q : f x y hh2 with
  | ok d hh3 =>
    rw [q] at sat2
    intro v3 H3 ρ3 e3 rp3 r3
    cases d with
    | bl k =>
      have r3' : v3 = .bl k := by simpa [rV, RV] using r3
      refine ⟨k, r3', ?_⟩
      cases k with
      | true =>
        refine iteT ?_
        have sat3 := Sat.later later_V e3 sat2
        refine tG.seq later_V rp3 (re2.ext e3) sat3 fun z w ρ4 hh4 H4 e4 rp4 re4 rz sat4 => ?_
        exact ⟨ρ4, hh4, y, z, rp4, RV.ext e4 _ _ (RV.ext e3 _ _ ry), rz, sat4.nox (ho'.nox _ _ _)⟩
      | false =>
        refine iteF ?_
        exact sat2 (.bl false) H3 ρ3 e3 rp3 (by show RV _ _ _ _ _ _; simp only [RV])
    | _ => exact sat2.elim
  | exc x2 hh3 => exact (ho.nox _ _ _ _ _ q).elim
  | bad => rw [q] at sat2; exact sat2.elim
end
end DL

set_option Elab.async false
set_option linter.all false
set_option maxRecDepth 100000
set_option maxHeartbeats 4000000
/-! DL3: operators of data, subscripts, slices, built-ins. -/
namespace DL
open PySem PySem.Spec PyProof.Rows L2

/-! ### equality of data -/
mutual
/-- == of data without objects -/
def D.eqv : D → D → Bool
  | .non, .non => true
  | .bl a, .bl b => a == b
  | .bl a, .int j => (if a then 1 else 0) == j
  | .int i, .bl b => i == (if b then 1 else 0)
  | .int i, .int j => i == j
  | .str x, .str y => x == y
  | .tup xs, .tup ys => D.eqvs xs ys
  | _, _ => false
def D.eqvs : List D → List D → Bool
  | [], [] => true
  | x :: xs, y :: ys => D.eqv x y && D.eqvs xs ys
  | _, _ => false
end
mutual
/-- data without objects, at most n deep, its texts of signs -/
def D.flat : Nat → D → Bool
  | _, .non => true
  | _, .bl _ => true
  | _, .int _ => true
  | _, .str s => PySem.PyData.strOk s
  | 0, .tup _ => false
  | n + 1, .tup l => D.flats n l
  | _, .ref _ => false
  | _, .fn _ => false
def D.flats : Nat → List D → Bool
  | _, [] => true
  | n, d :: l => D.flat n d && D.flats n l
end
mutual
def D.py : D → PyData
  | .non => .none
  | .bl b => .bool b
  | .int i => .int i
  | .str s => .str s
  | .tup l => .tuple (D.pys l)
  | .ref _ => .none
  | .fn _ => .none
def D.pys : List D → List PyData
  | [] => []
  | d :: l => D.py d :: D.pys l
end
mutual
theorem py_depth : ∀ (n : Nat) (d : D), D.flat n d = true → (D.py d).depth ≤ n
  | n, .non, h => by simp [D.py, PyData.depth]
  | n, .bl _, h => by simp [D.py, PyData.depth]
  | n, .int _, h => by simp [D.py, PyData.depth]
  | n, .str _, h => by simp [D.py, PyData.depth]
  | 0, .tup _, h => by simp [D.flat] at h
  | n + 1, .tup l, h => by
    simp only [D.flat] at h
    simp only [D.py, PyData.depth]
    have := pys_depth n l h
    omega
  | n, .ref _, h => by simp [D.py, PyData.depth]
  | n, .fn _, h => by simp [D.py, PyData.depth]
theorem pys_depth : ∀ (n : Nat) (l : List D), D.flats n l = true → PyData.depthAll (D.pys l) ≤ n
  | n, [], h => by simp [D.pys, PyData.depthAll]
  | n, d :: l, h => by
    simp only [D.flats, Bool.and_eq_true] at h
    simp only [D.pys, PyData.depthAll]
    have h1 := py_depth n d h.1
    have h2 := pys_depth n l h.2
    omega
end
mutual
theorem py_lay : ∀ (n : Nat) (d : D), D.flat n d = true → (D.py d).canLay0 = true
  | n, .non, h => by simp [D.py, PyData.canLay0]
  | n, .bl _, h => by simp [D.py, PyData.canLay0]
  | n, .int _, h => by simp [D.py, PyData.canLay0]
  | n, .str _, h => by simpa [D.py, PyData.canLay0, D.flat] using h
  | 0, .tup _, h => by simp [D.flat] at h
  | n + 1, .tup l, h => by
    simp only [D.flat] at h
    simp only [D.py, PyData.canLay0]
    exact pys_lay n l h
  | n, .ref _, h => by simp [D.py, PyData.canLay0]
  | n, .fn _, h => by simp [D.py, PyData.canLay0]
theorem pys_lay : ∀ (n : Nat) (l : List D), D.flats n l = true → PyData.canLayAll0 (D.pys l) = true
  | n, [], h => by simp [D.pys, PyData.canLayAll0]
  | n, d :: l, h => by
    simp only [D.flats, Bool.and_eq_true] at h
    simp only [D.pys, PyData.canLayAll0, Bool.and_eq_true]
    exact ⟨py_lay n d h.1, pys_lay n l h.2⟩
end
theorem py_shaped {n : Nat} {d : D} (h : D.flat n d = true) (hn : n ≤ 64) : SeqAt.shaped (D.py d) = true := by
  unfold SeqAt.shaped
  rw [py_lay n d h, Bool.true_and]
  exact decide_eq_true (Nat.le_trans (py_depth n d h) hn)
mutual
theorem py_eqv : ∀ (n : Nat) (d e : D), D.flat n d = true → D.flat n e = true → PyData.eqv (D.py d) (D.py e) = D.eqv d e
  | n, d, e, hd, he => by
    cases d <;> cases e <;> first
      | (simp [D.py, PyData.eqv, D.eqv]; done)
      | (simp [D.flat] at hd; done)
      | (simp [D.flat] at he; done)
      | (rename_i l1 l2
         cases n with
         | zero => simp [D.flat] at hd
         | succ n =>
           simp only [D.flat] at hd he
           simp only [D.py, PyData.eqv, D.eqv]
           exact pys_eqv n l1 l2 hd he)
theorem pys_eqv : ∀ (n : Nat) (d e : List D), D.flats n d = true → D.flats n e = true → PyData.eqvAll (D.pys d) (D.pys e) = D.eqvs d e
  | n, [], [], _, _ => by simp [D.pys, PyData.eqvAll, D.eqvs]
  | n, [], _ :: _, _, _ => by simp [D.pys, PyData.eqvAll, D.eqvs]
  | n, _ :: _, [], _, _ => by simp [D.pys, PyData.eqvAll, D.eqvs]
  | n, x :: xs, y :: ys, hd, he => by
    simp only [D.flats, Bool.and_eq_true] at hd he
    simp only [D.pys, PyData.eqvAll, D.eqvs]
    rw [py_eqv n x y hd.1 he.1, pys_eqv n xs ys hd.2 he.2]
end
mutual
theorem dp_of {K : PySem.W.Frag} {G : Gs} {ρ : List Addr} {H : Hp} : ∀ (n : Nat) (d : D) (v : V), D.flat n d = true → RV K G ρ H d v → Dp K H v (D.py d)
  | n, .non, v, _, h => by simp only [RV] at h; subst h; exact .non
  | n, .bl _, v, _, h => by simp only [RV] at h; subst h; exact .bl _
  | n, .int _, v, _, h => by simp only [RV] at h; subst h; exact .int _
  | n, .str _, v, _, h => by simp only [RV] at h; subst h; exact .str _
  | 0, .tup _, v, f, h => by simp [D.flat] at f
  | n + 1, .tup l, v, f, h => by
    simp only [RV] at h
    obtain ⟨a, xs, rfl, h1, h2⟩ := h
    simp only [D.flat] at f
    exact .tup h1.sqT (dps_of n l xs f h2)
  | n, .ref _, v, f, h => by simp [D.flat] at f
  | n, .fn _, v, f, h => by simp [D.flat] at f
theorem dps_of {K : PySem.W.Frag} {G : Gs} {ρ : List Addr} {H : Hp} : ∀ (n : Nat) (l : List D) (vs : List V), D.flats n l = true → RVs K G ρ H l vs → DpAll K H vs (D.pys l)
  | n, [], vs, _, h => by rw [h.inv_nil]; exact .nil
  | n, d :: l, vs, f, h => by
    obtain ⟨v, r, rfl, h1, h2⟩ := h.inv_cons
    simp only [D.flats, Bool.and_eq_true] at f
    exact .cons (dp_of n d v f.1 h1) (dps_of n l r f.2 h2)
end
/-- == of two values without objects -/
def D.eq (x y : D) (h : Hh) : R D := if D.flat 32 x && D.flat 32 y then .ok (.bl (D.eqv x y)) h else .bad
def D.ne (x y : D) (h : Hh) : R D := if D.flat 32 x && D.flat 32 y then .ok (.bl (!D.eqv x y)) h else .bad
section
variable {X : Cx} {G : Gs} {W : WX} {e a b c : Expr} {es : List Expr} {pos : Pos}
theorem ite_nox {c : Prop} [Decidable c] {α : Type} {a : α} {h : Hh} : ∀ e h', (if c then (R.ok a h : R α) else .bad) ≠ .exc e h' := by
  intro e h' q
  split at q <;> cases q
theorem sop_eq (hu : X.A.units + 64 < cLine) : SOp X G (compareOp .Eq) D.eq := by
  refine ⟨?_, fun x y h e h' q => ?_⟩
  · intro pins s σ H x y v u Q I rx ry h
    obtain ⟨ρ, hh, dx, dy, rp, r1, r2, sat⟩ := h
    unfold D.eq at sat
    split at sat
    · rename_i hf
      simp only [Bool.and_eq_true] at hf
      refine op_eqD hu pins s σ H x y v u Q I rx ry ⟨_, _, dp_of 32 _ _ hf.1 r1, dp_of 32 _ _ hf.2 r2, py_shaped hf.1 (by decide), py_shaped hf.2 (by decide), ?_⟩
      rw [py_eqv 32 _ _ hf.1 hf.2]
      exact sat.mk (Ext.refl _ _) rp (by show RV _ _ _ _ _ _; simp only [RV])
    · exact sat.elim
  · unfold D.eq at q
    split at q <;> cases q
theorem sop_ne (hu : X.A.units + 64 < cLine) : SOp X G (compareOp .NotEq) D.ne := by
  refine ⟨?_, fun x y h e h' q => ?_⟩
  · intro pins s σ H x y v u Q I rx ry h
    obtain ⟨ρ, hh, dx, dy, rp, r1, r2, sat⟩ := h
    unfold D.ne at sat
    split at sat
    · rename_i hf
      simp only [Bool.and_eq_true] at hf
      refine op_neD hu pins s σ H x y v u Q I rx ry ⟨_, _, dp_of 32 _ _ hf.1 r1, dp_of 32 _ _ hf.2 r2, py_shaped hf.1 (by decide), py_shaped hf.2 (by decide), ?_⟩
      rw [py_eqv 32 _ _ hf.1 hf.2]
      exact sat.mk (Ext.refl _ _) rp (by show RV _ _ _ _ _ _; simp only [RV])
    · exact sat.elim
  · unfold D.ne at q
    split at q <;> cases q
/-- == of two lists (fresh or objects) of values without objects -/
def eqLL (neg : Bool) (l m : List D) (h : Hh) : R D := if D.flats 31 l && D.flats 31 m then .ok (.bl (if neg then !D.eqvs l m else D.eqvs l m)) h else .bad
def E.eqL (neg : Bool) (a b : LΦ) : EΦ := fun env h => (a env h).bind fun x h1 => (b env h1).bind fun y h2 => if h2.length = h2.length then eqLL neg x y h2 else .bad
end
/-! ### arithmetic -/
def D.add : D → D → Hh → R D
  | .int i, .int j, h => .ok (.int (i + j)) h
  | .str a, .str b, h => fits (a.length + b.length) (.ok (.str (a ++ b)) h)
  | .tup a, .tup b, h => fits (a.length + b.length) (.ok (.tup (a ++ b)) h)
  | _, _, _ => .bad
def D.sub : D → D → Hh → R D
  | .int i, .int j, h => .ok (.int (i - j)) h
  | _, _, _ => .bad
/-- written sizes, told by Nat.ble (a kernel must not count them down) -/
def small (i : Int) : Bool := Nat.ble i.natAbs 1000000000000000000
theorem small_iff {i : Int} : small i = true ↔ i.natAbs ≤ 1000000000000000000 := by unfold small; rw [Nat.ble_eq]
def posS : Int → Bool
  | .ofNat (n + 1) => Nat.ble (n + 1) 1000000000
  | _ => false
theorem posS_iff {j : Int} : posS j = true ↔ 0 < j ∧ j ≤ 1000000000 := by
  cases j with
  | ofNat n =>
    cases n with
    | zero => simp [posS]
    | succ n =>
      show Nat.ble (n + 1) 1000000000 = true ↔ _
      rw [Nat.ble_eq]
      simp only [Int.ofNat_eq_natCast]
      omega
  | negSucc n => simp [posS]
def powOk (i : Int) : Int → Bool
  | .ofNat n => Nat.ble n 1000000 && small i
  | _ => false
theorem powOk_ok {i j : Int} (h : powOk i j = true) : 0 ≤ j ∧ j ≤ 1000000 ∧ i.natAbs < 2 ^ 64 := by
  cases j with
  | ofNat n =>
    simp only [powOk, Bool.and_eq_true, small_iff, Nat.ble_eq] at h
    simp only [Int.ofNat_eq_natCast]
    omega
  | negSucc n => cases h
/-- one side of a written size -/
def D.mul : D → D → Hh → R D
  | .int i, .int j, h => if small i || small j then .ok (.int (i * j)) h else .bad
  | _, _, _ => .bad
def D.fdiv : D → D → Hh → R D
  | .int i, .int j, h => if posS j then .ok (.int (i / j)) h else .bad
  | _, _, _ => .bad
def D.mod : D → D → Hh → R D
  | .int i, .int j, h => if 0 < j then .ok (.int (i % j)) h else .bad
  | _, _, _ => .bad
def D.pow : D → D → Hh → R D
  | .int i, .int j, h => if powOk i j then .ok (.int (i ^ j.toNat)) h else .bad
  | _, _, _ => .bad
def D.neg : D → Hh → R D
  | .int i, h => .ok (.int (-i)) h
  | _, _ => .bad
def D.lt : D → D → Hh → R D
  | .int i, .int j, h => .ok (.bl (decide (i < j))) h
  | _, _, _ => .bad
def D.le : D → D → Hh → R D
  | .int i, .int j, h => .ok (.bl (decide (i ≤ j))) h
  | _, _, _ => .bad
def D.gt : D → D → Hh → R D
  | .int i, .int j, h => .ok (.bl (decide (j < i))) h
  | _, _, _ => .bad
def D.ge : D → D → Hh → R D
  | .int i, .int j, h => .ok (.bl (decide (j ≤ i))) h
  | _, _, _ => .bad
section
variable {X : Cx} {G : Gs} {W : WX}
theorem rv_int {K : PySem.W.Frag} {ρ : List Addr} {H : Hp} {i : Int} {v : V} (h : RV K G ρ H (.int i) v) : v = .int i := by simpa only [RV] using h
theorem rv_str {K : PySem.W.Frag} {ρ : List Addr} {H : Hp} {i : Str} {v : V} (h : RV K G ρ H (.str i) v) : v = .str i := by simpa only [RV] using h
theorem rv_bl {K : PySem.W.Frag} {ρ : List Addr} {H : Hp} {i : Bool} {v : V} (h : RV K G ρ H (.bl i) v) : v = .bl i := by simpa only [RV] using h
theorem rv_non {K : PySem.W.Frag} {ρ : List Addr} {H : Hp} {v : V} (h : RV K G ρ H .non v) : v = .non := by simpa only [RV] using h
theorem rv_tup {K : PySem.W.Frag} {ρ : List Addr} {H : Hp} {l : List D} {v : V} (h : RV K G ρ H (.tup l) v) : ∃ a xs, v = .ref a ∧ TupK K H a xs ∧ RVs K G ρ H l xs := by simpa only [RV] using h
theorem mk_int {K : PySem.W.Frag} {ρ : List Addr} {H0 H : Hp} {i : Int} : rV K G H0 ρ H (.int i) (.int i) := by show RV _ _ _ _ _ _; simp only [RV]
theorem mk_str {K : PySem.W.Frag} {ρ : List Addr} {H0 H : Hp} {i : Str} : rV K G H0 ρ H (.str i) (.str i) := by show RV _ _ _ _ _ _; simp only [RV]
theorem mk_bl {K : PySem.W.Frag} {ρ : List Addr} {H0 H : Hp} {i : Bool} : rV K G H0 ρ H (.bl i) (.bl i) := by show RV _ _ _ _ _ _; simp only [RV]
theorem mk_non {K : PySem.W.Frag} {ρ : List Addr} {H0 H : Hp} : rV K G H0 ρ H .non .non := by show RV _ _ _ _ _ _; simp only [RV]
theorem mk_tup {K : PySem.W.Frag} {ρ : List Addr} {H0 H : Hp} {l : List D} {a : Addr} {xs : List V} (h : TupK K H a xs) (r : RVs K G ρ H l xs) : rV K G H0 ρ H (.tup l) (.ref a) := by show RV _ _ _ _ _ _; simp only [RV]; exact ⟨a, xs, rfl, h, r⟩
/-- an operation of two ints -/
theorem sop_ints {op : Value → Value → Sem Value} {f : D → D → Hh → R D} {C : Int → Int → Prop} [∀ i j, Decidable (C i j)] {g : Int → Int → D} {gV : Int → Int → V} (ho : OpR X op (rI C gV))
    (hf : ∀ i j h, f (.int i) (.int j) h = if C i j then .ok (g i j) h else .bad) (hb : ∀ x y h, (∀ i j, ¬ (x = .int i ∧ y = .int j)) → f x y h = .bad) (hg : ∀ i j ρ H H0, rV X.K G H0 ρ H (g i j) (gV i j)) : SOp X G op f := by
  have key : ∀ x y, (∃ i j, x = D.int i ∧ y = D.int j) ∨ (∀ i j, ¬ (x = .int i ∧ y = .int j)) := fun x y => by
    cases x <;> cases y <;> first | exact .inl ⟨_, _, rfl, rfl⟩ | (refine .inr ?_; rintro i j ⟨h1, h2⟩; first | (cases h1; done) | (cases h1; cases h2; done))
  refine ⟨?_, fun x y h e h' q => ?_⟩
  · intro pins s σ H x y v u Q I rx ry h
    obtain ⟨ρ, hh, dx, dy, rp, r1, r2, sat⟩ := h
    rcases key dx dy with ⟨i, j, rfl, rfl⟩ | n
    · rw [hf] at sat
      have e1 := rv_int r1
      have e2 := rv_int r2
      subst e1 e2
      split at sat
      · rename_i hc
        exact ho pins s σ H _ _ v u Q I rx ry ⟨i, j, rfl, rfl, hc, sat.mk (Ext.refl _ _) rp (hg i j _ _ _)⟩
      · exact sat.elim
    · rw [hb dx dy hh n] at sat
      exact sat.elim
  · rcases key x y with ⟨i, j, rfl, rfl⟩ | n
    · rw [hf] at q
      split at q <;> cases q
    · rw [hb x y h n] at q
      cases q
theorem rI_imp {C C' : Int → Int → Prop} {g : Int → Int → V} {op : Value → Value → Sem Value} (h : OpR X op (rI C' g)) (w : ∀ i j, C i j → C' i j) : OpR X op (rI C g) := fun pins s σ H x y v u Q I rx ry ⟨i, j, e1, e2, c, q⟩ => h pins s σ H x y v u Q I rx ry ⟨i, j, e1, e2, w _ _ c, q⟩
theorem rI_true {g : Int → Int → V} {op : Value → Value → Sem Value} (h : OpR X op (rI0 g)) : OpR X op (rI (fun _ _ => True) g) := fun pins s σ H x y v u Q I rx ry ⟨i, j, e1, e2, _, q⟩ => h pins s σ H x y v u Q I rx ry ⟨i, j, e1, e2, q⟩
theorem sop_sub : SOp X G (binaryOp .Sub) D.sub := sop_ints (rI_true op_sub) (g := fun i j => .int (i - j)) (fun _ _ _ => rfl) (fun x y h n => by cases x <;> cases y <;> first | rfl | exact (n _ _ ⟨rfl, rfl⟩).elim) fun _ _ _ _ _ => mk_int
theorem sop_mul : SOp X G (binaryOp .Mult) D.mul := sop_ints (C := fun i j => (small i || small j) = true) (rI_imp op_mul fun i j h => by
  show (-(2 ^ 64) < i ∧ i < 2 ^ 64) ∨ (-(2 ^ 64) < j ∧ j < 2 ^ 64)
  simp only [Bool.or_eq_true, small_iff] at h
  omega) (g := fun i j => .int (i * j)) (fun _ _ _ => rfl) (fun x y h n => by cases x <;> cases y <;> first | rfl | exact (n _ _ ⟨rfl, rfl⟩).elim) fun _ _ _ _ _ => mk_int
theorem sop_fdiv : SOp X G (binaryOp .FloorDiv) D.fdiv := sop_ints (C := fun _ j => posS j = true) (rI_imp op_fdiv fun i j h => by
  show 0 < j ∧ j < 1073741824
  have := posS_iff.mp h
  omega) (g := fun i j => .int (i / j)) (fun _ _ _ => rfl) (fun x y h n => by cases x <;> cases y <;> first | rfl | exact (n _ _ ⟨rfl, rfl⟩).elim) fun _ _ _ _ _ => mk_int
theorem sop_mod : SOp X G (binaryOp .Mod) D.mod := sop_ints (C := fun _ j => 0 < j) op_mod (g := fun i j => .int (i % j)) (fun _ _ _ => rfl) (fun x y h n => by cases x <;> cases y <;> first | rfl | exact (n _ _ ⟨rfl, rfl⟩).elim) fun _ _ _ _ _ => mk_int
theorem sop_pow : SOp X G (binaryOp .Pow) D.pow := sop_ints (C := fun i j => powOk i j = true) (rI_imp op_pow fun i j h => powOk_ok h) (g := fun i j => .int (i ^ j.toNat)) (fun _ _ _ => rfl) (fun x y h n => by cases x <;> cases y <;> first | rfl | exact (n _ _ ⟨rfl, rfl⟩).elim) fun _ _ _ _ _ => mk_int
theorem sop_lt : SOp X G (compareOp .Lt) D.lt := sop_ints (rI_true op_lt) (g := fun i j => .bl (decide (i < j))) (fun _ _ _ => rfl) (fun x y h n => by cases x <;> cases y <;> first | rfl | exact (n _ _ ⟨rfl, rfl⟩).elim) fun _ _ _ _ _ => mk_bl
theorem sop_le : SOp X G (compareOp .LtE) D.le := sop_ints (rI_true op_le) (g := fun i j => .bl (decide (i ≤ j))) (fun _ _ _ => rfl) (fun x y h n => by cases x <;> cases y <;> first | rfl | exact (n _ _ ⟨rfl, rfl⟩).elim) fun _ _ _ _ _ => mk_bl
theorem sop_gt : SOp X G (compareOp .Gt) D.gt := sop_ints (rI_true op_gt) (g := fun i j => .bl (decide (j < i))) (fun _ _ _ => rfl) (fun x y h n => by cases x <;> cases y <;> first | rfl | exact (n _ _ ⟨rfl, rfl⟩).elim) fun _ _ _ _ _ => mk_bl
theorem sop_ge : SOp X G (compareOp .GtE) D.ge := sop_ints (rI_true op_ge) (g := fun i j => .bl (decide (j ≤ i))) (fun _ _ _ => rfl) (fun x y h n => by cases x <;> cases y <;> first | rfl | exact (n _ _ ⟨rfl, rfl⟩).elim) fun _ _ _ _ _ => mk_bl
theorem sop_add : SOp X G (binaryOp .Add) D.add := by
  refine ⟨?_, fun x y h e h' q => ?_⟩
  · intro pins s σ H x y v u Q I rx ry h
    obtain ⟨ρ, hh, dx, dy, rp, r1, r2, sat⟩ := h
    cases dx <;> cases dy <;> first | exact sat.elim | skip
    · have e1 := rv_int r1
      have e2 := rv_int r2
      subst e1 e2
      exact op_add pins s σ H _ _ v u Q I rx ry ⟨_, _, rfl, rfl, sat.mk (Ext.refl _ _) rp mk_int⟩
    · have e1 := rv_str r1
      have e2 := rv_str r2
      subst e1 e2
      obtain ⟨hz, sat⟩ := Sat.fits sat
      exact op_add_str pins s σ H _ _ v u Q I rx ry ⟨_, _, rfl, rfl, Nat.le_of_lt hz, Sat.mk sat (Ext.refl _ _) rp mk_str⟩
    · obtain ⟨p, xs, rfl, h1, h2⟩ := rv_tup r1
      obtain ⟨q, ys, rfl, h3, h4⟩ := rv_tup r2
      obtain ⟨hz, sat⟩ := Sat.fits sat
      have l1 := h2.length
      have l2 := h4.length
      refine op_catF pins s σ H _ _ v u Q I rx ry ⟨p, q, xs, ys, rfl, rfl, h1.sqT, h3.sqT, by rw [l1, l2]; exact Nat.le_of_lt hz, fun e => ?_, fun _ e => ?_, fun _ _ => newT rp sat (h2.append h4)⟩
      · refine Sat.mk sat (Ext.refl _ _) rp (mk_tup h3 ?_)
        have := h2.append h4
        rwa [e, List.nil_append] at this
      · refine Sat.mk sat (Ext.refl _ _) rp (mk_tup h1 ?_)
        have := h2.append h4
        rwa [e, List.append_nil] at this
  · cases x <;> cases y <;> first | (cases q; done) | (simp only [D.add, fits] at q; split at q <;> cases q)
theorem SE.neg {e : Expr} {φ : EΦ} {pos : Pos} (ha : SE X G W e φ) : SE X G W (.UnaryOp .USub e pos) (E.op1 D.neg φ) := by
  refine ⟨PE.weak (pe_un un_neg ha.pe) ?_⟩
  rintro σ H Q ⟨ρ, hh, env, rp, re, sat⟩
  refine tG.seq later_V rp re sat fun d v ρ1 hh1 H1 e1 rp1 re1 rd sat1 => ?_
  cases d <;> first | exact sat1.elim | skip
  have e1 := rv_int rd
  subst e1
  exact ⟨_, rfl, sat1.mk (Ext.refl _ _) rp1 mk_int⟩
end
end DL

set_option Elab.async false
set_option linter.all false
set_option maxRecDepth 100000
set_option maxHeartbeats 4000000
/-! DL4: subscripts, slices, built-in calls, methods of lists and tuples. -/
namespace DL
open PySem PySem.Spec PyProof.Rows L2

section
variable {X : Cx} {G : Gs} {W : WX} {e a b c : Expr} {es : List Expr} {pos : Pos}
/-! ### a[i] -/
theorem RVs.atI {K : PySem.W.Frag} {ρ : List Addr} {H : Hp} {l : List D} {xs : List V} {i : Int} {d : D} (h : RVs K G ρ H l xs) (e : L2.atI l i = some d) : ∃ v, L2.atI xs i = some v ∧ RV K G ρ H d v := by
  unfold L2.atI at e ⊢
  rw [h.length]
  cases q : ixN l.length i with
  | none => rw [q] at e; cases e
  | some j =>
    rw [q] at e
    exact h.get e
def ixL (l : List D) (i : Int) (h : Hh) : R D := match atI l i with
  | some d => .ok d h
  | none => .bad
def D.ix : D → D → Hh → R D
  | .tup l, .int i, h => ixL l i h
  | .ref n, .int i, h => (rdL h (.ref n)).bind fun l h => ixL l i h
  | .str s, .int i, h => fits s.length (match atI s.cps.toList i with
    | some c => .ok (.str ⟨#[c]⟩) h
    | none => .bad)
  | _, _, _ => .bad
theorem ixL_ok {K : PySem.W.Frag} {ρ : List Addr} {hh : Hh} {H : Hp} {σ : L2.St} {Q : VK} {l : List D} {xs : List V} {i : Int} (rp : Rep K G ρ hh H) (h : RVs K G ρ H l xs) (sat : Sat K G W (rV K G) ρ H σ Q (ixL l i hh)) : ∃ v, L2.atI xs i = some v ∧ Q v H := by
  unfold ixL at sat
  split at sat
  · rename_i d hd
    obtain ⟨v, e1, e2⟩ := h.atI hd
    exact ⟨v, e1, sat.mk (Ext.refl _ _) rp e2⟩
  · exact sat.elim
theorem ix_D : IxR X (rOp X.K G D.ix) := by
  intro value slice pins s σ H x y v u Q I rx ry h hs
  obtain ⟨ρ, hh, dx, dy, rp, r1, r2, sat⟩ := h
  cases dx <;> cases dy <;> first | exact sat.elim | skip
  · have e1 := rv_str r1
    have e2 := rv_int r2
    subst e1 e2
    obtain ⟨hz, sat⟩ := Sat.fits sat
    rename_i z i _
    cases q : L2.atI z.cps.toList i with
    | none => rw [q] at sat; exact sat.elim
    | some c =>
      rw [q] at sat
      exact ix_str value slice pins s σ H _ _ v u Q I rx ry ⟨_, _, c, rfl, rfl, Nat.le_of_lt hz, q, Sat.mk sat (Ext.refl _ _) rp mk_str⟩ hs
  · obtain ⟨p, xs, rfl, h1, h2⟩ := rv_tup r1
    have e2 := rv_int r2
    subst e2
    obtain ⟨w, e3, q⟩ := ixL_ok rp h2 sat
    exact ix_tup value slice pins s σ H _ _ v u Q I rx ry ⟨p, xs, _, w, rfl, rfl, h1.sqT, e3, q⟩ hs
  · have e2 := rv_int r2
    subst e2
    obtain ⟨l, p, xs, rfl, h1, h2, h3⟩ := rdL_ok (α := Unit) (β := Unit) rp r1 (R.sat_bind sat)
    obtain ⟨w, e3, q⟩ := ixL_ok (W := fun _ _ _ _ => False) (σ := []) (Q := Q) rp h2 h3
    exact ix_list value slice pins s σ H _ _ v u Q I rx ry ⟨p, xs, _, w, rfl, rfl, h1, e3, q⟩ hs
theorem nox_ixL (l : List D) (i : Int) (h : Hh) : ∀ e h', ixL l i h ≠ .exc e h' := by
  intro e h' q
  unfold ixL at q
  split at q <;> cases q
theorem nox_rdL (d : D) (h : Hh) : ∀ e h', rdL h d ≠ .exc e h' := by
  intro e h' q
  unfold rdL at q
  split at q
  · split at q <;> cases q
  · cases q
theorem nox_rdQ (d : D) (h : Hh) : ∀ e h', rdQ h d ≠ .exc e h' := by
  intro e h' q
  unfold rdQ at q
  split at q
  · cases q
  · exact nox_rdL _ _ _ _ q
theorem nox_bind {α β : Type} {r : R α} {k : α → Hh → R β} (h1 : ∀ e h', r ≠ .exc e h') (h2 : ∀ a h e h', k a h ≠ .exc e h') : ∀ e h', r.bind k ≠ .exc e h' := by
  intro e h' q
  cases r with
  | ok a h => exact h2 _ _ _ _ q
  | exc x h => exact h1 _ _ rfl
  | bad => cases q
theorem nox_fits {α : Type} {n : Nat} {r : R α} (h1 : ∀ e h', r ≠ .exc e h') : ∀ e h', fits n r ≠ .exc e h' := by
  intro e h' q
  unfold fits at q
  split at q
  · exact h1 _ _ q
  · cases q
theorem nox_ix : ∀ x y h e h', D.ix x y h ≠ .exc e h' := by
  intro x y h e h' q
  cases x <;> cases y <;> first
    | (cases q; done)
    | exact nox_ixL _ _ _ _ _ q
    | exact nox_bind (nox_rdL _ _) (fun _ _ => nox_ixL _ _ _) _ _ q
    | (refine nox_fits ?_ _ _ q
       intro e2 h2 q2
       split at q2 <;> cases q2)
theorem SE.ix {φ ψ : EΦ} (ha : SE X G W a φ) (hb : SE X G W b ψ) (hs : PlainIx b := by exact fun _ _ => rfl) : SE X G W (.Subscript a b pos) (E.op2 D.ix φ ψ) := by
  refine ⟨PE.weak (pe_ix (ix_D (G := G)) ha.pe hb.pe hs) ?_⟩
  rintro σ H Q ⟨ρ, hh, env, rp, re, sat⟩
  refine tG.seq later_V rp re sat fun x v ρ1 hh1 H1 e1 rp1 re1 rx sat1 => ?_
  refine tG.seq later_V rp1 re1 sat1 fun y u ρ2 hh2 H2 e2 rp2 re2 ry sat2 => ?_
  exact ⟨ρ2, hh2, x, y, rp2, RV.ext e2 _ _ rx, ry, sat2.nox (nox_ix _ _ _)⟩
/-- L[i], L a list (fresh or an object) -/
def E.ixR (a : LΦ) (b : EΦ) : EΦ := fun env h => (a env h).bind fun l h => (b env h).bind fun y h => match y with
  | .int i => ixL l i h
  | _ => .bad
/-! ### slices -/
abbrev OΦ := Env → Hh → R (Option Int)
def rO : Hp → List Addr → Hp → Option Int → Option Int → Prop := fun _ _ _ a b => a = b
structure SO (X : Cx) (G : Gs) (W : WX) (e : Option Expr) (φ : OΦ) : Prop where
  po : PO X e (tG X.K G W rO φ)
def O.none : OΦ := fun _ h => .ok .none h
def O.some (a : EΦ) : OΦ := fun env h => (a env h).bind fun d h => match d with
  | .int i => .ok (.some i) h
  | _ => .bad
theorem later_O : Later rO := fun _ _ _ _ _ _ _ _ _ _ h => h
theorem SO.none : SO X G W .none O.none := by
  refine ⟨⟨fun pins s σ H Q I h => ?_⟩⟩
  obtain ⟨ρ, hh, env, rp, re, sat⟩ := h
  exact po_none.run pins s σ H Q I (Sat.mk sat (Ext.refl _ _) rp rfl)
theorem SO.some {φ : EΦ} (ha : SE X G W a φ) : SO X G W (.some a) (O.some φ) := by
  refine ⟨⟨fun pins s σ H Q I h => ?_⟩⟩
  obtain ⟨ρ, hh, env, rp, re, sat⟩ := h
  refine (po_some ha.pe).run pins s σ H Q I ?_
  refine tG.seq later_O rp re sat fun d v ρ1 hh1 H1 e1 rp1 re1 rd sat1 => ?_
  cases d <;> first | exact sat1.elim | skip
  have e1 := rv_int rd
  subst e1
  exact ⟨_, rfl, Sat.mk sat1 (Ext.refl _ _) rp1 rfl⟩
def cutD {α : Type} (xs : List α) (lo hi : Option Int) : List α := (xs.drop (HT.sIx xs.length 0 lo)).take (HT.sIx xs.length xs.length hi - HT.sIx xs.length 0 lo)
theorem RVs.cut {K : PySem.W.Frag} {ρ : List Addr} {H : Hp} {l : List D} {xs : List V} (h : RVs K G ρ H l xs) (lo hi : Option Int) : RVs K G ρ H (cutD l lo hi) (cutV xs lo hi) := by
  unfold cutD cutV
  rw [h.length]
  exact (h.drop _).take _
theorem cutD_whole {α : Type} (xs : List α) (lo hi : Option Int) (h : HT.sIx xs.length 0 lo = 0 ∧ HT.sIx xs.length xs.length hi = xs.length) : cutD xs lo hi = xs := by
  unfold cutD
  rw [h.1, h.2]
  simp
def slD (lo hi : Option Int) : D → Hh → R D
  | .tup l, h => .ok (.tup (cutD l lo hi)) h
  | .str s, h => fits s.length (.ok (.str (cutS s lo hi)) h)
  | _, _ => .bad
def E.sl (a : EΦ) (lo hi : OΦ) : EΦ := fun env h => (a env h).bind fun d h => (lo env h).bind fun i h => (hi env h).bind fun j h => slD i j d h
/-- a slice of a tuple or a text -/
theorem SE.sl {φ : EΦ} {l u : OΦ} {lo hi : Option Expr} {p2 : Pos} (ha : SE X G W a φ) (hl : SO X G W lo l) (hu : SO X G W hi u) : SE X G W (.Subscript a (.Slice lo hi .none p2) pos) (E.sl φ l u) := by
  refine ⟨PE.weak (pe_slice (SlR.or sl_tupF sl_str) ha.pe hl.po hu.po) ?_⟩
  rintro σ H Q ⟨ρ, hh, env, rp, re, sat⟩
  refine tG.seq later_V rp re sat fun d v ρ1 hh1 H1 e1 rp1 re1 rd sat1 => ?_
  refine tG.seq later_V rp1 re1 sat1 fun i i' ρ2 hh2 H2 e2 rp2 re2 ri sat2 => ?_
  refine tG.seq later_V rp2 re2 sat2 fun j j' ρ3 hh3 H3 e3 rp3 re3 rj sat3 => ?_
  have ei : i = i' := ri
  have ej : j = j' := rj
  subst ei ej
  have rd' := RV.ext e3 _ _ (RV.ext e2 _ _ rd)
  cases d <;> first | exact sat3.elim | skip
  · have e1 := rv_str rd'
    subst e1
    obtain ⟨hz, sat3⟩ := Sat.fits sat3
    exact .inr ⟨_, rfl, Nat.le_of_lt hz, Sat.mk sat3 (Ext.refl _ _) rp3 mk_str⟩
  · obtain ⟨p, xs, rfl, h1, h2⟩ := rv_tup rd'
    refine .inl ⟨p, xs, rfl, h1.sqT, fun hw => ?_, fun _ => newT rp3 sat3 (h2.cut _ _)⟩
    refine Sat.mk sat3 (Ext.refl _ _) rp3 ?_
    rw [cutD_whole _ _ _ (by rw [← h2.length]; exact hw)]
    exact mk_tup h1 h2
def L.sl (a : LΦ) (lo hi : OΦ) : LΦ := fun env h => (a env h).bind fun l h => (lo env h).bind fun i h => (hi env h).bind fun j h => .ok (cutD l i j) h
/-- lists that stay readable: a fresh one or one that is an object (nothing between changes it) -/
theorem SL.slE {φ : EΦ} {l u : OΦ} {lo hi : Option Expr} {p2 : Pos} (ha : SE X G W a φ) (hl : SO X G W lo l) (hu : SO X G W hi u) :
    SL X G W (.Subscript a (.Slice lo hi .none p2) pos) (fun env h => (φ env h).bind fun d h => (l env h).bind fun i h => (u env h).bind fun j h => (rdL h d).bind fun xs h => .ok (cutD xs i j) h) := by
  refine ⟨PE.weak (pe_slice sl_list ha.pe hl.po hu.po) ?_⟩
  rintro σ H Q ⟨ρ, hh, env, rp, re, sat⟩
  refine tG.seq later_L rp re sat fun d v ρ1 hh1 H1 e1 rp1 re1 rd sat1 => ?_
  refine tG.seq later_L rp1 re1 sat1 fun i i' ρ2 hh2 H2 e2 rp2 re2 ri sat2 => ?_
  refine tG.seq later_L rp2 re2 sat2 fun j j' ρ3 hh3 H3 e3 rp3 re3 rj sat3 => ?_
  have ei : i = i' := ri
  have ej : j = j' := rj
  subst ei ej
  have rd' := RV.ext e3 _ _ (RV.ext e2 _ _ rd)
  obtain ⟨l, p, xs, rfl, h1, h2, h3⟩ := rdL_ok (α := Unit) (β := Unit) rp3 rd' (R.sat_bind sat3)
  exact ⟨p, xs, rfl, h1, fun q hq => h3 _ _ _ (Ext.laid hq) (rp3.side hq) ⟨q, _, rfl, upd_same, hq, rp3.notin hq, RVs.ext (Ext.laid hq) _ _ (h2.cut _ _)⟩⟩
/-! ### calls of built-ins -/
/-- a built-in of data arguments -/
def rC (K : PySem.W.Frag) (G : Gs) (m : List D → Hh → R D) : List V → Hp → VK → Prop := fun vs H Q => ∃ ρ hh ds, Rep K G ρ hh H ∧ RVs K G ρ H ds vs ∧ Sat K G (fun _ _ _ _ => False) (rV K G) ρ H [] Q (m ds hh)
structure SCall (X : Cx) (G : Gs) (f : Value) (m : List D → Hh → R D) : Prop where
  ok : CallR X f (rC X.K G m)
  nox : ∀ ds h e h', m ds h ≠ .exc e h'
theorem SE.callB {x : Str} {id : String} {p : Pos} {m : List D → Hh → R D} {φ : LΦ} (hc : SCall X G (.builtin id) m) (ha : SA X G W (e :: es) φ) (hg : Gl X x) (hm : X.mg x = none) (hv : bootBuiltins x = some (.builtin id)) (hn : x ≠ "__name__" := by decide) (hdb : (x == ("__debug__" : Str)) = false := by decide)
    (he : starEach (e :: es) X.env = (false, eval e X.env) :: starEach es X.env := by rfl) (hpl : (backTo pos (starEach es X.env)).any (·.1) = false := by rfl) : SE X G W (.Call (.Name x p) (e :: es) [] pos) (E.app m φ) := by
  refine ⟨PE.weak (pe_callB hc.ok hg hm hv ha.pa hn hdb he hpl) ?_⟩
  rintro σ H Q ⟨ρ, hh, env, rp, re, sat⟩
  refine tG.seq later_V rp re sat fun ds vs ρ1 hh1 H1 e1 rp1 re1 rd sat1 => ?_
  exact ⟨ρ1, hh1, ds, rp1, rd, sat1.nox (hc.nox _ _)⟩
theorem SE.callTy {x : Str} {T : String} {p : Pos} {m : List D → Hh → R D} {φ : LΦ} (hc : SCall X G (.type T) m) (ha : SA X G W (e :: es) φ) (hg : Gl X x) (hm : X.mg x = none) (hv : bootBuiltins x = some (.type T)) (hn : x ≠ "__name__" := by decide) (hdb : (x == ("__debug__" : Str)) = false := by decide)
    (he : starEach (e :: es) X.env = (false, eval e X.env) :: starEach es X.env := by rfl) (hpl : (backTo pos (starEach es X.env)).any (·.1) = false := by rfl) : SE X G W (.Call (.Name x p) (e :: es) [] pos) (E.app m φ) := by
  refine ⟨PE.weak (pe_callTy hc.ok hg hm hv ha.pa hn hdb he hpl) ?_⟩
  rintro σ H Q ⟨ρ, hh, env, rp, re, sat⟩
  refine tG.seq later_V rp re sat fun ds vs ρ1 hh1 H1 e1 rp1 re1 rd sat1 => ?_
  exact ⟨ρ1, hh1, ds, rp1, rd, sat1.nox (hc.nox _ _)⟩
/-- a call of one sequence, its reading by the items -/
theorem SE.callQ {te : TE} {r : List V → Hp → VK → Prop} {φ : LΦ} {f : List D → Hh → R D} (hp : ∀ {te : TE}, PE X a te → PE X e (tCB r (tCons te tNil))) (ha : SQ X G W a φ)
    (hf : ∀ ρ hh H σ l v Q, Rep X.K G ρ hh H → rQ X.K G H ρ H l v → Sat X.K G W (rV X.K G) ρ H σ Q (f l hh) → r [v] H Q) : SE X G W e (fun env h => (φ env h).bind f) := by
  refine ⟨PE.weak (hp ha.pe) ?_⟩
  rintro σ H Q ⟨ρ, hh, env, rp, re, sat⟩
  refine tG.seq later_V rp re sat fun l v ρ1 hh1 H1 e1 rp1 re1 rl sat1 => ?_
  exact hf _ _ _ _ _ _ _ rp1 rl sat1
def E.len (a : LΦ) : EΦ := fun env h => (a env h).bind fun l h => .ok (.int l.length) h
theorem SE.len {p : Pos} {φ : LΦ} (ha : SQ X G W a φ) (hg : Gl X "len") (hm : X.mg "len" = none) (na : starEach [a] X.env = (false, eval a X.env) :: starEach [] X.env := by rfl) : SE X G W (.Call (.Name "len" p) [a] [] pos) (E.len φ) :=
  SE.callQ (te := fun _ _ _ => False) (fun h => pe_callB call_len_seq hg hm boot_len (pa_cons h pa_nil na) (he := na)) ha fun ρ hh H σ l v Q rp ⟨q, xs, e, h1, h2⟩ sat => ⟨q, xs, by rw [e], h1, by rw [h2.length]; exact sat.mk (Ext.refl _ _) rp mk_int⟩
def E.lenS (a : EΦ) : EΦ := fun env h => (a env h).bind fun d h => match d with
  | .str s => fits s.length (.ok (.int s.length) h)
  | _ => .bad
theorem SE.lenS {p : Pos} {φ : EΦ} (ha : SE X G W a φ) (hg : Gl X "len") (hm : X.mg "len" = none) (na : starEach [a] X.env = (false, eval a X.env) :: starEach [] X.env := by rfl) : SE X G W (.Call (.Name "len" p) [a] [] pos) (E.lenS φ) := by
  refine ⟨PE.weak (pe_callB call_len_str hg hm boot_len (pa_cons ha.pe pa_nil na) (he := na)) ?_⟩
  rintro σ H Q ⟨ρ, hh, env, rp, re, sat⟩
  refine tG.seq later_V rp re sat fun d v ρ1 hh1 H1 e1 rp1 re1 rd sat1 => ?_
  cases d <;> first | exact sat1.elim | skip
  have e1 := rv_str rd
  subst e1
  obtain ⟨hz, sat1⟩ := Sat.fits sat1
  exact ⟨_, rfl, Nat.le_of_lt hz, Sat.mk sat1 (Ext.refl _ _) rp1 mk_int⟩
def E.tuple (a : LΦ) : EΦ := fun env h => (a env h).bind fun l h => .ok (.tup l) h
/-- tuple(a list) -/
theorem SE.tupleR {p : Pos} {φ : LΦ} (ha : SR X G W a φ) (hg : Gl X "tuple") (hm : X.mg "tuple" = none) (na : starEach [a] X.env = (false, eval a X.env) :: starEach [] X.env := by rfl) : SE X G W (.Call (.Name "tuple" p) [a] [] pos) (E.tuple φ) := by
  refine ⟨PE.weak (pe_callTy call_tupleF hg hm boot_tuple (pa_cons ha.pe pa_nil na) (he := na)) ?_⟩
  rintro σ H Q ⟨ρ, hh, env, rp, re, sat⟩
  refine tG.seq later_V rp re sat fun l v ρ1 hh1 H1 e1 rp1 re1 rl sat1 => ?_
  obtain ⟨q, xs, e, h1, h2⟩ := rl
  exact ⟨q, xs, by rw [e], .inl ⟨h1, newT rp1 sat1 h2⟩⟩
/-- list(a list or a tuple) -/
theorem SL.list {p : Pos} {φ : LΦ} (ha : SQ X G W a φ) (hg : Gl X "list") (hm : X.mg "list" = none) (na : starEach [a] X.env = (false, eval a X.env) :: starEach [] X.env := by rfl) : SL X G W (.Call (.Name "list" p) [a] [] pos) φ := by
  refine ⟨PE.weak (pe_callTy call_list_of hg hm boot_list (pa_cons ha.pe pa_nil na) (he := na)) ?_⟩
  rintro σ H Q ⟨ρ, hh, env, rp, re, sat⟩
  refine tG.seq (k := fun l h => .ok l h) later_L rp re (by cases q : φ env hh <;> rw [q] at sat <;> exact sat) fun l v ρ1 hh1 H1 e1 rp1 re1 rl sat1 => ?_
  obtain ⟨q, xs, e, h1, h2⟩ := rl
  exact ⟨q, xs, by rw [e], h1, fun t ht => Sat.mk sat1 (Ext.laid ht) (rp1.side ht) ⟨t, xs, rfl, upd_same, ht, rp1.notin ht, RVs.ext (Ext.laid ht) _ _ h2⟩⟩
/-- L + M -/
def L.cat (a b : LΦ) : LΦ := fun env h => (a env h).bind fun l h => (b env h).bind fun m h => fits (l.length + m.length) (.ok (l ++ m) h)
theorem SL.cat {φ ψ : LΦ} (ha : SL X G W a φ) (hb : SL X G W b ψ) : SL X G W (.BinOp a .Add b pos) (L.cat φ ψ) := by
  refine ⟨PE.weak (pe_op op_cat ha.pe hb.pe) ?_⟩
  rintro σ H Q ⟨ρ, hh, env, rp, re, sat⟩
  refine tG.seq later_L rp re sat fun l v ρ1 hh1 H1 e1 rp1 re1 rl sat1 => ?_
  refine tG.seq later_L rp1 re1 sat1 fun m u ρ2 hh2 H2 e2 rp2 re2 rm sat2 => ?_
  obtain ⟨p, xs, rfl, h1, h2, h3, h4⟩ := rl
  obtain ⟨q, ys, rfl, g1, g2, g3, g4⟩ := rm
  obtain ⟨hz, sat2⟩ := Sat.fits sat2
  have l1 := h4.length
  have l2 := g4.length
  refine ⟨p, q, xs, ys, rfl, rfl, e2.side _ _ h1 h3 (fun _ z => nomatch z), g1, by rw [l1, l2]; exact Nat.le_of_lt hz, fun t ht => ?_⟩
  exact Sat.mk sat2 (Ext.laid ht) (rp2.side ht) ⟨t, _, rfl, upd_same, ht, rp2.notin ht, RVs.ext (Ext.laid ht) _ _ ((RVs.ext e2 _ _ h4).append g4)⟩
/-- an object's list + M, where the object isn't changed on the way -/
def L.catE (a : EΦ) (b : LΦ) : LΦ := fun env h => (a env h).bind fun d h => (b env h).bind fun m h => match d with
  | .ref n => (match h[n]? with
    | some (.lst l) => fits (l.length + m.length) (.ok (l ++ m) h)
    | _ => .bad)
  | _ => .bad
theorem SL.catE {φ : EΦ} {ψ : LΦ} (ha : SE X G W a φ) (hb : SL X G W b ψ) : SL X G W (.BinOp a .Add b pos) (L.catE φ ψ) := by
  refine ⟨PE.weak (pe_op op_cat ha.pe hb.pe) ?_⟩
  rintro σ H Q ⟨ρ, hh, env, rp, re, sat⟩
  refine tG.seq later_L rp re sat fun d v ρ1 hh1 H1 e1 rp1 re1 rd sat1 => ?_
  refine tG.seq later_L rp1 re1 sat1 fun m u ρ2 hh2 H2 e2 rp2 re2 rm sat2 => ?_
  obtain ⟨q, ys, rfl, g1, g2, g3, g4⟩ := rm
  cases d <;> first | exact sat2.elim | skip
  rename_i n
  have rd' : RV X.K G ρ1 H1 (.ref n) v := rd
  simp only [RV] at rd'
  obtain ⟨p, rfl, hp⟩ := rd'
  have sat2 : Sat X.K G W (rL X.K G) ρ2 H2 σ Q (match hh2[n]? with
    | some (.lst l) => DL.fits (l.length + m.length) (.ok (l ++ m) hh2)
    | _ => .bad) := sat2
  cases hn : hh2[n]? with
  | none => rw [hn] at sat2; exact sat2.elim
  | some ob =>
    rw [hn] at sat2
    cases ob with
    | frz l => exact sat2.elim
    | dct l e => exact sat2.elim
    | ins l e => exact sat2.elim
    | lst l =>
      obtain ⟨p', xs, f1, f2, f3⟩ := rp2.lst hn
      rw [e2.get hp] at f1
      cases f1
      obtain ⟨hz, sat2⟩ := Sat.fits sat2
      have l1 := f3.length
      have l2 := g4.length
      refine ⟨p, q, xs, ys, rfl, rfl, f2, g1, by rw [l1, l2]; exact Nat.le_of_lt hz, fun t ht => ?_⟩
      exact Sat.mk sat2 (Ext.laid ht) (rp2.side ht) ⟨t, _, rfl, upd_same, ht, rp2.notin ht, RVs.ext (Ext.laid ht) _ _ (f3.append g4)⟩
/-- L * n -/
def L.rep (a : LΦ) (b : EΦ) : LΦ := fun env h => (a env h).bind fun l h => (b env h).bind fun d h => match d with
  | .int i => if small i then fits (l.length * i.toNat) (.ok (List.replicate i.toNat l).flatten h) else .bad
  | _ => .bad
theorem RVs.rep {K : PySem.W.Frag} {ρ : List Addr} {H : Hp} {l : List D} {xs : List V} (h : RVs K G ρ H l xs) : ∀ k : Nat, RVs K G ρ H (List.replicate k l).flatten (List.replicate k xs).flatten
  | 0 => .nil
  | k + 1 => by
    rw [List.replicate_succ, List.replicate_succ, List.flatten_cons, List.flatten_cons]
    exact h.append (RVs.rep h k)
theorem SL.rep {φ : LΦ} {ψ : EΦ} (ha : SL X G W a φ) (hb : SE X G W b ψ) : SL X G W (.BinOp a .Mult b pos) (L.rep φ ψ) := by
  refine ⟨PE.weak (pe_op op_rep ha.pe hb.pe) ?_⟩
  rintro σ H Q ⟨ρ, hh, env, rp, re, sat⟩
  refine tG.seq later_L rp re sat fun l v ρ1 hh1 H1 e1 rp1 re1 rl sat1 => ?_
  refine tG.seq later_L rp1 re1 sat1 fun d u ρ2 hh2 H2 e2 rp2 re2 rd sat2 => ?_
  obtain ⟨p, xs, rfl, h1, h2, h3, h4⟩ := rl
  cases d <;> first | exact sat2.elim | skip
  rename_i i
  have e3 := rv_int rd
  subst e3
  have sat2 : Sat X.K G W (rL X.K G) ρ2 H2 σ Q (if small i then DL.fits (l.length * i.toNat) (.ok (List.replicate i.toNat l).flatten hh2) else .bad) := sat2
  split at sat2
  · rename_i hi
    have hi : -(2 ^ 63) ≤ i ∧ i < 2 ^ 63 := by have := small_iff.mp hi; omega
    obtain ⟨hz, sat2⟩ := Sat.fits sat2
    refine ⟨p, i, xs, rfl, rfl, e2.side _ _ h1 h3 (fun _ z => nomatch z), hi.1, hi.2, by rw [h4.length]; exact Nat.le_of_lt hz, fun t ht => ?_⟩
    exact Sat.mk sat2 (Ext.laid ht) (rp2.side ht) ⟨t, _, rfl, upd_same, ht, rp2.notin ht, RVs.ext (Ext.laid ht) _ _ (RVs.rep (RVs.ext e2 _ _ h4) _)⟩
  · exact sat2.elim
end
end DL

set_option Elab.async false
set_option linter.all false
set_option maxRecDepth 100000
set_option maxHeartbeats 4000000
/-! DL5: statements, targets, loops over data. -/
namespace DL
open PySem PySem.Spec PyProof.Rows L2

/-! ### equality that can be decided -/
mutual
def D.beq : D → D → Bool
  | .non, .non => true
  | .bl a, .bl b => a == b
  | .int i, .int j => decide (i = j)
  | .str x, .str y => decide (x = y)
  | .tup xs, .tup ys => D.beqs xs ys
  | .ref n, .ref m => n == m
  | .fn n, .fn m => n == m
  | _, _ => false
def D.beqs : List D → List D → Bool
  | [], [] => true
  | x :: xs, y :: ys => D.beq x y && D.beqs xs ys
  | _, _ => false
end
mutual
theorem D.beq_refl : ∀ a : D, D.beq a a = true
  | .non => rfl
  | .bl a => by simp [D.beq]
  | .int i => by simp [D.beq]
  | .str x => by simp [D.beq]
  | .tup xs => by simp only [D.beq]; exact D.beqs_refl xs
  | .ref n => by simp [D.beq]
  | .fn n => by simp [D.beq]
theorem D.beqs_refl : ∀ a : List D, D.beqs a a = true
  | [] => rfl
  | x :: xs => by simp only [D.beqs, Bool.and_eq_true]; exact ⟨D.beq_refl x, D.beqs_refl xs⟩
end
mutual
theorem D.of_beq : ∀ a b : D, D.beq a b = true → a = b := by
  intro a b h
  cases a <;> cases b <;> first
    | rfl
    | (simp [D.beq] at h; done)
    | (simp only [D.beq, beq_iff_eq, decide_eq_true_eq] at h; subst h; rfl)
    | (simp only [D.beq] at h; rw [D.of_beqs _ _ h])
theorem D.of_beqs : ∀ a b : List D, D.beqs a b = true → a = b
  | [], [], _ => rfl
  | [], _ :: _, h => by simp [D.beqs] at h
  | _ :: _, [], h => by simp [D.beqs] at h
  | x :: xs, y :: ys, h => by
    simp only [D.beqs, Bool.and_eq_true] at h
    rw [D.of_beq x y h.1, D.of_beqs xs ys h.2]
end
instance : DecidableEq D := fun a b => if h : D.beq a b = true then .isTrue (D.of_beq a b h) else .isFalse fun e => h (by rw [e]; exact D.beq_refl b)

/-! ### results of statements -/
inductive RS where
  | nx (env : Env) (h : Hh) | rt (d : D) (h : Hh) | bk (env : Env) (h : Hh) | ct (env : Env) (h : Hh) | exc (x : Ex) (env : Env) (h : Hh) | bad
abbrev SΦ := Env → Hh → RS
/-- a target's function -/
abbrev GΦ := D → Env → Hh → R Env
abbrev GsΦ := List D → Env → Hh → R Env
/-- a target raises nothing -/
def R.toG (r : R Env) (k : Env → Hh → RS) : RS := match r with
  | .ok env h => k env h
  | _ => .bad
@[simp] theorem R.toG_ok (env : Env) (h : Hh) (k : Env → Hh → RS) : (R.ok env h).toG k = k env h := rfl
def R.toS {α : Type} (r : R α) (env : Env) (k : α → Hh → RS) : RS := match r with
  | .ok a h => k a h
  | .exc x h => .exc x env h
  | .bad => .bad
@[simp] theorem R.toS_ok {α : Type} (a : α) (h : Hh) (env : Env) (k : α → Hh → RS) : (R.ok a h).toS env k = k a h := rfl
@[simp] theorem R.toS_exc {α : Type} (x : Ex) (h : Hh) (env : Env) (k : α → Hh → RS) : (R.exc x h : R α).toS env k = .exc x env h := rfl
@[simp] theorem R.toS_bad {α : Type} (env : Env) (k : α → Hh → RS) : (R.bad : R α).toS env k = .bad := rfl
def S.nil : SΦ := fun env h => .nx env h
def S.seq (a b : SΦ) : SΦ := fun env h => match a env h with
  | .nx env h => b env h
  | r => r
def S.expr (a : EΦ) : SΦ := fun env h => (a env h).toS env fun _ h => .nx env h
def S.ret (a : EΦ) : SΦ := fun env h => (a env h).toS env fun d h => .rt d h
def S.retN : SΦ := fun _ h => .rt .non h
def S.brk : SΦ := fun env h => .bk env h
def S.cnt : SΦ := fun env h => .ct env h
def S.bad : SΦ := fun _ _ => .bad
def S.ife (t : TΦ) (a b : SΦ) : SΦ := fun env h => (t env h).toS env fun c h => if c then a env h else b env h
def S.set (i : Nat) (a : EΦ) : SΦ := fun env h => (a env h).toS env fun d h => .nx (env.set i (some d)) h
def S.asg (a : EΦ) (g : GΦ) : SΦ := fun env h => (a env h).toS env fun d h => (g d env h).toG .nx
def S.aug (i : Nat) (f : D → D → Hh → R D) (a : EΦ) : SΦ := fun env h => match env[i]? with
  | some (some x) => (a env h).toS env fun y h => (f x y h).toS env fun d h => .nx (env.set i (some d)) h
  | _ => .bad
def S.par (i j : Nat) (a b : EΦ) : SΦ := fun env h => (a env h).toS env fun x h => (b env h).toS env fun y h => .nx ((env.set i (some x)).set j (some y)) h
/-- n turns at most -/
def S.whl (t : TΦ) (b : SΦ) : Nat → SΦ
  | 0, _, _ => .bad
  | n + 1, env, h => (t env h).toS env fun c h => if c then (match b env h with
    | .nx env h => S.whl t b n env h
    | .ct env h => S.whl t b n env h
    | .bk env h => .nx env h
    | r => r) else .nx env h
def Tg.name (i : Nat) : GΦ := fun d env h => .ok (env.set i (some d)) h
def Tg.nil : GsΦ := fun ds env h => match ds with
  | [] => .ok env h
  | _ :: _ => .bad
def Tg.cons (g : GΦ) (gs : GsΦ) : GsΦ := fun ds env h => match ds with
  | [] => .bad
  | d :: r => (g d env h).bind fun env h => gs r env h
def Tg.tup (gs : GsΦ) : GΦ := fun d env h => match d with
  | .tup l => gs l env h
  | _ => .bad

/-- how many a list of targets takes -/
inductive GLen : GsΦ → Nat → Prop where
  | nil : GLen Tg.nil 0
  | cons {g : GΦ} {gs : GsΦ} {n : Nat} : GLen gs n → GLen (Tg.cons g gs) (n + 1)
theorem GLen.len {gs : GsΦ} {n : Nat} (h : GLen gs n) : ∀ ds env h e h', gs ds env h = .ok e h' → ds.length = n := by
  induction h with
  | nil =>
    intro ds env h e h' q
    cases ds with
    | nil => rfl
    | cons d r => cases q
  | cons t ih =>
    intro ds env h e h' q
    cases ds with
    | nil => cases q
    | cons d r =>
      unfold Tg.cons at q
      simp only at q
      rename_i g gs n
      cases w : g d env h with
      | ok e1 h1 => rw [w] at q; rw [List.length_cons, ih r e1 h1 e h' q]
      | exc x h1 => rw [w] at q; cases q
      | bad => rw [w] at q; cases q

/-- what is walked: the items; an object that must stay a list of such items -/
structure Src where
  items : List D
  guard : Option (Nat × MO)
/-- the object is still as it was when the walk began -/
def MO.still : MO → MO → Bool
  | .lst m, .lst l => D.beqs m l
  | .frz m, .lst l => D.beqs m l
  | .dct m e, .dct l e' => decide (m = l) && decide (e = e')
  | _, _ => false
def Src.ok (s : Src) (h : Hh) : Bool := match s.guard with
  | none => true
  | some (n, l) => match h[n]? with
    | some m => m.still l
    | none => false
abbrev IΦ := Env → Hh → R Src
def S.forGo (s : Src) (g : GΦ) (b : SΦ) : List D → SΦ
  | [], env, h => if s.ok h then .nx env h else .bad
  | d :: r, env, h => if s.ok h then (g d env h).toG fun env h => (match b env h with
      | .nx env h => S.forGo s g b r env h
      | .ct env h => S.forGo s g b r env h
      | .bk env h => .nx env h
      | x => x) else .bad
def S.for (i : IΦ) (g : GΦ) (b : SΦ) : SΦ := fun env h => (i env h).toS env fun s h => S.forGo s g b s.items env h

/-! ### their meaning -/
def SatS (K : PySem.W.Frag) (G : Gs) (W : WX) (ρ : List Addr) (H : Hp) (D : Ends) (r : RS) : Prop := match r with
  | .nx env hh => ∀ ρ' σ' H', Ext ρ H ρ' H' → Rep K G ρ' hh H' → RE K G ρ' H' env σ' → D.nx σ' H'
  | .rt d hh => ∀ v ρ' H', Ext ρ H ρ' H' → Rep K G ρ' hh H' → RV K G ρ' H' d v → D.rt v H'
  | .bk env hh => ∀ ρ' σ' H', Ext ρ H ρ' H' → Rep K G ρ' hh H' → RE K G ρ' H' env σ' → D.bk σ' H'
  | .ct env hh => ∀ ρ' σ' H', Ext ρ H ρ' H' → Rep K G ρ' hh H' → RE K G ρ' H' env σ' → D.ct σ' H'
  | .exc x env hh => ∀ cls dx ρ' σ' H', Ext ρ H ρ' H' → Rep K G ρ' hh H' → RE K G ρ' H' env σ' → XR K G ρ' H' x cls dx → W cls dx σ' H'
  | .bad => False
def tS (K : PySem.W.Frag) (G : Gs) (W : WX) (ψ : SΦ) : TS := fun D σ H => ∃ ρ hh env, Rep K G ρ hh H ∧ RE K G ρ H env σ ∧ SatS K G W ρ H D (ψ env hh)
/-- a tuple that is only taken apart -/
def RVw (K : PySem.W.Frag) (G : Gs) (ρ : List Addr) (H : Hp) (d : D) (v : V) : Prop := match d with
  | .tup l => ∃ a xs, v = .ref a ∧ SqT K H a xs ∧ RVs K G ρ H l xs
  | d => RV K G ρ H d v
theorem RVw.of {K : PySem.W.Frag} {G : Gs} {ρ : List Addr} {H : Hp} {d : D} {v : V} (h : RV K G ρ H d v) : RVw K G ρ H d v := by
  cases d <;> first | exact h | skip
  simp only [RV] at h
  obtain ⟨a, xs, e, h1, h2⟩ := h
  exact ⟨a, xs, e, h1.sqT, h2⟩
abbrev RepV := List Addr → Hp → D → V → Prop
/-- what a target's result gives -/
def SatG (K : PySem.W.Frag) (G : Gs) (ρ : List Addr) (H : Hp) (Q : L2.St → Hp → Prop) (r : R Env) : Prop := r.sat (fun env hh => ∀ ρ' σ' H', Ext ρ H ρ' H' → Rep K G ρ' hh H' → RE K G ρ' H' env σ' → Q σ' H') fun _ _ => False
def tGt (K : PySem.W.Frag) (G : Gs) (rep : RepV) (γ : GΦ) : TG := fun v σ H Q => ∃ ρ hh env d, Rep K G ρ hh H ∧ RE K G ρ H env σ ∧ rep ρ H d v ∧ SatG K G ρ H Q (γ d env hh)
def tGts (K : PySem.W.Frag) (G : Gs) (γ : GsΦ) : TGs := fun vs σ H Q => ∃ ρ hh env ds, Rep K G ρ hh H ∧ RE K G ρ H env σ ∧ RVs K G ρ H ds vs ∧ SatG K G ρ H Q (γ ds env hh)
/-- the iterator J walks s -/
structure ItOk (K : PySem.W.Frag) (G : Gs) (rep : RepV) (ρ0 : List Addr) (H0 : Hp) (s : Src) (J : It) : Prop where
  go : ∀ i ρ hh H, Ext ρ0 H0 ρ H → Rep K G ρ hh H → s.ok hh = true → i < s.items.length → J.go i H
  yld : ∀ i ρ hh H x H' d, Ext ρ0 H0 ρ H → Rep K G ρ hh H → s.ok hh = true → s.items[i]? = some d → J.yld i H x H' → Ext ρ H ρ H' ∧ Rep K G ρ hh H' ∧ rep ρ H' d x
  stop : ∀ i ρ hh H, Ext ρ0 H0 ρ H → Rep K G ρ hh H → s.ok hh = true → s.items.length ≤ i → J.stop i H
def tI (K : PySem.W.Frag) (G : Gs) (W : WX) (rep : RepV) (φ : IΦ) : TI := fun σ H R => ∃ ρ hh env, Rep K G ρ hh H ∧ RE K G ρ H env σ ∧
  (φ env hh).sat (fun s hh' => ∀ J ρ' H', Ext ρ H ρ' H' → Rep K G ρ' hh' H' → ItOk K G rep ρ' H' s J → R J H') (fun x hh' => ∀ cls dx H' ρ', Ext ρ H ρ' H' → Rep K G ρ' hh' H' → XR K G ρ' H' x cls dx → W cls dx σ H')
section
variable (X : Cx) (G : Gs) (W : WX)
structure SS (st : Stmt) (ψ : SΦ) : Prop where
  ps : PS X st (tS X.K G W ψ)
structure SSs (st : List Stmt) (ψ : SΦ) : Prop where
  ps : PSs X st (tS X.K G W ψ)
structure SI (rep : RepV) (tg iter : Expr) (φ : IΦ) : Prop where
  pi : PI X tg iter (tI X.K G W rep φ)
end
structure SG (X : Cx) (G : Gs) (rep : RepV) (tg : Expr) (γ : GΦ) : Prop where
  pg : PG X tg (tGt X.K G rep γ)
structure SGs (X : Cx) (G : Gs) (tg : List Expr) (γ : GsΦ) : Prop where
  pg : PGs X tg (tGts X.K G γ)
theorem PS.weak {X : Cx} {st : Stmt} {t t' : TS} (h : PS X st t) (w : ∀ D σ H, t' D σ H → t D σ H) : PS X st t' := ⟨fun pins s σ H D I q => h.run pins s σ H D I (w D σ H q)⟩
theorem PSs.weak {X : Cx} {st : List Stmt} {t t' : TS} (h : PSs X st t) (w : ∀ D σ H, t' D σ H → t D σ H) : PSs X st t' := ⟨fun pins s σ H D I q => h.run pins s σ H D I (w D σ H q)⟩
theorem PG.weak {X : Cx} {tg : Expr} {t t' : TG} (h : PG X tg t) (w : ∀ v σ H Q, t' v σ H Q → t v σ H Q) : PG X tg t' := ⟨fun pins s σ H v u Q I r q => h.run pins s σ H v u Q I r (w v σ H Q q)⟩
theorem PGs.weak {X : Cx} {tg : List Expr} {t t' : TGs} (h : PGs X tg t) (w : ∀ v σ H Q, t' v σ H Q → t v σ H Q) : PGs X tg t' := ⟨fun pins s σ H v u Q I r q => h.run pins s σ H v u Q I r (w v σ H Q q)⟩

section
variable {K : PySem.W.Frag} {G : Gs} {W : WX} {ρ : List Addr} {hh : Hh} {H : Hp} {σ : L2.St} {env : Env} {D : Ends}
theorem SatS.ext {r : RS} {ρ1 : List Addr} {H1 : Hp} (e : Ext ρ H ρ1 H1) (h : SatS K G W ρ H D r) : SatS K G W ρ1 H1 D r := by
  cases r with
  | nx env hh => exact fun ρ' σ' H' e' rp re => h ρ' σ' H' (e.trans e') rp re
  | rt d hh => exact fun v ρ' H' e' rp re => h v ρ' H' (e.trans e') rp re
  | bk env hh => exact fun ρ' σ' H' e' rp re => h ρ' σ' H' (e.trans e') rp re
  | ct env hh => exact fun ρ' σ' H' e' rp re => h ρ' σ' H' (e.trans e') rp re
  | exc x env hh => exact fun cls dx ρ' σ' H' e' rp re xr => h cls dx ρ' σ' H' (e.trans e') rp re xr
  | bad => exact h
/-- an expression, then the rest of a statement -/
theorem tG.toS {α β : Type} {rep : Hp → List Addr → Hp → α → β → Prop} {φ : Env → Hh → R α} {k : α → Hh → RS} {rest : β → Hp → Prop} (rp : Rep K G ρ hh H) (re : RE K G ρ H env σ) (sat : SatS K G W ρ H D ((φ env hh).toS env k))
    (step : ∀ a b ρ1 hh1 H1, Ext ρ H ρ1 H1 → Rep K G ρ1 hh1 H1 → RE K G ρ1 H1 env σ → rep H ρ1 H1 a b → SatS K G W ρ1 H1 D (k a hh1) → rest b H1) : tG K G W rep φ σ H rest := by
  refine ⟨ρ, hh, env, rp, re, ?_⟩
  cases q : φ env hh with
  | ok a hh1 =>
    rw [q] at sat
    exact fun b H1 ρ1 e rp1 rb => step a b ρ1 hh1 H1 e rp1 (re.ext e) rb (SatS.ext e sat)
  | exc x hh1 =>
    rw [q] at sat
    exact fun cls dx H1 ρ1 e rp1 xr => sat cls dx ρ1 σ H1 e rp1 (re.ext e) xr
  | bad => rw [q] at sat; exact sat
end

section
variable {X : Cx} {G : Gs} {W : WX} {e a b c : Expr} {es : List Expr} {pos : Pos} {st : Stmt} {rest : List Stmt}
theorem SSs.nil : SSs X G W [] S.nil := by
  refine ⟨PSs.weak pss_nil ?_⟩
  rintro D σ H ⟨ρ, hh, env, rp, re, sat⟩
  exact sat ρ σ H (Ext.refl _ _) rp re
theorem SSs.cons {α β : SΦ} (h1 : SS X G W st α) (h2 : SSs X G W rest β) : SSs X G W (st :: rest) (S.seq α β) := by
  refine ⟨PSs.weak (pss_cons h1.ps h2.ps) ?_⟩
  rintro D σ H ⟨ρ, hh, env, rp, re, sat⟩
  refine ⟨ρ, hh, env, rp, re, ?_⟩
  unfold S.seq at sat
  cases q : α env hh with
  | nx env1 hh1 =>
    rw [q] at sat
    exact fun ρ1 σ1 H1 e rp1 re1 => ⟨ρ1, hh1, env1, rp1, re1, SatS.ext e sat⟩
  | rt d hh1 => rw [q] at sat; exact sat
  | bk env1 hh1 => rw [q] at sat; exact sat
  | ct env1 hh1 => rw [q] at sat; exact sat
  | exc x env1 hh1 => rw [q] at sat; exact sat
  | bad => rw [q] at sat; exact sat
theorem SSs.one {α : SΦ} (h1 : SS X G W st α) : SSs X G W [st] α := ⟨pss_one h1.ps⟩
theorem SS.pass : SS X G W (.Pass pos) S.nil := by
  refine ⟨PS.weak ps_pass ?_⟩
  rintro D σ H ⟨ρ, hh, env, rp, re, sat⟩
  exact sat ρ σ H (Ext.refl _ _) rp re
theorem SS.brk : SS X G W (.Break pos) S.brk := by
  refine ⟨PS.weak ps_break ?_⟩
  rintro D σ H ⟨ρ, hh, env, rp, re, sat⟩
  exact sat ρ σ H (Ext.refl _ _) rp re
theorem SS.cnt : SS X G W (.Continue pos) S.cnt := by
  refine ⟨PS.weak ps_continue ?_⟩
  rintro D σ H ⟨ρ, hh, env, rp, re, sat⟩
  exact sat ρ σ H (Ext.refl _ _) rp re
theorem SS.bad : SS X G W st S.bad := by
  refine ⟨PS.weak ps_never ?_⟩
  rintro D σ H ⟨ρ, hh, env, rp, re, sat⟩
  exact sat
theorem SS.expr {φ : EΦ} (ha : SE X G W e φ) (hs : swapsWith e none pos.line X.env = pure false := by rfl) : SS X G W (.Expr e pos) (S.expr φ) := by
  refine ⟨PS.weak (ps_expr ha.pe hs) ?_⟩
  rintro D σ H ⟨ρ, hh, env, rp, re, sat⟩
  exact tG.toS rp re sat fun d v ρ1 hh1 H1 e1 rp1 re1 rd sat1 => sat1 ρ1 σ H1 (Ext.refl _ _) rp1 re1
theorem SS.ret {φ : EΦ} (ha : SE X G W e φ) : SS X G W (.Return (some e) pos) (S.ret φ) := by
  refine ⟨PS.weak (ps_ret ha.pe) ?_⟩
  rintro D σ H ⟨ρ, hh, env, rp, re, sat⟩
  exact tG.toS rp re sat fun d v ρ1 hh1 H1 e1 rp1 re1 rd sat1 => sat1 v ρ1 H1 (Ext.refl _ _) rp1 rd
theorem SS.retN : SS X G W (.Return none pos) S.retN := by
  refine ⟨PS.weak ps_retN ?_⟩
  rintro D σ H ⟨ρ, hh, env, rp, re, sat⟩
  exact sat .non ρ H (Ext.refl _ _) rp (by simp only [RV])
theorem SS.ife {τ : TΦ} {α β : SΦ} {sa sb : List Stmt} (hc : ST X G W c τ) (ha : SSs X G W sa α) (hb : SSs X G W sb β) : SS X G W (.If c sa sb pos) (S.ife τ α β) := by
  refine ⟨PS.weak (ps_if hc.pt ha.ps hb.ps) ?_⟩
  rintro D σ H ⟨ρ, hh, env, rp, re, sat⟩
  refine tG.toS rp re sat fun k k' ρ1 hh1 H1 e1 rp1 re1 rk sat1 => ?_
  have : k = k' := rk
  subst this
  cases k with
  | true => exact iteT ⟨ρ1, hh1, env, rp1, re1, sat1⟩
  | false => exact iteF ⟨ρ1, hh1, env, rp1, re1, sat1⟩
theorem SS.set {i : Nat} {x : Str} {φ : EΦ} {pos' : Pos} (hN : X.N.Nodup) (hi : X.N[i]? = some x) (hx : Loc X.env.scope x) (ha : SE X G W e φ) (hs : swapsWith e (some (.Name x pos')) pos.line X.env = pure false := by rfl)
    (hf : X.fn x = true ∨ X.env.scope.names.lookup x = some .local := by first | exact .inl rfl | exact .inr rfl | assumption) : SS X G W (.Assign [.Name x pos'] e pos) (S.set i φ) := by
  refine ⟨PS.weak (ps_set hN hi hx ha.pe hs hf) ?_⟩
  rintro D σ H ⟨ρ, hh, env, rp, re, sat⟩
  exact tG.toS rp re sat fun d v ρ1 hh1 H1 e1 rp1 re1 rd sat1 => sat1 ρ1 _ H1 (Ext.refl _ _) rp1 (re1.set i rd)
theorem SS.asg {φ : EΦ} {γ : GΦ} {tg : Expr} (ha : SE X G W e φ) (hg : SG X G (RV X.K G) tg γ) (hs : swapsWithSole [tg] e pos.line X.env = pure false := by rfl) (hw : swappedStores [tg] e X.env = pure none := by rfl)
    (h1 : (assignEach [tg] X.env).map (·.2) = [assign tg X.env] := by rfl) : SS X G W (.Assign [tg] e pos) (S.asg φ γ) := by
  refine ⟨PS.weak (ps_asg ha.pe hg.pg hs hw h1) ?_⟩
  rintro D σ H ⟨ρ, hh, env, rp, re, sat⟩
  refine tG.toS rp re sat fun d v ρ1 hh1 H1 e1 rp1 re1 rd sat1 => ⟨ρ1, hh1, env, d, rp1, re1, rd, ?_⟩
  cases q : γ d env hh1 with
  | ok env1 hh2 => rw [q] at sat1; exact sat1
  | exc x hh2 => rw [q] at sat1; exact sat1
  | bad => rw [q] at sat1; exact sat1
/-- x op= e -/
theorem SS.aug {i : Nat} {x : Str} {φ : EΦ} {pos' : Pos} {op : Operator} {f : D → D → Hh → R D} (hN : X.N.Nodup) (hi : X.N[i]? = some x) (hx : Loc X.env.scope x) (ha : SE X G W e φ) (ho : PIp X op (rOp X.K G f)) (nox : ∀ x y h e h', f x y h ≠ .exc e h')
    (hf : X.fn x = true ∨ X.env.scope.names.lookup x = some .local := by first | exact .inl rfl | exact .inr rfl | assumption) : SS X G W (.AugAssign (.Name x pos') op e pos) (S.aug i f φ) := by
  refine ⟨PS.weak (ps_aug hN hi hx ha.pe ho hf) ?_⟩
  rintro D σ H ⟨ρ, hh, env, rp, re, sat⟩
  unfold S.aug at sat
  split at sat
  · rename_i d0 h0
    obtain ⟨v0, g1, g2⟩ := re.at' _ _ h0
    refine ⟨v0, g1, tG.toS rp re sat fun d v ρ1 hh1 H1 e1 rp1 re1 rd sat1 => ⟨ρ1, hh1, d0, d, rp1, RV.ext e1 _ _ g2, rd, ?_⟩⟩
    cases q : f d0 d hh1 with
    | ok d2 hh2 =>
      rw [q] at sat1
      exact fun v2 H2 ρ2 e2 rp2 r2 => sat1 ρ2 _ H2 e2 rp2 ((re1.ext e2).set i r2)
    | exc x2 hh2 => exact (nox _ _ _ _ _ q).elim
    | bad => rw [q] at sat1; exact sat1.elim
  · exact sat.elim
theorem ip_ints {op : Operator} {g : Int → Int → Int} {f : D → D → Hh → R D} (h : PIp X op (ipI g)) (hf : ∀ i j h, f (.int i) (.int j) h = .ok (.int (g i j)) h) (hb : ∀ x y h, (∀ i j, ¬ (x = .int i ∧ y = .int j)) → f x y h = .bad) : PIp X op (rOp X.K G f) := by
  intro pins s σ H x y v u Q I rx ry q
  obtain ⟨ρ, hh, dx, dy, rp, r1, r2, sat⟩ := q
  have key : (∃ i j, dx = D.int i ∧ dy = D.int j) ∨ (∀ i j, ¬ (dx = .int i ∧ dy = .int j)) := by
    cases dx <;> cases dy <;> first | exact .inl ⟨_, _, rfl, rfl⟩ | (refine .inr ?_; rintro i j ⟨h1, h2⟩; first | (cases h1; done) | (cases h1; cases h2; done))
  rcases key with ⟨i, j, rfl, rfl⟩ | n
  · have e1 := rv_int r1
    have e2 := rv_int r2
    subst e1 e2
    rw [hf] at sat
    exact h pins s σ H _ _ v u Q I rx ry ⟨i, j, rfl, rfl, sat.mk (Ext.refl _ _) rp mk_int⟩
  · rw [hb dx dy hh n] at sat
    exact sat.elim
def D.addI : D → D → Hh → R D
  | .int i, .int j, h => .ok (.int (i + j)) h
  | _, _, _ => .bad
theorem sip_add : PIp X .Add (rOp X.K G D.addI) := ip_ints ip_add (fun _ _ _ => rfl) fun x y h n => by cases x <;> cases y <;> first | rfl | exact (n _ _ ⟨rfl, rfl⟩).elim
theorem sip_sub : PIp X .Sub (rOp X.K G D.sub) := ip_ints ip_sub (fun _ _ _ => rfl) fun x y h n => by cases x <;> cases y <;> first | rfl | exact (n _ _ ⟨rfl, rfl⟩).elim
theorem nox_addI : ∀ x y h e h', D.addI x y h ≠ .exc e h' := by
  intro x y h e h' q
  cases x <;> cases y <;> cases q
theorem nox_sub : ∀ x y h e h', D.sub x y h ≠ .exc e h' := by
  intro x y h e h' q
  cases x <;> cases y <;> cases q
/-- x, y = e1, e2, two local names -/
theorem SS.par {i j : Nat} {x y : Str} {φ ψ : EΦ} {px py pt : Pos} {kt k2 pt2} (hc : X.calm = true) (hN : X.N.Nodup) (hi : X.N[i]? = some x) (hj : X.N[j]? = some y) (hij : i ≠ j)
    (hx : X.env.scope.names.lookup x = some .local) (hy : X.env.scope.names.lookup y = some .local) (ha : SE X G W a φ) (hb : SE X G W b ψ)
    (hw : swappedStores [.Tuple [.Name x px, .Name y py] kt pt] (.Tuple [a, b] k2 pt2) X.env = pure (some [x, y]))
    (hs : swapsWithSole [.Tuple [.Name x px, .Name y py] kt pt] (.Tuple [a, b] k2 pt2) pos.line X.env = pure false := by rfl)
    (na : starEach [a, b] X.env = (false, eval a X.env) :: starEach [b] X.env := by rfl) (nb : starEach [b] X.env = (false, eval b X.env) :: starEach [] X.env := by rfl) :
    SS X G W (.Assign [.Tuple [.Name x px, .Name y py] kt pt] (.Tuple [a, b] k2 pt2) pos) (S.par i j φ ψ) := by
  refine ⟨PS.weak (ps_par hc hN hi hj hij hx hy (pa_cons ha.pe (pa_cons hb.pe pa_nil nb) na) hw hs) ?_⟩
  rintro D σ H ⟨ρ, hh, env, rp, re, sat⟩
  refine tG.toS rp re sat fun d v ρ1 hh1 H1 e1 rp1 re1 rd sat1 => ?_
  refine tG.toS rp1 re1 sat1 fun d2 v2 ρ2 hh2 H2 e2 rp2 re2 rd2 sat2 => ?_
  exact ⟨v, v2, rfl, sat2 ρ2 _ H2 (Ext.refl _ _) rp2 ((re2.set i (RV.ext e2 _ _ rd)).set j rd2)⟩
/-! ### targets -/
theorem SG.name {i : Nat} {x : Str} (hN : X.N.Nodup) (hi : X.N[i]? = some x) (hx : Loc X.env.scope x) (hf : X.fn x = true ∨ X.env.scope.names.lookup x = some .local := by first | exact .inl rfl | exact .inr rfl | assumption) : SG X G (RV X.K G) (.Name x pos) (Tg.name i) := by
  refine ⟨PG.weak (pg_name hN hi hx hf) ?_⟩
  rintro v σ H Q ⟨ρ, hh, env, d, rp, re, rd, sat⟩
  exact sat ρ _ H (Ext.refl _ _) rp (re.set i rd)
theorem SGs.nil : SGs X G [] Tg.nil := by
  refine ⟨PGs.weak pgs_nil ?_⟩
  rintro vs σ H Q ⟨ρ, hh, env, ds, rp, re, rd, sat⟩
  cases ds with
  | nil => exact ⟨rd.inv_nil, sat ρ _ H (Ext.refl _ _) rp re⟩
  | cons d r => exact sat.elim
theorem SGs.cons {γ : GΦ} {γs : GsΦ} (h1 : SG X G (RV X.K G) e γ) (h2 : SGs X G es γs) (hs : (assignEach (e :: es) X.env).map (·.2) = assign e X.env :: (assignEach es X.env).map (·.2) := by rfl) : SGs X G (e :: es) (Tg.cons γ γs) := by
  refine ⟨PGs.weak (pgs_cons h1.pg h2.pg hs) ?_⟩
  rintro vs σ H Q ⟨ρ, hh, env, ds, rp, re, rd, sat⟩
  cases ds with
  | nil => exact sat.elim
  | cons d r =>
    obtain ⟨v, r', rfl, q1, q2⟩ := rd.inv_cons
    refine ⟨v, r', rfl, ρ, hh, env, d, rp, re, q1, ?_⟩
    refine R.sat_mono (R.sat_bind sat) (fun env1 hh1 q ρ1 σ1 H1 e1 rp1 re1 => ?_) fun _ _ z => z
    refine ⟨ρ1, hh1, env1, r, rp1, re1, RVs.ext e1 _ _ q2, ?_⟩
    exact R.sat_mono q (fun env2 hh2 q ρ2 σ2 H2 e2 rp2 re2 => q ρ2 σ2 H2 (e1.trans e2) rp2 re2) fun _ _ z => z
theorem SG.tup {γs : GsΦ} {k n : Nat} (hc : X.calm = true) (h : SGs X G es γs) (hn : (assignEach es X.env).length = n := by rfl) (hl : GLen γs n := by repeat constructor) (hst : (assignEach es X.env).findIdx? (·.1) = none := by rfl) :
    SG X G (RVw X.K G) (.Tuple es k pos) (Tg.tup γs) := by
  refine ⟨PG.weak (pg_tup hc h.pg hn hst) ?_⟩
  rintro v σ H Q ⟨ρ, hh, env, d, rp, re, rd, sat⟩
  cases d <;> first | exact sat.elim | skip
  rename_i l
  obtain ⟨a, xs, rfl, h1, h2⟩ := rd
  refine ⟨a, xs, rfl, h1, ?_, ρ, hh, env, l, rp, re, h2, sat⟩
  have sat' : SatG X.K G ρ H Q (γs l env hh) := sat
  cases q : γs l env hh with
  | ok e1 h1 => rw [h2.length]; exact hl.len _ _ _ _ _ q
  | exc x hh2 => rw [q] at sat'; exact sat'.elim
  | bad => rw [q] at sat'; exact sat'.elim
theorem SG.strong {γ : GΦ} (h : SG X G (RVw X.K G) e γ) : SG X G (RV X.K G) e γ := ⟨PG.weak h.pg fun v σ H Q ⟨ρ, hh, env, d, rp, re, rd, sat⟩ => ⟨ρ, hh, env, d, rp, re, RVw.of rd, sat⟩⟩
end
end DL

set_option Elab.async false
set_option linter.all false
set_option maxRecDepth 100000
set_option maxHeartbeats 4000000
/-! DL6: while, for, what is walked, comprehensions over data. -/
namespace DL
open PySem PySem.Spec PyProof.Rows L2

section
variable {X : Cx} {G : Gs} {W : WX} {e a b c tg iter : Expr} {es : List Expr} {pos : Pos} {body : List Stmt}
theorem SS.whl {τ : TΦ} {α : SΦ} {n : Nat} (hp : PassesOwn (model X.prog X.w) X.A X.env X.xe) (hc : ST X G W c τ) (hb : SSs X G W body α) : SS X G W (.While c body [] pos) (S.whl τ α n) := by
  refine ⟨PS.weak (ps_while hp hc.pt hb.ps) ?_⟩
  rintro D σ H ⟨ρ, hh, env, rp, re, sat⟩
  refine ⟨fun m σ H => ∃ ρ hh env, Rep X.K G ρ hh H ∧ RE X.K G ρ H env σ ∧ SatS X.K G W ρ H D (S.whl τ α m env hh), ⟨n, ρ, hh, env, rp, re, sat⟩, ?_⟩
  rintro m σ H ⟨ρ, hh, env, rp, re, sat⟩
  cases m with
  | zero => exact sat.elim
  | succ m =>
    have sat : SatS X.K G W ρ H D ((τ env hh).toS env fun c h => if c then (match α env h with
      | .nx env h => S.whl τ α m env h
      | .ct env h => S.whl τ α m env h
      | .bk env h => .nx env h
      | r => r) else .nx env h) := sat
    refine tG.toS rp re sat fun k k' ρ1 hh1 H1 e1 rp1 re1 rk sat1 => ?_
    have : k = k' := rk
    subst this
    cases k with
    | false => exact iteF (sat1 ρ1 σ H1 (Ext.refl _ _) rp1 re1)
    | true =>
      refine iteT ⟨fun σ' H' => ∃ ρ hh env, Rep X.K G ρ hh H' ∧ RE X.K G ρ H' env σ' ∧ SatS X.K G W ρ H' D (S.whl τ α m env hh), fun σ' H' q => ⟨m, Nat.lt_succ_self m, q⟩, ρ1, hh1, env, rp1, re1, ?_⟩
      cases q : α env hh1 with
      | nx env2 hh2 => rw [q] at sat1; exact fun ρ2 σ2 H2 e2 rp2 re2 => ⟨ρ2, hh2, env2, rp2, re2, SatS.ext e2 sat1⟩
      | ct env2 hh2 => rw [q] at sat1; exact fun ρ2 σ2 H2 e2 rp2 re2 => ⟨ρ2, hh2, env2, rp2, re2, SatS.ext e2 sat1⟩
      | bk env2 hh2 => rw [q] at sat1; exact sat1
      | rt d hh2 => rw [q] at sat1; exact sat1
      | exc x env2 hh2 => rw [q] at sat1; exact sat1
      | bad => rw [q] at sat1; exact sat1
theorem SS.for {rep : RepV} {φ : IΦ} {γ : GΦ} {α : SΦ} (hp : PassesOwn (model X.prog X.w) X.A X.env X.xe) (hc : X.calm = true) (hi : SI X G W rep tg iter φ) (hg : SG X G rep tg γ) (hb : SSs X G W body α) (mono : ∀ ρ H d v, rep ρ H d v → rep ρ H d v := by exact fun _ _ _ _ h => h)
    (hs : ∀ x, foldedSetIterable iter X.env x = pure x := by intro _; rfl) : SS X G W (.For tg iter body [] pos) (S.for φ γ α) := by
  refine ⟨PS.weak (ps_for hp hc hi.pi hg.pg hb.ps hs) ?_⟩
  rintro D σ H ⟨ρ, hh, env, rp, re, sat⟩
  refine ⟨ρ, hh, env, rp, re, ?_⟩
  unfold S.for at sat
  cases q : φ env hh with
  | exc x hh1 => rw [q] at sat; exact fun cls dx H1 ρ1 e1 rp1 xr => sat cls dx ρ1 σ H1 e1 rp1 (re.ext e1) xr
  | bad => rw [q] at sat; exact sat
  | ok s hh1 =>
    rw [q] at sat
    intro J ρ1 H1 e1 rp1 ok
    refine ⟨fun i m σ2 H2 => ∃ ρ2 hh2 env2, Ext ρ1 H1 ρ2 H2 ∧ Rep X.K G ρ2 hh2 H2 ∧ RE X.K G ρ2 H2 env2 σ2 ∧ m = s.items.length - i ∧ SatS X.K G W ρ2 H2 D (S.forGo s γ α (s.items.drop i) env2 hh2),
      ⟨_, ρ1, hh1, env, Ext.refl _ _, rp1, re.ext e1, rfl, SatS.ext e1 sat⟩, ?_⟩
    rintro i m σ2 H2 ⟨ρ2, hh2, env2, e2, rp2, re2, rfl, sat2⟩
    by_cases hi : i < s.items.length
    · rw [List.drop_eq_getElem_cons hi] at sat2
      unfold S.forGo at sat2
      split at sat2
      · rename_i hok
        refine .inr ⟨ok.go i ρ2 hh2 H2 e2 rp2 hok hi, fun σ' H' => ∃ ρ3 hh3 env3, Ext ρ1 H1 ρ3 H' ∧ Rep X.K G ρ3 hh3 H' ∧ RE X.K G ρ3 H' env3 σ' ∧ SatS X.K G W ρ3 H' D (S.forGo s γ α (s.items.drop (i + 1)) env3 hh3),
          fun σ' H' ⟨ρ3, hh3, env3, z1, z2, z3, z4⟩ => ⟨_, by omega, ρ3, hh3, env3, z1, z2, z3, rfl, z4⟩, fun x H3 hy => ?_⟩
        obtain ⟨e3, rp3, rx⟩ := ok.yld i ρ2 hh2 H2 x H3 _ e2 rp2 hok (List.getElem?_eq_getElem hi) hy
        refine ⟨ρ2, hh2, env2, s.items[i], rp3, re2.ext e3, rx, ?_⟩
        cases qg : γ s.items[i] env2 hh2 with
        | exc x h4 => rw [qg] at sat2; exact sat2
        | bad => rw [qg] at sat2; exact sat2
        | ok env4 hh4 =>
          rw [qg] at sat2
          intro ρ4 σ4 H4 e4 rp4 re4
          refine ⟨ρ4, hh4, env4, rp4, re4, ?_⟩
          have sat4 := SatS.ext (e3.trans e4) sat2
          have sat4 : SatS X.K G W ρ4 H4 D (match α env4 hh4 with
            | .nx env h => S.forGo s γ α (s.items.drop (i + 1)) env h
            | .ct env h => S.forGo s γ α (s.items.drop (i + 1)) env h
            | .bk env h => .nx env h
            | x => x) := sat4
          have eL : Ext ρ1 H1 ρ4 H4 := e2.trans (e3.trans e4)
          cases qb : α env4 hh4 with
          | nx env5 hh5 => rw [qb] at sat4; exact fun ρ5 σ5 H5 e5 rp5 re5 => ⟨ρ5, hh5, env5, eL.trans e5, rp5, re5, SatS.ext e5 sat4⟩
          | ct env5 hh5 => rw [qb] at sat4; exact fun ρ5 σ5 H5 e5 rp5 re5 => ⟨ρ5, hh5, env5, eL.trans e5, rp5, re5, SatS.ext e5 sat4⟩
          | bk env5 hh5 => rw [qb] at sat4; exact sat4
          | rt d hh5 => rw [qb] at sat4; exact sat4
          | exc x env5 hh5 => rw [qb] at sat4; exact sat4
          | bad => rw [qb] at sat4; exact sat4
      · exact sat2.elim
    · rw [List.drop_of_length_le (by omega)] at sat2
      unfold S.forGo at sat2
      split at sat2
      · rename_i hok
        exact .inl ⟨ok.stop i ρ2 hh2 H2 e2 rp2 hok (by omega), sat2 ρ2 σ2 H2 (Ext.refl _ _) rp2 re2⟩
      · exact sat2.elim

/-! ### what is walked -/
theorem PI.weak {X : Cx} {tg e : Expr} {t t' : TI} (h : PI X tg e t) (w : ∀ σ H R, t' σ H R → t σ H R) : PI X tg e t' := ⟨fun pins s σ H R I q => h.run pins s σ H R I (w σ H R q)⟩
theorem PI.or {X : Cx} {tg e : Expr} {t t' : TI} (h : PI X tg e t) (h' : PI X tg e t') : PI X tg e (fun σ H R => t σ H R ∨ t' σ H R) := ⟨fun pins s σ H R I q => by
  rcases q with q | q
  · exact h.run pins s σ H R I q
  · exact h'.run pins s σ H R I q⟩
/-- a tuple, or a list that is an object -/
def srcD (d : D) (h : Hh) : R Src := match d with
  | .tup l => .ok ⟨l, none⟩ h
  | .ref n => match h[n]? with
    | some (.lst l) => .ok ⟨l, some (n, .lst l)⟩ h
    | some (.frz l) => .ok ⟨l, some (n, .lst l)⟩ h
    | _ => .bad
  | _ => .bad
def I.of (a : EΦ) : IΦ := fun env h => (a env h).bind srcD
theorem itOk_tup {ρ0 : List Addr} {H0 : Hp} {l : List D} {p : Addr} {xs : List V} (h1 : TupK X.K H0 p xs) (h2 : RVs X.K G ρ0 H0 l xs) : ItOk X.K G (RV X.K G) ρ0 H0 ⟨l, none⟩ (Itt X.K p) where
  go := fun i ρ hh H e rp _ hi => by
    obtain ⟨v, q, _⟩ := (RVs.ext e _ _ h2).get (List.getElem?_eq_getElem hi)
    exact ⟨xs, v, (e.tupK h1).sqT, q⟩
  yld := fun i ρ hh H x H' d e rp _ hd hy => by
    obtain ⟨rfl, hy⟩ := hy
    obtain ⟨v, q, r⟩ := (RVs.ext e _ _ h2).get hd
    have := hy xs (e.tupK h1).sqT
    rw [q] at this
    cases this
    exact ⟨Ext.refl _ _, rp, r⟩
  stop := fun i ρ hh H e rp _ hi => ⟨xs, (e.tupK h1).sqT, by rw [h2.length]; exact hi⟩
theorem src_obj {ρ : List Addr} {hh : Hh} {H : Hp} {n : Nat} {l : List D} {p : Addr} {K : PySem.W.Frag} (rp : Rep K G ρ hh H) (hok : (⟨l, some (n, .lst l)⟩ : Src).ok hh = true) (hp : ρ[n]? = some p) : ∃ xs, SqL K H p xs ∧ RVs K G ρ H l xs := by
  unfold Src.ok at hok
  simp only at hok
  split at hok
  · rename_i m hm
    cases m <;> first | (cases hok; done) | skip
    · rename_i m
      rw [← D.of_beqs _ _ hok]
      obtain ⟨p', e1, xs, e2, e3⟩ := rp.ob _ _ hm
      rw [hp] at e1; cases e1
      exact ⟨xs, .inl (.inl e2), e3⟩
    · rename_i m
      rw [← D.of_beqs _ _ hok]
      obtain ⟨p', e1, xs, e2, e3⟩ := rp.ob _ _ hm
      rw [hp] at e1; cases e1
      exact ⟨xs, .inl e2, e3⟩
  · cases hok
theorem itOk_obj {ρ0 : List Addr} {H0 : Hp} {l : List D} {n : Nat} {p : Addr} (hp : ρ0[n]? = some p) : ItOk X.K G (RV X.K G) ρ0 H0 ⟨l, some (n, .lst l)⟩ (Itl X.K p) where
  go := fun i ρ hh H e rp hok hi => by
    obtain ⟨xs, h1, h2⟩ := src_obj rp hok (e.get hp)
    obtain ⟨v, q, _⟩ := h2.get (List.getElem?_eq_getElem hi)
    exact ⟨xs, v, h1, q⟩
  yld := fun i ρ hh H x H' d e rp hok hd hy => by
    obtain ⟨rfl, hy⟩ := hy
    obtain ⟨xs, h1, h2⟩ := src_obj rp hok (e.get hp)
    obtain ⟨v, q, r⟩ := h2.get hd
    have := hy xs h1
    rw [q] at this
    cases this
    exact ⟨Ext.refl _ _, rp, r⟩
  stop := fun i ρ hh H e rp hok hi => by
    obtain ⟨xs, h1, h2⟩ := src_obj rp hok (e.get hp)
    exact ⟨xs, h1, by rw [h2.length]; exact hi⟩
theorem itOk_fresh {ρ0 : List Addr} {H0 : Hp} {l : List D} {p : Addr} {xs : List V} (h1 : H0 p = some (.lst xs)) (hn : p ∉ ρ0) (h2 : RVs X.K G ρ0 H0 l xs) : ItOk X.K G (RV X.K G) ρ0 H0 ⟨l, none⟩ (Itl X.K p) where
  go := fun i ρ hh H e rp _ hi => by
    obtain ⟨v, q, _⟩ := (RVs.ext e _ _ h2).get (List.getElem?_eq_getElem hi)
    exact ⟨xs, v, .inl (.inl (e.side _ _ h1 hn (fun _ z => nomatch z))), q⟩
  yld := fun i ρ hh H x H' d e rp _ hd hy => by
    obtain ⟨rfl, hy⟩ := hy
    obtain ⟨v, q, r⟩ := (RVs.ext e _ _ h2).get hd
    have := hy xs (.inl (.inl (e.side _ _ h1 hn (fun _ z => nomatch z))))
    rw [q] at this
    cases this
    exact ⟨Ext.refl _ _, rp, r⟩
  stop := fun i ρ hh H e rp _ hi => ⟨xs, .inl (.inl (e.side _ _ h1 hn (fun _ z => nomatch z))), by rw [h2.length]; exact hi⟩
theorem SI.of {φ : EΦ} (ha : SE X G W iter φ) : SI X G W (RV X.K G) tg iter (I.of φ) := by
  refine ⟨PI.weak (PI.or (pi_list ha.pe) (pi_tup ha.pe)) ?_⟩
  rintro σ H Rr ⟨ρ, hh, env, rp, re, sat⟩
  unfold I.of at sat
  cases q : φ env hh with
  | exc x h1 =>
    rw [q] at sat
    exact .inl ⟨ρ, hh, env, rp, re, by rw [q]; exact sat⟩
  | bad => rw [q] at sat; exact sat.elim
  | ok d hh1 =>
    rw [q] at sat
    cases d <;> first | exact sat.elim | skip
    · refine .inr ⟨ρ, hh, env, rp, re, ?_⟩
      rw [q]
      intro v H1 ρ1 e1 rp1 rd
      obtain ⟨p, xs, rfl, h1, h2⟩ := rv_tup rd
      exact ⟨p, rfl, ⟨xs, h1.sqT⟩, sat _ ρ1 H1 e1 rp1 (itOk_tup h1 h2)⟩
    · rename_i n
      refine .inl ⟨ρ, hh, env, rp, re, ?_⟩
      rw [q]
      intro v H1 ρ1 e1 rp1 rd
      have rd' : RV X.K G ρ1 H1 (.ref n) v := rd
      simp only [RV] at rd'
      obtain ⟨p, rfl, hp⟩ := rd'
      have sat' : (srcD (.ref n) hh1).sat _ _ := sat
      unfold srcD at sat'
      simp only at sat'
      split at sat'
      · rename_i l hl
        obtain ⟨p', f1, xs, f2, f3⟩ := rp1.ob _ _ hl
        rw [hp] at f1; cases f1
        exact ⟨p, rfl, ⟨xs, .inl (.inl f2)⟩, sat' _ ρ1 H1 e1 rp1 (itOk_obj hp)⟩
      · rename_i l hl
        obtain ⟨p', f1, xs, f2, f3⟩ := rp1.ob _ _ hl
        rw [hp] at f1; cases f1
        exact ⟨p, rfl, ⟨xs, .inl f2⟩, sat' _ ρ1 H1 e1 rp1 (itOk_obj hp)⟩
      · exact sat'.elim
def I.ofL (a : LΦ) : IΦ := fun env h => (a env h).bind fun l h => .ok ⟨l, none⟩ h
theorem SI.ofL {φ : LΦ} (ha : SL X G W iter φ) : SI X G W (RV X.K G) tg iter (I.ofL φ) := by
  refine ⟨PI.weak (pi_list ha.pe) ?_⟩
  rintro σ H Rr ⟨ρ, hh, env, rp, re, sat⟩
  refine ⟨ρ, hh, env, rp, re, ?_⟩
  refine R.sat_mono (R.sat_bind sat) (fun l hh1 q v H1 ρ1 e1 rp1 rl => ?_) fun x h z => z
  obtain ⟨p, xs, rfl, h1, h2, h3, h4⟩ := rl
  exact ⟨p, rfl, ⟨xs, .inl (.inl h1)⟩, q _ ρ1 H1 e1 rp1 (itOk_fresh h1 h3 h4)⟩
/-- range(..) -/
def rngD (lo hi : Int) : List D := (List.range (hi - lo).toNat).map fun (i : Nat) => D.int (lo + i)
theorem rngD_length (lo hi : Int) : (rngD lo hi).length = (hi - lo).toNat := by unfold rngD; rw [List.length_map, List.length_range]
theorem rngD_get {lo hi : Int} {i : Nat} {d : D} (h : (rngD lo hi)[i]? = some d) : d = .int (lo + i) ∧ i < (hi - lo).toNat := by
  unfold rngD at h
  rw [List.getElem?_map] at h
  have hl : i < (hi - lo).toNat := by
    cases q : (List.range (hi - lo).toNat)[i]? with
    | none => rw [q] at h; cases h
    | some k => simpa using (List.getElem?_eq_some_iff.mp q).1
  rw [List.getElem?_range hl] at h
  cases h
  exact ⟨rfl, hl⟩
theorem itOk_rng {ρ0 : List Addr} {H0 : Hp} (lo hi : Int) : ItOk X.K G (RV X.K G) ρ0 H0 ⟨rngD lo hi, none⟩ (Itr lo (hi - lo).toNat) where
  go := fun i ρ hh H e rp _ h => by
    have h : i < (rngD lo hi).length := h
    rw [rngD_length] at h; exact h
  yld := fun i ρ hh H x H' d e rp _ hd hy => by
    obtain ⟨rfl, rfl⟩ := hy
    obtain ⟨rfl, _⟩ := rngD_get hd
    exact ⟨Ext.refl _ _, rp, by simp only [RV]⟩
  stop := fun i ρ hh H e rp _ h => by
    have h : (rngD lo hi).length ≤ i := h
    rw [rngD_length] at h; exact h
def rngOk (lo hi : Int) : Bool := small lo && small hi
theorem rngOk_ok {lo hi : Int} (h : rngOk lo hi = true) : ((-(2 ^ 62) ≤ lo ∧ lo < 2 ^ 62) ∧ -(2 ^ 62) ≤ hi) ∧ hi < 2 ^ 62 := by
  simp only [rngOk, Bool.and_eq_true, small_iff] at h
  omega
def rngS (i j : D) (h : Hh) : R Src := match i, j with
  | .int i, .int j => if rngOk i j then .ok ⟨rngD i j, none⟩ h else .bad
  | _, _ => .bad
def I.rng1 (a : EΦ) : IΦ := fun env h => (a env h).bind fun d h => rngS (.int 0) d h
def I.rng2 (a b : EΦ) : IΦ := fun env h => (a env h).bind fun x h => (b env h).bind fun y h => rngS x y h
theorem rngS_ok {x y : D} {h : Hh} {P : Src → Hh → Prop} {E : Ex → Hh → Prop} (q : (rngS x y h).sat P E) : ∃ i j, x = .int i ∧ y = .int j ∧ rngOk i j = true ∧ P ⟨rngD i j, none⟩ h := by
  unfold rngS at q
  split at q
  · split at q
    · rename_i hr; exact ⟨_, _, rfl, rfl, hr, q⟩
    · exact q.elim
  · exact q.elim
/-- a test of one function after another, for a source -/
theorem tG.toI {α β : Type} {rep : Hp → List Addr → Hp → α → β → Prop} {ρ : List Addr} {hh : Hh} {H : Hp} {σ : L2.St} {env : Env} {φ : Env → Hh → R α} {k : α → Hh → R Src} {rest : β → Hp → Prop} {P : Src → Hh → List Addr → Hp → Prop} (rp : Rep X.K G ρ hh H) (re : RE X.K G ρ H env σ)
    (sat : ((φ env hh).bind k).sat (fun s h => P s h ρ H) (fun x hh' => ∀ cls dx H' ρ', Ext ρ H ρ' H' → Rep X.K G ρ' hh' H' → XR X.K G ρ' H' x cls dx → W cls dx σ H')) (mono : ∀ s h ρ1 H1, Ext ρ H ρ1 H1 → P s h ρ H → P s h ρ1 H1)
    (step : ∀ a b ρ1 hh1 H1, Ext ρ H ρ1 H1 → Rep X.K G ρ1 hh1 H1 → RE X.K G ρ1 H1 env σ → rep H ρ1 H1 a b → (k a hh1).sat (fun s h => P s h ρ1 H1) (fun x hh' => ∀ cls dx H' ρ', Ext ρ1 H1 ρ' H' → Rep X.K G ρ' hh' H' → XR X.K G ρ' H' x cls dx → W cls dx σ H') → rest b H1) : tG X.K G W rep φ σ H rest := by
  refine ⟨ρ, hh, env, rp, re, ?_⟩
  refine R.sat_mono (R.sat_bind sat) (fun a hh1 q b H1 ρ1 e1 rp1 ra => ?_) fun x h z => z
  exact step a b ρ1 hh1 H1 e1 rp1 (re.ext e1) ra (R.sat_mono q (fun s h z => mono _ _ _ _ e1 z) fun x h z cls dx H' ρ' e' => z cls dx H' ρ' (e1.trans e'))
theorem SI.rng1 {φ : EΦ} {p : Pos} (hg : Gl X "range") (hm : X.mg "range" = none) (ha : SE X G W a φ) (hs : starEach [a] X.env = (false, eval a X.env) :: starEach [] X.env := by rfl) : SI X G W (RV X.K G) tg (.Call (.Name "range" p) [a] [] pos) (I.rng1 φ) := by
  refine ⟨PI.weak (pi_range1 hg hm (pa_cons ha.pe pa_nil hs) hs) ?_⟩
  rintro σ H Rr ⟨ρ, hh, env, rp, re, sat⟩
  refine tG.toI (P := fun s h ρ H => ∀ J ρ' H', Ext ρ H ρ' H' → Rep X.K G ρ' h H' → ItOk X.K G (RV X.K G) ρ' H' s J → Rr J H') rp re sat (fun s h ρ1 H1 e z J ρ' H' e' => z J ρ' H' (e.trans e')) fun d v ρ1 hh1 H1 e1 rp1 re1 rd q => ?_
  obtain ⟨i, j, ei, rfl, hr, q⟩ := rngS_ok q
  cases ei
  have rd' := rv_int rd
  subst rd'
  have hr := rngOk_ok hr
  refine ⟨j, rfl, hr.1.2, hr.2, ?_⟩
  have := itOk_rng (X := X) (G := G) (ρ0 := ρ1) (H0 := H1) 0 j
  rw [Int.sub_zero] at this
  exact q _ ρ1 H1 (Ext.refl _ _) rp1 this
theorem SI.rng2 {φ ψ : EΦ} {p : Pos} (hg : Gl X "range") (hm : X.mg "range" = none) (ha : SE X G W a φ) (hb : SE X G W b ψ) (hs : starEach [a, b] X.env = (false, eval a X.env) :: starEach [b] X.env := by rfl) (hs2 : starEach [b] X.env = (false, eval b X.env) :: starEach [] X.env := by rfl)
    (hs' : starEach [a, b] X.env = [(false, eval a X.env), (false, eval b X.env)] := by rfl) (hs2' : starEach [b] X.env = [(false, eval b X.env)] := by rfl) : SI X G W (RV X.K G) tg (.Call (.Name "range" p) [a, b] [] pos) (I.rng2 φ ψ) := by
  refine ⟨PI.weak (pi_range2 hg hm (pa_cons ha.pe (pa_cons hb.pe pa_nil hs2) hs) hs' hs2') ?_⟩
  rintro σ H Rr ⟨ρ, hh, env, rp, re, sat⟩
  refine tG.toI (P := fun s h ρ H => ∀ J ρ' H', Ext ρ H ρ' H' → Rep X.K G ρ' h H' → ItOk X.K G (RV X.K G) ρ' H' s J → Rr J H') rp re sat (fun s h ρ1 H1 e z J ρ' H' e' => z J ρ' H' (e.trans e')) fun d v ρ1 hh1 H1 e1 rp1 re1 rd q => ?_
  refine tG.toI (P := fun s h ρ H => ∀ J ρ' H', Ext ρ H ρ' H' → Rep X.K G ρ' h H' → ItOk X.K G (RV X.K G) ρ' H' s J → Rr J H') rp1 re1 q (fun s h ρ1 H1 e z J ρ' H' e' => z J ρ' H' (e.trans e')) fun d2 v2 ρ2 hh2 H2 e2 rp2 re2 rd2 q => ?_
  obtain ⟨i, j, rfl, rfl, hr, q⟩ := rngS_ok q
  have rd1' := rv_int rd
  have rd2' := rv_int rd2
  subst rd1' rd2'
  have hr := rngOk_ok hr
  exact ⟨i, j, rfl, ⟨hr.1.1.1, hr.1.1.2, hr.1.2, hr.2⟩, q _ ρ2 H2 (Ext.refl _ _) rp2 (itOk_rng i j)⟩
/-! ### list(range(..)), tuple(range(..)) -/
def lrng (x y : D) (h : Hh) : R (List D) := match x, y with
  | .int i, .int j => if rngOk i j && Nat.ble (j - i).toNat 16777216 then .ok (rngD i j) h else .bad
  | _, _ => .bad
theorem lrng_ok {x y : D} {h : Hh} {P : List D → Hh → Prop} {E : Ex → Hh → Prop} (q : (lrng x y h).sat P E) : ∃ i j, x = .int i ∧ y = .int j ∧ RgOk i j ∧ P (rngD i j) h := by
  unfold lrng at q
  split at q
  · split at q
    · rename_i hr
      simp only [Bool.and_eq_true, Nat.ble_eq] at hr
      have h2 := rngOk_ok hr.1
      exact ⟨_, _, rfl, rfl, ⟨h2.1.1.1, h2.1.1.2, h2.1.2, h2.2, by have := hr.2; omega⟩, q⟩
    · exact q.elim
  · exact q.elim
theorem rng_rvs {K : PySem.W.Frag} {ρ : List Addr} {H : Hp} (i j : Int) : RVs K G ρ H (rngD i j) (rgV i j) := by
  have e1 : rngD i j = ((List.range (j - i).toNat).map fun (k : Nat) => i + (k : Int)).map D.int := by unfold rngD; rw [List.map_map]; rfl
  have e2 : rgV i j = ((List.range (j - i).toNat).map fun (k : Nat) => i + (k : Int)).map V.int := by unfold rgV; rw [List.map_map]; rfl
  rw [e1, e2]
  exact RVs.of_ints _
def L.rng1 (a : EΦ) : LΦ := fun env h => (a env h).bind fun d h => lrng (.int 0) d h
def L.rng2 (a b : EΦ) : LΦ := fun env h => (a env h).bind fun x h => (b env h).bind fun y h => lrng x y h
theorem SL.rng1 {φ : EΦ} {p p2 pos2 : Pos} (hc : X.calm = true) (hl : Gl X "list") (hml : X.mg "list" = none) (hg : Gl X "range") (hm : X.mg "range" = none) (ha : SE X G W a φ) (na : starEach [a] X.env = (false, eval a X.env) :: starEach [] X.env := by rfl)
    (ne : starEach [.Call (.Name "range" p) [a] [] pos] X.env = (false, eval (.Call (.Name "range" p) [a] [] pos) X.env) :: starEach [] X.env := by rfl) : SL X G W (.Call (.Name "list" p2) [.Call (.Name "range" p) [a] [] pos] [] pos2) (L.rng1 φ) := by
  refine ⟨PE.weak (pe_listRg hc hl hml (prg_1 hg hm ha.pe na) ne) ?_⟩
  rintro σ H Q ⟨ρ, hh, env, rp, re, sat⟩
  refine tG.seq later_L rp re sat fun d v ρ1 hh1 H1 e1 rp1 re1 rd sat1 => ?_
  obtain ⟨i, j, ei, rfl, hr, q⟩ := lrng_ok sat1
  cases ei
  have rd' := rv_int rd
  subst rd'
  exact ⟨j, rfl, hr, fun t ht => q _ _ _ (Ext.laid ht) (rp1.side ht) ⟨t, _, rfl, upd_same, ht, rp1.notin ht, rng_rvs _ _⟩⟩
theorem SL.rng2 {φ ψ : EΦ} {p p2 pos2 : Pos} (hc : X.calm = true) (hl : Gl X "list") (hml : X.mg "list" = none) (hg : Gl X "range") (hm : X.mg "range" = none) (ha : SE X G W a φ) (hb : SE X G W b ψ) (na : starEach [a, b] X.env = (false, eval a X.env) :: starEach [b] X.env := by rfl) (nb : starEach [b] X.env = (false, eval b X.env) :: starEach [] X.env := by rfl)
    (np : (backTo pos (starEach [b] X.env)).any (·.1) = false := by rfl)
    (ne : starEach [.Call (.Name "range" p) [a, b] [] pos] X.env = (false, eval (.Call (.Name "range" p) [a, b] [] pos) X.env) :: starEach [] X.env := by rfl) : SL X G W (.Call (.Name "list" p2) [.Call (.Name "range" p) [a, b] [] pos] [] pos2) (L.rng2 φ ψ) := by
  refine ⟨PE.weak (pe_listRg hc hl hml (prg_2 hg hm ha.pe hb.pe na nb np) ne) ?_⟩
  rintro σ H Q ⟨ρ, hh, env, rp, re, sat⟩
  refine tG.seq later_L rp re sat fun d v ρ1 hh1 H1 e1 rp1 re1 rd sat1 => ?_
  refine tG.seq later_L rp1 re1 sat1 fun d2 v2 ρ2 hh2 H2 e2 rp2 re2 rd2 sat2 => ?_
  obtain ⟨i, j, rfl, rfl, hr, q⟩ := lrng_ok sat2
  have rd1' := rv_int rd
  have rd2' := rv_int rd2
  subst rd1' rd2'
  exact ⟨i, j, rfl, rfl, hr, fun t ht => q _ _ _ (Ext.laid ht) (rp2.side ht) ⟨t, _, rfl, upd_same, ht, rp2.notin ht, rng_rvs _ _⟩⟩
/-- tuple(range(n)) -/
theorem SE.trng1 {φ : EΦ} {p p2 pos2 : Pos} (hc : X.calm = true) (hl : Gl X "tuple") (hml : X.mg "tuple" = none) (hg : Gl X "range") (hm : X.mg "range" = none) (ha : SE X G W a φ) (na : starEach [a] X.env = (false, eval a X.env) :: starEach [] X.env := by rfl)
    (ne : starEach [.Call (.Name "range" p) [a] [] pos] X.env = (false, eval (.Call (.Name "range" p) [a] [] pos) X.env) :: starEach [] X.env := by rfl) : SE X G W (.Call (.Name "tuple" p2) [.Call (.Name "range" p) [a] [] pos] [] pos2) (E.tuple (L.rng1 φ)) := by
  refine ⟨PE.weak (pe_tupRgF hc hl hml (prg_1 hg hm ha.pe na) ne) ?_⟩
  rintro σ H Q ⟨ρ, hh, env, rp, re, sat⟩
  have sat : Sat X.K G W (rV X.K G) ρ H σ Q ((φ env hh).bind fun d h => (lrng (.int 0) d h).bind fun l h => .ok (.tup l) h) := by
    unfold E.tuple L.rng1 at sat
    cases q : φ env hh <;> rw [q] at sat <;> exact sat
  refine tG.seq later_V rp re sat fun d v ρ1 hh1 H1 e1 rp1 re1 rd sat1 => ?_
  obtain ⟨i, j, ei, rfl, hr, q⟩ := lrng_ok (R.sat_bind sat1)
  cases ei
  have rd' := rv_int rd
  subst rd'
  exact ⟨j, rfl, hr, newT (W := W) (σ := σ) rp1 q (rng_rvs _ _)⟩
end
end DL

set_option Elab.async false
set_option linter.all false
set_option maxRecDepth 100000
set_option maxHeartbeats 4000000
/-! DL7: comprehensions over data. -/
namespace DL
open PySem PySem.Spec PyProof.Rows L2

inductive TgC where
  | one (i : Nat) | many (is : List Nat)
def setMany : List Nat → List D → Env → Env
  | i :: is, d :: ds, env => setMany is ds (env.set i (some d))
  | _, _, env => env
def setC : TgC → D → Env → Option Env
  | .one i, d, env => some (env.set i (some d))
  | .many is, .tup l, env => if l.length = is.length then some (setMany is l env) else none
  | _, _, _ => none
def wipeE (env : Env) : List Nat → Env
  | [] => env
  | v :: vs => (wipeE env vs).set v none
def T.yes : TΦ := fun _ h => .ok true h
def compGo (s : Src) (tg : TgC) (t : TΦ) (e : EΦ) (env : Env) : List D → Hh → R (List D)
  | [], h => if s.ok h then .ok [] h else .bad
  | d :: r, h => if s.ok h then (match setC tg d env with
    | none => .bad
    | some env1 => match t env1 h with
      | .ok true h => (match e env1 h with
        | .ok y h => (compGo s tg t e env r h).bind fun l h => .ok (y :: l) h
        | _ => .bad)
      | .ok false h => compGo s tg t e env r h
      | _ => .bad) else .bad
/-- exceptions leave no comprehension -/
theorem compGo_nox (s : Src) (tg : TgC) (t : TΦ) (e : EΦ) (env : Env) : ∀ l h x h', compGo s tg t e env l h ≠ .exc x h'
  | [], h, x, h', q => by
    unfold compGo at q
    split at q <;> cases q
  | d :: r, h, x, h', q => by
    unfold compGo at q
    split at q
    · split at q
      · cases q
      · split at q
        · split at q
          · rename_i h2 _
            cases w : compGo s tg t e env r h2 with
            | ok l h3 => rw [w] at q; cases q
            | exc y h3 => exact compGo_nox s tg t e env r h2 y h3 w
            | bad => rw [w] at q; cases q
          · cases q
        · exact compGo_nox s tg t e env r _ x h' q
        · cases q
    · cases q
def L.comp (i : IΦ) (vs : List Nat) (tg : TgC) (t : TΦ) (e : EΦ) : LΦ := fun env h => (i env h).bind fun s h => (compGo s tg t e (wipeE env vs) s.items h).bind fun l h => fits l.length (.ok l h)

theorem RE.unset {K : PySem.W.Frag} {G : Gs} {ρ : List Addr} {H : Hp} {env : Env} {σ : L2.St} (r : RE K G ρ H env σ) (i : Nat) : RE K G ρ H (env.set i none) (σ.set i none) := by
  refine ⟨by rw [List.length_set, List.length_set]; exact r.len, fun j d' hj => ?_⟩
  by_cases e : i = j
  · subst e
    have hi : i < env.length := by
      have := (List.getElem?_eq_some_iff.mp hj).1
      rwa [List.length_set] at this
    rw [List.getElem?_set_self hi] at hj
    cases hj
  · rw [List.getElem?_set_ne e] at hj
    obtain ⟨u, e1, e2⟩ := r.at' j d' hj
    exact ⟨u, by rw [List.getElem?_set_ne e]; exact e1, e2⟩
theorem RE.wipe {K : PySem.W.Frag} {G : Gs} {ρ : List Addr} {H : Hp} {env : Env} {σ : L2.St} (r : RE K G ρ H env σ) : ∀ vs : List Nat, RE K G ρ H (wipeE env vs) (L2.wipe σ vs)
  | [] => r
  | v :: vs => (RE.wipe r vs).unset v
theorem wipe_set {σ : L2.St} {i : Nat} {v : Option V} : ∀ {vs : List Nat}, i ∈ vs → L2.wipe (σ.set i v) vs = L2.wipe σ vs
  | [], h => by simp at h
  | w :: vs, h => by
    unfold L2.wipe
    by_cases e : i = w
    · subst e
      by_cases hm : i ∈ vs
      · rw [wipe_set hm]
      · have : ∀ vs : List Nat, i ∉ vs → L2.wipe (σ.set i v) vs = (L2.wipe σ vs).set i v := by
          intro vs
          induction vs with
          | nil => intro _; rfl
          | cons a r ih =>
            intro hn
            simp only [List.mem_cons, not_or] at hn
            unfold L2.wipe
            rw [ih hn.2, List.set_comm _ _ hn.1]
        rw [this vs hm, List.set_set]
    · have hm : i ∈ vs := by
        rcases List.mem_cons.mp h with q | q
        · exact absurd q e
        · exact q
      rw [wipe_set hm]
theorem wipe_wipe (σ : L2.St) : ∀ vs : List Nat, L2.wipe (L2.wipe σ vs) vs = L2.wipe σ vs := by
  have key : ∀ (ws vs : List Nat) (σ : L2.St), (∀ i ∈ ws, i ∈ vs) → L2.wipe (L2.wipe σ ws) vs = L2.wipe σ vs := by
    intro ws
    induction ws with
    | nil => intro vs σ _; rfl
    | cons a r ih =>
      intro vs σ h
      show L2.wipe ((L2.wipe σ r).set a none) vs = L2.wipe σ vs
      rw [wipe_set (h a List.mem_cons_self)]
      exact ih vs σ fun i hi => h i (List.mem_cons_of_mem _ hi)
  exact fun vs => key vs vs σ fun _ h => h
mutual
theorem RV.gen {K : PySem.W.Frag} {G : Gs} {ρ ρ' : List Addr} {H H' : Hp} (e : ∀ {n : Nat} {b : Addr}, ρ[n]? = some b → ρ'[n]? = some b) (f : ∀ b o u, H b = some (.frz o u) → H' b = some (.frz o u)) : ∀ (d : D) (v : V), RV K G ρ H d v → RV K G ρ' H' d v
  | .non, v, h => by simp only [RV] at h ⊢; exact h
  | .bl b, v, h => by simp only [RV] at h ⊢; exact h
  | .int i, v, h => by simp only [RV] at h ⊢; exact h
  | .str s, v, h => by simp only [RV] at h ⊢; exact h
  | .tup l, v, h => by
    simp only [RV] at h ⊢
    obtain ⟨a, xs, e1, e2, e3⟩ := h
    refine ⟨a, xs, e1, ?_, RVs.gen e f l xs e3⟩
    rcases e2 with ⟨o, h, d⟩ | h
    · exact .inl ⟨o, f _ _ _ h, d⟩
    · exact .inr h
  | .ref n, v, h => by
    simp only [RV] at h ⊢
    obtain ⟨a, e1, e2⟩ := h
    exact ⟨a, e1, e e2⟩
  | .fn n, v, h => by simp only [RV] at h ⊢; exact h
theorem RVs.gen {K : PySem.W.Frag} {G : Gs} {ρ ρ' : List Addr} {H H' : Hp} (e : ∀ {n : Nat} {b : Addr}, ρ[n]? = some b → ρ'[n]? = some b) (f : ∀ b o u, H b = some (.frz o u) → H' b = some (.frz o u)) : ∀ (l : List D) (xs : List V), RVs K G ρ H l xs → RVs K G ρ' H' l xs
  | [], xs, h => by simp only [RVs] at h ⊢; exact h
  | d :: l, xs, h => by
    simp only [RVs] at h ⊢
    obtain ⟨v, r, e1, e2, e3⟩ := h
    exact ⟨v, r, e1, RV.gen e f d v e2, RVs.gen e f l r e3⟩
end
theorem frz_other {H : Hp} {D : Addr} {xs : List V} {o : HO} (h : H D = some (.lst xs)) : ∀ b q u, H b = some (.frz q u) → upd H D o b = some (.frz q u) := fun b q u e => by
  rw [upd_ne]
  · exact e
  · rintro rfl; rw [h] at e; cases e
theorem RO.gen {K : PySem.W.Frag} {G : Gs} {ρ ρ' : List Addr} {H H' : Hp} {a : Addr} {o : MO} (h : RO K G ρ H a o) (e : ∀ {n : Nat} {b : Addr}, ρ[n]? = some b → ρ'[n]? = some b) (f : ∀ b o u, H b = some (.frz o u) → H' b = some (.frz o u)) (k : H' a = H a) (w : ∀ b y, H b = some (.own y) → b ∉ ρ → H' b = some (.own y) ∧ b ∉ ρ') : RO K G ρ' H' a o := by
  cases o with
  | lst l => obtain ⟨xs, q, r⟩ := h; exact ⟨xs, k.trans q, RVs.gen e f _ _ r⟩
  | frz l => obtain ⟨xs, q, r⟩ := h; exact ⟨xs, q.at k, RVs.gen e f _ _ r⟩
  | dct kvs ep => obtain ⟨xs, h⟩ := h; exact ⟨xs, k.trans h.raw, h.sm, h.nd, h.sz, h.es.map fun d v => RV.gen e f d v⟩
  | ins c fs => obtain ⟨dx, vs, h⟩ := h; exact ⟨dx, vs, k.trans h.ob, (w _ _ h.own h.out).1, (w _ _ h.own h.out).2, RVs.gen e f _ _ h.vs⟩
/-- a list that isn't counted changes -/
theorem Rep.other {K : PySem.W.Frag} {G : Gs} {ρ : List Addr} {hh : Hh} {H : Hp} (rep : Rep K G ρ hh H) {D : Addr} {xs : List V} {o : HO} (h : H D = some (.lst xs)) (n : D ∉ ρ) : Rep K G ρ hh (upd H D o) := by
  refine ⟨rep.len, rep.nd, fun m ob hm => ?_, fun P hP => ?_⟩
  · obtain ⟨b, e1, e2⟩ := rep.ob m ob hm
    exact ⟨b, e1, e2.gen (fun h => h) (frz_other h) (upd_ne fun q => n (by rw [← q]; exact List.mem_of_getElem? e1)) fun c y hc nc => ⟨by rw [upd_ne (by rintro rfl; rw [h] at hc; cases hc)]; exact hc, nc⟩⟩
  · obtain ⟨ps, e1, e2⟩ := rep.tb P hP
    refine ⟨ps, ?_, e2⟩
    rw [upd_ne]
    · exact e1
    · rintro rfl; rw [h] at e1; cases e1
theorem Ext.other {ρ ρ' : List Addr} {H H' : Hp} (e : Ext ρ H ρ' H') {D : Addr} {xs : List V} {o : HO} (h : H' D = some (.lst xs)) (h0 : H D = none) : Ext ρ H ρ' (L2.upd H' D o) := by
  refine ⟨e.pre, fun b ys q => ?_, fun b q u r => frz_other h _ _ _ (e.frzs _ _ _ r), fun b u q n t => ?_, fun b q => ?_⟩
  · rw [upd_ne (ne_of_none q h0)]; exact e.tups _ _ q
  · rw [upd_ne (ne_of_none q h0)]; exact e.side _ _ q n t
  · by_cases z : b = D
    · subst z; exact h0
    · rw [upd_ne z] at q; exact e.dom b q
abbrev WF : WX := fun _ _ _ _ => False
/-- a comprehension's target -/
def SCg (X : Cx) (G : Gs) (rep : RepV) (scope : Scope) (tg : Expr) (vs : List Nat) (tgc : TgC) : Prop := ∃ g : TG,
  (∀ (s : Shared) (H : Hp) (C : Addr) (cl : List (Str × Addr)) (fp : List Addr), PG (X.blk s H scope (compEnvC scope cl C X.env) fp) tg g) ∧
  ∀ ρ H d x env env1 σ Q, rep ρ H d x → RE X.K G ρ H env σ → setC tgc d env = some env1 → (∀ σ1, RE X.K G ρ H env1 σ1 → L2.wipe σ1 vs = L2.wipe σ vs → Q σ1 H) → g x σ H Q
section
variable {X : Cx} {G : Gs} {W : WX} {elt tg iter : Expr} {ifs : List Expr} {pos : Pos} {scope : Scope}
theorem SCg.one {i : Nat} {x : Str} {vs : List Nat} (hN : X.N.Nodup) (hi : X.N[i]? = some x) (hm : i ∈ vs)
    (hx : ∀ (s : Shared) (H : Hp) (C : Addr) (cl : List (Str × Addr)) (fp : List Addr), Loc (X.blk s H scope (compEnvC scope cl C X.env) fp).env.scope x ∧ ((X.blk s H scope (compEnvC scope cl C X.env) fp).fn x = true ∨ (X.blk s H scope (compEnvC scope cl C X.env) fp).env.scope.names.lookup x = some .local)) :
    SCg X G (RV X.K G) scope (.Name x pos) vs (.one i) := by
  refine ⟨gName i, fun s H C cl fp => pg_name hN hi (hx s H C cl fp).1 (hx s H C cl fp).2, fun ρ H d v env env1 σ Q r re e q => ?_⟩
  cases e
  exact q _ (re.set i r) (wipe_set hm)
theorem setMany_ok {K : PySem.W.Frag} {ρ : List Addr} {H : Hp} {vs : List Nat} : ∀ {is : List Nat} {l : List D} {xs : List V} {env : Env} {σ : L2.St}, (∀ i ∈ is, i ∈ vs) → RVs K G ρ H l xs → l.length = is.length → RE K G ρ H env σ →
    ∃ σ1, RE K G ρ H (setMany is l env) σ1 ∧ L2.wipe σ1 vs = L2.wipe σ vs
  | [], [], _, env, σ, _, _, _, re => ⟨σ, re, rfl⟩
  | i :: is, d :: ds, xs, env, σ, hm, h, hl, re => by
    obtain ⟨v, r, rfl, h1, h2⟩ := h.inv_cons
    obtain ⟨σ1, q1, q2⟩ := setMany_ok (is := is) (l := ds) (fun j hj => hm j (List.mem_cons_of_mem _ hj)) h2 (by simpa using hl) (re.set i h1)
    exact ⟨σ1, q1, by rw [q2, wipe_set (hm i List.mem_cons_self)]⟩
  | [], _ :: _, _, _, _, _, _, hl, _ => by simp at hl
  | _ :: _, [], _, _, _, _, _, hl, _ => by simp at hl
def gNames : List Nat → TGs
  | [] => gNil
  | i :: is => gCons (gName i) (gNames is)
theorem gNames_ok {vs : List Nat} : ∀ {is : List Nat} {l : List D} {xs : List V} {env : Env} {σ : L2.St} {ρ : List Addr} {H : Hp} {Q : L2.St → Hp → Prop}, (∀ i ∈ is, i ∈ vs) → RVs X.K G ρ H l xs → l.length = is.length → RE X.K G ρ H env σ →
    (∀ σ1, RE X.K G ρ H (setMany is l env) σ1 → L2.wipe σ1 vs = L2.wipe σ vs → Q σ1 H) → gNames is xs σ H Q
  | [], [], _, env, σ, ρ, H, Q, _, h, _, re, q => ⟨h.inv_nil, q σ re rfl⟩
  | i :: is, d :: ds, xs, env, σ, ρ, H, Q, hm, h, hl, re, q => by
    obtain ⟨v, r, rfl, h1, h2⟩ := h.inv_cons
    exact ⟨v, r, rfl, gNames_ok (is := is) (l := ds) (fun j hj => hm j (List.mem_cons_of_mem _ hj)) h2 (by simpa using hl) (re.set i h1) fun σ1 a b => q σ1 a (by rw [b, wipe_set (hm i List.mem_cons_self)])⟩
  | [], _ :: _, _, _, _, _, _, _, _, _, hl, _, _ => by simp at hl
  | _ :: _, [], _, _, _, _, _, _, _, _, hl, _, _ => by simp at hl
theorem SCg.many {es : List Expr} {is vs : List Nat} {k n : Nat} (hc : X.calm = true) (hm : ∀ i ∈ is, i ∈ vs) (hn : is.length = n)
    (hx : ∀ (s : Shared) (H : Hp) (C : Addr) (cl : List (Str × Addr)) (fp : List Addr), PG (X.blk s H scope (compEnvC scope cl C X.env) fp) (.Tuple es k pos) (gTup X.K n (gNames is))) : SCg X G (RVw X.K G) scope (.Tuple es k pos) vs (.many is) := by
  refine ⟨gTup X.K n (gNames is), hx, fun ρ H d v env env1 σ Q r re e q => ?_⟩
  cases d <;> first | cases e | skip
  rename_i l
  obtain ⟨a, xs, rfl, h1, h2⟩ := r
  have e : (if l.length = is.length then some (setMany is l env) else none) = some env1 := e
  split at e
  · rename_i hl
    cases e
    exact ⟨a, xs, rfl, h1, by rw [h2.length, hl, hn], gNames_ok hm h2 hl re q⟩
  · cases e
theorem SCg.strong {tg : Expr} {vs : List Nat} {tgc : TgC} (h : SCg X G (RVw X.K G) scope tg vs tgc) : SCg X G (RV X.K G) scope tg vs tgc := by
  obtain ⟨g, h1, h2⟩ := h
  exact ⟨g, h1, fun ρ H d x env env1 σ Q r => h2 ρ H d x env env1 σ Q (RVw.of r)⟩
/-- the tests of a clause -/
def STs (X : Cx) (G : Gs) (scope : Scope) (ifs : List Expr) (τ : TΦ) : Prop := ∀ (s : Shared) (H : Hp) (C : Addr) (cl : List (Str × Addr)) (fp : List Addr), PTs (X.blk s H scope (compEnvC scope cl C X.env) fp) ifs (tG X.K G WF rB τ)
theorem PTs.weak {X : Cx} {ifs : List Expr} {t t' : TT} (h : PTs X ifs t) (w : ∀ σ H Q, t' σ H Q → t σ H Q) : PTs X ifs t' := ⟨fun pins s σ H Q I q => h.run pins s σ H Q I (w σ H Q q)⟩
theorem STs.nil : STs X G scope [] T.yes := fun s H C cl fp => by
  refine PTs.weak pts_nil ?_
  rintro σ H Q ⟨ρ, hh, env, rp, re, sat⟩
  exact Sat.mk sat (Ext.refl _ _) rp rfl
theorem STs.one {c : Expr} {τ : TΦ} (h : ∀ (s : Shared) (H : Hp) (C : Addr) (cl : List (Str × Addr)) (fp : List Addr), ST (X.blk s H scope (compEnvC scope cl C X.env) fp) G WF c τ) : STs X G scope [c] τ := fun s H C cl fp => pts_one (h s H C cl fp).pt

/-- the reading of a comprehension -/
theorem comp_rd {rep : RepV} {own : List (Str × Nat)} {φ : IΦ} {tgc : TgC} {τ : TΦ} {χ : EΦ} {g : TG} {σ : L2.St} {H : Hp} {Q : VK}
    (hg : ∀ ρ H d x env env1 σ Q, rep ρ H d x → RE X.K G ρ H env σ → setC tgc d env = some env1 → (∀ σ1, RE X.K G ρ H env1 σ1 → L2.wipe σ1 (own.map (·.2)) = L2.wipe σ (own.map (·.2)) → Q σ1 H) → g x σ H Q)
    (h : tG X.K G W (rL X.K G) (L.comp φ (own.map (·.2)) tgc τ χ) σ H Q) : tLc (tI X.K G W rep φ) g (tG X.K G WF rB τ) (tG X.K G WF (rV X.K G) χ) (own.map (·.2)) σ H Q := by
  generalize own.map (·.2) = vs at hg h
  obtain ⟨ρ, hh, env, rp, re, sat⟩ := h
  refine ⟨ρ, hh, env, rp, re, ?_⟩
  unfold L.comp at sat
  cases q : φ env hh with
  | exc x hh1 => rw [q] at sat; exact sat
  | bad => rw [q] at sat; exact sat
  | ok s hh1 =>
    rw [q] at sat
    intro J ρ1 H1 e1 rp1 ok D hD
    have sat : Sat X.K G W (rL X.K G) ρ H σ Q ((compGo s tgc τ χ (wipeE env vs) s.items hh1).bind fun l h => DL.fits l.length (.ok l h)) := sat
    cases qc : compGo s tgc τ χ (wipeE env vs) s.items hh1 with
    | exc x hf => exact (compGo_nox _ _ _ _ _ _ _ _ _ qc).elim
    | bad => rw [qc] at sat; exact sat.elim
    | ok L hf =>
      rw [qc] at sat
      obtain ⟨hz, sat⟩ := Sat.fits sat
      have e2 : Ext ρ1 H1 ρ1 (upd H1 D (.lst [])) := Ext.laid hD
      refine ⟨fun i m H2 => ∃ ρ2 hh2 acc accV lr, Ext ρ1 H1 ρ2 H2 ∧ Rep X.K G ρ2 hh2 H2 ∧ H2 D = some (.lst accV) ∧ D ∉ ρ2 ∧ RVs X.K G ρ2 H2 acc accV ∧ compGo s tgc τ χ (wipeE env vs) (s.items.drop i) hh2 = .ok lr hf ∧ acc ++ lr = L ∧ m = s.items.length - i,
        ⟨_, ρ1, hh1, [], [], L, e2, rp1.side hD, upd_same, rp1.notin hD, .nil, qc, rfl, rfl⟩, ?_⟩
      rintro i m H2 ⟨ρ2, hh2, acc, accV, lr, eL, rp2, hD2, nD, rA, qr, eA, rfl⟩
      by_cases hi : i < s.items.length
      · rw [List.drop_eq_getElem_cons hi] at qr
        unfold compGo at qr
        split at qr
        · rename_i hok
          refine .inr ⟨ok.go i ρ2 hh2 H2 eL rp2 hok hi, fun H' => ∃ ρ3 hh3 acc accV lr, Ext ρ1 H1 ρ3 H' ∧ Rep X.K G ρ3 hh3 H' ∧ H' D = some (.lst accV) ∧ D ∉ ρ3 ∧ RVs X.K G ρ3 H' acc accV ∧ compGo s tgc τ χ (wipeE env vs) (s.items.drop (i + 1)) hh3 = .ok lr hf ∧ acc ++ lr = L,
            fun H' ⟨ρ3, hh3, acc3, accV3, lr3, z1, z2, z3, z4, z5, z6, z7⟩ => ⟨_, by omega, ρ3, hh3, acc3, accV3, lr3, z1, z2, z3, z4, z5, z6, z7, rfl⟩, fun x H3 hy => ?_⟩
          obtain ⟨e3, rp3, rx⟩ := ok.yld i ρ2 hh2 H2 x H3 _ eL rp2 hok (List.getElem?_eq_getElem hi) hy
          have re0 : RE X.K G ρ2 H3 (wipeE env vs) (L2.wipe σ vs) := ((re.ext (e1.trans (eL.trans e3))).wipe vs)
          have hD3 : H3 D = some (.lst accV) := e3.side _ _ hD2 nD (fun _ z => nomatch z)
          split at qr
          · cases qr
          · rename_i env1 hs1
            refine hg ρ2 H3 _ x _ env1 _ _ rx re0 hs1 fun σ1 re1 hw => ⟨by rw [hw]; exact wipe_wipe σ vs, ρ2, hh2, env1, rp3, re1, ?_⟩
            cases qt : τ env1 hh2 with
            | exc y h4 => rw [qt] at qr; cases qr
            | bad => rw [qt] at qr; cases qr
            | ok k hh4 =>
              rw [qt] at qr
              intro k' H4 ρ4 e4 rp4 rk
              have : k = k' := rk
              subst this
              have hD4 := e4.side _ _ hD3 nD (fun _ z => nomatch z)
              have nD4 := e4.notin hD3 nD
              cases k with
              | false =>
                exact iteF ⟨ρ4, hh4, acc, accV, lr, eL.trans (e3.trans e4), rp4, hD4, nD4, RVs.ext (e3.trans e4) _ _ rA, qr, eA⟩
              | true =>
                refine iteT ⟨ρ4, hh4, env1, rp4, re1.ext e4, ?_⟩
                have qr : (match χ env1 hh4 with
                  | .ok y h => (compGo s tgc τ χ (wipeE env vs) (s.items.drop (i + 1)) h).bind fun l h => .ok (y :: l) h
                  | _ => .bad) = .ok lr hf := qr
                cases qe : χ env1 hh4 with
                | exc y h5 => rw [qe] at qr; cases qr
                | bad => rw [qe] at qr; cases qr
                | ok y hh5 =>
                  rw [qe] at qr
                  intro v H5 ρ5 e5 rp5 ry
                  have hD5 := e5.side _ _ hD4 nD4 (fun _ z => nomatch z)
                  have nD5 := e5.notin hD4 nD4
                  cases qn : compGo s tgc τ χ (wipeE env vs) (s.items.drop (i + 1)) hh5 with
                  | exc y2 h6 => exact (compGo_nox _ _ _ _ _ _ _ _ _ qn).elim
                  | bad => simp only [qn, R.bind_bad] at qr; cases qr
                  | ok l6 h6 =>
                    simp only [qn, R.bind_ok] at qr
                    cases qr
                    have rA5 := RVs.ext (e3.trans (e4.trans e5)) _ _ rA
                    have hlen := rA5.length
                    have hL : acc.length + (l6.length + 1) = L.length := by rw [← eA, List.length_append, List.length_cons]
                    refine ⟨accV, hD5, by rw [hlen]; omega, ρ5, hh5, acc ++ [y], accV ++ [v], l6, ?_, ?_, upd_same, nD5, ?_, qn, ?_⟩
                    · exact (eL.trans (e3.trans (e4.trans e5))).other hD5 hD
                    · exact rp5.other hD5 nD5
                    · exact RVs.gen (fun h => h) (frz_other hD5) _ _ (rA5.append (.cons ry .nil))
                    · rw [← eA, List.append_assoc]; rfl
        · cases qr
      · rw [List.drop_of_length_le (by omega)] at qr
        unfold compGo at qr
        split at qr
        · rename_i hok
          have er : lr = [] := by cases qr; rfl
          have eh : hh2 = hf := by cases qr; rfl
          subst er eh
          refine .inl ⟨ok.stop i ρ2 hh2 H2 eL rp2 hok (by omega), ?_⟩
          rw [List.append_nil] at eA
          subst eA
          exact Sat.mk sat (e1.trans eL) rp2 ⟨D, accV, rfl, hD2, e1.dom D hD, nD, rA⟩
        · cases qr
theorem SL.comp {rep : RepV} {own : List (Str × Nat)} {φ : IΦ} {tgc : TgC} {τ : TΦ} {χ : EΦ} (hc : X.calm = true) (hN : X.N.Nodup) (hi : SI X G W rep tg iter φ) (ok : BlkOk X.N X.env.scope scope own) (hg : SCg X G rep scope tg (own.map (·.2)) tgc) (ht : STs X G scope ifs τ)
    (he : ∀ (s : Shared) (H : Hp) (C : Addr) (cl : List (Str × Addr)) (fp : List Addr), SE (X.blk s H scope (compEnvC scope cl C X.env) fp) G WF elt χ) (hs : ∀ x, foldedSetIterable iter X.env x = pure x := by intro _; rfl) :
    SL X G W (.ListComp elt [⟨tg, iter, ifs, 0⟩] scope pos) (L.comp φ (own.map (·.2)) tgc τ χ) := by
  obtain ⟨g, h1, h2⟩ := hg
  exact ⟨PE.weak (pe_lc (te := tG X.K G WF (rV X.K G) χ) hc hN hi.pi ok h1 ht (fun s H C cl fp => (he s H C cl fp).pe) hs) fun σ H Q h => comp_rd h2 h⟩
/-- name = [..] on one line, the name a local -/
theorem SS.setComp {i : Nat} {y : Str} {py : Pos} {spos : Pos} {rep : RepV} {own : List (Str × Nat)} {φ : IΦ} {tgc : TgC} {τ : TΦ} {χ : EΦ} (hc : X.calm = true) (hN : X.N.Nodup) (hy : X.N[i]? = some y) (hyl : X.env.scope.names.lookup y = some .local)
    (hsw : swapsWith (.ListComp elt [⟨tg, iter, ifs, 0⟩] scope pos) (some (.Name y py)) spos.line X.env = pure true) (hi : SI X G W rep tg iter φ) (ok : BlkOk X.N X.env.scope scope own) (hg : SCg X G rep scope tg (own.map (·.2)) tgc) (ht : STs X G scope ifs τ)
    (he : ∀ (s : Shared) (H : Hp) (C : Addr) (cl : List (Str × Addr)) (fp : List Addr), SE (X.blk s H scope (compEnvC scope cl C X.env) fp) G WF elt χ) (hs : ∀ x, foldedSetIterable iter X.env x = pure x := by intro _; rfl) :
    SS X G W (.Assign [.Name y py] (.ListComp elt [⟨tg, iter, ifs, 0⟩] scope pos) spos) (S.set i (E.ofL (L.comp φ (own.map (·.2)) tgc τ χ))) := by
  obtain ⟨g, h1, h2⟩ := hg
  refine ⟨PS.weak (ps_setLc (te := tG X.K G WF (rV X.K G) χ) hc hN hy hyl hsw hi.pi ok h1 ht (fun s H C cl fp => (he s H C cl fp).pe) hs) ?_⟩
  rintro D σ H ⟨ρ, hh, env, rp, re, sat⟩
  refine comp_rd (X := X) (G := G) (W := W) h2 ⟨ρ, hh, env, rp, re, ?_⟩
  unfold S.set E.ofL at sat
  cases q : L.comp φ (own.map (·.2)) tgc τ χ env hh with
  | exc x h3 => rw [q] at sat; exact fun cls dx H' ρ' e rp1 xr => sat cls dx ρ' σ H' e rp1 (re.ext e) xr
  | bad => rw [q] at sat; exact sat
  | ok l hh1 =>
    rw [q] at sat
    intro v H1 ρ1 e1 rp1 rl
    obtain ⟨p, xs, rfl, hp, h0, hn, rxs⟩ := rl
    obtain ⟨m, em, fm⟩ := e1.pre
    have e2 : Ext ρ H (ρ1 ++ [p]) H1 := ⟨⟨m ++ [p], by rw [em, List.append_assoc], fun b hb => (List.mem_append.mp hb).elim (fm b) fun hb => by simp at hb; rw [hb]; exact h0⟩, e1.tups, e1.frzs, e1.side, e1.dom⟩
    refine sat (ρ1 ++ [p]) _ H1 e2 (rp1.count hp hn rxs) ((re.ext e2).set i ?_)
    simp only [RV]
    refine ⟨p, rfl, ?_⟩
    rw [List.getElem?_append_right (by rw [rp1.len]; exact Nat.le_refl _), rp1.len, Nat.sub_self]
    rfl
end
end DL

set_option Elab.async false
set_option linter.all false
set_option maxRecDepth 100000
set_option maxHeartbeats 4000000
/-! DL8: calls of the text's defs; a def by its body. -/
namespace DL
open PySem PySem.Spec PyProof.Rows L2

/-! ### what a call leaves behind: objects that nobody can know are dropped -/
mutual
def D.under (n : Nat) : D → Bool
  | .tup l => D.unders n l
  | .ref m => decide (m < n)
  | _ => true
def D.unders (n : Nat) : List D → Bool
  | [] => true
  | d :: l => D.under n d && D.unders n l
end
def underP (n : Nat) : List (D × D) → Bool
  | [] => true
  | p :: l => D.under n p.1 && D.under n p.2 && underP n l
def MO.under (n : Nat) : MO → Bool
  | .lst l => D.unders n l
  | .frz l => D.unders n l
  | .dct kvs _ => underP n kvs
  | .ins _ fs => D.unders n (fs.map (·.2))
def MO.beq : MO → MO → Bool
  | .lst l, .lst m => D.beqs l m
  | .frz l, .frz m => D.beqs l m
  | .dct l e, .dct m e' => decide (l = m) && decide (e = e')
  | .ins c l, .ins c' m => decide (c = c') && decide (l = m)
  | _, _ => false
theorem MO.of_beq : ∀ a b : MO, MO.beq a b = true → a = b := by
  intro a b h
  cases a <;> cases b <;> first
    | (cases h; done)
    | (rw [D.of_beqs _ _ h])
    | (simp only [MO.beq, Bool.and_eq_true, decide_eq_true_eq] at h; rw [h.1, h.2])
theorem MO.beq_refl : ∀ a : MO, MO.beq a a = true := by
  intro a
  cases a <;> first | exact D.beqs_refl _ | simp [MO.beq]
def agree (n : Nat) : Hh → Hh → Bool
  | [], _ => true
  | a :: as, b :: bs => (MO.beq a b || b.under n) && agree n as bs
  | _ :: _, [] => false
theorem agree_app (n : Nat) : ∀ (a g : Hh), agree n a (a ++ g) = true
  | [], _ => rfl
  | a :: as, g => by simp only [List.cons_append, agree, MO.beq_refl, Bool.true_or, Bool.true_and]; exact agree_app n as g
theorem agree_self (n : Nat) (a : Hh) : agree n a a = true := by
  have := agree_app n a []
  rwa [List.append_nil] at this
theorem agree_at {n : Nat} : ∀ {a b : Hh} {i : Nat} {o : MO}, agree n a b = true → a[i]? = some o → ∃ o', b[i]? = some o' ∧ (o = o' ∨ o'.under n = true)
  | [], _, _, _, _, h => by simp at h
  | x :: xs, [], _, _, h, _ => by simp [agree] at h
  | x :: xs, y :: ys, 0, o, h, e => by
    simp only [agree, Bool.and_eq_true, Bool.or_eq_true] at h
    simp at e
    subst e
    exact ⟨y, rfl, h.1.imp (MO.of_beq _ _) id⟩
  | x :: xs, y :: ys, i + 1, o, h, e => by
    simp only [agree, Bool.and_eq_true] at h
    obtain ⟨o', e1, e2⟩ := agree_at (i := i) h.2 (by simpa using e)
    exact ⟨o', by simpa using e1, e2⟩
theorem agree_len {n : Nat} : ∀ {a b : Hh}, agree n a b = true → a.length ≤ b.length
  | [], _, _ => Nat.zero_le _
  | x :: xs, [], h => by simp [agree] at h
  | x :: xs, y :: ys, h => by
    simp only [agree, Bool.and_eq_true] at h
    have := agree_len h.2
    simp
    exact this
def trunc (hh : Hh) (r : R D) : R D := match r with
  | .ok d h1 => if d.under hh.length && agree hh.length hh h1 then .ok d (h1.take hh.length) else .ok d h1
  | .exc x h1 => if D.unders hh.length (x.fs.map (·.2)) && agree hh.length hh h1 then .exc x (h1.take hh.length) else .exc x h1
  | .bad => .bad
mutual
theorem RV.isBelow {K : PySem.W.Frag} {G : Gs} {ρ : List Addr} {H : Hp} : ∀ (d : D) (v : V), RV K G ρ H d v → d.under ρ.length = true
  | .non, _, _ => rfl
  | .bl _, _, _ => rfl
  | .int _, _, _ => rfl
  | .str _, _, _ => rfl
  | .fn _, _, _ => rfl
  | .tup l, v, h => by
    simp only [RV] at h
    obtain ⟨_, xs, _, _, h⟩ := h
    simp only [D.under]
    exact RVs.isBelow l xs h
  | .ref n, v, h => by
    simp only [RV] at h
    obtain ⟨a, _, h⟩ := h
    simp only [D.under]
    exact decide_eq_true (List.getElem?_eq_some_iff.mp h).1
theorem RVs.isBelow {K : PySem.W.Frag} {G : Gs} {ρ : List Addr} {H : Hp} : ∀ (l : List D) (xs : List V), RVs K G ρ H l xs → D.unders ρ.length l = true
  | [], _, _ => rfl
  | d :: l, _, h => by
    obtain ⟨v, r, rfl, h1, h2⟩ := h.inv_cons
    simp only [D.unders, Bool.and_eq_true]
    exact ⟨RV.isBelow d v h1, RVs.isBelow l r h2⟩
end
mutual
theorem RV.cutρ {K : PySem.W.Frag} {G : Gs} {ρ more : List Addr} {H : Hp} : ∀ (d : D) (v : V), RV K G (ρ ++ more) H d v → d.under ρ.length = true → RV K G ρ H d v
  | .non, _, h, _ => by simpa only [RV] using h
  | .bl _, _, h, _ => by simpa only [RV] using h
  | .int _, _, h, _ => by simpa only [RV] using h
  | .str _, _, h, _ => by simpa only [RV] using h
  | .fn _, _, h, _ => by simpa only [RV] using h
  | .tup l, v, h, b => by
    simp only [RV] at h ⊢
    obtain ⟨a, xs, e1, e2, h⟩ := h
    exact ⟨a, xs, e1, e2, RVs.cutρ l xs h (by simpa only [D.under] using b)⟩
  | .ref n, v, h, b => by
    simp only [RV] at h ⊢
    obtain ⟨a, e1, h⟩ := h
    simp only [D.under, decide_eq_true_eq] at b
    exact ⟨a, e1, by rwa [List.getElem?_append_left b] at h⟩
theorem RVs.cutρ {K : PySem.W.Frag} {G : Gs} {ρ more : List Addr} {H : Hp} : ∀ (l : List D) (xs : List V), RVs K G (ρ ++ more) H l xs → D.unders ρ.length l = true → RVs K G ρ H l xs
  | [], _, h, _ => by rw [h.inv_nil]; exact .nil
  | d :: l, _, h, b => by
    obtain ⟨v, r, rfl, h1, h2⟩ := h.inv_cons
    simp only [D.unders, Bool.and_eq_true] at b
    exact .cons (RV.cutρ d v h1 b.1) (RVs.cutρ l r h2 b.2)
end
theorem EntsR.isBelow {K : PySem.W.Frag} {G : Gs} {ρ : List Addr} {H : Hp} : ∀ {l : List (D × D)} {xs : List DK.Ent}, EntsR K G ρ H l xs → underP ρ.length l = true
  | [], _, _ => rfl
  | _ :: _, _, ⟨x, r, e, ⟨a, b, vk, vv, r1, r2, r3, r4⟩, t⟩ => by
    simp only [underP, Bool.and_eq_true]
    exact ⟨⟨RV.isBelow _ _ r3, RV.isBelow _ _ r4⟩, t.isBelow⟩
theorem EntsR.cutρ {K : PySem.W.Frag} {G : Gs} {ρ more : List Addr} {H : Hp} : ∀ {l : List (D × D)} {xs : List DK.Ent}, EntsR K G (ρ ++ more) H l xs → underP ρ.length l = true → EntsR K G ρ H l xs
  | [], _, h, _ => h
  | _ :: _, _, ⟨x, r, e, ⟨a, b, vk, vv, r1, r2, r3, r4⟩, t⟩, u => by
    simp only [underP, Bool.and_eq_true] at u
    exact ⟨x, r, e, ⟨a, b, vk, vv, r1, r2, RV.cutρ _ _ r3 u.1.1, RV.cutρ _ _ r4 u.1.2⟩, t.cutρ u.2⟩
theorem RO.isBelow {K : PySem.W.Frag} {G : Gs} {ρ : List Addr} {H : Hp} {a : Addr} {o : MO} (h : RO K G ρ H a o) : o.under ρ.length = true := by
  cases o with
  | lst l => obtain ⟨xs, _, r⟩ := h; exact RVs.isBelow _ _ r
  | frz l => obtain ⟨xs, _, r⟩ := h; exact RVs.isBelow _ _ r
  | dct kvs ep => obtain ⟨xs, h⟩ := h; exact h.es.isBelow
  | ins c fs => obtain ⟨dx, vs, h⟩ := h; exact RVs.isBelow _ _ h.vs
theorem RO.cutρ {K : PySem.W.Frag} {G : Gs} {ρ more : List Addr} {H : Hp} {a : Addr} {o : MO} (h : RO K G (ρ ++ more) H a o) (b : o.under ρ.length = true) : RO K G ρ H a o := by
  cases o with
  | lst l => obtain ⟨xs, e, r⟩ := h; exact ⟨xs, e, RVs.cutρ _ _ r b⟩
  | frz l => obtain ⟨xs, e, r⟩ := h; exact ⟨xs, e, RVs.cutρ _ _ r b⟩
  | dct kvs ep => obtain ⟨xs, h⟩ := h; exact ⟨xs, h.raw, h.sm, h.nd, h.sz, h.es.cutρ b⟩
  | ins c fs => obtain ⟨dx, vs, h⟩ := h; exact ⟨dx, vs, h.ob, h.own, fun z => h.out (List.mem_append_left _ z), RVs.cutρ _ _ h.vs b⟩
theorem Rep.cutρ {K : PySem.W.Frag} {G : Gs} {ρ ρ1 : List Addr} {hh h1 : Hh} {H H1 : Hp} (rp : Rep K G ρ hh H) (e : Ext ρ H ρ1 H1) (rp1 : Rep K G ρ1 h1 H1) (ag : agree hh.length hh h1 = true) : Rep K G ρ (h1.take hh.length) H1 ∧ Ext ρ H ρ H1 := by
  obtain ⟨more, rfl, f⟩ := e.pre
  have hl := agree_len ag
  refine ⟨⟨by rw [List.length_take, Nat.min_eq_left hl]; exact rp.len, rp.nd, fun m o hm => ?_, rp1.tb⟩, ⟨⟨[], by simp, by simp⟩, e.tups, e.frzs, e.side, e.dom⟩⟩
  have hml : m < hh.length := by
    have := (List.getElem?_eq_some_iff.mp hm).1
    rw [List.length_take] at this
    omega
  have hm' : h1[m]? = some o := by rwa [List.getElem?_take_of_lt hml] at hm
  obtain ⟨a, e1, e2⟩ := rp1.ob m o hm'
  have hρ : m < ρ.length := by rw [rp.len]; exact hml
  have e1' : ρ[m]? = some a := by rwa [List.getElem?_append_left hρ] at e1
  refine ⟨a, e1', e2.cutρ ?_⟩
  obtain ⟨o', g1, g2⟩ := agree_at ag (List.getElem?_eq_getElem hml)
  rw [hm'] at g1
  cases g1
  rcases g2 with g2 | g2
  · obtain ⟨a0, _, r0⟩ := rp.ob m _ (List.getElem?_eq_getElem hml)
    rw [← g2]
    exact r0.isBelow
  · rw [rp.len]; exact g2

/-! ### a def's promise -/
def SatF (K : PySem.W.Frag) (G : Gs) (ρ : List Addr) (H : Hp) (Q : VK) (E : XK) (r : R D) : Prop :=
  r.sat (fun d hh' => ∀ v H' ρ', Ext ρ H ρ' H' → Rep K G ρ' hh' H' → RV K G ρ' H' d v → Q v H') (fun x hh' => ∀ cls dx H' ρ', Ext ρ H ρ' H' → Rep K G ρ' hh' H' → XR K G ρ' H' x cls dx → E cls dx H')
def spF (K : PySem.W.Frag) (G : Gs) (n : Nat) (m : List D → Hh → R D) : Sp := fun vs H Q E => ∃ ρ hh ds, Rep K G ρ hh H ∧ RVs K G ρ H ds vs ∧ ds.length = n ∧ SatF K G ρ H Q E (m ds hh)
structure CallOk (P : Program) (w : World) (K : PySem.W.Frag) (mg : Str → Option Value) (base : Heap) (G : Gs) (k : Nat) (x : Str) (f : Addr) (n : Nat) (m : List D → Hh → R D) : Prop where
  ex : ∃ fd ps, ps.length = n ∧ FnOk P w K mg base (L2.CX P w) k f fd ps (spF K G n m) ∧ Binds K fd ps []
  mg : mg x = some (.ref f)
  kp : PySem.W.keepIn K (.ref f) = true
def E.call (n : Nat) (m : List D → Hh → R D) (a : LΦ) : EΦ := fun env h => (a env h).bind fun ds h => if ds.length = n then m ds h else .bad
section
variable {X : Cx} {G : Gs} {W : WX} {e : Expr} {es : List Expr} {pos p : Pos} {x : Str} {f : Addr} {n k : Nat} {m : List D → Hh → R D}
theorem SE.call {φ : LΦ} (F : CallOk X.prog X.w X.K X.mg X.base G k x f n m) (hr : Room k X.A) (tk : Takes X W) (hg : Gl X x) (ha : SA X G W (e :: es) φ) (hdb : (x == ("__debug__" : Str)) = false := by decide)
    (he : starEach (e :: es) X.env = (false, eval e X.env) :: starEach es X.env := by rfl) (hpl : (backTo pos (starEach es X.env)).any (·.1) = false := by rfl) : SE X G W (.Call (.Name x p) (e :: es) [] pos) (E.call n m φ) := by
  obtain ⟨fd, ps, hn, ok, hb⟩ := F.ex
  refine ⟨PE.weak (pe_callS ok hr hg F.mg F.kp hb (fun σ => passAt tk σ) ha.pa hdb he hpl) ?_⟩
  rintro σ H Q ⟨ρ, hh, env, rp, re, sat⟩
  refine tG.seq later_V rp re sat fun ds vs ρ1 hh1 H1 e1 rp1 re1 rd sat1 => ?_
  have sat1 : Sat X.K G W (rV X.K G) ρ1 H1 σ Q (if ds.length = n then m ds hh1 else .bad) := sat1
  split at sat1
  · rename_i hl
    exact ⟨ρ1, hh1, ds, rp1, rd, hl, sat1⟩
  · exact sat1.elim
theorem CallOk.zero {P : Program} {w : World} {K : PySem.W.Frag} {mg : Str → Option Value} {base : Heap} {fd : FuncData} {ps : List Str} {k : Nat} (hp : ps.length = n) (hb : Binds K fd ps []) (hm : mg x = some (.ref f)) (kp : PySem.W.keepIn K (.ref f) = true) : CallOk P w K mg base G k x f n (fun _ _ => .bad) := by
  refine ⟨⟨fd, ps, hp, ⟨fun vs H Q E h => ?_, fun A outer s H args us vs Q E hr e0 hbt hv h => ?_⟩, hb⟩, hm, kp⟩
  · obtain ⟨_, _, _, _, _, _, z⟩ := h; exact z.elim
  · obtain ⟨_, _, _, _, _, _, z⟩ := h; exact z.elim
/-- the body's result -/
def runB (N : Nat) (ψ : SΦ) (ds : List D) (hh : Hh) : R D := match ψ (ds.map some ++ List.replicate (N - ds.length) none) hh with
  | .nx _ h => .ok .non h
  | .rt d h => .ok d h
  | .exc x _ h => .exc x h
  | _ => .bad
theorem re_start {K : PySem.W.Frag} {ρ : List Addr} {H : Hp} {N : List Str} {ds : List D} {vs : List V} (h : RVs K G ρ H ds vs) : RE K G ρ H (ds.map some ++ List.replicate (N.length - ds.length) none) (L2.start N vs) := by
  have hl := h.length
  refine ⟨by unfold L2.start; simp [hl], fun i d hi => ?_⟩
  by_cases q : i < ds.length
  · rw [List.getElem?_append_left (by simpa using q), List.getElem?_map] at hi
    cases z : ds[i]? with
    | none => rw [z] at hi; cases hi
    | some d' =>
      rw [z] at hi
      cases hi
      obtain ⟨v, e1, e2⟩ := h.get z
      refine ⟨v, ?_, e2⟩
      unfold L2.start
      rw [List.getElem?_append_left (by simpa [hl] using q), List.getElem?_map, e1]
      rfl
  · rw [List.getElem?_append_right (by simpa using q), List.getElem?_replicate] at hi
    split at hi <;> cases hi
/-- THE RULE for a def: its body's function, at every entry -/
theorem fnOk_of {P : Program} {w : World} {K : PySem.W.Frag} {mg : Str → Option Value} {base : Heap} {fd : FuncData} {ps N : List Str} {qual : Str} {st : Stmt} {k : Nat} {ψ : SΦ} (F : FunD K x qual (defArgs st) (defBody st) (defScope st) [] [] f fd) (S : FnScope N ps (defScope st)) (hp : ps.length = n)
    (body : ∀ (cdv : Value), fd.code = cdv → ∀ (A : Around) (outer : List PySem.Env) (s : Shared) (H : Hp) (E : XK), Room k (A.deeper (envOfC qual (defScope st) s.heap.objs.size f cdv)) →
      SSs (cxOf (L2.CX P w) P w K mg base N qual (defScope st) f cdv A outer s H E) G (fun cls d _ H => E cls d H) (defBody st) ψ) : FnOk P w K mg base (L2.CX P w) (k + 1) f fd ps (spF K G n fun ds hh => trunc hh (runB N.length ψ ds hh)) := by
  obtain ⟨oc, od, dV, kV, doc, pm, an, cdv, ct, osl, e1, lk, hcd, _, _⟩ := F.ex
  have e2 : fd.code = cdv := by rw [e1]
  have bd := body cdv e2
  subst e1
  refine fn_of lk hcd S (fun vs H Q E h => ?_) (fun A outer s H vs Q E hr h => ?_)
  · obtain ⟨ρ, hh, ds, _, r, hl, _⟩ := h
    rw [r.length, hl, hp]
  · obtain ⟨ρ, hh, ds, rp, r, hl, sat⟩ := h
    refine ⟨_, (bd A outer s H E hr).ps, ρ, hh, _, rp, re_start r, ?_⟩
    have okc : ∀ (d : D) (h1 : Hh), SatF K G ρ H Q E (trunc hh (.ok d h1)) → ∀ v ρ1 H1, Ext ρ H ρ1 H1 → Rep K G ρ1 h1 H1 → RV K G ρ1 H1 d v → Q v H1 := by
      intro d h1 sat v ρ1 H1 e1 rp1 rd
      unfold trunc at sat
      simp only at sat
      split at sat
      · rename_i hc
        simp only [Bool.and_eq_true] at hc
        obtain ⟨g1, g2⟩ := rp.cutρ e1 rp1 hc.2
        obtain ⟨more, rfl, _⟩ := e1.pre
        exact sat v H1 ρ g2 g1 (RV.cutρ d v rd (by rw [rp.len]; exact hc.1))
      · exact sat v H1 ρ1 e1 rp1 rd
    have sat : SatF K G ρ H Q E (trunc hh (runB N.length ψ ds hh)) := sat
    unfold runB at sat
    show SatS K G (fun cls d _ H => E cls d H) ρ H { nx := fun _ H' => Q .non H', rt := Q } (ψ (ds.map some ++ List.replicate (N.length - ds.length) none) hh)
    cases q : ψ (ds.map some ++ List.replicate (N.length - ds.length) none) hh with
    | nx env1 h1 => rw [q] at sat; exact fun ρ1 σ1 H1 e1 rp1 re1 => okc .non h1 sat .non ρ1 H1 e1 rp1 (by simp only [RV])
    | rt d h1 => rw [q] at sat; exact fun v ρ1 H1 e1 rp1 rd => okc d h1 sat v ρ1 H1 e1 rp1 rd
    | bk env1 h1 => rw [q] at sat; exact sat.elim
    | ct env1 h1 => rw [q] at sat; exact sat.elim
    | bad => rw [q] at sat; exact sat.elim
    | exc y env1 h1 =>
      rw [q] at sat
      intro cls dx ρ1 σ1 H1 e1 rp1 re1 xr
      have sat : SatF K G ρ H Q E (trunc hh (.exc y h1)) := sat
      unfold trunc at sat
      simp only at sat
      split at sat
      · rename_i hc
        simp only [Bool.and_eq_true] at hc
        obtain ⟨g1, g2⟩ := rp.cutρ e1 rp1 hc.2
        obtain ⟨more, rfl, _⟩ := e1.pre
        refine sat cls dx H1 ρ g2 g1 ⟨xr.1, ?_⟩
        have x2 := xr.2
        cases dx with
        | none => exact x2
        | some dd =>
          obtain ⟨vs, r1, r2⟩ := x2
          exact ⟨vs, RVs.cutρ _ _ r1 (by rw [rp.len]; exact hc.1), r2⟩
      · exact sat cls dx H1 ρ1 e1 rp1 xr
theorem callOk_of {P : Program} {w : World} {K : PySem.W.Frag} {mg : Str → Option Value} {base : Heap} {fd : FuncData} {ps N : List Str} {qual : Str} {st : Stmt} {k : Nat} {ψ : SΦ} (F : FunD K x qual (defArgs st) (defBody st) (defScope st) [] [] f fd) (S : FnScope N ps (defScope st)) (hp : ps.length = n) (hb : Binds K fd ps []) (hm : mg x = some (.ref f))
    (body : ∀ (cdv : Value), fd.code = cdv → ∀ (A : Around) (outer : List PySem.Env) (s : Shared) (H : Hp) (E : XK), Room k (A.deeper (envOfC qual (defScope st) s.heap.objs.size f cdv)) →
      SSs (cxOf (L2.CX P w) P w K mg base N qual (defScope st) f cdv A outer s H E) G (fun cls d _ H => E cls d H) (defBody st) ψ) : CallOk P w K mg base G (k + 1) x f n (fun ds hh => trunc hh (runB N.length ψ ds hh)) := ⟨⟨fd, ps, hp, fnOk_of F S hp body, hb⟩, hm, F.kp⟩
end
end DL

set_option Elab.async false
set_option linter.all false
set_option maxRecDepth 100000
set_option maxHeartbeats 4000000
/-! GX0: a generator expression that is walked by all or any, turn by turn, by an invariant of the whole state. -/
namespace GX
open PySem PySem.Spec PyProof.Rows
open PySem.Sem (wp)

/-! ### the list of generators never shrinks -/
theorem runs_gens {M : Model} {Γ : PySem.Ctx} {p : Pos} {t : Sem Fin} {fs : List Frame} {s s' : Shared} {e : End} (h : Runs M Γ p t fs s e s') : s.gens.size ≤ s'.gens.size := by
  induction h <;> (try simp only [Shared.setGen, Array.size_push, Array.size_setIfInBounds, Array.size_set!] at *) <;> omega
theorem wakes_gens {M : Model} {Γ : PySem.Ctx} {p : Pos} {g : Nat} {r : Resume} {s s' : Shared} {res : GenResult} (h : Wakes M Γ p g r s res s') : s.gens.size ≤ s'.gens.size := by
  have sz : ∀ (s : Shared) x, (s.setGen g x).gens.size = s.gens.size := fun s x => by simp [Shared.setGen]
  unfold Wakes at h
  split at h
  · exact h.elim
  · split at h
    · obtain ⟨e₁, s₁, hr, _, _, rfl⟩ := h
      have := runs_gens hr
      rw [sz] at this ⊢; exact this
    · rw [h.2]; exact Nat.le_refl _
    · rw [h.2, sz]; exact Nat.le_refl _
  · obtain ⟨e₁, s₁, hr, _, _, rfl⟩ := h
    have := runs_gens hr
    rw [sz] at this ⊢; exact this
  · rw [h.2]; exact Nat.le_refl _
  · rw [h.2]; exact Nat.le_refl _
theorem wp_gens {α : Type} (M : Model) (Γ : PySem.Ctx) (n : Nat) (t : Sem α) : ∀ (Q : α → Pos → Shared → Prop) (E : Value → Pos → Shared → Prop) (p : Pos) (s : Shared), n ≤ s.gens.size → wp M Γ t Q E p s →
    wp M Γ t (fun a p' s' => n ≤ s'.gens.size ∧ Q a p' s') (fun e p' s' => n ≤ s'.gens.size ∧ E e p' s') p s := by
  induction t with
  | pure a => intro Q E p s hn h; exact ⟨hn, h⟩
  | raise e => intro Q E p s hn h; exact ⟨hn, h⟩
  | unsupported _ => intro Q E p s _ h; exact h
  | finish _ => intro Q E p s _ h; exact h
  | rule _ k ih => intro Q E p s hn h; exact ih () Q E p s hn h
  | «at» p' k ih => intro Q E p s hn h; exact ih () Q E p' s hn h
  | load a _ k ih => intro Q E p s hn h; obtain ⟨o, ho, h⟩ := h; exact ⟨o, ho, ih o Q E p s hn h⟩
  | update a _ f k ih => intro Q E p s hn h; exact ⟨h.1, ih () Q E p _ hn h.2⟩
  | loadIfAlive a k ih => intro Q E p s hn h; exact ih _ Q E p s hn h
  | point _ k ih => intro Q E p s hn h; exact ih () Q E p s hn h
  | register _ _ => intro Q E p s _ h; exact h
  | alloc o k ih => intro Q E p s hn h; exact ih _ Q E p _ hn h
  | fresh k ih => intro Q E p s hn h; exact ih _ Q E p _ hn h
  | ask k ih => intro Q E p s hn h; exact ih _ Q E p s hn h
  | choose src m k ih => intro Q E p s hn h; exact ⟨h.1, ih _ Q E p _ hn h.2⟩
  | os q _ k ih => intro Q E p s hn h; exact ih _ Q E p _ hn h
  | call c hd _ _ k ih => intro Q E p s hn h; obtain ⟨r, s', hr, h⟩ := h; exact ⟨r, s', hr, ih r Q E p s' (Nat.le_trans hn (runs_gens hr)) h⟩
  | handled own k ih => intro Q E p s hn h; exact ih _ Q E p s hn h
  | genState g k ih => intro Q E p s hn h; obtain ⟨st, hs, h⟩ := h; exact ⟨st, hs, ih _ Q E p s hn h⟩
  | newGen c k ih => intro Q E p s hn h; exact ih _ Q E p _ (by show n ≤ (s.gens.push _).size; rw [Array.size_push]; omega) h
  | resume g r _ k ih => intro Q E p s hn h; obtain ⟨res, s', hw, h⟩ := h; exact ⟨res, s', hw, ih res Q E p s' (Nat.le_trans hn (wakes_gens hw)) h⟩
  | yield _ _ _ _ => intro Q E p s _ h; exact h
  | stack k ih => intro Q E p s hn h; exact ih _ Q E p s hn h
  | fork _ _ => intro Q E p s _ h; exact h
  | thread k ih => intro Q E p s hn h; exact ih _ Q E p s hn h
  | await _ _ _ _ _ => intro Q E p s _ h; exact h
theorem wpAny_gens {α : Type} {M : Model} {A : Around} {s : Shared} {t : Sem α} {Q : α → Shared → Prop} {E : Value → Shared → Prop} {n : Nat} (hn : n ≤ s.gens.size)
    (h : wpAny M A t (fun a s' => n ≤ s'.gens.size → Q a s') E s) : wpAny M A t Q E s := by
  have z : wpAny M A t (fun a s' => n ≤ s'.gens.size ∧ (n ≤ s'.gens.size → Q a s')) (fun e s' => n ≤ s'.gens.size ∧ E e s') s := fun Γ p hΓ => wp_gens M Γ n t _ _ p s hn (h Γ p hΓ)
  exact wpAny_mono z (fun _ _ x => x.2 x.1) fun _ _ x => x.2

/-! ### a generator expression's code, turn by turn -/
section
variable {prog : Program} {w : World} {A : Around}
/-- the code of the generator's loop -/
abbrev loopC (elt tg iter : Expr) (ifs : List Expr) (scope : Scope) (pos : Pos) (it : Addr) (cenv : Env) : Code := .compLoop (.GeneratorExp elt [⟨tg, iter, ifs, 0⟩] scope pos) 0 (.ref it) .none cenv
abbrev startC (elt tg iter : Expr) (ifs : List Expr) (scope : Scope) (pos : Pos) (it : Addr) (cenv : Env) : Code := .compStart (.GeneratorExp elt [⟨tg, iter, ifs, 0⟩] scope pos) 0 (.ref it) .none cenv
/-- one turn: Hd n: at the loop's head, n turns at most; Yl v m: v is handed out, m turns at most behind it; Fn: the end -/
def Turn (prog : Program) (w : World) (Ag : Around) (elt tg : Expr) (ifs : List Expr) (it : Addr) (cenv : Env) (Hd : Nat → Shared → Prop) (Yl : Value → Nat → Shared → Prop) (Fn : Shared → Prop) : Prop :=
  ∀ n s, Hd n s → wpAny (model prog w) Ag (pyNext (.ref it)) (fun r s₁ => match r with
    | none => Fn s₁
    | some v => wpAny (model prog w) Ag (letOwnedTupleGo tg (.ref it) v) (fun _ s₁' => wpAny (model prog w) Ag (assign tg cenv v) (fun _ s₂ =>
        wpAny (model prog w) Ag (forIn ifs true fun c r => if r = true then do let ok ← isTrue c cenv (eval c cenv); pure (ForInStep.yield ok) else pure (ForInStep.yield r)) (fun ok s₃ =>
          if ok = true then wpAny (model prog w) Ag (eval elt cenv) (fun y s₄ => ∃ m, m < n ∧ Yl y m s₄) (fun _ _ => False) s₃
          else ∃ m, m < n ∧ Hd m s₃) (fun _ _ => False) s₂) (fun _ _ => False) s₁') (fun _ _ => False) s₁) (fun _ _ => False) s
def protoG (Hd : Nat → Shared → Prop) (Yl : Value → Nat → Shared → Prop) : Protocol := fun _ _ v s kap => ∃ m, Yl v m s ∧ ∀ s'', Hd m s'' → kap (.send .none) s''
def endG (Fn : Shared → Prop) : GenEnd := fun _ _ r s₁ => r = .ok .next ∧ Fn s₁
variable {elt tg iter : Expr} {ifs : List Expr} {scope : Scope} {pos : Pos} {it : Addr} {cenv : Env} {Hd : Nat → Shared → Prop} {Yl : Value → Nat → Shared → Prop} {Fn : Shared → Prop}
theorem seg_loopG (hco : cenv.scope.isCoroutine = false) (T : Turn prog w (A.over (loopC elt tg iter ifs scope pos it cenv) []) elt tg ifs it cenv Hd Yl Fn) :
    ∀ (n k : Nat) (s₀ s : Shared), n ≤ k → Hd n s → Seg (model prog w) A (endG Fn) (protoG Hd Yl) k s₀ (loopC elt tg iter ifs scope pos it cenv) ((model prog w).den (loopC elt tg iter ifs scope pos it cenv)) [] s := by
  intro n
  induction n using Nat.strongRecOn with
  | ind n ih =>
    intro k s₀ s hk hs
    show Seg _ A _ _ _ s₀ _ ((compTurn (.GeneratorExp elt [⟨tg, iter, ifs, 0⟩] scope pos) 0 (.ref it) .none cenv).onRaise (leaving cenv)) [] s
    rw [compTurn_gen, Sem.onRaise_eq_wrap]
    refine seg_bind_wrap (wpAny_standAt ?_)
    refine seg_bind_wrap (wpAny_mono (T n s hs) (fun r s₁ h₁ => ?_) fun _ _ z => False.elim z)
    cases r with
    | none => exact seg_end (.ok .next) ⟨rfl, h₁⟩
    | some v =>
      refine seg_bind_wrap (wpAny_mono h₁ (fun _ s₁' h₁' => ?_) fun _ _ z => False.elim z)
      refine seg_bind_wrap (wpAny_mono h₁' (fun _ s₂ h₂ => ?_) fun _ _ z => False.elim z)
      refine seg_bind_wrap (wpAny_mono h₂ (fun ok s₃ h₃ => ?_) fun _ _ z => False.elim z)
      cases ok with
      | false =>
        simp only [Bool.false_eq_true, if_false] at h₃ ⊢
        obtain ⟨m, hm, h₃⟩ := h₃
        exact seg_again rfl (ih m hm k s₀ s₃ (by omega) h₃)
      | true =>
        simp only [if_true] at h₃ ⊢
        have hy : ∀ v, yieldOut cenv v = yieldValue v := fun v => by simp only [yieldOut, hco, Bool.false_eq_true, if_false]
        simp only [hy]
        rw [Sem.bind_eq_wrap', Sem.bind_eq_wrap', Sem.wrap_wrap, Sem.wrap_wrap]
        refine seg_wrap (wpAny_mono h₃ (fun y s₄ h₄ => ?_) fun _ _ z => False.elim z)
        obtain ⟨m, hm, h₄⟩ := h₄
        obtain ⟨k', rfl⟩ : ∃ k', k = k' + 1 := ⟨k - 1, by omega⟩
        refine seg_at (seg_yield rfl rfl rfl ⟨m, h₄, fun s'' hs'' => ?_⟩)
        exact seg_again rfl (ih m hm k' s'' s'' (by omega) hs'')
theorem seg_startG (hco : cenv.scope.isCoroutine = false) (T : Turn prog w (A.over (loopC elt tg iter ifs scope pos it cenv) []) elt tg ifs it cenv Hd Yl Fn)
    (self : ∀ n s (Q : Value → Shared → Prop) (E : Value → Shared → Prop), Hd n s → Q (.ref it) s → wpAny (model prog w) (A.over (startC elt tg iter ifs scope pos it cenv) []) (pyIter (.ref it)) Q E s)
    (n k : Nat) (s₀ s : Shared) (hk : n ≤ k) (hs : Hd n s) : Seg (model prog w) A (endG Fn) (protoG Hd Yl) k s₀ (startC elt tg iter ifs scope pos it cenv) ((model prog w).den (startC elt tg iter ifs scope pos it cenv)) [] s := by
  have loop := seg_loopG (iter := iter) (scope := scope) (pos := pos) hco T n k s₀ s hk hs
  show Seg _ A _ _ _ s₀ _ ((compStart (.GeneratorExp elt [⟨tg, iter, ifs, 0⟩] scope pos) 0 (.ref it) .none cenv).onRaise (leaving cenv)) [] s
  unfold compStart
  rw [Sem.onRaise_eq_wrap]
  show Seg _ A _ _ _ s₀ _ ((ask >>= _).wrap _ _ _ _) [] s
  refine seg_bind_wrap (wpAny_askSetting ?_)
  split
  · exact seg_again rfl loop
  · first
      | exact seg_bind_wrap (wpAny_rule (seg_bind_wrap (wpAny_standAt (seg_bind_wrap (self n s _ _ hs (seg_again rfl loop))))))
      | (refine seg_bind_wrap (wpAny_rule ?_); show Seg _ A _ _ _ s₀ _ ((standAt iter.pos >>= _).wrap _ _ _ _) [] s; exact seg_bind_wrap (wpAny_standAt (seg_bind_wrap (self n s _ _ hs (seg_again rfl loop)))))

/-! ### all and any of it -/
/-- what the walk keeps: the generator's object, the state's stability -/
structure Keep (a : Addr) (g : Nat) (Hd : Nat → Shared → Prop) (Out : Bool → Shared → Prop) : Prop where
  gen : ∀ n s, Hd n s → s.heap.IsGen a g ∧ s.heap.NoLimit
  hd : ∀ n s x, Hd n s → x.bare = true → Hd n (s.setGen g x)
  out : ∀ b s x, Out b s → x.bare = true → Out b (s.setGen g x)
  grow : ∀ b s h', Out b s → (∀ c o, s.heap.get? c = some o → h'.get? c = some o) → Out b { s with heap := h' }
/-- the generator at a is ready for its next turn -/
def Goes (prog : Program) (w : World) (A : Around) (g : Nat) (Hd : Nat → Shared → Prop) (Yl : Value → Nat → Shared → Prop) (Fn : Shared → Prop) (k n : Nat) (s : Shared) : Prop :=
  ∃ gs, s.gens[g]? = some gs ∧ ∀ s'', Hd n s'' → gs.Goes (model prog w) A.in1 (endG Fn) (protoG Hd Yl) k (.send .none) s''
/-- what is left of it behind a turn -/
def Left (prog : Program) (w : World) (A : Around) (Hd : Nat → Shared → Prop) (Yl : Value → Nat → Shared → Prop) (Fn : Shared → Prop) : Nat → GenState → Shared → Prop
  | 0, _, _ => False
  | k + 1, x, s => x.Goes (model prog w) A.in1 (endG Fn) (protoG Hd Yl) k (.send .none) s
variable {a : Addr} {g : Nat} {Out : Bool → Shared → Prop}
theorem next_G (hh : A.handled = none) (hroom : A.depth < recursionLimit) (K : Keep a g Hd Out) {E : Value → Shared → Prop} {Q : Option Value → Shared → Prop} {b : Bool} {k n : Nat} {s : Shared} (hs : Hd n s) (hg : Goes prog w A g Hd Yl (Out b) k n s)
    (hN : ∀ s', Out b s' → Q none s') (hY : ∀ v m s₁ x, Yl v m s₁ → x.bare = true → g < (s₁.setGen g x).gens.size → (∀ s'', Hd m s'' → Left prog w A Hd Yl (Out b) k x s'') → Q (some v) (s₁.setGen g x)) :
    wpAny (model prog w) A (pyNext (.ref a)) Q E s := by
  obtain ⟨gs, hgs, hgo⟩ := hg
  obtain ⟨h1, h2⟩ := K.gen n s hs
  have hlt : g + 1 ≤ s.gens.size := by
    rcases Nat.lt_or_ge g s.gens.size with h' | h'
    · exact h'
    · rw [Array.getElem?_eq_none h'] at hgs; cases hgs
  refine wpAny_gens hlt ?_
  refine wpAny_pyNext_genexpQ (P := fun _ _ s₁ => Out b s₁) hh h2 hroom h1 hgs (hgo _ (K.hd n s .running hs rfl)) (fun v s₁ gs' hb hv => ?_) (fun s₁ hp h' hk => ?_)
  · obtain ⟨m, hy, hkap⟩ := hv
    intro hsz
    refine hY v m s₁ gs' hy hb hsz fun s'' q => ?_
    cases k with
    | zero => exact hkap s'' q
    | succ k => exact hkap s'' q
  · intro _
    exact hN _ (K.grow b _ h' (K.out b s₁ .finished hp rfl) hk)

theorem all_loopG (hh : A.handled = none) (hroom : A.depth < recursionLimit) (K : Keep a g Hd Out) {R : Result → Shared → Prop} (hR : ∀ b s', Out b s' → R (.ok (.ret (.bool b))) s') :
    ∀ (k n : Nat) (s : Shared), Hd n s → Goes prog w A.in1 g Hd (fun v m s => ∃ b, v = .bool b ∧ if b = true then Hd m s else Out false s) (Out true) k n s → codeAny (model prog w) A (.builtin "all.loop" ⟨[.ref a], []⟩) R s := by
  intro k
  induction k with
  | zero =>
    intro n s hs hg
    refine codeAny_builtin F.entry_all_loop ?_
    rw [Around.under_plainId F.plain_all_loop _]
    show wpAny _ A.in1 (pyNext (.ref a) >>= _) _ _ s
    refine wpAny_bind (next_G (A := A.in1) hh hroom K hs hg (fun s' ho => ?_) fun v m s₁ x hy hb hsz hkap => ?_)
    · exact wpAny_bind (wpAny_rule (wpAny_pure (hR true s' ho)))
    · obtain ⟨b, rfl, hy⟩ := hy
      refine wpAny_bind (wpAny_holding (wpAny_truthy_bool ?_))
      refine wpAny_bind (wpAny_letGo ?_)
      cases b with
      | true => exact (hkap s₁ hy).elim
      | false =>
        simp only [Bool.false_eq_true, if_false] at hy ⊢
        exact wpAny_bind (wpAny_rule (wpAny_pure (hR false _ (K.out _ _ _ hy hb))))
  | succ k ih =>
    intro n s hs hg
    refine codeAny_builtin F.entry_all_loop ?_
    rw [Around.under_plainId F.plain_all_loop _]
    show wpAny _ A.in1 (pyNext (.ref a) >>= _) _ _ s
    refine wpAny_bind (next_G (A := A.in1) hh hroom K hs hg (fun s' ho => ?_) fun v m s₁ x hy hb hsz hkap => ?_)
    · exact wpAny_bind (wpAny_rule (wpAny_pure (hR true s' ho)))
    · obtain ⟨b, rfl, hy⟩ := hy
      refine wpAny_bind (wpAny_holding (wpAny_truthy_bool ?_))
      refine wpAny_bind (wpAny_letGo ?_)
      cases b with
      | true =>
        simp only [if_true] at hy ⊢
        refine wpAny_pure ⟨plainId_quiet F.plain_all_loop _, ih m _ (K.hd _ _ _ hy hb) ⟨x, ?_, hkap⟩⟩
        simp only [Shared.setGen, Array.size_setIfInBounds] at hsz ⊢
        simp [hsz]
      | false =>
        simp only [Bool.false_eq_true, if_false] at hy ⊢
        exact wpAny_bind (wpAny_rule (wpAny_pure (hR false _ (K.out _ _ _ hy hb))))
theorem any_loopG (hh : A.handled = none) (hroom : A.depth < recursionLimit) (K : Keep a g Hd Out) {R : Result → Shared → Prop} (hR : ∀ b s', Out b s' → R (.ok (.ret (.bool b))) s') :
    ∀ (k n : Nat) (s : Shared), Hd n s → Goes prog w A.in1 g Hd (fun v m s => ∃ b, v = .bool b ∧ if b = true then Out true s else Hd m s) (Out false) k n s → codeAny (model prog w) A (.builtin "any.loop" ⟨[.ref a], []⟩) R s := by
  intro k
  induction k with
  | zero =>
    intro n s hs hg
    refine codeAny_builtin F.entry_any_loop ?_
    rw [Around.under_plainId F.plain_any_loop _]
    show wpAny _ A.in1 (pyNext (.ref a) >>= _) _ _ s
    refine wpAny_bind (next_G (A := A.in1) hh hroom K hs hg (fun s' ho => ?_) fun v m s₁ x hy hb hsz hkap => ?_)
    · exact wpAny_bind (wpAny_rule (wpAny_pure (hR false s' ho)))
    · obtain ⟨b, rfl, hy⟩ := hy
      refine wpAny_bind (wpAny_holding (wpAny_truthy_bool ?_))
      refine wpAny_bind (wpAny_letGo ?_)
      cases b with
      | true =>
        simp only [if_true] at hy ⊢
        exact wpAny_bind (wpAny_rule (wpAny_pure (hR true _ (K.out _ _ _ hy hb))))
      | false => exact (hkap s₁ hy).elim
  | succ k ih =>
    intro n s hs hg
    refine codeAny_builtin F.entry_any_loop ?_
    rw [Around.under_plainId F.plain_any_loop _]
    show wpAny _ A.in1 (pyNext (.ref a) >>= _) _ _ s
    refine wpAny_bind (next_G (A := A.in1) hh hroom K hs hg (fun s' ho => ?_) fun v m s₁ x hy hb hsz hkap => ?_)
    · exact wpAny_bind (wpAny_rule (wpAny_pure (hR false s' ho)))
    · obtain ⟨b, rfl, hy⟩ := hy
      refine wpAny_bind (wpAny_holding (wpAny_truthy_bool ?_))
      refine wpAny_bind (wpAny_letGo ?_)
      cases b with
      | false =>
        simp only [Bool.false_eq_true, if_false] at hy ⊢
        refine wpAny_pure ⟨plainId_quiet F.plain_any_loop _, ih m _ (K.hd _ _ _ hy hb) ⟨x, ?_, hkap⟩⟩
        simp only [Shared.setGen, Array.size_setIfInBounds] at hsz ⊢
        simp [hsz]
      | true =>
        simp only [if_true] at hy ⊢
        exact wpAny_bind (wpAny_rule (wpAny_pure (hR true _ (K.out _ _ _ hy hb))))
end
end GX

set_option Elab.async false
set_option linter.all false
set_option maxRecDepth 100000
set_option maxHeartbeats 4000000
/-! GX1: all(..), any(..) of a generator expression, for the hand layer's judgements. -/
namespace GX
open PySem PySem.Spec PyProof.Rows L2 GxR

/-- the names of a generator expression: its own (with their places in N), or captured -/
structure GenOk (N : List Str) (sc scope : Scope) (own : List (Str × Nat)) : Prop where
  kind : scope.kind = .function
  co : scope.isCoroutine = false
  cell : ∀ y ∈ scope.names, y.2 ≠ .cell
  dot : scope.names.lookup (".0" : Str) = some NameKind.local
  uniq : ∀ y ∈ scope.names, scope.names.lookup y.1 = some y.2
  ix : ∀ p ∈ own, N[p.2]? = some p.1
  free : ∀ y ∈ scope.names, y.2 = .free → sc.names.lookup y.1 = some .cell ∨ sc.names.lookup y.1 = some .free
  own : ∀ y ∈ scope.names, y.2 = .local → y.1 ∈ own.map (·.1) ∨ y.1 ∉ N
abbrev cenvG (X : Cx) (scope : Scope) (C : Addr) (code : Value) : Env := genEnv scope (cloFrom X.env.cells scope.names []) C code builtinsNs X.env
/-- the context of a generator expression's frame -/
abbrev cxG (X : Cx) (s : Shared) (H : Hp) (cenv : Env) (A : Around) (fp : List Addr) : Cx := { X with A := A, s_0 := s, H_0 := H, env := cenv, outer := X.stack, stack := cenv :: X.stack, ex := fp, fn := fun _ => false, calm := true, pn := [], xe := fun _ _ => False }
section
variable {X : Cx} {pins : List (Addr × Obj)} {σ : L2.St} {H : Hp} {s : Shared}
theorem gen_start {scope : Scope} {own : List (Str × Nat)} {fp : List Addr} {code : Value} {A : Around} {s5 : Shared} {m : Str → Option Value} {a : Addr} {og : Obj} (I : Inv X pins σ H s) (ok : GenOk X.N X.env.scope scope own) (hN : X.N.Nodup)
    (hfp : ∀ b ∈ fp, FpOk X pins H b ∧ b < s.heap.objs.size) (hos : s5.os = s.os) (hbare : AllBare s5.gens) (kp : ∀ b o, s.heap.get? b = some o → s5.heap.get? b = some o) (hn : s5.heap.Ns s.heap.objs.size m) (hA : A.handled = none)
    (hfr : A.frames = some (cenvG X scope s.heap.objs.size code :: X.stack)) (ha : s5.heap.get? a = some og) (haC : s.heap.objs.size < a) (hd : ∀ v, og.data ≠ .cell v) :
    Inv (cxG X s H (cenvG X scope s.heap.objs.size code) A fp) [(a, og)] (wipe σ (own.map (·.2))) H s5 := by
  have hfree : ∀ y ∈ scope.names, y.2 = .free → ∃ c, X.env.cells.lookup y.1 = some c := fun y hy e => by
    rcases ok.free y hy e with k | k
    · exact I.ok.has _ (.inl k)
    · exact I.ok.has _ (.inr k)
  generalize hcenv : cenvG X scope s.heap.objs.size code = cenv at hfr
  have hL : cenv.locals = s.heap.objs.size := by rw [← hcenv]; rfl
  have hcl : cenv.cells = cloFrom X.env.cells scope.names [] := by rw [← hcenv]; rfl
  have hsc : cenv.scope = scope := by rw [← hcenv]; rfl
  have mem : ∀ {y c}, cenv.cells.lookup y = some c → X.env.cells.lookup y = some c ∧ c < s.heap.objs.size := fun {y c} e => by
    rw [hcl] at e
    rcases cloFrom_mem (PySem.mem_of_lookup e) with hm | ⟨h1, rfl⟩
    · cases hm
    · obtain ⟨c, hc⟩ := hfree _ h1 rfl
      rw [hc]
      obtain ⟨w, z⟩ := I.cell _ _ hc
      exact ⟨rfl, z.lt⟩
  have look : ∀ {y}, scope.names.lookup y = some .free → ∃ c, cenv.cells.lookup y = some c ∧ X.env.cells.lookup y = some c := fun {y} hl => by
    have hy : (y, NameKind.free) ∈ scope.names := PySem.mem_of_lookup hl
    obtain ⟨c', e'⟩ := mem_lookup (cloFrom_has (cells := X.env.cells) (acc := []) hy)
    rw [← hcl] at e'
    exact ⟨c', e', (mem e').1⟩
  have nocell : ∀ y, scope.names.lookup y ≠ some .cell := fun y e => ok.cell _ (PySem.mem_of_lookup e) rfl
  have okB : (cxG X s H cenv A fp).Ok := by
    refine ⟨I.ok.mod, by show cenv.scope.kind = _; rw [hsc]; exact ok.kind, by show cenv.globals = _; rw [← hcenv]; exact I.ok.glob, by show cenv.builtins = _; rw [← hcenv] <;> rfl, by show s.heap.objs.size ≤ cenv.locals; rw [hL]; exact Nat.le_refl _,
      fun y z c e1 e2 => I.ok.inj y z c (mem e1).1 (mem e2).1, fun y hy => ?_, fun y c z e => ?_, fun _ => hA, hfr, .inr ⟨rfl, by rw [← hcenv] <;> rfl⟩, fun b hb => ⟨?_, fun y c e z => ?_⟩, I.bs, Nat.le_trans I.ok.bsz I.sz, fun b o e hb => ?_, fun b hb z => ?_, I.stack, I.stkFree⟩
    · show ∃ c, cenv.cells.lookup y = some c
      have hy : cenv.scope.names.lookup y = some .cell ∨ cenv.scope.names.lookup y = some .free := hy
      rw [hsc] at hy
      rcases hy with hy | hy
      · exact absurd hy (nocell y)
      · obtain ⟨c, h1, _⟩ := look hy
        exact ⟨c, h1⟩
    · cases (show (false : Bool) = true from z)
    · show b ≠ cenv.locals
      rw [hL]; exact Nat.ne_of_lt (hfp b hb).2
    · exact (hfp b hb).1.2.2.2.2.1 y c (mem e).1 z
    · rcases (hfp b hb).1.2.2.2.1 with z | z
      · exact I.ok.noex b o e z
      · exact absurd (Nat.lt_of_lt_of_le (Heap.lt_size e) (Nat.le_trans I.ok.bsz z)) (Nat.lt_irrefl _)
    · rcases List.mem_cons.mp (I.stkSub b z) with z | z
      · exact (hfp b hb).1.2.1 z
      · exact (hfp b hb).1.2.2.1 z
  refine ⟨okB, hos, hbare, Un.kept kp, ⟨m, ?_, fun i y av e1 e2 e3 => ?_⟩, fun y c e => ?_, ?_, fun y c e => ?_, fun p hp => ?_, I.hok.kept kp, by rw [wipe_length]; exact I.len⟩
  · show Heap.Ns _ cenv.locals _
    rw [hL]; exact hn
  · obtain ⟨e2, hne⟩ := wipe_some e2
    have hfr : scope.names.lookup y = some .free := by
      have e3 : Vis cenv.scope y := e3
      rw [hsc] at e3
      rcases e3 with e3 | e3 | e3
      · exfalso
        rcases ok.own _ (PySem.mem_of_lookup e3) rfl with e' | e'
        · obtain ⟨p, hp, hpy⟩ := List.mem_map.mp e'
          have e4 := ok.ix p hp
          have : p.1 = y := hpy
          rw [this] at e4
          exact hne (List.mem_map.mpr ⟨p, hp, nodup_ix hN e4 e1⟩)
        · exact e' (List.mem_of_getElem? e1)
      · exact absurd e3 (nocell y)
      · exact e3
    obtain ⟨m', hn', hl⟩ := I.loc
    have hvis : Vis X.env.scope y := (ok.free _ (PySem.mem_of_lookup hfr) rfl).elim (fun k => .inr (.inl k)) (fun k => .inr (.inr k))
    obtain ⟨w, r, q⟩ := hl i y av e1 e2 hvis
    refine ⟨w, r, .inr ⟨.inr (by show cenv.scope.names.lookup y = _; rw [hsc]; exact hfr), ?_⟩⟩
    obtain ⟨c, h1, h2⟩ := look hfr
    rcases q with ⟨k, _⟩ | ⟨_, c', e', z⟩
    · have k : X.env.scope.names.lookup y = some .local := k
      rcases ok.free _ (PySem.mem_of_lookup hfr) rfl with k' | k' <;> rw [show X.env.scope.names.lookup y = _ from k'] at k <;> cases k
    · rw [h2] at e'; cases e'
      exact ⟨c, h1, z.keeps kp⟩
  · obtain ⟨h1, _⟩ := mem (show cenv.cells.lookup y = some c from e)
    obtain ⟨w, z⟩ := I.cell y c h1
    exact ⟨w, z.keeps kp⟩
  · show H cenv.locals = none
    rw [hL]; exact I.hok.fresh (Nat.le_refl _)
  · exact I.freeC y c (mem (show cenv.cells.lookup y = some c from e)).1
  · have hp : p ∈ [(a, og)] := hp
    have hp : p = (a, og) := by simpa using hp
    subst hp
    refine ⟨ha, I.hok.fresh (Nat.le_of_lt haC), by show a ≠ cenv.locals; rw [hL]; exact Nat.ne_of_gt haC, fun z => ?_, hd⟩
    rcases List.mem_cons.mp (I.stkSub a z) with z | z
    · rw [z] at haC
      exact absurd (Nat.lt_trans haC I.lt) (Nat.lt_irrefl _)
    · exact I.nofs (Nat.le_of_lt haC) z

/-- z: the value at which it stops (all: false; any: true) -/
def tGen (z : Bool) (P : Addr) (wi : TI) (g : TG) (tt : TT) (te : TE) (vs : List Nat) : TE := fun σ H Q => wi σ H fun J H1 => TabG H1 P ∧ ∀ H2, Tabbed P H1 H2 → ∃ W : Nat → Nat → Hp → Prop, (∃ m, W 0 m H2) ∧ ∀ i m H, W i m H →
  (J.stop i H ∧ Q (.bl (!z)) H) ∨ (J.go i H ∧ 0 < m ∧ ∀ x H', J.yld i H x H' → g x (wipe σ vs) H' fun σ2 H3 => wipe σ2 vs = wipe σ vs ∧ tt σ2 H3 fun b H4 =>
    if b = true then te σ2 H4 fun y H5 => ∃ c, y = .bl c ∧ (if c = z then Q (.bl z) H5 else ∃ m', m' < m ∧ W (i + 1) m' H5) else ∃ m', m' < m ∧ W (i + 1) m' H4)
abbrev nmG : Bool → String
  | true => "any"
  | false => "all"
/-- the Around in which the generator's code runs, walked by a built-in that is called at A -/
abbrev aroundG (A : Around) (elt tg iter : Expr) (ifs : List Expr) (scope : Scope) (pos : Pos) (it : Addr) (cenv : Env) : Around := A.in1.in1.over (loopC elt tg iter ifs scope pos it cenv) []
theorem room_G {A : Around} {k : Nat} {elt tg iter : Expr} {ifs : List Expr} {scope : Scope} {pos : Pos} {it : Addr} {cenv : Env} (r : Room (k + 1) A) : Room k (aroundG A elt tg iter ifs scope pos it cenv) :=
  ⟨r.hd, by have := r.dp; show A.depth + 1 + 3 * k + 5 < _; omega, by have := r.un; show A.units + 1 + 1 + 3 + 16 * k + 200 < _; omega⟩
theorem frames_G {A : Around} {elt tg iter : Expr} {ifs : List Expr} {scope : Scope} {pos : Pos} {it : Addr} {cenv : Env} {l : List Env} (h : A.frames = some l) : (aroundG A elt tg iter ifs scope pos it cenv).frames = some (cenv :: l) := by
  show pushEnvs [cenv] (pushEnvs [] A.frames) = _
  rw [h]
  rfl
theorem call_G {A : Around} {E : Value → Shared → Prop} {prog : Program} {w : World} {z : Bool} {a : Addr} {g : Nat} {Hd : Nat → Shared → Prop} {Out : Bool → Shared → Prop} {Q : Value → Shared → Prop} {k n : Nat} {s : Shared} (hh : A.handled = none) (hroom : A.depth < recursionLimit) (K : Keep a g Hd Out)
    (hQ : ∀ b s', Out b s' → Q (.bool b) s') (hs : Hd n s) (hg : Goes prog w A.in1 g Hd (fun v m s => ∃ b, v = .bool b ∧ if b = z then Out z s else Hd m s) (Out (!z)) k n s) : wpAny (model prog w) A (call (.builtin (nmG z)) [.ref a]) Q E s := by
  obtain ⟨h1, h2⟩ := K.gen n s hs
  cases z with
  | false =>
    refine call_function_tree F.kind_all F.plain_all F.entry_all (F.args_all1 _) ?_
    unfold Builtin.«all»
    refine wpAny_bind (m := oneArg "all" _) (wpAny_pure ?_)
    refine wpAny_bind (wpAny_pyIter_gen h1 ?_)
    refine wpAny_pure ⟨plainId_quiet F.plain_all_loop _, all_loopG (A := A) hh hroom K (fun b s' ho => hQ b s' ho) k n s hs ?_⟩
    have e : (fun (v : Value) m s => ∃ b, v = .bool b ∧ if b = true then Hd m s else Out false s) = fun v m s => ∃ b, v = .bool b ∧ if b = false then Out false s else Hd m s := by
      funext v m s
      apply propext
      constructor
      · rintro ⟨b, e, q⟩; exact ⟨b, e, by cases b <;> simpa using q⟩
      · rintro ⟨b, e, q⟩; exact ⟨b, e, by cases b <;> simpa using q⟩
    rw [e]
    exact hg
  | true =>
    refine call_function_tree F.kind_any F.plain_any F.entry_any (F.args_any1 _) ?_
    unfold Builtin.«any»
    refine wpAny_bind (m := oneArg "any" _) (wpAny_pure ?_)
    refine wpAny_bind (wpAny_pyIter_gen h1 ?_)
    exact wpAny_pure ⟨plainId_quiet F.plain_any_loop _, any_loopG (A := A) hh hroom K (fun b s' ho => hQ b s' ho) k n s hs hg⟩

theorem inv_set {g : Nat} {x : GenState} (I : Inv X pins σ H s) (hx : x.bare = true) : Inv X pins σ H (s.setGen g x) :=
  I.call (g' := s.gens.setIfInBounds g x) (d' := s.drawn) (t' := s.toks) (ch := []) (h' := s.heap) Un.refl I.hok (fun y hy => (Array.mem_or_eq_of_mem_setIfInBounds hy).elim (I.bare y) fun e => e ▸ hx) (fun b z => absurd z (by simp))
theorem gen_core {z : Bool} {Q : VK} {c P : Addr} {elt tg iter : Expr} {ifs : List Expr} {scope : Scope} {own : List (Str × Nat)} {gpos : Pos} {wi : TI} {g : TG} {tt : TT} {te : TE} {k : Nat}
    (hr : Room (k + 1) X.A) (hc : X.calm = true) (hN : X.N.Nodup) (TB : TabB X.base X.mg c P) (hcode : X.env.code = .ref c) (ok : GenOk X.N X.env.scope scope own) (hi : PI X tg iter wi)
    (hg : ∀ (s : Shared) (H : Hp) (C : Addr) (code : Value) (A : Around) (fp : List Addr), PG (cxG X s H (cenvG X scope C code) A fp) tg g)
    (ht : ∀ (s : Shared) (H : Hp) (C : Addr) (code : Value) (A : Around) (fp : List Addr), Room k A → PTs (cxG X s H (cenvG X scope C code) A fp) ifs tt)
    (he : ∀ (s : Shared) (H : Hp) (C : Addr) (code : Value) (A : Around) (fp : List Addr), Room k A → PE (cxG X s H (cenvG X scope C code) A fp) elt te)
    (hs : ∀ v, genFold iter X.env v = pure v) (I : Inv X pins σ H s) (h : tGen z P wi g tt te (own.map (·.2)) σ H Q) :
    wpAny (model X.prog X.w) X.A (eval (.GeneratorExp elt [⟨tg, iter, ifs, 0⟩] scope gpos) X.env) (fun v s5 => wpAny (model X.prog X.w) X.A (call (.builtin (nmG z)) [v]) (EP X pins σ Q) X.xe s5) X.xe s := by
  have hfree : ∀ y ∈ scope.names, y.2 = .free → ∃ c, X.env.cells.lookup y.1 = some c := fun y hy e => by
    rcases ok.free y hy e with k | k
    · exact I.ok.has _ (.inl k)
    · exact I.ok.has _ (.inr k)
  refine wpAny_GeneratorExp_make ok.co (closure_ok hfree) ok.cell ok.dot ok.kind hr.depth ?_ hs
  refine thn (hi.run pins s σ H _ I h) fun xv s1 hx => thn hx fun itv s2 h2 => ?_
  obtain ⟨it, fp, tn, J, H2, e, I2, T, st2, f2, ⟨ps, hP, htr⟩, q⟩ := h2
  subst e
  have hPs : s2.heap.get? P = some { cls := .none, data := .fields ps } := I2.hok P _ hP
  have cd : PySem.W.CodeHd s2.heap c P := TB.code.keeps fun b u e => I2.bk b u e
  refine ⟨I2.nolimit, ?_⟩
  have cont : ∀ (code : Value) (h3 : Heap) (tk : Nat) (ps' : Array Value), Heap.ExtBut P s2.heap h3 → s2.heap.objs.size ≤ h3.objs.size → h3.get? P = some { cls := .none, data := .fields ps' } → (∃ more, ps' = ps ++ more) → TriplesOk ps'.toList →
      wpAny (model X.prog X.w) X.A (builtinsFor X.env.globals X.env.builtins) (fun bi s₄ => ∀ h', h'.Ns s₄.heap.objs.size (fun y => if y = ".0" then some (.ref it) else none) → Heap.SameBut s₄.heap.objs.size (s₄.heap.push { cls := .type "frame", data := .dict #[] }) h' →
        (fun v s5 => wpAny (model X.prog X.w) X.A (call (.builtin (nmG z)) [v]) (EP X pins σ Q) X.xe s5) (.ref h'.objs.size) { s₄ with
            gens := s₄.gens.push (.fresh (.compStart (.GeneratorExp elt [⟨tg, iter, ifs, 0⟩] scope gpos) 0 (.ref it) .none (genEnv scope (cloFrom X.env.cells scope.names []) s₄.heap.objs.size code bi X.env))),
            toks := s₄.toks + 1 + 1 + 1,
            heap := h'.push { cls := .type "generator", data := .fields #[.int s₄.gens.size 0, .str "<genexpr>" (s₄.toks + 1), .str (X.env.qual ++ "<genexpr>") (s₄.toks + 1 + 1)] } }) X.xe { s2 with heap := h3, toks := tk } := by
    intro code h3 tk ps' hx hsz hP3 hmore ht3
    obtain ⟨bm, ob, e1, e2, e3, e4, e5, e6, e7, e8⟩ := TB.bm
    have keep3 : ∀ b u, b ≠ P → s2.heap.get? b = some u → h3.get? b = some u := fun b u hb e => hx b u hb e
    refine wpAny_builtinsFor (m := X.mg) (by rw [I2.ok.glob]; exact (I2.mod.glob.keeps I2.bk).extBut hx TB.gP) e1 e2 (keep3 _ _ e4 (I2.bk _ _ e5)) e6 e7 e8 ?_
    obtain ⟨more, rfl⟩ := hmore
    have I4 : Inv X pins σ (upd H2 P (.tbl (ps ++ more))) { s2 with heap := h3, toks := tk } := inv_tab (g' := s2.gens) (d' := s2.drawn) I2 hP keep3 hP3 I2.bare
    have tb : Tabbed P H2 (upd H2 P (.tbl (ps ++ more))) := ⟨⟨ps ++ more, upd_same, ht3⟩, fun b hb => upd_ne hb⟩
    obtain ⟨W, ⟨m0, w0⟩, turn⟩ := q _ tb
    have fpP : ∀ b ∈ fp, b ≠ P := fun b hb z => by
      have := (f2 b hb).1
      rw [z, hP] at this; cases this
    generalize upd H2 P (.tbl (ps ++ more)) = H4 at I4 tb w0
    have nfp : ∀ b ∈ fp, H4 b = none := fun b hb => by rw [tb.2 b (fpP b hb)]; exact (f2 b hb).1
    have st4 : tn 0 h3 := T.keep _ _ _ st2 fun b hb o e => keep3 b o (fpP b hb) e
    have f4 : ∀ b ∈ fp, FpOk X pins H4 b ∧ b < h3.objs.size := fun b hb => ⟨⟨nfp b hb, (f2 b hb).2⟩, by
      obtain ⟨o, e, _⟩ := T.obj _ _ st4 b hb
      exact Heap.lt_size e⟩
    generalize hs4 : ({ s2 with heap := h3, toks := tk } : Shared) = s4 at I4
    have hh4 : s4.heap = h3 := by rw [← hs4]
    rw [← hh4] at f4 st4
    intro h' hn' hs'
    generalize hgo : ({ cls := .type "generator", data := .fields #[.int s4.gens.size 0, .str "<genexpr>" (s4.toks + 1), .str (X.env.qual ++ "<genexpr>") (s4.toks + 1 + 1)] } : Obj) = og
    generalize hs5 : ({ s4 with
            gens := s4.gens.push (.fresh (.compStart (.GeneratorExp elt [⟨tg, iter, ifs, 0⟩] scope gpos) 0 (.ref it) .none (genEnv scope (cloFrom X.env.cells scope.names []) s4.heap.objs.size code builtinsNs X.env))),
            toks := s4.toks + 1 + 1 + 1,
            heap := h'.push og } : Shared) = s5
    show wpAny (model X.prog X.w) X.A (call (.builtin (nmG z)) [.ref h'.objs.size]) (EP X pins σ Q) X.xe s5
    have hszh : h'.objs.size = s4.heap.objs.size + 1 := by rw [hs'.1, Heap.size_push]
    have kp : ∀ b o, s4.heap.get? b = some o → s5.heap.get? b = some o := fun b o e => by
      rw [← hs5]
      exact Heap.get?_push_of_some _ (hs'.extBut b o (Nat.ne_of_lt (Heap.lt_size e)) (Heap.get?_push_of_some _ e))
    have ha : s5.heap.get? h'.objs.size = some og := by
      rw [← hs5]
      exact Heap.get?_push_size _ (by rw [← hgo]; rfl)
    have hgens : s5.gens = s4.gens.push (.fresh (startC elt tg iter ifs scope gpos it (cenvG X scope s4.heap.objs.size code))) := by rw [← hs5]
    have bare5 : AllBare s5.gens := by rw [hgens]; exact I4.bare.push rfl
    have I5 := gen_start (A := aroundG X.A elt tg iter ifs scope gpos it (cenvG X scope s4.heap.objs.size code)) I4 ok hN f4 (by rw [← hs5]) bare5 kp (by rw [← hs5]; exact hn'.push _) hr.hd (frames_G I4.ok.frames) ha (by rw [hszh]; exact Nat.lt_succ_self _) (fun v => by rw [← hgo]; exact fun z => nomatch z)
    have rG : Room k (aroundG X.A elt tg iter ifs scope gpos it (cenvG X scope s4.heap.objs.size code)) := room_G hr
    have pg := hg s4 H4 s4.heap.objs.size code (aroundG X.A elt tg iter ifs scope gpos it (cenvG X scope s4.heap.objs.size code)) fp
    have pt := ht s4 H4 s4.heap.objs.size code (aroundG X.A elt tg iter ifs scope gpos it (cenvG X scope s4.heap.objs.size code)) fp rG
    have pe := he s4 H4 s4.heap.objs.size code (aroundG X.A elt tg iter ifs scope gpos it (cenvG X scope s4.heap.objs.size code)) fp rG
    have hgen : ∀ {h : Heap}, h.get? h'.objs.size = some og → h.IsGen h'.objs.size s4.gens.size := fun {h} e => ⟨_, _, _, e, by rw [← hgo], by rw [← hgo], by rw [← hgo]⟩
    have hga : s5.gens[s4.gens.size]? = some (.fresh (startC elt tg iter ifs scope gpos it (cenvG X scope s4.heap.objs.size code))) := by rw [hgens]; exact Array.getElem?_push_size ..
    have haC : s4.heap.objs.size < h'.objs.size := by rw [hszh]; exact Nat.lt_succ_self _
    have st5 : tn 0 s5.heap := T.keep _ _ _ st4 fun b _ o e => kp b o e
    have hco : (cenvG X scope s4.heap.objs.size code).scope.isCoroutine = false := ok.co
    generalize cenvG X scope s4.heap.objs.size code = cenv at I5 rG pg pt pe hga hco
    generalize h'.objs.size = a at I5 hgen haC
    have back : ∀ {pl : List (Addr × Obj)} {σ' : L2.St} {H' : Hp} {s' : Shared}, Inv (cxG X s4 H4 cenv (aroundG X.A elt tg iter ifs scope gpos it cenv) fp) pl σ' H' s' → Inv X pins σ H' s' := fun {pl σ' H' s'} I' =>
      I4.call' (ch := fp) I'.os I'.base I'.hok I'.bare fun b hb => ⟨(f4 b hb).1.2.2.2.1, (f4 b hb).1.2.1, (f4 b hb).1.2.2.2.2.1, (f4 b hb).1.2.2.2.2.2⟩
    have stat : ∀ {σ' : L2.St} {H' : Hp} {s' : Shared}, Inv (cxG X s4 H4 cenv (aroundG X.A elt tg iter ifs scope gpos it cenv) fp) [(a, og)] σ' H' s' → (∀ b ∈ fp, H' b = none) → ∀ b ∈ fp, FpOk (cxG X s4 H4 cenv (aroundG X.A elt tg iter ifs scope gpos it cenv) fp) [(a, og)] H' b := fun {σ' H' s'} I' hn b hb =>
      ⟨hn b hb, (I'.ok.exf b hb).1, I'.ok.exfs b hb, .inl hb, fun x c e => (I'.ok.exf b hb).2 x c e, fun p hp => by
        have hp : p ∈ [(a, og)] := hp
        have hp : p = (a, og) := by simpa using hp
        subst hp
        exact Nat.ne_of_gt (Nat.lt_trans (f4 b hb).2 haC)⟩
    refine call_G (z := z) (g := s4.gens.size) (n := m0) (k := m0) (Hd := fun n s' => ∃ i H', Inv (cxG X s4 H4 cenv (aroundG X.A elt tg iter ifs scope gpos it cenv) fp) [(a, og)] (wipe σ (own.map (·.2))) H' s' ∧ tn i s'.heap ∧ (∀ b ∈ fp, H' b = none) ∧ W i n H')
      (Out := fun b s' => ∃ H', Inv X pins σ H' s' ∧ Q (.bl b) H') hr.hd hr.depth ⟨?_, ?_, ?_, ?_⟩ ?_ ⟨0, H4, I5, st5, nfp, w0⟩ ⟨_, hga, fun s'' hs'' => ⟨rfl, seg_startG (A := X.A.in1.in1) hco ?_ ?_ m0 m0 s'' s'' (Nat.le_refl _) hs''⟩⟩
    · rintro n s' ⟨i, H', I', _⟩
      exact ⟨hgen (I'.pin (a, og) (by simp)).1, I'.nolimit⟩
    · rintro n s' x ⟨i, H', I', r1, r2, r3⟩ hx
      exact ⟨i, H', inv_set I' hx, r1, r2, r3⟩
    · rintro b s' x ⟨H', I', r⟩ hx
      exact ⟨H', inv_set I' hx, r⟩
    · rintro b s' h ⟨H', I', r⟩ hk
      exact ⟨H', I'.kept (t' := s'.toks) hk, r⟩
    · rintro b s' ⟨H', I', r⟩
      exact ⟨.bl b, H', I', rfl, r⟩
    · rintro n s6 ⟨i, H6, I6, st6, n6, w6⟩
      rcases turn i n H6 w6 with ⟨stop, qq⟩ | ⟨go, hm0, step⟩
      · refine thnF (T.done (cxG X s4 H4 cenv (aroundG X.A elt tg iter ifs scope gpos it cenv) fp) rfl rfl rfl rfl i _ s6 _ H6 (fun _ _ => False) I6 (stat I6 n6) st6 stop) fun r s7 ⟨hr, I7⟩ => ?_
        subst hr
        exact ⟨H6, back I7, qq⟩
      · refine thnF (T.item (cxG X s4 H4 cenv (aroundG X.A elt tg iter ifs scope gpos it cenv) fp) rfl rfl rfl rfl i _ s6 _ H6 (fun _ _ => False) I6 (stat I6 n6) st6 go) fun r s7 ⟨u, hr, h7⟩ => ?_
        subst hr
        refine thnF h7 fun _ s8 ⟨x, H8, I8, r8, y8, st8, n8⟩ => ?_
        have I8' := I8.pinned (stat I8 n8) (T.obj _ _ st8)
        refine thnF (pg.run _ s8 _ H8 x u _ I8' r8 (step x H8 y8)) fun _ s9 ⟨σ9, H9, I9, hw9, q9⟩ => ?_
        refine thnF (pt.run _ s9 σ9 H9 _ I9 q9) fun b s10 ⟨H10, I10, q10⟩ => ?_
        have fin : ∀ {s' : Shared} {H' : Hp} {m : Nat}, Inv (cxG X s4 H4 cenv (aroundG X.A elt tg iter ifs scope gpos it cenv) fp) ([(a, og)] ++ pinsAt fp s8.heap) σ9 H' s' → W (i + 1) m H' → ∃ i H', Inv (cxG X s4 H4 cenv (aroundG X.A elt tg iter ifs scope gpos it cenv) fp) [(a, og)] (wipe σ (own.map (·.2))) H' s' ∧ tn i s'.heap ∧ (∀ b ∈ fp, H' b = none) ∧ W i m H' := fun {s' H' m} I' w' => by
          have pin' : ∀ b ∈ fp, ∀ o, s8.heap.get? b = some o → s'.heap.get? b = some o ∧ H' b = none := fun b hb o e =>
            let z := I'.pin (b, o) (List.mem_append_right _ (List.mem_append_right _ (mem_pinsAt hb e)))
            ⟨z.1, z.2.1⟩
          have hl : (wipe σ (own.map (·.2))).length = σ9.length := by rw [← hw9, wipe_length]
          refine ⟨i + 1, H', (I'.unpinned (pins := [(a, og)])).weak hl (fun j v e => ?_), T.keep _ _ _ st8 fun b hb o e => (pin' b hb o e).1, fun b hb => ?_, w'⟩
          · rw [← hw9] at e
            exact (wipe_some e).1
          · obtain ⟨o, e, _⟩ := T.obj _ _ st8 b hb
            exact (pin' b hb o e).2
        cases b with
        | false =>
          simp only [Bool.false_eq_true, if_false] at q10 ⊢
          obtain ⟨m', hm, w'⟩ := q10
          exact ⟨m', hm, fin I10 w'⟩
        | true =>
          simp only [if_true] at q10 ⊢
          refine thnF (pe.run _ s10 σ9 H10 _ I10 q10) fun y s11 ⟨yv, H11, I11, r11, bb, eb, q11⟩ => ?_
          subst eb
          cases (show y = Value.bool bb from r11)
          by_cases hb : bb = z
          · subst hb
            rw [if_pos rfl] at q11
            exact ⟨0, hm0, bb, rfl, by rw [if_pos rfl]; exact ⟨H11, back I11, q11⟩⟩
          · rw [if_neg hb] at q11
            obtain ⟨m', hm, w'⟩ := q11
            exact ⟨m', hm, bb, rfl, by rw [if_neg hb]; exact fin I11 w'⟩
    · rintro n s6 Q' E' ⟨i, H6, I6, st6, _⟩ hq
      exact T.self _ i s6 Q' E' st6 hq
  cases hf : codeAmong gpos ps.toList with
  | none =>
    refine wpAny_genexprCodeX hcode (cd.code hPs htr) (cd.tab hPs) hf fun c' h' tk hx hge hlt hco' _ htab' _ => ?_
    obtain ⟨o1, vs, f1, tf, fl, tg, inF, tx, tt, op, _, _, _, _, _, _, _, _, _, htr, _⟩ := hco'
    exact cont _ h' tk _ hx (Nat.le_trans hge (Nat.le_of_lt hlt)) htab'.2 ⟨_, rfl⟩ htr
  | some cv =>
    refine wpAny_genexprCode_hit hcode (cd.code hPs htr) hf ?_
    exact cont cv s2.heap s2.toks ps (Heap.ExtBut.refl _ _) (Nat.le_refl _) hPs ⟨#[], by simp⟩ htr
theorem pe_genG {z : Bool} {c P : Addr} {elt tg iter : Expr} {ifs : List Expr} {scope : Scope} {own : List (Str × Nat)} {gpos p pos : Pos} {wi : TI} {g : TG} {tt : TT} {te : TE} {k : Nat} {x : Str}
    (hr : Room (k + 1) X.A) (hc : X.calm = true) (hN : X.N.Nodup) (hgl : Gl X x) (hm : X.mg x = none) (hb : bootBuiltins x = some (.builtin (nmG z))) (TB : TabB X.base X.mg c P) (hcode : X.env.code = .ref c) (ok : GenOk X.N X.env.scope scope own) (hi : PI X tg iter wi)
    (hg : ∀ (s : Shared) (H : Hp) (C : Addr) (code : Value) (A : Around) (fp : List Addr), PG (cxG X s H (cenvG X scope C code) A fp) tg g)
    (ht : ∀ (s : Shared) (H : Hp) (C : Addr) (code : Value) (A : Around) (fp : List Addr), Room k A → PTs (cxG X s H (cenvG X scope C code) A fp) ifs tt)
    (he : ∀ (s : Shared) (H : Hp) (C : Addr) (code : Value) (A : Around) (fp : List Addr), Room k A → PE (cxG X s H (cenvG X scope C code) A fp) elt te)
    (hs : ∀ v, genFold iter X.env v = pure v) (hn : x ≠ "__name__" := by decide) (hdb : (x == ("__debug__" : Str)) = false := by decide)
    (hst : starEach [.GeneratorExp elt [⟨tg, iter, ifs, 0⟩] scope gpos] X.env = (false, eval (.GeneratorExp elt [⟨tg, iter, ifs, 0⟩] scope gpos) X.env) :: starEach [] X.env := by rfl) :
    PE X (.Call (.Name x p) [.GeneratorExp elt [⟨tg, iter, ifs, 0⟩] scope gpos] [] pos) (tGen z P wi g tt te (own.map (·.2))) := by
  refine ⟨fun pins s σ H Q I h => ?_⟩
  refine wpAny_Call_Name_kw (ld_blt I hgl hm hb ?_ hn hdb)
  refine PyProof.Rows.callWith_builtin1 ?_ hst (by rfl)
  rw [hst]
  show wpAny _ _ (spliced ((false, eval (.GeneratorExp elt [⟨tg, iter, ifs, 0⟩] scope gpos) X.env) :: backTo pos (starEach [] X.env))) _ _ s
  refine Calls.spliced_cons (thn (gen_core hr hc hN TB hcode ok hi hg ht he hs I h) fun v s5 q => ?_)
  exact Calls.spliced_nil q
/-- the names, checked -/
def genC (N : List Str) (sc scope : Scope) (own : List (Str × Nat)) : Bool :=
  (match scope.kind with | .function => true | _ => false) && !scope.isCoroutine && (match scope.names.lookup (".0" : Str) with | some .local => true | _ => false) && (scope.names.all fun y => decide (scope.names.lookup y.1 = some y.2)) && (own.all fun p => decide (N[p.2]? = some p.1)) &&
    (scope.names.all fun y => match y.2 with
      | .free => (match sc.names.lookup y.1 with | some .cell => true | some .free => true | _ => false)
      | .local => decide (y.1 ∈ own.map (·.1)) || decide (y.1 ∉ N)
      | .cell => false
      | _ => true)
theorem genOk_by {N : List Str} {sc scope : Scope} {own : List (Str × Nat)} (h : genC N sc scope own = true) : GenOk N sc scope own := by
  unfold genC at h
  simp only [Bool.and_eq_true, List.all_eq_true, decide_eq_true_eq, Bool.not_eq_true'] at h
  obtain ⟨⟨⟨⟨⟨h1, h0⟩, hd⟩, h2⟩, h3⟩, h4⟩ := h
  refine ⟨?_, h0, fun y hy e => ?_, ?_, h2, h3, fun y hy e => ?_, fun y hy e => ?_⟩
  · split at h1
    · assumption
    · cases h1
  · have q := h4 y hy
    simp only [e] at q
    cases q
  · split at hd
    · assumption
    · cases hd
  · have q := h4 y hy
    simp only [e] at q
    split at q <;> first | exact .inl (by assumption) | exact .inr (by assumption) | cases q
  · have q := h4 y hy
    simp only [e, Bool.or_eq_true, decide_eq_true_eq] at q; exact q
end
end GX

set_option Elab.async false
set_option linter.all false
set_option maxRecDepth 100000
set_option maxHeartbeats 4000000
/-! DL9: all, any of generator expressions over data; a def whose code has a table. -/
namespace DL
open PySem PySem.Spec PyProof.Rows L2 GX GxR

def genGo (z : Bool) (s : Src) (tg : TgC) (t : TΦ) (e : EΦ) (env : Env) : List D → Hh → R D
  | [], h => if s.ok h then .ok (.bl (!z)) h else .bad
  | d :: r, h => if s.ok h then (match setC tg d env with
    | none => .bad
    | some env1 => match t env1 h with
      | .ok true h => (match e env1 h with
        | .ok (.bl c) h => if c = z then .ok (.bl z) h else genGo z s tg t e env r h
        | _ => .bad)
      | .ok false h => genGo z s tg t e env r h
      | _ => .bad) else .bad
def E.gen (z : Bool) (i : IΦ) (vs : List Nat) (tg : TgC) (t : TΦ) (e : EΦ) : EΦ := fun env h => (i env h).bind fun s h => genGo z s tg t e (wipeE env vs) s.items h
theorem genGo_nox (z : Bool) (s : Src) (tg : TgC) (t : TΦ) (e : EΦ) (env : Env) : ∀ l h x h', genGo z s tg t e env l h ≠ .exc x h'
  | [], h, x, h', q => by
    unfold genGo at q
    split at q <;> cases q
  | d :: r, h, x, h', q => by
    unfold genGo at q
    split at q
    · split at q
      · cases q
      · split at q
        · split at q
          · split at q
            · cases q
            · exact genGo_nox z s tg t e env r _ x h' q
          · cases q
        · exact genGo_nox z s tg t e env r _ x h' q
        · cases q
    · cases q

section
variable {K : PySem.W.Frag} {G : Gs} {ρ : List Addr} {hh : Hh} {H H' : Hp} {P : Addr}
theorem Ext.tabbed (hT : TabG H P) (t : Tabbed P H H') : Ext ρ H ρ H' := by
  obtain ⟨ps, hP, _⟩ := hT
  have ne : ∀ b u, H b = some u → (∀ q, u ≠ .tbl q) → b ≠ P := fun b u e q z => by
    rw [z, hP] at e
    exact q ps (Option.some.inj e).symm
  refine ⟨⟨[], by simp, by simp⟩, fun b ys e => ?_, fun b o u e => ?_, fun b u e _ hu => ?_, fun b e => ?_⟩
  · rw [t.2 b (ne b _ e fun q z => by cases z)]; exact e
  · rw [t.2 b (ne b _ e fun q z => by cases z)]; exact e
  · rw [t.2 b (ne b _ e hu)]; exact e
  · by_cases q : b = P
    · obtain ⟨ps', h', _⟩ := t.1
      rw [q, h'] at e; cases e
    · rwa [t.2 b q] at e
theorem Rep.tabbed (rp : Rep K G ρ hh H) (hT : TabG H P) (t : Tabbed P H H') : Rep K G ρ hh H' := by
  refine ⟨rp.len, rp.nd, fun m ob hm => ?_, fun Q hQ => ?_⟩
  · obtain ⟨b, e1, e2⟩ := rp.ob m ob hm
    refine ⟨b, e1, e2.ext (Ext.tabbed hT t) (t.2 b fun z => ?_)⟩
    obtain ⟨ps, hP, _⟩ := hT
    obtain ⟨u, hu, h3⟩ := e2.at
    rw [z, hP] at hu
    rcases h3 with ⟨xs, h3⟩ | ⟨o, xs, h3⟩ | ⟨φ, h3⟩ | ⟨C, dx, fs, h3⟩ <;> (rw [h3] at hu; cases hu)
  · by_cases q : Q = P
    · rw [q]; exact t.1
    · obtain ⟨ps, e1, e2⟩ := rp.tb Q hQ
      exact ⟨ps, by rw [t.2 Q q]; exact e1, e2⟩
end
/-- a generator expression's target -/
def GCg (X : Cx) (G : Gs) (rep : RepV) (scope : Scope) (tg : Expr) (vs : List Nat) (tgc : TgC) : Prop := ∃ g : TG,
  (∀ (s : Shared) (H : Hp) (C : Addr) (code : Value) (A : Around) (fp : List Addr), PG (cxG X s H (cenvG X scope C code) A fp) tg g) ∧
  ∀ ρ H d x env env1 σ Q, rep ρ H d x → RE X.K G ρ H env σ → setC tgc d env = some env1 → (∀ σ1, RE X.K G ρ H env1 σ1 → L2.wipe σ1 vs = L2.wipe σ vs → Q σ1 H) → g x σ H Q
section
variable {X : Cx} {G : Gs} {W : WX} {elt tg iter : Expr} {ifs : List Expr} {pos : Pos} {scope : Scope}
theorem GCg.one {i : Nat} {x : Str} {vs : List Nat} (hN : X.N.Nodup) (hi : X.N[i]? = some x) (hm : i ∈ vs) (hx : scope.names.lookup x = some .local) : GCg X G (RV X.K G) scope (.Name x pos) vs (.one i) := by
  refine ⟨gName i, fun s H C code A fp => pg_name hN hi (.inl hx) (.inr hx), fun ρ H d v env env1 σ Q r re e q => ?_⟩
  cases e
  exact q _ (re.set i r) (wipe_set hm)
theorem GCg.many {es : List Expr} {is vs : List Nat} {k n : Nat} (hm : ∀ i ∈ is, i ∈ vs) (hn : is.length = n)
    (hx : ∀ (s : Shared) (H : Hp) (C : Addr) (code : Value) (A : Around) (fp : List Addr), PG (cxG X s H (cenvG X scope C code) A fp) (.Tuple es k pos) (gTup X.K n (gNames is))) : GCg X G (RVw X.K G) scope (.Tuple es k pos) vs (.many is) := by
  refine ⟨gTup X.K n (gNames is), hx, fun ρ H d v env env1 σ Q r re e q => ?_⟩
  cases d <;> first | cases e | skip
  rename_i l
  obtain ⟨a, xs, rfl, h1, h2⟩ := r
  have e : (if l.length = is.length then some (setMany is l env) else none) = some env1 := e
  split at e
  · rename_i hl
    cases e
    exact ⟨a, xs, rfl, h1, by rw [h2.length, hl, hn], gNames_ok hm h2 hl re q⟩
  · cases e
theorem GCg.strong {tg : Expr} {vs : List Nat} {tgc : TgC} (h : GCg X G (RVw X.K G) scope tg vs tgc) : GCg X G (RV X.K G) scope tg vs tgc := by
  obtain ⟨g, h1, h2⟩ := h
  exact ⟨g, h1, fun ρ H d x env env1 σ Q r => h2 ρ H d x env env1 σ Q (RVw.of r)⟩
def GTs (X : Cx) (G : Gs) (k : Nat) (scope : Scope) (ifs : List Expr) (τ : TΦ) : Prop := ∀ (s : Shared) (H : Hp) (C : Addr) (code : Value) (A : Around) (fp : List Addr), Room k A → PTs (cxG X s H (cenvG X scope C code) A fp) ifs (tG X.K G WF rB τ)
theorem GTs.nil {k : Nat} : GTs X G k scope [] T.yes := fun s H C code A fp _ => by
  refine PTs.weak pts_nil ?_
  rintro σ H Q ⟨ρ, hh, env, rp, re, sat⟩
  exact Sat.mk sat (Ext.refl _ _) rp rfl
theorem GTs.one {k : Nat} {c : Expr} {τ : TΦ} (h : ∀ (s : Shared) (H : Hp) (C : Addr) (code : Value) (A : Around) (fp : List Addr), Room k A → ST (cxG X s H (cenvG X scope C code) A fp) G WF c τ) : GTs X G k scope [c] τ := fun s H C code A fp hr => pts_one (h s H C code A fp hr).pt

theorem gen_rd {z : Bool} {P : Addr} {rep : RepV} {own : List (Str × Nat)} {φ : IΦ} {tgc : TgC} {τ : TΦ} {χ : EΦ} {g : TG} {σ : L2.St} {H : Hp} {Q : VK} (hP : P ∈ G.tabs)
    (hg : ∀ ρ H d x env env1 σ Q, rep ρ H d x → RE X.K G ρ H env σ → setC tgc d env = some env1 → (∀ σ1, RE X.K G ρ H env1 σ1 → L2.wipe σ1 (own.map (·.2)) = L2.wipe σ (own.map (·.2)) → Q σ1 H) → g x σ H Q)
    (h : tG X.K G W (rV X.K G) (E.gen z φ (own.map (·.2)) tgc τ χ) σ H Q) : tGen z P (tI X.K G W rep φ) g (tG X.K G WF rB τ) (tG X.K G WF (rV X.K G) χ) (own.map (·.2)) σ H Q := by
  generalize own.map (·.2) = vs at hg h
  obtain ⟨ρ, hh, env, rp, re, sat⟩ := h
  refine ⟨ρ, hh, env, rp, re, ?_⟩
  unfold E.gen at sat
  cases q : φ env hh with
  | exc x hh1 => rw [q] at sat; exact sat
  | bad => rw [q] at sat; exact sat
  | ok s hh1 =>
    rw [q] at sat
    intro J ρ1 H1 e1 rp1 ok
    have hT : TabG H1 P := rp1.tb P hP
    refine ⟨hT, fun H2 tb => ?_⟩
    have sat : Sat X.K G W (rV X.K G) ρ H σ Q (genGo z s tgc τ χ (wipeE env vs) s.items hh1) := sat
    have eT : Ext ρ1 H1 ρ1 H2 := Ext.tabbed hT tb
    refine ⟨fun i m H3 => ∃ ρ2 hh2, Ext ρ1 H1 ρ2 H3 ∧ Rep X.K G ρ2 hh2 H3 ∧ Sat X.K G W (rV X.K G) ρ H σ Q (genGo z s tgc τ χ (wipeE env vs) (s.items.drop i) hh2) ∧ m = s.items.length - i,
      ⟨_, ρ1, hh1, eT, rp1.tabbed hT tb, sat, rfl⟩, ?_⟩
    rintro i m H3 ⟨ρ2, hh2, eL, rp2, sat2, rfl⟩
    by_cases hi : i < s.items.length
    · rw [List.drop_eq_getElem_cons hi] at sat2
      unfold genGo at sat2
      split at sat2
      · rename_i hok
        refine .inr ⟨ok.go i ρ2 hh2 H3 eL rp2 hok hi, by omega, fun x H4 hy => ?_⟩
        obtain ⟨e3, rp3, rx⟩ := ok.yld i ρ2 hh2 H3 x H4 _ eL rp2 hok (List.getElem?_eq_getElem hi) hy
        have re0 : RE X.K G ρ2 H4 (wipeE env vs) (L2.wipe σ vs) := ((re.ext (e1.trans (eL.trans e3))).wipe vs)
        split at sat2
        · exact sat2.elim
        · rename_i env1 hs1
          refine hg ρ2 H4 _ x _ env1 _ _ rx re0 hs1 fun σ1 re1 hw => ⟨by rw [hw]; exact wipe_wipe σ vs, ρ2, hh2, env1, rp3, re1, ?_⟩
          cases qt : τ env1 hh2 with
          | exc y h4 => rw [qt] at sat2; exact sat2.elim
          | bad => rw [qt] at sat2; exact sat2.elim
          | ok k hh4 =>
            rw [qt] at sat2
            intro k' H5 ρ4 e4 rp4 rk
            have : k = k' := rk
            subst this
            cases k with
            | false => exact iteF ⟨_, by omega, ρ4, hh4, eL.trans (e3.trans e4), rp4, sat2, rfl⟩
            | true =>
              refine iteT ⟨ρ4, hh4, env1, rp4, re1.ext e4, ?_⟩
              have sat2 : Sat X.K G W (rV X.K G) ρ H σ Q (match χ env1 hh4 with
                | .ok (.bl c) h => if c = z then .ok (.bl z) h else genGo z s tgc τ χ (wipeE env vs) (s.items.drop (i + 1)) h
                | _ => .bad) := sat2
              cases qe : χ env1 hh4 with
              | exc y h5 => rw [qe] at sat2; exact sat2.elim
              | bad => rw [qe] at sat2; exact sat2.elim
              | ok y hh5 =>
                rw [qe] at sat2
                intro v H6 ρ5 e5 rp5 ry
                cases y with
                | bl c =>
                  have sat2 : Sat X.K G W (rV X.K G) ρ H σ Q (if c = z then .ok (.bl z) hh5 else genGo z s tgc τ χ (wipeE env vs) (s.items.drop (i + 1)) hh5) := sat2
                  have rv := rv_bl ry
                  refine ⟨c, rv, ?_⟩
                  by_cases hc : c = z
                  · rw [if_pos hc] at sat2 ⊢
                    exact Sat.mk sat2 (e1.trans (eL.trans (e3.trans (e4.trans e5)))) rp5 mk_bl
                  · rw [if_neg hc] at sat2 ⊢
                    exact ⟨_, by omega, ρ5, hh5, eL.trans (e3.trans (e4.trans e5)), rp5, sat2, rfl⟩
                | _ => exact sat2.elim
      · exact sat2.elim
    · rw [List.drop_of_length_le (by omega)] at sat2
      unfold genGo at sat2
      split at sat2
      · rename_i hok
        exact .inl ⟨ok.stop i ρ2 hh2 H3 eL rp2 hok (by omega), Sat.mk sat2 (e1.trans eL) rp2 mk_bl⟩
      · exact sat2.elim
theorem SE.gen {z : Bool} {c P : Addr} {rep : RepV} {own : List (Str × Nat)} {gpos p : Pos} {k : Nat} {x : Str} {φ : IΦ} {tgc : TgC} {τ : TΦ} {χ : EΦ}
    (hr : Room (k + 1) X.A) (hc : X.calm = true) (hN : X.N.Nodup) (hgl : Gl X x) (hm : X.mg x = none) (hb : bootBuiltins x = some (.builtin (nmG z))) (TB : TabB X.base X.mg c P) (hP : P ∈ G.tabs) (hcode : X.env.code = .ref c) (ok : GenOk X.N X.env.scope scope own)
    (hi : SI X G W rep tg iter φ) (hg : GCg X G rep scope tg (own.map (·.2)) tgc) (ht : GTs X G k scope ifs τ)
    (he : ∀ (s : Shared) (H : Hp) (C : Addr) (code : Value) (A : Around) (fp : List Addr), Room k A → SE (cxG X s H (cenvG X scope C code) A fp) G WF elt χ)
    (hs : ∀ v, genFold iter X.env v = pure v := by intro _; rfl) (hn : x ≠ "__name__" := by decide) (hdb : (x == ("__debug__" : Str)) = false := by decide)
    (hst : starEach [.GeneratorExp elt [⟨tg, iter, ifs, 0⟩] scope gpos] X.env = (false, eval (.GeneratorExp elt [⟨tg, iter, ifs, 0⟩] scope gpos) X.env) :: starEach [] X.env := by rfl) :
    SE X G W (.Call (.Name x p) [.GeneratorExp elt [⟨tg, iter, ifs, 0⟩] scope gpos] [] pos) (E.gen z φ (own.map (·.2)) tgc τ χ) := by
  obtain ⟨g, h1, h2⟩ := hg
  exact ⟨PE.weak (pe_genG (te := tG X.K G WF (rV X.K G) χ) hr hc hN hgl hm hb TB hcode ok hi.pi h1 ht (fun s H C code A fp hr => (he s H C code A fp hr).pe) hs hn hdb hst) fun σ H Q h => gen_rd hP h2 h⟩
end
end DL

set_option Elab.async false
set_option linter.all false
set_option maxRecDepth 100000
set_option maxHeartbeats 4000000
/-! DL10: isinstance, int, max, min, methods of lists and tuples, stores into lists. -/
namespace DL
open PySem PySem.Spec PyProof.Rows L2 GX GxR

/-! ### isinstance -/
def tyNm : D → Hh → Option String
  | .non, _ => some "NoneType"
  | .bl _, _ => some "bool"
  | .int _, _ => some "int"
  | .str _, _ => some "str"
  | .tup _, _ => some "tuple"
  | .ref n, h => (match h[n]? with
    | some (.lst _) => some "list"
    | some (.frz _) => some "list"
    | _ => none)
  | .fn _, _ => none
def isiB (T n : String) : Bool := n == T || (T == "int" && n == "bool")
def nms : List String := ["NoneType", "bool", "int", "str", "tuple", "list"]
def IsiT (T : String) : Prop := ∀ n ∈ nms, kitB n T = some (isiB T n)
theorem isi_int : IsiT "int" := by unfold IsiT nms; decide +kernel
theorem isi_bool : IsiT "bool" := by unfold IsiT nms; decide +kernel
theorem isi_str : IsiT "str" := by unfold IsiT nms; decide +kernel
theorem isi_tuple : IsiT "tuple" := by unfold IsiT nms; decide +kernel
theorem isi_list : IsiT "list" := by unfold IsiT nms; decide +kernel
theorem isi_dict : IsiT "dict" := by unfold IsiT nms; decide +kernel
theorem tyNm_mem {d : D} {h : Hh} {n : String} (e : tyNm d h = some n) : n ∈ nms := by
  unfold tyNm at e
  cases d <;> simp at e <;> first
    | (subst e; simp [nms]; done)
    | (split at e <;> simp at e <;> subst e <;> simp [nms])
section
variable {K : PySem.W.Frag} {G : Gs} {ρ : List Addr} {hh : Hh} {H : Hp}
theorem tyX_of {d : D} {v : V} {n : String} (rp : Rep K G ρ hh H) (r : RV K G ρ H d v) (e : tyNm d hh = some n) : TyX K H v (.type n) := by
  unfold tyNm at e
  cases d with
  | non => cases e; rw [rv_non r]; exact .base .non
  | bl b => cases e; rw [rv_bl r]; exact .base (.bl b)
  | int i => cases e; rw [rv_int r]; exact .base (.int i)
  | str x => cases e; rw [rv_str r]; exact .base (.str x)
  | tup l =>
    cases e
    obtain ⟨a, xs, rfl, h1, _⟩ := rv_tup r
    rcases h1 with ⟨o, h, _⟩ | ⟨o, its, m, h1, h2, _⟩
    · exact .fTuple h
    · exact .kTuple h1 h2
  | ref m =>
    have r' := r
    simp only [RV] at r'
    obtain ⟨a, rfl, ha⟩ := r'
    simp only at e
    split at e
    · rename_i l hl
      cases e
      obtain ⟨b, e1, xs, e2, _⟩ := rp.ob _ _ hl
      rw [ha] at e1; cases e1
      exact .base (.lst e2)
    · rename_i l hl
      cases e
      obtain ⟨b, e1, xs, e2, _⟩ := rp.ob _ _ hl
      rw [ha] at e1; cases e1
      rcases e2 with e2 | ⟨o, e2⟩
      · exact .base (.lst e2)
      · exact .base (.frz e2)
    · cases e
  | fn m => cases e
end
def isiD (Ts : List String) (d : D) (h : Hh) : R D := match tyNm d h with
  | some n => .ok (.bl (Ts.any fun T => isiB T n)) h
  | none => .bad
def E.isi (Ts : List String) (a : EΦ) : EΦ := E.op1 (isiD Ts) a
section
variable {X : Cx} {G : Gs} {W : WX} {e a b c o i : Expr} {es : List Expr} {pos : Pos}
theorem SE.isi {T x : String} {φ : EΦ} {p px : Pos} (hT : IsiT T) (hg : Gl X "isinstance") (hm : X.mg "isinstance" = none) (hgx : Gl X x) (hmx : X.mg x = none) (hv : bootBuiltins x = some (.type T)) (ha : SE X G W a φ) (hn : (x : Str) ≠ "__name__" := by decide) (hd : ((x : Str) == ("__debug__" : Str)) = false := by decide)
    (na : starEach [a, .Name x px] X.env = (false, eval a X.env) :: starEach [.Name x px] X.env := by rfl) (nb : starEach [.Name x px] X.env = (false, eval (.Name x px) X.env) :: starEach [] X.env := by rfl) :
    SE X G W (.Call (.Name "isinstance" p) [a, .Name x px] [] pos) (E.isi [T] φ) := by
  refine ⟨PE.weak (pe_callB call_isi hg hm PyProof.Rows.boot_isinstance (pa_cons ha.pe (pa_cons (pe_bltn (v := .ty T) hgx hmx hv rfl hn hd) pa_nil nb) na) (he := na) (hpl := by rw [nb]; rfl)) ?_⟩
  rintro σ H Q ⟨ρ, hh, env, rp, re, sat⟩
  refine tG.seq later_V rp re sat fun d v ρ1 hh1 H1 e1 rp1 re1 rd sat1 => ?_
  unfold isiD at sat1
  split at sat1
  · rename_i n hn
    refine ⟨v, .ty T, .type n, .type T, isiB T n, rfl, .ty T, tyX_of rp1 rd hn, kit_ty (hT n (tyNm_mem hn)), sat1.mk (Ext.refl _ _) rp1 ?_⟩
    simp only [List.any_cons, List.any_nil, Bool.or_false]
    exact mk_bl
  · exact sat1.elim
theorem kitAny_ty {K : PySem.W.Frag} {n : String} (hn : n ∈ nms) : ∀ {Ts : List String}, (∀ T ∈ Ts, IsiT T) → PySem.W.kitAny K (.type n) (Ts.map Value.type) = some (Ts.any fun T => isiB T n)
  | [], _ => kitAny_nil
  | T :: Ts, h => by
    refine kitAny_cons (kit_ty (h T List.mem_cons_self n hn)) (fun e => ?_) fun e => ?_
    · rw [List.any_cons, e, Bool.false_or]
      exact kitAny_ty hn fun T hT => h T (List.mem_cons_of_mem _ hT)
    · rw [List.any_cons, e, Bool.true_or]
theorem paired_ty : ∀ Ts : List String, Paired ClsV (Ts.map V.ty) (Ts.map Value.type)
  | [] => .nil
  | T :: Ts => .cons (.ty T) (paired_ty Ts)
/-- isinstance(x, (T1, T2)) -/
theorem SE.isi2 {T1 T2 x1 x2 : String} {φ : EΦ} {p p1 p2 tp : Pos} {k : Nat} (hT1 : IsiT T1) (hT2 : IsiT T2) (hg : Gl X "isinstance") (hm : X.mg "isinstance" = none) (hg1 : Gl X x1) (hm1 : X.mg x1 = none) (hv1 : bootBuiltins x1 = some (.type T1)) (hg2 : Gl X x2) (hm2 : X.mg x2 = none) (hv2 : bootBuiltins x2 = some (.type T2)) (ha : SE X G W a φ)
    (hn1 : (x1 : Str) ≠ "__name__" := by decide) (hd1 : ((x1 : Str) == ("__debug__" : Str)) = false := by decide) (hn2 : (x2 : Str) ≠ "__name__" := by decide) (hd2 : ((x2 : Str) == ("__debug__" : Str)) = false := by decide)
    (na : starEach [a, .Tuple [.Name x1 p1, .Name x2 p2] k tp] X.env = (false, eval a X.env) :: starEach [.Tuple [.Name x1 p1, .Name x2 p2] k tp] X.env := by rfl) (nb : starEach [.Tuple [.Name x1 p1, .Name x2 p2] k tp] X.env = (false, eval (.Tuple [.Name x1 p1, .Name x2 p2] k tp) X.env) :: starEach [] X.env := by rfl)
    (n1 : starEach [.Name x1 p1, .Name x2 p2] X.env = (false, eval (.Name x1 p1) X.env) :: starEach [.Name x2 p2] X.env := by rfl) (n2 : starEach [.Name x2 p2] X.env = (false, eval (.Name x2 p2) X.env) :: starEach [] X.env := by rfl) :
    SE X G W (.Call (.Name "isinstance" p) [a, .Tuple [.Name x1 p1, .Name x2 p2] k tp] [] pos) (E.isi [T1, T2] φ) := by
  refine ⟨PE.weak (pe_callB call_isiT hg hm PyProof.Rows.boot_isinstance (pa_cons ha.pe (pa_cons (pe_tup (pa_cons (pe_bltn (v := .ty T1) hg1 hm1 hv1 rfl hn1 hd1) (pa_cons (pe_bltn (v := .ty T2) hg2 hm2 hv2 rfl hn2 hd2) pa_nil n2) n1)) pa_nil nb) na) (he := na) (hpl := by rw [nb]; rfl)) ?_⟩
  rintro σ H Q ⟨ρ, hh, env, rp, re, sat⟩
  refine tG.seq later_V rp re sat fun d v ρ1 hh1 H1 e1 rp1 re1 rd sat1 => ?_
  refine ⟨by show 2 ≤ sizeLine; rw [sizeLine_eq]; omega, fun q hq => ?_⟩
  have eq : Ext ρ1 H1 ρ1 (L2.upd H1 q (.tup [.ty T1, .ty T2])) := Ext.laid hq
  unfold isiD at sat1
  split at sat1
  · rename_i n hn
    have rp2 : Rep X.K G ρ1 hh1 (L2.upd H1 q (.tup [.ty T1, .ty T2])) := rp1.side hq
    refine ⟨v, q, _, .type n, _, _, rfl, upd_same, paired_ty [T1, T2], tyX_of rp2 (RV.ext eq _ _ rd) hn, kitAny_ty (tyNm_mem hn) (fun T h => ?_), sat1.mk eq rp2 mk_bl⟩
    rcases List.mem_cons.mp h with rfl | h
    · exact hT1
    · rcases List.mem_cons.mp h with rfl | h
      · exact hT2
      · cases h
  · exact sat1.elim

/-! ### int, max, min -/
def D.toInt : List D → Hh → R D
  | [.int i], h => .ok (.int i) h
  | [.bl b], h => .ok (.int (if b then 1 else 0)) h
  | _, _ => .bad
def D.max2 : List D → Hh → R D
  | [.int i, .int j], h => .ok (.int (if j > i then j else i)) h
  | _, _ => .bad
def D.min2 : List D → Hh → R D
  | [.int i, .int j], h => .ok (.int (if j < i then j else i)) h
  | _, _ => .bad
theorem RVs.one {K : PySem.W.Frag} {ρ : List Addr} {H : Hp} {d : D} {vs : List V} (h : RVs K G ρ H [d] vs) : ∃ v, vs = [v] ∧ RV K G ρ H d v := by
  obtain ⟨v, r, rfl, h1, h2⟩ := h.inv_cons
  rw [h2.inv_nil]
  exact ⟨v, rfl, h1⟩
theorem RVs.two {K : PySem.W.Frag} {ρ : List Addr} {H : Hp} {d e : D} {vs : List V} (h : RVs K G ρ H [d, e] vs) : ∃ v w, vs = [v, w] ∧ RV K G ρ H d v ∧ RV K G ρ H e w := by
  obtain ⟨v, r, rfl, h1, h2⟩ := h.inv_cons
  obtain ⟨w, rfl, h3⟩ := h2.one
  exact ⟨v, w, rfl, h1, h3⟩
theorem sc_int : SCall X G (.type "int") D.toInt := by
  refine ⟨fun pins s σ H xs us Q I r h => ?_, fun ds h e h' q => ?_⟩
  · obtain ⟨ρ, hh, ds, rp, rs, sat⟩ := h
    unfold D.toInt at sat
    split at sat
    · obtain ⟨v, rfl, r1⟩ := rs.one
      rw [rv_int r1] at r
      exact call_int1 pins s σ H _ us Q I r (.inl ⟨_, rfl, sat.mk (Ext.refl _ _) rp mk_int⟩)
    · obtain ⟨v, rfl, r1⟩ := rs.one
      rw [rv_bl r1] at r
      exact call_int1 pins s σ H _ us Q I r (.inr ⟨_, rfl, sat.mk (Ext.refl _ _) rp mk_int⟩)
    · exact sat.elim
  · unfold D.toInt at q
    split at q <;> cases q
theorem sc_max (hc : X.calm = true) : SCall X G (.builtin "max") D.max2 := by
  refine ⟨fun pins s σ H xs us Q I r h => ?_, fun ds h e h' q => ?_⟩
  · obtain ⟨ρ, hh, ds, rp, rs, sat⟩ := h
    unfold D.max2 at sat
    split at sat
    · obtain ⟨v, w, rfl, r1, r2⟩ := rs.two
      rw [rv_int r1, rv_int r2] at r
      exact call_max2 hc pins s σ H _ us Q I r ⟨_, _, rfl, sat.mk (Ext.refl _ _) rp mk_int⟩
    · exact sat.elim
  · unfold D.max2 at q
    split at q <;> cases q
theorem sc_min (hc : X.calm = true) : SCall X G (.builtin "min") D.min2 := by
  refine ⟨fun pins s σ H xs us Q I r h => ?_, fun ds h e h' q => ?_⟩
  · obtain ⟨ρ, hh, ds, rp, rs, sat⟩ := h
    unfold D.min2 at sat
    split at sat
    · obtain ⟨v, w, rfl, r1, r2⟩ := rs.two
      rw [rv_int r1, rv_int r2] at r
      exact call_min2 hc pins s σ H _ us Q I r ⟨_, _, rfl, sat.mk (Ext.refl _ _) rp mk_int⟩
    · exact sat.elim
  · unfold D.min2 at q
    split at q <;> cases q

/-! ### methods -/
def tyD (K : PySem.W.Frag) (G : Gs) (chk : D → Hh → Bool) : V → Hp → Prop := fun x H => ∃ ρ hh d, Rep K G ρ hh H ∧ RV K G ρ H d x ∧ chk d hh = true
def isL : D → Hh → Bool
  | .ref n, h => (match h[n]? with
    | some (.lst _) => true
    | some (.frz _) => true
    | _ => false)
  | _, _ => false
def isT : D → Hh → Bool
  | .tup _, _ => true
  | _, _ => false
def isS : D → Hh → Bool
  | .str _, _ => true
  | _, _ => false
theorem ty_L : TyOk X "list" (tyD X.K G isL) := by
  intro pins σ H s x v I r h
  obtain ⟨ρ, hh, d, rp, rd, hc⟩ := h
  cases d <;> first | (cases hc; done) | skip
  rename_i n
  simp only [RV] at rd
  obtain ⟨a, rfl, ha⟩ := rd
  have hq : ∃ xs, SqL X.K H a xs := by
    simp only [isL] at hc
    split at hc
    · rename_i l hl
      obtain ⟨b, e1, xs, e2, _⟩ := rp.ob _ _ hl
      rw [ha] at e1; cases e1
      exact ⟨xs, .inl (.inl e2)⟩
    · rename_i l hl
      obtain ⟨b, e1, xs, e2, _⟩ := rp.ob _ _ hl
      rw [ha] at e1; cases e1
      exact ⟨xs, .inl e2⟩
    · cases hc
  obtain ⟨xs, hq⟩ := hq
  exact tyV_is I r (T := "list") (.inl ⟨rfl, xs, hq⟩)
theorem ty_T : TyOk X "tuple" (tyD X.K G isT) := by
  intro pins σ H s x v I r h
  obtain ⟨ρ, hh, d, rp, rd, hc⟩ := h
  cases d <;> first | (cases hc; done) | skip
  obtain ⟨a, xs, rfl, h1, _⟩ := rv_tup rd
  cases r
  rcases h1 with ⟨o, h1, hd⟩ | ⟨o, its, n, hk, hc, hd, _⟩
  · obtain ⟨e, _, its, rv, o', e', c, _⟩ := I.hok a _ h1
    refine ⟨⟨o', e', c⟩, fun b z => ?_⟩
    cases z
    exact ⟨o, e, hd⟩
  · refine ⟨⟨o, I.kIn a o hk, hc⟩, fun b z => ?_⟩
    cases z
    exact ⟨o, I.kIn a o hk, hd⟩
theorem ty_S : TyOk X "str" (tyD X.K G isS) := by
  intro pins σ H s x v I r h
  obtain ⟨ρ, hh, d, rp, rd, hc⟩ := h
  cases d <;> first | (cases hc; done) | skip
  rw [rv_str rd] at r
  exact tyV_is I r (T := "str") rfl
def rM (K : PySem.W.Frag) (G : Gs) (m : D → List D → Hh → R D) : V → List V → Hp → VK → Prop := fun x vs H Q => ∃ ρ hh d ds, Rep K G ρ hh H ∧ RV K G ρ H d x ∧ RVs K G ρ H ds vs ∧ Sat K G WF (rV K G) ρ H [] Q (m d ds hh)
structure SMet (X : Cx) (G : Gs) (id : String) (m : D → List D → Hh → R D) : Prop where
  ok : MtR X id (rM X.K G m)
  nox : ∀ d ds h e h', m d ds h ≠ .exc e h'
def E.met (chk : D → Hh → Bool) (m : D → List D → Hh → R D) (a : EΦ) (as : LΦ) : EΦ := fun env h => (a env h).bind fun d h => if chk d h then (as env h).bind fun ds h => m d ds h else .bad
theorem SE.met {T id : String} {name : Str} {chk : D → Hh → Bool} {m : D → List D → Hh → R D} {φ : EΦ} {ψ : LΦ} {apos cpos : Pos} (ht : TyOk X T (tyD X.K G chk)) (pa : PlainAttrs T) (slot : Slot T name id) (hty : typeOf (.builtin id) = pure (.type "method_descriptor")) (hm : SMet X G id m) (ho : SE X G W o φ) (ha : SA X G W (e :: es) ψ)
    (hbase : attributeBase o name X.env (eval o X.env) = eval o X.env := by rfl)
    (hfew : ((backTo cpos (starEach (e :: es) X.env)).all (fun x => !x.1) && (backToKw cpos (keywordEach [] X.env)).all (fun x => x.1.isSome)
      && decide ((e :: es).length + ([] : List Keyword).length + (if ([] : List Keyword).isEmpty then 0 else 1) < 30)) = true := by rfl)
    (hline : (apos.endLine == cpos.line) = true := by rfl) (hs : starEach (e :: es) X.env = (false, eval e X.env) :: starEach es X.env := by rfl) (hplain : (backTo cpos (starEach es X.env)).any (·.1) = false := by rfl) :
    SE X G W (.Call (.Attribute o name apos) (e :: es) [] cpos) (E.met chk m φ ψ) := by
  refine ⟨PE.weak (pe_mG ht pa slot hty hm.ok ho.pe ha.pa hbase hfew hline hs hplain) ?_⟩
  rintro σ H Q ⟨ρ, hh, env, rp, re, sat⟩
  refine tG.seq later_V rp re sat fun d v ρ1 hh1 H1 e1 rp1 re1 rd sat1 => ?_
  split at sat1
  · rename_i hc
    refine ⟨⟨ρ1, hh1, d, rp1, rd, hc⟩, ?_⟩
    refine tG.seq later_V rp1 re1 sat1 fun ds vs ρ2 hh2 H2 e2 rp2 re2 rds sat2 => ?_
    exact ⟨ρ2, hh2, d, ds, rp2, RV.ext e2 _ _ rd, rds, sat2.nox (hm.nox _ _ _)⟩
  · exact sat1.elim
theorem SE.met0 {T id : String} {name : Str} {chk : D → Hh → Bool} {m : D → List D → Hh → R D} {φ : EΦ} {apos cpos : Pos} (ht : TyOk X T (tyD X.K G chk)) (pa : PlainAttrs T) (slot : Slot T name id) (hty : typeOf (.builtin id) = pure (.type "method_descriptor")) (hm : SMet X G id m) (ho : SE X G W o φ)
    (hbase : attributeBase o name X.env (eval o X.env) = eval o X.env := by rfl) (hline : (apos.endLine == cpos.line) = true := by rfl) :
    SE X G W (.Call (.Attribute o name apos) [] [] cpos) (E.met chk m φ L.nil) := by
  refine ⟨PE.weak (pe_mG0 ht pa slot hty hm.ok ho.pe hbase hline) ?_⟩
  rintro σ H Q ⟨ρ, hh, env, rp, re, sat⟩
  refine tG.seq later_V rp re sat fun d v ρ1 hh1 H1 e1 rp1 re1 rd sat1 => ?_
  split at sat1
  · rename_i hc
    exact ⟨⟨ρ1, hh1, d, rp1, rd, hc⟩, ρ1, hh1, d, [], rp1, rd, .nil, Sat.nox sat1 (hm.nox _ _ _)⟩
  · exact sat1.elim
/-- a list that may be written -/
def lstAt (h : Hh) : D → Option (Nat × List D)
  | .ref n => (match h[n]? with
    | some (.lst l) => some (n, l)
    | _ => none)
  | _ => none
theorem lstAt_ok {K : PySem.W.Frag} {ρ : List Addr} {hh : Hh} {H : Hp} {d : D} {v : V} {n : Nat} {l : List D} (rp : Rep K G ρ hh H) (r : RV K G ρ H d v) (h : lstAt hh d = some (n, l)) : ∃ a xs, v = .ref a ∧ ρ[n]? = some a ∧ H a = some (.lst xs) ∧ RVs K G ρ H l xs ∧ hh[n]? = some (.lst l) := by
  unfold lstAt at h
  split at h
  · split at h
    · rename_i l' hl
      cases h
      simp only [RV] at r
      obtain ⟨a, rfl, ha⟩ := r
      obtain ⟨b, xs, e1, e2, e3⟩ := rp.lst hl
      rw [ha] at e1; cases e1
      exact ⟨a, xs, rfl, ha, e2, e3, hl⟩
    · cases h
  · cases h
/-- a method that changes a list -/
def mutL (f : List D → List D → Option (D × List D)) (d : D) (ds : List D) (h : Hh) : R D := match lstAt h d with
  | some (n, l) => (match f l ds with
    | some (y, l') => fits l'.length (.ok y (h.set n (.lst l')))
    | none => .bad)
  | none => .bad
theorem nox_mutL {f : List D → List D → Option (D × List D)} : ∀ d ds h e h', mutL f d ds h ≠ .exc e h' := by
  intro d ds h e h' q
  unfold mutL at q
  split at q
  · split at q
    · unfold fits at q
      split at q <;> cases q
    · cases q
  · cases q
theorem sm_mut {id : String} {r : V → List V → Hp → VK → Prop} {f : List D → List D → Option (D × List D)} (hm : MtR X id r)
    (hf : ∀ ρ H l ds y l' a xs vs Q, H a = some (.lst xs) → RVs X.K G ρ H l xs → RVs X.K G ρ H ds vs → f l ds = some (y, l') → l'.length < sizeLine → (∀ v ys, RV X.K G ρ H y v → RVs X.K G ρ H l' ys → Q v (upd H a (.lst ys))) → r (.ref a) vs H Q) : SMet X G id (mutL f) := by
  refine ⟨fun pins s σ H x xs v us Q I rx rs h => ?_, nox_mutL⟩
  obtain ⟨ρ, hh, d, ds, rp, rd, rds, sat⟩ := h
  unfold mutL at sat
  split at sat
  · rename_i n l hl
    obtain ⟨a, ys, rfl, ha, e2, e3, hn⟩ := lstAt_ok rp rd hl
    split at sat
    · rename_i y l' hy
      obtain ⟨hz, sat⟩ := Sat.fits sat
      refine hm pins s σ H _ xs v us Q I rx rs (hf ρ H l ds y l' a ys xs Q e2 e3 rds hy hz fun v zs rv rz => ?_)
      obtain ⟨g1, g2⟩ := rp.set hn ha e2 rz
      exact sat.mk g2 g1 (RV.ext g2 _ _ rv)
    · exact sat.elim
  · exact sat.elim
def fAppend : List D → List D → Option (D × List D)
  | l, [y] => some (.non, l ++ [y])
  | _, _ => none
theorem sm_append : SMet X G "list.append" (mutL fAppend) := sm_mut mt_append fun ρ H l ds y l' a xs vs Q h1 h2 h3 h4 h5 h6 => by
  unfold fAppend at h4
  split at h4
  · cases h4
    obtain ⟨v, rfl, r1⟩ := h3.one
    rw [List.length_append, List.length_singleton] at h5
    exact ⟨a, xs, v, rfl, rfl, h1, by rw [h2.length]; omega, h6 _ _ (by simp only [RV]) (h2.append (.cons r1 .nil))⟩
  · cases h4
def fPopAt : List D → List D → Option (D × List D)
  | l, [.int i] => (match ixN l.length i with
    | some k => (match l[k]? with
      | some y => some (y, l.eraseIdx k)
      | none => none)
    | none => none)
  | _, _ => none
theorem sm_popAt : SMet X G "list.pop" (mutL fPopAt) := sm_mut mt_popAt fun ρ H l ds y l' a xs vs Q h1 h2 h3 h4 h5 h6 => by
  unfold fPopAt at h4
  split at h4
  · rename_i i
    split at h4
    · rename_i k hk
      split at h4
      · rename_i z hz
        cases h4
        obtain ⟨v, rfl, r1⟩ := h3.one
        have e := rv_int r1
        subst e
        obtain ⟨u, g1, g2⟩ := h2.get hz
        have hl := h2.length
        rw [← hl] at hk
        obtain ⟨q1, q2, q3, q4⟩ := ixN_seq hk
        have hx : xs.length < sizeLine + 1 := by
          have h9 := (List.getElem?_eq_some_iff.mp hz).1
          rw [List.length_eraseIdx] at h5
          split at h5 <;> omega
        have hs := line63
        have hs2 := sizeLine_eq
        refine ⟨a, xs, i, k, u, rfl, rfl, h1, ?_, ?_, q1, g1, h6 _ _ g2 (h2.eraseIdx k)⟩
        · omega
        · omega
      · cases h4
    · cases h4
  · cases h4
def fPop : List D → List D → Option (D × List D)
  | l, [] => (match l[l.length - 1]? with
    | some y => some (y, l.dropLast)
    | none => none)
  | _, _ => none
theorem RVs.dropLast {K : PySem.W.Frag} {ρ : List Addr} {H : Hp} {l : List D} {xs : List V} (h : RVs K G ρ H l xs) : RVs K G ρ H l.dropLast xs.dropLast := by
  rw [List.dropLast_eq_take, List.dropLast_eq_take, h.length]
  exact h.take _
theorem sm_pop : SMet X G "list.pop" (mutL fPop) := sm_mut mt_pop fun ρ H l ds y l' a xs vs Q h1 h2 h3 h4 h5 h6 => by
  unfold fPop at h4
  split at h4
  · split at h4
    · rename_i z hz
      cases h4
      rw [h3.inv_nil]
      rw [← h2.length] at hz
      obtain ⟨u, g1, g2⟩ := h2.get hz
      exact ⟨a, xs, u, rfl, rfl, h1, g1, h6 _ _ g2 h2.dropLast⟩
    · cases h4
  · cases h4
end
end DL

set_option Elab.async false
set_option linter.all false
set_option maxRecDepth 100000
set_option maxHeartbeats 4000000
/-! DL11: enumerate, index, stores, equality of lists, len(set(..)). -/
namespace DL
open PySem PySem.Spec PyProof.Rows L2 GX GxR

/-! ### enumerate(tuple) -/
theorem meets_enumerate_newT (l : Addr) (items : Array Value) (n : Nat) (dct : Option Addr) (sl : Array (Option Value)) :
    Meets (Builtin.«enumerate.__new__» ⟨[.type "enumerate", .ref l], []⟩) (fun _ R s => s.heap.get? l = some { cls := .type "tuple", dict := dct, data := .seq items n, slots := sl } ∧
      R (.ok (.ret (.ref (s.heap.push { cls := .type "tuple_iterator", data := .fields #[.ref l, .int 0 0] }).objs.size)))
        { s with heap := (s.heap.push { cls := .type "tuple_iterator", data := .fields #[.ref l, .int 0 0] }).push { cls := .type "enumerate", data := .fields #[.none, .bool false, .ref s.heap.objs.size, rawInt 0, .none, .none] } }) :=
  .of_wp fun prog w A R s h => by
    obtain ⟨hp, g, d, tk, os⟩ := s; obtain ⟨hl, h⟩ := h
    have hsub := sub_enumerate
    have hL : Heap.IsTuple (Shared.heap ⟨hp, g, d, tk, os⟩) l items := ⟨_, hl, rfl, n, rfl⟩
    wp_walk using AutoSeq1.wpAny_loadPart' hl
    refine wpAny_stack_any fun st => wpAny_pure ?_
    split
    · rename_i c _ _ _ _ _
      cases (c == Value.type "enumerate")
      · wp_walk using AutoSeq1.wpAny_loadPart' hl, wpAny_pyIter_tuple hL
        exact ⟨_, rfl, h⟩
      · wp_walk using AutoSeq1.wpAny_loadPart' hl, wpAny_pyIter_tuple hL
        exact ⟨_, rfl, h⟩
    · wp_walk using AutoSeq1.wpAny_loadPart' hl, wpAny_pyIter_tuple hL
      exact ⟨_, rfl, h⟩
theorem call_enumerate_tuple {prog : Program} {w : World} {A : Around} {E : Value → Shared → Prop} {s : Shared} {l : Addr} {items : Array Value} {Q : Value → Shared → Prop} (hL : s.heap.IsTuple l items)
    (h : ∀ h', IsEnum h' (s.heap.objs.size + 1) s.heap.objs.size 0 .none → h'.IsTupleIter s.heap.objs.size l 0 → h'.objs.size = s.heap.objs.size + 2 →
      (∀ b o, s.heap.get? b = some o → h'.get? b = some o) → Q (.ref (s.heap.objs.size + 1)) { s with heap := h' }) :
    wpAny (model prog w) A (call (.type "enumerate") [.ref l]) Q E s := by
  obtain ⟨⟨c, dct, dt, sl⟩, hl, hc, n, hd⟩ := hL
  replace hc : c = .type "tuple" := hc
  replace hd : dt = .seq items n := hd
  subst hc hd
  refine callType_new F.called_enumerate (by decide) (F.typeCall_enumerate_1 _) (F.newCall_enumerate_1 _) (fun obj => F.args_object_init_2 obj _) F.entry_enumerate_new
    (meets_enumerate_newT l items n dct sl) ⟨hl, ?_⟩
  have hz : (s.heap.push { cls := .type "tuple_iterator", data := .fields #[.ref l, .int 0 0] }).objs.size = s.heap.objs.size + 1 := Heap.size_push ..
  show _ ∧ _
  rw [hz]
  have he : IsEnum ((s.heap.push { cls := .type "tuple_iterator", data := .fields #[.ref l, .int 0 0] }).push
      { cls := .type "enumerate", data := .fields #[.none, .bool false, .ref s.heap.objs.size, rawInt 0, .none, .none] }) (s.heap.objs.size + 1) s.heap.objs.size 0 .none := by
    have := Heap.get?_push_size (s.heap.push { cls := .type "tuple_iterator", data := .fields #[.ref l, .int 0 0] })
      (o := { cls := .type "enumerate", data := .fields #[.none, .bool false, .ref s.heap.objs.size, rawInt 0, .none, .none] }) rfl
    rw [hz] at this; exact this
  refine ⟨⟨_, he, rfl⟩, h _ he ⟨_, Heap.get?_push_of_some _ (Heap.get?_push_size _ rfl), rfl, rfl⟩ (by rw [Heap.size_push, hz]) fun b o x => Heap.get?_push_of_some _ (Heap.get?_push_of_some _ x)⟩
theorem wpAny_pyNext_enum_endT {prog : Program} {w : World} {A : Around} {E : Value → Shared → Prop} {s : Shared} {e it l : Addr} {i : Nat} {items : Array Value} {old : Value} {Q : Option Value → Shared → Prop} (hh : A.handled = none)
    (he : IsEnum s.heap e it i old) (hit : s.heap.IsTupleIter it l i) (hl : s.heap.IsTuple l items) (hx : items[i]? = none)
    (hQ : ∀ h', Heap.ExtBut it s.heap h' → Q none { s with heap := h' }) : wpAny (model prog w) A (pyNext (.ref e)) Q E s := by
  have hT : s.TypeIs (.ref e) "enumerate" := ⟨_, he, rfl⟩
  unfold pyNext
  refine wpAny_bind (wpAny_attempt (wpAny_callSpecial?_slot (name := Str.ofString "__next__") hT F.slot_enumerate_next
    (wpAny_call_entry F.slot_enumerate_next hT F.entry_enumerate_next ?_ (F.args_enumerate_next_1 _))))
  show wpAny _ _ (field (.ref e) 2 >>= _) _ _ _
  refine wpAny_bind (wpAny_field he rfl (x := .ref it) rfl ?_)
  refine wpAny_bind (wpAny_nextOf_tuple_end hh hit hl hx fun h' x he' hx' => ?_)
  obtain ⟨o, ho, hc⟩ := hx'
  refine wpAny_bind (wpAny_isInstance (T := "StopIteration") (b := true) ⟨o, ho, hc⟩ isSubtype_stop ?_)
  exact wpAny_pure (hQ _ he')
def IteT (K : PySem.W.Frag) (a : Addr) : It :=
  ⟨fun i H => ∃ (xs : List V) (x : V), SqT K H a xs ∧ xs[i]? = some x, fun i H v H' => ∃ T x, v = .ref T ∧ H T = none ∧ H' = upd H T (.tup [.int (i : Nat), x]) ∧ ∀ xs, SqT K H a xs → xs[i]? = some x, fun i H => ∃ xs : List V, SqT K H a xs ∧ xs.length ≤ i⟩
theorem turn_enumT {P : Program} {w : World} {K : PySem.W.Frag} {elts : List Expr} {kk : Nat} {tpos : Pos} (a e it : Addr) (hai : a ≠ it) (hae : a ≠ e) (hne : e ≠ it) :
    L2.Turn P w K (.Tuple elts kk tpos) (IteT K a) [e, it] e (fun i h => (∃ old, IsEnum h e it ((i : Nat) : Int) old) ∧ h.IsTupleIter it a i) where
  mem := by simp
  obj := fun i h st b hb => by
    obtain ⟨⟨old, he⟩, ⟨o, ho, hc, hd⟩⟩ := st
    have e' : b = e ∨ b = it := by simpa using hb
    rcases e' with z | z
    · rw [z]; exact ⟨_, he, fun v q => nomatch q⟩
    · rw [z]; exact ⟨o, ho, fun v q => by rw [hd] at q; cases q⟩
  keep := fun i h h' st k => let ⟨⟨old, he⟩, hi⟩ := st; ⟨⟨old, k e (by simp) _ he⟩, hi.at fun o q => k it (by simp) o q⟩
  item := by
    intro X hP hw hK hc i pins s σ H E I hf st hg
    subst hP hw hK
    obtain ⟨⟨old, he⟩, hit⟩ := st
    obtain ⟨xs, x, hq, hx⟩ := hg
    obtain ⟨its, rv, p, hz⟩ := I.tuple hq
    obtain ⟨u, hu, ru⟩ := rv.get hx
    have hel : e < s.heap.objs.size := Heap.lt_size he
    have hil : it < s.heap.objs.size := by obtain ⟨_, q, _⟩ := hit; exact Heap.lt_size q
    have hlt : i < its.toArray.size := by
      have := (List.getElem?_eq_some_iff.mp hu).1
      simpa using this
    refine wpAny_pyNext_enum_itemD (Draws.tuple (A := X.A.in1) (I.ok.hd hc) it a hai its.toArray) he ⟨hit, p⟩ hlt hne (by simp; exact ⟨hne, Ne.symm hae⟩) fun y h' tk hy ho hst' hT hsz hk => ?_
    obtain ⟨hit', _⟩ := hst'
    have hyu : y = u := by
      have q : its[i]? = some y := by simpa using hy
      rw [hu] at q
      exact (Option.some.inj q).symm
    subst hyu
    refine ⟨_, rfl, wpAny_letOwnedTupleGo_enum (s := { s with heap := h', toks := tk + 1 }) ho fun h'' he' sb => ?_⟩
    have hT2 : h''.get? s.heap.objs.size = some { cls := .type "tuple", data := .seq #[.int i tk, y] } := (sb.2 _ (Nat.ne_of_gt hel)).trans hT
    have new : ObjOk X.prog X.w (upd H s.heap.objs.size (.tup [.int (i : Nat), x])) h'' s.heap.objs.size (.tup [.int (i : Nat), x]) :=
      ⟨by show 2 ≤ sizeLine; decide, [.int i tk, y], .cons ⟨_, rfl⟩ (.cons ru .nil), ⟨_, hT2, rfl, _, rfl⟩⟩
    have I1 : Inv X pins σ (upd H s.heap.objs.size (.tup [.int (i : Nat), x])) { s with heap := h'', toks := tk + 1 } :=
      I.turnedNew (ch := [e, it]) (fun b ob hb q => (sb.2 b (fun z => hb (by simp [z]))).trans (hk b ob (fun z => hb (by simp [z])) (fun z => hb (by simp [z])) q)) hf (Nat.le_refl _) new
    refine ⟨.ref s.heap.objs.size, _, I1, rfl, ⟨_, x, rfl, I.hok.fresh (Nat.le_refl _), rfl, fun ys hy => by rw [I.tuple_inj hy hq]; exact hx⟩, ⟨⟨y, ?_⟩, hit'.at fun o q => (sb.2 it (Ne.symm hne)).trans q⟩, fun b hb => ?_⟩
    · have e1 : ((i + 1 : Nat) : Int) = (i : Int) + 1 := by omega
      rw [e1]; exact he'
    · have hb' : b < s.heap.objs.size := by
        have e' : b = e ∨ b = it := by simpa using hb
        rcases e' with z | z
        · rw [z]; exact hel
        · rw [z]; exact hil
      rw [upd_ne (Nat.ne_of_lt hb')]
      exact (hf b hb).1
  done := by
    intro X hP hw hK hc i pins s σ H E I hf st hg
    subst hP hw hK
    obtain ⟨⟨old, he⟩, hit⟩ := st
    obtain ⟨xs, hq, hx⟩ := hg
    obtain ⟨its, rv, p, hz⟩ := I.tuple hq
    obtain ⟨f0, f1, f2, f3, f4, f5⟩ := hf it (by simp)
    have hl := rv.length
    exact wpAny_pyNext_enum_endT (I.ok.hd hc) he hit p (by simp; omega) fun h' eb => ⟨rfl, I.turned (t' := s.toks) (fun b o hb q => eb b o hb q) f0 f1 f3 f4 f5⟩
  self := fun A i s Q E st h => let ⟨⟨_, he⟩, _⟩ := st; wpAny_pyIter_enum he h
section
variable {X : Cx} {G : Gs} {W : WX} {e a b c o i : Expr} {es : List Expr} {pos : Pos}
def iEnumT (K : PySem.W.Frag) (ta : TA) : TI := fun σ H R => ta σ H fun vs H1 => ∃ a xs, vs = [.ref a] ∧ SqT K H1 a xs ∧ R (IteT K a) H1
theorem pi_enumT {ta : TA} {p tpos : Pos} {elts : List Expr} {kk : Nat} (hg : Gl X "enumerate") (hm : X.mg "enumerate" = none) (ha : PA X [e] ta) (hs : starEach [e] X.env = [(false, eval e X.env)] := by rfl) :
    PI X (.Tuple elts kk tpos) (.Call (.Name "enumerate" p) [e] [] pos) (iEnumT X.K ta) := by
  refine ⟨fun pins s σ H R I h => ?_⟩
  refine Call_ (ld_blt I hg hm boot_enumerate (PyProof.Rows.callWith_type1 (thn (ha.run pos pins s σ H _ I h) fun us s1 ⟨vs, H1, I1, r1, q1⟩ => ?_) hs rfl))
  obtain ⟨a, xs, ex, hq, q⟩ := q1
  subst ex
  cases r1 with
  | cons r rr =>
    cases rr
    cases r
    obtain ⟨its, rv, p', hz⟩ := I1.tuple hq
    have hlt : a < s1.heap.objs.size := by obtain ⟨_, e, _⟩ := p'; exact Heap.lt_size e
    refine call_enumerate_tuple p' fun h' he hit hsz hk => wpAny_pyIter_enum he ?_
    have I2 : Inv X pins σ H1 { s1 with heap := h' } := I1.kept (t' := s1.toks) hk
    refine ⟨s1.heap.objs.size + 1, [s1.heap.objs.size + 1, s1.heap.objs.size], _, _, H1, rfl, I2, turn_enumT a (s1.heap.objs.size + 1) s1.heap.objs.size (Nat.ne_of_lt hlt) (Nat.ne_of_lt (Nat.lt_succ_of_lt hlt)) (Nat.succ_ne_self _), ⟨⟨.none, he⟩, hit⟩, fun b hb => ?_, q⟩
    have e' : b = s1.heap.objs.size + 1 ∨ b = s1.heap.objs.size := by simpa using hb
    have hle : s1.heap.objs.size ≤ b := by
      rcases e' with z | z
      · rw [z]; exact Nat.le_add_right _ _
      · rw [z]; exact Nat.le_refl _
    exact I1.fpOk hle (I1.hok.fresh hle)
def enumD : Nat → List D → List D
  | _, [] => []
  | k, d :: r => .tup [.int k, d] :: enumD (k + 1) r
theorem enumD_length : ∀ (l : List D) (k : Nat), (enumD k l).length = l.length
  | [], _ => rfl
  | _ :: r, k => by show (enumD (k + 1) r).length + 1 = r.length + 1; rw [enumD_length r (k + 1)]
theorem enumD_get : ∀ (l : List D) (k i : Nat) (d : D), (enumD k l)[i]? = some d → ∃ x, l[i]? = some x ∧ d = .tup [.int ((k + i : Nat) : Int), x]
  | [], _, _, _, h => by simp [enumD] at h
  | x :: r, k, 0, d, h => by
    simp [enumD] at h
    exact ⟨x, rfl, h.symm⟩
  | x :: r, k, i + 1, d, h => by
    have h : (enumD (k + 1) r)[i]? = some d := by simpa [enumD] using h
    obtain ⟨y, h1, h2⟩ := enumD_get r (k + 1) i d h
    exact ⟨y, by simpa using h1, by rw [h2, show k + 1 + i = k + (i + 1) by omega]⟩
theorem rvw_pair {K : PySem.W.Frag} {ρ : List Addr} {H : Hp} {T : Addr} {k : Int} {d : D} {x : V} (hT : H T = none) (r : RV K G ρ H d x) : RVw K G ρ (L2.upd H T (.tup [.int k, x])) (.tup [.int k, d]) (.ref T) :=
  ⟨T, _, rfl, .inl (.inl upd_same), .cons (by simp only [RV]) (.cons (RV.ext (Ext.laid hT) _ _ r) .nil)⟩
theorem itOk_enumT {ρ0 : List Addr} {H0 : Hp} {l : List D} {p : Addr} {xs : List V} (h1 : TupK X.K H0 p xs) (h2 : RVs X.K G ρ0 H0 l xs) : ItOk X.K G (RVw X.K G) ρ0 H0 ⟨enumD 0 l, none⟩ (IteT X.K p) where
  go := fun i ρ hh H e rp _ hi => by
    have hi : i < (enumD 0 l).length := hi
    rw [enumD_length] at hi
    obtain ⟨v, q, _⟩ := (RVs.ext e _ _ h2).get (List.getElem?_eq_getElem hi)
    exact ⟨xs, v, (e.tupK h1).sqT, q⟩
  yld := fun i ρ hh H x H' d e rp _ hd hy => by
    obtain ⟨T, y, rfl, hT, rfl, hy⟩ := hy
    obtain ⟨z, g1, rfl⟩ := enumD_get _ _ _ _ hd
    obtain ⟨v, q, r⟩ := (RVs.ext e _ _ h2).get g1
    have := hy xs (e.tupK h1).sqT
    rw [q] at this
    cases this
    rw [Nat.zero_add]
    exact ⟨Ext.laid hT, rp.side hT, rvw_pair hT r⟩
  stop := fun i ρ hh H e rp _ hi => by
    have hi : (enumD 0 l).length ≤ i := hi
    rw [enumD_length] at hi
    exact ⟨xs, (e.tupK h1).sqT, by rw [h2.length]; exact hi⟩
theorem itOk_enumL {ρ0 : List Addr} {H0 : Hp} {l : List D} {n : Nat} {p : Addr} (hp : ρ0[n]? = some p) : ItOk X.K G (RVw X.K G) ρ0 H0 ⟨enumD 0 l, some (n, .lst l)⟩ (Ite X.K p) where
  go := fun i ρ hh H e rp hok hi => by
    have hi : i < (enumD 0 l).length := hi
    rw [enumD_length] at hi
    obtain ⟨xs, h1, h2⟩ := src_obj (l := l) rp hok (e.get hp)
    obtain ⟨v, q, _⟩ := h2.get (List.getElem?_eq_getElem hi)
    exact ⟨xs, v, h1, q⟩
  yld := fun i ρ hh H x H' d e rp hok hd hy => by
    obtain ⟨T, y, rfl, hT, rfl, hy⟩ := hy
    obtain ⟨z, g1, rfl⟩ := enumD_get _ _ _ _ hd
    obtain ⟨xs, h1, h2⟩ := src_obj (l := l) rp hok (e.get hp)
    obtain ⟨v, q, r⟩ := h2.get g1
    have := hy xs h1
    rw [q] at this
    cases this
    rw [Nat.zero_add]
    exact ⟨Ext.laid hT, rp.side hT, rvw_pair hT r⟩
  stop := fun i ρ hh H e rp hok hi => by
    have hi : (enumD 0 l).length ≤ i := hi
    rw [enumD_length] at hi
    obtain ⟨xs, h1, h2⟩ := src_obj (l := l) rp hok (e.get hp)
    exact ⟨xs, h1, by rw [h2.length]; exact hi⟩
def srcE (d : D) (h : Hh) : R Src := (srcD d h).bind fun s h => .ok ⟨enumD 0 s.items, s.guard⟩ h
def I.enum (a : EΦ) : IΦ := fun env h => (a env h).bind srcE
theorem SI.enum {φ : EΦ} {p tpos : Pos} {elts : List Expr} {kk : Nat} (hg : Gl X "enumerate") (hm : X.mg "enumerate" = none) (ha : SE X G W a φ) (hs : starEach [a] X.env = (false, eval a X.env) :: starEach [] X.env := by rfl) : SI X G W (RVw X.K G) (.Tuple elts kk tpos) (.Call (.Name "enumerate" p) [a] [] pos) (I.enum φ) := by
  refine ⟨PI.weak (PI.or (pi_enum hg hm (pa_cons ha.pe pa_nil hs) hs) (pi_enumT hg hm (pa_cons ha.pe pa_nil hs) hs)) ?_⟩
  rintro σ H Rr ⟨ρ, hh, env, rp, re, sat⟩
  unfold I.enum at sat
  cases q : φ env hh with
  | exc x h1 =>
    rw [q] at sat
    exact .inl ⟨ρ, hh, env, rp, re, by rw [q]; exact sat⟩
  | bad => rw [q] at sat; exact sat.elim
  | ok d hh1 =>
    rw [q] at sat
    cases d <;> first | exact sat.elim | skip
    · refine .inr ⟨ρ, hh, env, rp, re, ?_⟩
      rw [q]
      intro v H1 ρ1 e1 rp1 rd
      obtain ⟨p, xs, rfl, h1, h2⟩ := rv_tup rd
      exact ⟨p, xs, rfl, h1.sqT, sat _ ρ1 H1 e1 rp1 (itOk_enumT h1 h2)⟩
    · rename_i n
      refine .inl ⟨ρ, hh, env, rp, re, ?_⟩
      rw [q]
      intro v H1 ρ1 e1 rp1 rd
      have rd' : RV X.K G ρ1 H1 (.ref n) v := rd
      simp only [RV] at rd'
      obtain ⟨p, rfl, hp⟩ := rd'
      have sat' : (srcE (.ref n) hh1).sat _ _ := sat
      unfold srcE srcD at sat'
      simp only at sat'
      cases hl : hh1[n]? with
      | none => rw [hl] at sat'; exact sat'.elim
      | some ob =>
        rw [hl] at sat'
        cases ob with
        | lst l =>
          obtain ⟨p', f1, xs, f2, f3⟩ := rp1.ob _ _ hl
          rw [hp] at f1; cases f1
          exact ⟨p, xs, rfl, .inl (.inl f2), sat' _ ρ1 H1 e1 rp1 (itOk_enumL hp)⟩
        | frz l =>
          obtain ⟨p', f1, xs, f2, f3⟩ := rp1.ob _ _ hl
          rw [hp] at f1; cases f1
          exact ⟨p, xs, rfl, .inl f2, sat' _ ρ1 H1 e1 rp1 (itOk_enumL hp)⟩
        | dct l ep => exact sat'.elim
        | ins c l => exact sat'.elim
end
end DL

set_option Elab.async false
set_option linter.all false
set_option maxRecDepth 100000
set_option maxHeartbeats 4000000
/-! DL12: index, stores, equality of lists, in, len(set(..)). -/
namespace DL
open PySem PySem.Spec PyProof.Rows L2 GX GxR

/-! ### index -/
def firstD (p : D → Bool) : List D → Option Nat
  | [] => none
  | d :: l => if p d then some 0 else (firstD p l).map (· + 1)
theorem firstD_some {p : D → Bool} : ∀ {l : List D} {j : Nat}, firstD p l = some j → ∃ z, l[j]? = some z ∧ p z = true ∧ ∀ m z', m < j → l[m]? = some z' → p z' = false
  | [], _, h => by cases h
  | d :: l, j, h => by
    unfold firstD at h
    by_cases hp : p d = true
    · rw [if_pos hp] at h
      cases h
      exact ⟨d, rfl, hp, fun m z' hm => absurd hm (Nat.not_lt_zero _)⟩
    · rw [if_neg hp] at h
      cases q : firstD p l with
      | none => rw [q] at h; cases h
      | some k =>
        rw [q] at h
        cases h
        obtain ⟨z, h1, h2, h3⟩ := firstD_some q
        refine ⟨z, by simpa using h1, h2, fun m z' hm hz => ?_⟩
        cases m with
        | zero =>
          simp at hz
          subst hz
          simpa using hp
        | succ m => exact h3 m z' (Nat.lt_of_succ_lt_succ hm) (by simpa using hz)
theorem pys_get : ∀ {l : List D} {m : Nat} {z : PyData}, (D.pys l)[m]? = some z → ∃ d, l[m]? = some d ∧ z = D.py d
  | [], m, z, h => by simp [D.pys] at h
  | d :: l, 0, z, h => by simp [D.pys] at h; exact ⟨d, rfl, h.symm⟩
  | d :: l, m + 1, z, h => by
    simp only [D.pys, List.getElem?_cons_succ] at h
    obtain ⟨y, h1, h2⟩ := pys_get h
    exact ⟨y, by simpa using h1, h2⟩
theorem pys_at : ∀ {l : List D} {m : Nat} {d : D}, l[m]? = some d → (D.pys l)[m]? = some (D.py d)
  | [], m, d, h => by simp at h
  | x :: l, 0, d, h => by simp at h; simp [D.pys, h]
  | x :: l, m + 1, d, h => by simp only [D.pys, List.getElem?_cons_succ]; exact pys_at (by simpa using h)
theorem flats_at {n : Nat} : ∀ {l : List D} {m : Nat} {d : D}, D.flats n l = true → l[m]? = some d → D.flat n d = true
  | [], m, d, _, h => by simp at h
  | x :: l, 0, d, f, h => by
    simp at h
    subst h
    simp only [D.flats, Bool.and_eq_true] at f
    exact f.1
  | x :: l, m + 1, d, f, h => by
    simp only [D.flats, Bool.and_eq_true] at f
    exact flats_at f.2 (by simpa using h)
theorem pys_shaped {n : Nat} {l : List D} (h : D.flats n l = true) (hn : n < 64) : SeqAt.shaped (.list (D.pys l)) = true ∧ SeqAt.shaped (.tuple (D.pys l)) = true := by
  unfold SeqAt.shaped
  have h1 := pys_lay n l h
  have h2 := pys_depth n l h
  have e1 : (PyData.list (D.pys l)).canLay0 = true := by simp only [PyData.canLay0]; exact h1
  have e2 : (PyData.tuple (D.pys l)).canLay0 = true := by simp only [PyData.canLay0]; exact h1
  have d1 : (PyData.list (D.pys l)).depth ≤ 64 := by simp only [PyData.depth]; omega
  have d2 : (PyData.tuple (D.pys l)).depth ≤ 64 := by simp only [PyData.depth]; omega
  rw [e1, e2, Bool.true_and, Bool.true_and]
  exact ⟨decide_eq_true d1, decide_eq_true d2⟩
/-- the place of the first equal one -/
def ixOf (l : List D) (y : D) (h : Hh) : R D := if D.flats 31 l && D.flat 31 y then (match firstD (fun z => D.eqv z y) l with
  | some j => .ok (.int (j : Nat)) h
  | none => .bad) else .bad
def D.index (d : D) (ds : List D) (h : Hh) : R D := match ds with
  | [y] => (match d with
    | .tup l => ixOf l y h
    | d => (match rdL h d with
      | .ok l _ => ixOf l y h
      | _ => .bad))
  | _ => .bad
theorem nox_index : ∀ d ds h e h', D.index d ds h ≠ .exc e h' := by
  have key : ∀ l y h e h', ixOf l y h ≠ .exc e h' := fun l y h e h' q => by
    unfold ixOf at q
    split at q
    · split at q <;> cases q
    · cases q
  intro d ds h e h' q
  unfold D.index at q
  split at q
  · split at q
    · exact key _ _ _ _ _ q
    · split at q
      · exact key _ _ _ _ _ q
      · cases q
  · cases q
theorem ixOf_ok {l : List D} {y : D} {h : Hh} {P : D → Hh → Prop} {E : Ex → Hh → Prop} (q : (ixOf l y h).sat P E) : D.flats 31 l = true ∧ D.flat 31 y = true ∧ ∃ j z, l[j]? = some z ∧ D.eqv z y = true ∧ (∀ m z', m < j → l[m]? = some z' → D.eqv z' y = false) ∧ P (.int (j : Nat)) h := by
  unfold ixOf at q
  split at q
  · rename_i hf
    simp only [Bool.and_eq_true] at hf
    split at q
    · rename_i j hj
      obtain ⟨z, h1, h2, h3⟩ := firstD_some hj
      exact ⟨hf.1, hf.2, j, z, h1, h2, h3, q⟩
    · exact q.elim
  · exact q.elim
section
variable {X : Cx} {G : Gs} {W : WX} {e a b c o i : Expr} {es : List Expr} {pos : Pos}
/-- t.index(x): the first place of an equal one -/
def rTIndexD (K : PySem.W.Frag) : V → List V → Hp → VK → Prop := fun x xs H Q => ∃ (a : Addr) (y : V) (d : PyData) (ds : List PyData) (j : Nat) (z : PyData), x = V.ref a ∧ xs = [y] ∧ Dp K H (V.ref a) (.tuple ds) ∧ Dp K H y d ∧
  SeqAt.shaped (.tuple ds) = true ∧ SeqAt.shaped d = true ∧ ds[j]? = some z ∧ PyData.eqv z d = true ∧ (∀ (m : Nat) (z' : PyData), m < j → ds[m]? = some z' → PyData.eqv z' d = false) ∧ Q (.int (j : Nat)) H
theorem mt_tindexD (hu : X.A.units + 65 < cLine) : MtR X "tuple.index" (rTIndexD X.K) := by
  intro pins s σ H x xs v us Q I rx rxs h
  obtain ⟨a, y, d, ds, j, z, rfl, rfl, hl, hy, sl, sd, hz, hzj, hno, q⟩ := h
  cases rx
  cases rxs with
  | cons ry rt =>
    rename_i uy ut
    cases rt
    obtain ⟨bs, r1⟩ := Dp.reads I d y uy hy ry
    have hxs : PyData.canLayAll0 ds = true := SeqAt.canLay_of_shaped sl
    have hroom : X.A.units + 1 + min (PyData.depthAll ds) d.depth < cLine := room_in_shaped sd hu
    cases hl with
    | tup hs ha =>
      obtain ⟨its, rv, ⟨⟨cls, dd, data, sls⟩, ho, hc, n, hdt⟩, hlen⟩ := I.tuple hs
      simp only at hc hdt
      subst hc hdt
      obtain ⟨as, h4⟩ := Dp.readsAll I ds _ its ha rv
      have hn : its.length = ds.length := SeqAt.ReadsAll.length ds its as h4
      have hmap : its.map (SeqAt.readOf s.heap) = ds := SeqAt.readsAll_map ds its as hxs h4
      obtain ⟨hjd, _⟩ := List.getElem?_eq_some_iff.mp hz
      have hjl : j < its.length := by omega
      have hj : j < its.toArray.size := by simpa using hjl
      have at_ : ∀ (m : Nat) (hm : m < its.toArray.size) (z' : PyData), ds[m]? = some z' → SeqAt.readOf s.heap its.toArray[m] = z' := by
        intro m hm z' hz'
        have hml : m < its.length := by simpa using hm
        rw [← hmap, List.getElem?_map, List.getElem?_eq_getElem hml] at hz'
        have e1 : SeqAt.readOf s.heap its[m] = z' := Option.some.inj (show some (SeqAt.readOf s.heap its[m]) = some z' from hz')
        simpa using e1
      refine call_meets PySem.F.slot_tuple_index ⟨_, ho, rfl⟩ PySem.F.entry_tuple_index (PySem.F.args_tuple_index_2 _ _)
        (TI.tuple_indexAt a its.toArray n dd sls uy (fun u => PyData.eqv (SeqAt.readOf s.heap u) d) j hj ?_ ?_) ⟨ho, SeqAt.items_eqAt (vs := its.toArray) (show ReadsAll s.heap its.toArray.toList ds as from h4) r1 hxs (SeqAt.canLay_of_shaped sd) hroom, ?_⟩
      · show PyData.eqv (SeqAt.readOf s.heap its.toArray[j]) d = true
        rw [at_ j hj z hz]
        exact hzj
      · intro m hm hmj
        have hmd : m < ds.length := by
          have : m < its.length := by simpa using hm
          omega
        have hz' : ds[m]? = some ds[m] := List.getElem?_eq_getElem hmd
        show PyData.eqv (SeqAt.readOf s.heap its.toArray[m]) d = false
        rw [at_ m hm _ hz']
        exact hno m _ hmj hz'
      · exact ⟨.int (j : Nat), H, I.tok _, ⟨_, rfl⟩, q⟩
theorem ix_facts {l : List D} {y z : D} {j : Nat} (f1 : D.flats 31 l = true) (f2 : D.flat 31 y = true) (h1 : l[j]? = some z) (h2 : D.eqv z y = true) (h3 : ∀ m z', m < j → l[m]? = some z' → D.eqv z' y = false) :
    (D.pys l)[j]? = some (D.py z) ∧ PyData.eqv (D.py z) (D.py y) = true ∧ ∀ (m : Nat) (z' : PyData), m < j → (D.pys l)[m]? = some z' → PyData.eqv z' (D.py y) = false := by
  refine ⟨pys_at h1, by rw [py_eqv 31 _ _ (flats_at f1 h1) f2]; exact h2, fun m z' hm hz => ?_⟩
  obtain ⟨d, g1, rfl⟩ := pys_get hz
  rw [py_eqv 31 _ _ (flats_at f1 g1) f2]
  exact h3 m d hm g1
def D.lindex (d : D) (ds : List D) (h : Hh) : R D := match d with
  | .tup _ => .bad
  | d => D.index d ds h
def D.tindex (d : D) (ds : List D) (h : Hh) : R D := match d, ds with
  | .tup l, [y] => ixOf l y h
  | _, _ => .bad
theorem sm_lindex (hu : X.A.units + 65 < cLine) : SMet X G "list.index" D.lindex := by
  refine ⟨fun pins s σ H x xs v us Q I rx rs h => ?_, fun d ds h e h' q => ?_⟩
  · obtain ⟨ρ, hh, d, ds, rp, rd, rds, sat⟩ := h
    have key : (∀ l, d ≠ .tup l) → Sat X.K G WF (rV X.K G) ρ H [] Q (D.index d ds hh) → wpAny (model X.prog X.w) X.A (call (.builtin "list.index") (v :: us)) (EP X pins σ Q) X.xe s := fun nt sat => by
      unfold D.index at sat
      split at sat
      · rename_i y
        split at sat
        · exact (nt _ rfl).elim
        · split at sat
          · rename_i l h2 hq
            have hs : (rdL hh d).sat (fun a h' => a = l ∧ h' = h2) (fun _ _ => True) := by rw [hq]; exact ⟨rfl, rfl⟩
            obtain ⟨l', a, ys, rfl, g1, g2, g3, g4⟩ := rdL_ok (α := Unit) (β := Unit) rp rd hs
            subst g3
            obtain ⟨f1, f2, j, z, q1, q2, q3, q4⟩ := ixOf_ok sat
            obtain ⟨w, rfl, rw'⟩ := rds.one
            obtain ⟨k1, k2, k3⟩ := ix_facts f1 f2 q1 q2 q3
            exact mt_indexD hu pins s σ H _ _ v us Q I rx rs ⟨a, w, _, _, j, _, rfl, rfl, .lst g1 (dps_of 31 _ _ f1 g2), dp_of 31 _ _ f2 rw', (pys_shaped f1 (by decide)).1, py_shaped f2 (by decide), k1, k2, k3, q4 _ _ _ (Ext.refl _ _) rp mk_int⟩
          · exact sat.elim
      · exact sat.elim
    cases d <;> first | exact sat.elim | exact key (fun l z => by cases z) sat
  · cases d <;> first | (cases q; done) | (unfold D.lindex at q; exact nox_index _ _ _ _ _ q)
theorem sm_tindex (hu : X.A.units + 65 < cLine) : SMet X G "tuple.index" D.tindex := by
  refine ⟨fun pins s σ H x xs v us Q I rx rs h => ?_, fun d ds h e h' q => ?_⟩
  · obtain ⟨ρ, hh, d, ds, rp, rd, rds, sat⟩ := h
    unfold D.tindex at sat
    split at sat
    · rename_i l y
      obtain ⟨a, ys, rfl, g1, g2⟩ := rv_tup rd
      obtain ⟨f1, f2, j, z, q1, q2, q3, q4⟩ := ixOf_ok sat
      obtain ⟨w, rfl, rw'⟩ := rds.one
      obtain ⟨k1, k2, k3⟩ := ix_facts f1 f2 q1 q2 q3
      exact mt_tindexD hu pins s σ H _ _ v us Q I rx rs ⟨a, w, _, _, j, _, rfl, rfl, .tup g1.sqT (dps_of 31 _ _ f1 g2), dp_of 31 _ _ f2 rw', (pys_shaped f1 (by decide)).2, py_shaped f2 (by decide), k1, k2, k3, q4 _ _ _ (Ext.refl _ _) rp mk_int⟩
    · exact sat.elim
  · unfold D.tindex at q
    split at q
    · unfold ixOf at q
      split at q
      · split at q <;> cases q
      · cases q
    · cases q

/-! ### o[i] = v -/
def setL (x y d : D) (env : Env) (h : Hh) : R Env := match y with
  | .int k => (match lstAt h x with
    | some (n, l) => (match ixN l.length k with
      | some j => .ok env (h.set n (.lst (l.set j d)))
      | none => .bad)
    | none => .bad)
  | _ => .bad
def Tg.sub (a b : EΦ) : GΦ := fun d env h => (a env h).bind fun x h => (b env h).bind fun y h => setL x y d env h
theorem SG.sub {φ ψ : EΦ} (ho : SE X G WF o φ) (hi : SE X G WF i ψ)
    (ha : ∀ v, assign (.Subscript o i pos) X.env v = (do
      let ov ← holding [v] (eval o X.env)
      let iv ← holding [v, ov] (eval i X.env)
      standAt pos
      holding [v, ov, iv] (setItem ov iv v)
      release [v, ov, iv] []) := by intro _; rfl) : SG X G (RV X.K G) (.Subscript o i pos) (Tg.sub φ ψ) := by
  refine ⟨PG.weak (pg_sub ho.pe hi.pe set_list ha) ?_⟩
  rintro v σ H Q ⟨ρ, hh, env, d, rp, re, rd, sat⟩
  refine ⟨ρ, hh, env, rp, re, R.sat_mono (R.sat_bind sat) (fun x hh1 q vx H1 ρ1 e1 rp1 rx => ?_) fun _ _ z => z.elim⟩
  refine ⟨ρ1, hh1, env, rp1, re.ext e1, R.sat_mono (R.sat_bind q) (fun y hh2 q2 vy H2 ρ2 e2 rp2 ry => ?_) fun _ _ z => z.elim⟩
  have rx2 := RV.ext e2 _ _ rx
  unfold setL at q2
  cases y <;> first | exact q2.elim | skip
  rename_i k
  simp only at q2
  split at q2
  · rename_i n l hl
    obtain ⟨a, ys, rfl, g1, g2, g3, g4⟩ := lstAt_ok rp2 rx2 hl
    split at q2
    · rename_i j hj
      have ek := rv_int ry
      subst ek
      obtain ⟨s1, s2⟩ := rp2.set g4 g1 g2 (RVs.set (RV.ext (e1.trans e2) _ _ rd) j g3)
      exact ⟨a, ys, k, j, rfl, rfl, g2, by rw [g3.length]; exact hj, q2 ρ2 σ _ (e1.trans (e2.trans s2)) s1 (re.ext (e1.trans (e2.trans s2)))⟩
    · exact q2.elim
  · exact q2.elim

/-! ### == of values or lists -/
/-- a value or a list that was made on the way -/
inductive DX where
  | d (x : D) | l (xs : List D)
abbrev XΦ := Env → Hh → R DX
def rX (K : PySem.W.Frag) (G : Gs) : Hp → List Addr → Hp → DX → V → Prop := fun H0 ρ H x v => match x with
  | .d d => RV K G ρ H d v
  | .l xs => rL K G H0 ρ H xs v
theorem later_X {K : PySem.W.Frag} : Later (rX K G) := fun ρ H ρ1 H1 ρ' H' a b e e' h => by
  cases a with
  | d x => exact h
  | l xs => exact later_L _ _ _ _ _ _ _ _ e e' h
structure SX (X : Cx) (G : Gs) (W : WX) (e : Expr) (φ : XΦ) : Prop where
  pe : PE X e (tG X.K G W (rX X.K G) φ)
def XX.of (a : EΦ) : XΦ := fun env h => (a env h).bind fun d h => .ok (.d d) h
def XX.ofL (a : LΦ) : XΦ := fun env h => (a env h).bind fun l h => .ok (.l l) h
theorem SX.of {φ : EΦ} (ha : SE X G W a φ) : SX X G W a (XX.of φ) := by
  refine ⟨PE.weak ha.pe ?_⟩
  rintro σ H Q ⟨ρ, hh, env, rp, re, sat⟩
  exact ⟨ρ, hh, env, rp, re, R.sat_mono (R.sat_bind sat) (fun d hh1 q v H1 ρ1 e1 rp1 rd => q v H1 ρ1 e1 rp1 rd) fun _ _ z => z⟩
theorem SX.ofL {φ : LΦ} (ha : SL X G W a φ) : SX X G W a (XX.ofL φ) := by
  refine ⟨PE.weak ha.pe ?_⟩
  rintro σ H Q ⟨ρ, hh, env, rp, re, sat⟩
  exact ⟨ρ, hh, env, rp, re, R.sat_mono (R.sat_bind sat) (fun d hh1 q v H1 ρ1 e1 rp1 rd => q v H1 ρ1 e1 rp1 rd) fun _ _ z => z⟩
/-- its data: a list's items, or a value without objects -/
inductive DV where
  | v (d : D) | ls (l : List D)
def dvOf (h : Hh) : DX → Option DV
  | .l xs => if D.flats 31 xs then some (.ls xs) else none
  | .d (.ref n) => (match h[n]? with
    | some (.lst l) => if D.flats 31 l then some (.ls l) else none
    | some (.frz l) => if D.flats 31 l then some (.ls l) else none
    | _ => none)
  | .d d => if D.flat 32 d then some (.v d) else none
def DV.py : DV → PyData
  | .v d => D.py d
  | .ls l => .list (D.pys l)
def DV.eqv : DV → DV → Bool
  | .v a, .v b => D.eqv a b
  | .ls a, .ls b => D.eqvs a b
  | _, _ => false
def DV.ok : DV → Bool
  | .v d => D.flat 32 d
  | .ls l => D.flats 31 l
theorem DV.py_eqv {a b : DV} (ha : a.ok = true) (hb : b.ok = true) : PyData.eqv a.py b.py = a.eqv b := by
  cases a with
  | v x => cases b with
    | v y => exact DL.py_eqv 32 x y ha hb
    | ls y => cases x <;> simp [DV.py, DV.eqv, D.py, PyData.eqv]
  | ls x => cases b with
    | v y => cases y <;> simp [DV.py, DV.eqv, D.py, PyData.eqv]
    | ls y =>
      show PyData.eqv (.list (D.pys x)) (.list (D.pys y)) = D.eqvs x y
      simp only [PyData.eqv]
      exact pys_eqv 31 x y ha hb
theorem DV.shaped {a : DV} (ha : a.ok = true) : SeqAt.shaped a.py = true := by
  cases a with
  | v x => exact py_shaped ha (by decide)
  | ls x => exact (pys_shaped ha (by decide)).1
theorem dvOf_ok {K : PySem.W.Frag} {ρ : List Addr} {hh : Hh} {H0 H : Hp} {x : DX} {v : V} {z : DV} (rp : Rep K G ρ hh H) (r : rX K G H0 ρ H x v) (e : dvOf hh x = some z) : z.ok = true ∧ Dp K H v z.py := by
  cases x with
  | l xs =>
    simp only [dvOf] at e
    split at e
    · rename_i hf
      cases e
      obtain ⟨a, ys, rfl, h1, h2, h3, h4⟩ := r
      exact ⟨hf, .lst (.inl (.inl h1)) (dps_of 31 _ _ hf h4)⟩
    · cases e
  | d x =>
    have r' : RV K G ρ H x v := r
    cases x with
    | ref n =>
      simp only [dvOf] at e
      simp only [RV] at r'
      obtain ⟨a, rfl, ha⟩ := r'
      split at e
      · rename_i l hl
        obtain ⟨b, e1, ys, e2, e3⟩ := rp.ob _ _ hl
        rw [ha] at e1; cases e1
        split at e
        · rename_i hf
          cases e
          exact ⟨hf, .lst (.inl (.inl e2)) (dps_of 31 _ _ hf e3)⟩
        · cases e
      · rename_i l hl
        obtain ⟨b, e1, ys, e2, e3⟩ := rp.ob _ _ hl
        rw [ha] at e1; cases e1
        split at e
        · rename_i hf
          cases e
          exact ⟨hf, .lst (.inl e2) (dps_of 31 _ _ hf e3)⟩
        · cases e
      · cases e
    | _ =>
      simp only [dvOf] at e
      split at e
      · rename_i hf
        cases e
        exact ⟨hf, dp_of 32 _ _ hf r'⟩
      · cases e
/-- == (neg: !=) -/
def T.eqX (neg : Bool) (a b : XΦ) : TΦ := fun env h => (a env h).bind fun x h => (b env h).bind fun y h => match dvOf h x, dvOf h y with
  | some u, some v => .ok (if neg then !u.eqv v else u.eqv v) h
  | _, _ => .bad
abbrev eqOp : Bool → CmpOp
  | true => .NotEq
  | false => .Eq
def rEqX (K : PySem.W.Frag) (neg : Bool) : R2 := fun x y H Q => ∃ d e, Dp K H x d ∧ Dp K H y e ∧ SeqAt.shaped d = true ∧ SeqAt.shaped e = true ∧ Q (.bl (if neg then !PyData.eqv d e else PyData.eqv d e)) H
theorem op_eqX {neg : Bool} (hu : X.A.units + 64 < cLine) : OpR X (compareOp (eqOp neg)) (rEqX X.K neg) := by
  cases neg with
  | false =>
    intro pins s σ H x y v u Q I rx ry ⟨d, e, h1, h2, h3, h4, q⟩
    exact op_eqD hu pins s σ H x y v u Q I rx ry ⟨d, e, h1, h2, h3, h4, q⟩
  | true =>
    intro pins s σ H x y v u Q I rx ry ⟨d, e, h1, h2, h3, h4, q⟩
    exact op_neD hu pins s σ H x y v u Q I rx ry ⟨d, e, h1, h2, h3, h4, q⟩
theorem rX_ext {K : PySem.W.Frag} {ρ ρ' : List Addr} {H0 H H' : Hp} {x : DX} {v : V} (e : Ext ρ H ρ' H') (r : rX K G H0 ρ H x v) : rX K G H0 ρ' H' x v := by
  cases x with
  | d x => exact RV.ext e _ _ r
  | l xs =>
    obtain ⟨a, ys, rfl, h1, h2, h3, h4⟩ := r
    exact ⟨a, ys, rfl, e.side _ _ h1 h3 (fun _ z => nomatch z), h2, e.notin h1 h3, RVs.ext e _ _ h4⟩
theorem eqX_core {neg : Bool} {ρ : List Addr} {hh : Hh} {H H0 H1 : Hp} {σ : L2.St} {x y : DX} {v u : V} {Q : Bool → Hp → Prop} (rp : Rep X.K G ρ hh H) (rx : rX X.K G H0 ρ H x v) (ry : rX X.K G H1 ρ H y u)
    (sat : Sat X.K G W rB ρ H σ Q (match dvOf hh x, dvOf hh y with
      | some u, some v => .ok (if neg then !u.eqv v else u.eqv v) hh
      | _, _ => .bad)) : ∃ d e, Dp X.K H v d ∧ Dp X.K H u e ∧ SeqAt.shaped d = true ∧ SeqAt.shaped e = true ∧ Q (if neg then !PyData.eqv d e else PyData.eqv d e) H := by
  split at sat
  · rename_i z w hz hw
    obtain ⟨k1, p1⟩ := dvOf_ok rp rx hz
    obtain ⟨k2, p2⟩ := dvOf_ok rp ry hw
    refine ⟨_, _, p1, p2, DV.shaped k1, DV.shaped k2, ?_⟩
    rw [DV.py_eqv k1 k2]
    exact Sat.mk sat (Ext.refl _ _) rp rfl
  · exact sat.elim
theorem ST.eqX {neg : Bool} {φ ψ : XΦ} (hu : X.A.units + 64 < cLine) (ha : SX X G W a φ) (hb : SX X G W b ψ) (hm : behindInMarks (eqOp neg) b = false := by first | exact nomark _ | rfl) : ST X G W (.Compare a [eqOp neg] [b] pos) (T.eqX neg φ ψ) := by
  refine ⟨PT.weak (pt_cmpR (op_eqX (neg := neg) hu) ha.pe hb.pe hm) ?_⟩
  rintro σ H Q ⟨ρ, hh, env, rp, re, sat⟩
  refine tG.seq later_B rp re sat fun x v ρ1 hh1 H1 e1 rp1 re1 rx sat1 => ?_
  refine tG.seq later_B rp1 re1 sat1 fun y u ρ2 hh2 H2 e2 rp2 re2 ry sat2 => ?_
  obtain ⟨d, e, h1, h2, h3, h4, q⟩ := eqX_core (neg := neg) rp2 (rX_ext e2 rx) ry sat2
  exact ⟨d, e, h1, h2, h3, h4, _, rfl, q⟩
theorem SE.eqX {neg : Bool} {φ ψ : XΦ} (hu : X.A.units + 64 < cLine) (ha : SX X G W a φ) (hb : SX X G W b ψ) (hm : behindInMarks (eqOp neg) b = false := by first | exact nomark _ | rfl) : SE X G W (.Compare a [eqOp neg] [b] pos) (E.ofT (T.eqX neg φ ψ)) := by
  refine ⟨PE.weak (pe_cmpR (op_eqX (neg := neg) hu) ha.pe hb.pe hm) ?_⟩
  rintro σ H Q ⟨ρ, hh, env, rp, re, sat⟩
  have sat : Sat X.K G W (rV X.K G) ρ H σ Q ((φ env hh).bind fun x h => (ψ env h).bind fun y h => (match dvOf h x, dvOf h y with
      | some u, some v => (.ok (if neg then !u.eqv v else u.eqv v) h : R Bool)
      | _, _ => .bad).bind fun c h => .ok (.bl c) h) := by
    have : ∀ {α β γ : Type} (r : R α) (k : α → Hh → R β) (l : β → Hh → R γ), (r.bind k).bind l = r.bind fun a h => (k a h).bind l := by
      intro α β γ r k l; cases r <;> rfl
    unfold E.ofT T.eqX at sat
    simp only [this] at sat
    exact sat
  refine tG.seq later_V rp re sat fun x v ρ1 hh1 H1 e1 rp1 re1 rx sat1 => ?_
  refine tG.seq later_V rp1 re1 sat1 fun y u ρ2 hh2 H2 e2 rp2 re2 ry sat2 => ?_
  have sat3 : Sat X.K G W rB ρ2 H2 σ (fun b H => Q (.bl b) H) (match dvOf hh2 x, dvOf hh2 y with
      | some u, some v => .ok (if neg then !u.eqv v else u.eqv v) hh2
      | _, _ => .bad) := by
    revert sat2
    cases dvOf hh2 x with
    | none => exact fun s => s
    | some z =>
      cases dvOf hh2 y with
      | none => exact fun s => s
      | some w =>
        intro s b H' ρ' e' rp' rb
        have rb : (if neg then !z.eqv w else z.eqv w) = b := rb
        have s : Sat X.K G W (rV X.K G) ρ2 H2 σ Q (.ok (.bl (if neg then !z.eqv w else z.eqv w)) hh2) := s
        rw [rb] at s
        exact Sat.mk s e' rp' mk_bl
  obtain ⟨d, e, h1, h2, h3, h4, q⟩ := eqX_core (W := W) (σ := σ) (neg := neg) rp2 (rX_ext e2 rx) ry sat3
  exact ⟨d, e, h1, h2, h3, h4, q⟩
end
end DL

set_option Elab.async false
set_option linter.all false
set_option maxRecDepth 100000
set_option maxHeartbeats 4000000
/-! DL13: len(set(..)) of ints. -/
namespace DL
open PySem PySem.Spec PyProof.Rows L2 GX GxR
def intsOf : List D → Option (List Int)
  | [] => some []
  | .int i :: r => (intsOf r).map (i :: ·)
  | _ :: _ => none
theorem intsOf_ok : ∀ {l : List D} {ns : List Int}, intsOf l = some ns → l = ns.map D.int
  | [], _, h => by cases h; rfl
  | .int i :: r, ns, h => by
    simp only [intsOf] at h
    cases q : intsOf r with
    | none => rw [q] at h; cases h
    | some ms =>
      rw [q] at h
      cases h
      rw [List.map_cons, ← intsOf_ok q]
  | .non :: _, _, h => by cases h
  | .bl _ :: _, _, h => by cases h
  | .str _ :: _, _, h => by cases h
  | .tup _ :: _, _, h => by cases h
  | .ref _ :: _, _, h => by cases h
  | .fn _ :: _, _, h => by cases h
theorem intsOf_map (ns : List Int) : intsOf (ns.map D.int) = some ns := by
  induction ns with
  | nil => rfl
  | cons n r ih => rw [List.map_cons]; simp only [intsOf, ih]; rfl
/-- each number once -/
def once : List Int → List Int
  | [] => []
  | n :: r => if n ∈ r then once r else n :: once r
theorem mem_once {k : Int} : ∀ {l : List Int}, k ∈ once l ↔ k ∈ l
  | [] => Iff.rfl
  | n :: r => by
    unfold once
    by_cases h : n ∈ r
    · rw [if_pos h, mem_once (l := r), List.mem_cons]
      exact ⟨.inr, fun q => q.elim (fun e => e ▸ h) id⟩
    · rw [if_neg h, List.mem_cons, List.mem_cons, mem_once (l := r)]
theorem nodup_once : ∀ l : List Int, (once l).Nodup
  | [] => List.nodup_nil
  | n :: r => by
    unfold once
    by_cases h : n ∈ r
    · rw [if_pos h]; exact nodup_once r
    · rw [if_neg h]; exact List.nodup_cons.mpr ⟨fun q => h (mem_once.mp q), nodup_once r⟩
theorem once_of_nodup : ∀ {l : List Int}, l.Nodup → once l = l
  | [], _ => rfl
  | n :: r, h => by
    obtain ⟨h1, h2⟩ := List.nodup_cons.mp h
    unfold once
    rw [if_neg h1, once_of_nodup h2]
theorem len_of_mem {l m : List Int} (hl : l.Nodup) (hm : m.Nodup) (h : ∀ k, k ∈ l ↔ k ∈ m) : l.length = m.length := (List.perm_ext_iff_of_nodup hl hm |>.mpr h).length_eq
theorem firstMet_nd (val : Nat → Int) : ∀ i, (firstMet val i).Nodup
  | 0 => List.nodup_nil
  | i + 1 => by
    rw [firstMet_succ]
    unfold step_dedup
    split
    · exact firstMet_nd val i
    · rename_i h
      refine List.nodup_append.mpr ⟨firstMet_nd val i, by simp, fun x hx y hy e => h ?_⟩
      simp at hy
      rw [List.any_eq_true]
      exact ⟨x, hx, by rw [e, hy]; simp⟩
theorem firstMet_len (ns : List Int) : (firstMet (fun i => ns.getD i 0) ns.length).length = (once ns).length := by
  refine len_of_mem (firstMet_nd _ _) (nodup_once _) fun k => ?_
  rw [mem_once]
  have h := firstMet_any (fun i => ns.getD i 0) ns.length k
  have e : (List.range ns.length).map (fun i => ns.getD i 0) = ns := by
    refine List.ext_getElem (by simp) fun i h1 h2 => ?_
    simp [List.getD_eq_getElem?_getD, List.getElem?_eq_getElem h2]
  rw [e] at h
  have a1 : ∀ l : List Int, l.any (· == k) = true ↔ k ∈ l := fun l => by
    rw [List.any_eq_true]
    constructor
    · rintro ⟨x, hx, e⟩; rw [← beq_iff_eq.mp e]; exact hx
    · exact fun hx => ⟨k, hx, by simp⟩
  rw [← a1, ← a1, h]
def lenSetI (l : List D) (h : Hh) : R D := match intsOf l with
  | some ns => if ns.length ≤ 4000 then .ok (.int (once ns).length) h else .bad
  | none => .bad
def E.lenSet (a : LΦ) : EΦ := fun env h => (a env h).bind lenSetI
def tLenSetD (K : PySem.W.Frag) (ta : TE) : TE := fun σ H Q => ta σ H fun x H1 => ∃ (l : Addr) (ns : List Int), x = V.ref l ∧ (SqL K H1 l (ns.map V.int) ∨ SqT K H1 l (ns.map V.int)) ∧ ns.length ≤ 4000 ∧ Q (.int ((once ns).length : Nat)) H1
section
variable {X : Cx} {G : Gs} {W : WX} {a : Expr}
theorem pe_lenSetD {ta : TE} {p p2 q pos : Pos} (hc : X.calm = true) (hg : Gl X "len") (hm : X.mg "len" = none) (hg2 : Gl X "set") (hm2 : X.mg "set" = none) (ha : PE X a ta)
    (na : starEach [a] X.env = (false, eval a X.env) :: starEach [] X.env := by rfl) : PE X (.Call (.Name "len" p) [.Call (.Name "set" p2) [a] [] q] [] pos) (tLenSetD X.K ta) := by
  refine ⟨fun pins s σ H Q I h => ?_⟩
  refine Call_ (ld_blt I hg hm boot_len ?_)
  refine PyProof.Rows.callWith_builtin1 (PyProof.Rows.args_cons ?_ rfl) rfl rfl
  refine Call_ (ld_blt I hg2 hm2 PyProof.Rows.boot_set ?_)
  refine PyProof.Rows.callWith_type1 (PyProof.Rows.args_cons (thn (ha.run pins s σ H _ I h) fun v s1 ⟨x, H1, I1, r1, q1⟩ => PyProof.Rows.args_nil ?_) na) na rfl
  obtain ⟨l, ns, rfl, hq, hl, q1⟩ := q1
  cases r1
  rcases hq with hq | hq
  · obtain ⟨its, r, pl, hz⟩ := I1.list hq
    have hlen : its.toArray.size = ns.length := by rw [List.size_toArray, ← r.length, List.length_map]
    refine call_set_list (I1.ok.hd hc) pl.isList (by simpa using RZ.intsAre_vals r) (by rw [hlen]; unfold scanBound; omega) fun h' tk hS hk => ?_
    refine PyProof.Rows.args_nil ?_
    rw [hlen] at hS
    obtain ⟨o, es, ep, t, ho, hex, hd, _, _, hb, hf, hn⟩ := hS
    have I2 : Inv X pins σ H1 { s1 with heap := h', toks := tk } := I1.kept fun b o e => hk b o (Heap.lt_size e) e
    refine call_len_set ho hex hd hf (by unfold scanBound at hb; omega) ⟨.int ((once ns).length : Nat), H1, I2.tok _, ⟨_, by rw [hn, firstMet_len]⟩, q1⟩
  · obtain ⟨its, r, pl, hz⟩ := I1.tuple hq
    refine call_set_tupI ns (I1.ok.hd hc) pl (by simpa using RZ.intsAre_vals r) (by unfold scanBound; omega) fun h' tk c hS hc hk => ?_
    refine PyProof.Rows.args_nil ?_
    obtain ⟨o, es, ep, t, ho, hex, hd, hge, hnd, hmem, hb, hf, hn, _⟩ := hS
    have I2 : Inv X pins σ H1 { s1 with heap := h', toks := tk } := I1.kept hk
    have e : es.size = (once ns).length := by
      have : (es.toList.map L2.keyOf).length = (once ns).length := len_of_mem hnd (nodup_once _) fun k => by
        rw [mem_once, ← hmem k]
        exact ⟨fun z => by simpa using z, fun z => by simpa using z⟩
      simpa using this
    refine call_len_set ho hex hd hf (by unfold scanBound at hb; omega) ⟨.int ((once ns).length : Nat), H1, I2.tok _, ⟨_, by rw [e]⟩, q1⟩
theorem SE.lenSet {φ : LΦ} {p p2 q pos : Pos} (hc : X.calm = true) (hg : Gl X "len") (hm : X.mg "len" = none) (hg2 : Gl X "set") (hm2 : X.mg "set" = none) (ha : SQ X G W a φ)
    (na : starEach [a] X.env = (false, eval a X.env) :: starEach [] X.env := by rfl) : SE X G W (.Call (.Name "len" p) [.Call (.Name "set" p2) [a] [] q] [] pos) (E.lenSet φ) := by
  refine ⟨PE.weak (pe_lenSetD hc hg hm hg2 hm2 ha.pe na) ?_⟩
  rintro σ H Q ⟨ρ, hh, env, rp, re, sat⟩
  refine tG.seq later_V rp re sat fun l v ρ1 hh1 H1 e1 rp1 re1 rl sat1 => ?_
  obtain ⟨q, xs, rfl, h1, h2⟩ := rl
  unfold lenSetI at sat1
  split at sat1
  · rename_i ns hn
    have e := intsOf_ok hn
    subst e
    have e2 := RVs.ints h2
    subst e2
    split at sat1
    · rename_i hl
      exact ⟨q, ns, rfl, h1, hl, sat1.mk (Ext.refl _ _) rp1 mk_int⟩
    · exact sat1.elim
  · exact sat1.elim
end
end DL

set_option Elab.async false
set_option linter.all false
set_option maxRecDepth 100000
set_option maxHeartbeats 4000000
/-! DL14: what the printed texts need. -/
namespace DL
open PySem PySem.Spec PyProof.Rows L2 GX GxR
section
variable {X : Cx} {G : Gs} {W : WX} {e a b c : Expr} {es : List Expr} {pos : Pos}
theorem SE.globI {x : Str} {i : Int} (h : ∃ t, X.mg x = some (.int i t)) (hg : Gl X x) (hd : (x == ("__debug__" : Str)) = false := by decide) : SE X G W (.Name x pos) (E.con (.int i)) := by
  obtain ⟨t, h⟩ := h
  exact SE.glob (v := .int i) (d := .int i) hg h ⟨t, rfl⟩ (fun _ _ => by simp only [RV]) hd
theorem takes_wf : L2.Takes X WF := fun u s' ⟨a, B, sI, pins, σ, H, cls, d, e, I, nb, up, sky, na, os, ag, w⟩ => w.elim
theorem SE.chainP {op op' : CmpOp} {f g : D → D → Hh → R D} {φ ψ χ : EΦ} (ho : SOp X G (compareOp op) f) (ho' : SOp X G (compareOp op') g) (ha : SE X G W a φ) (hb : SE X G W b ψ) (hc : SE X G W c χ)
    (hm : lastMarks [op, op'] [b, c] = false := by with_unfolding_all rfl) : SE X G W (.Compare a [op, op'] [b, c] pos) (E.chain f g φ ψ χ) :=
  SE.chain ho ho' ha hb hc (pe_chain ho.op ho'.op ha.pe hb.pe hc.pe hm)
theorem ST.chain {op op' : CmpOp} {f g : D → D → Hh → R D} {φ ψ χ : EΦ} (ho : SOp X G (compareOp op) f) (ho' : SOp X G (compareOp op') g) (ha : SE X G W a φ) (hb : SE X G W b ψ) (hc : SE X G W c χ)
    (hm : lastMarks [op, op'] [b, c] = false := by with_unfolding_all rfl) : ST X G W (.Compare a [op, op'] [b, c] pos) (T.val (E.chain f g φ ψ χ)) := by
  refine ⟨PT.weak (pt_chain ho.op ho'.op ha.pe hb.pe hc.pe hm) ?_⟩
  rintro σ H Q ⟨ρ, hh, env, rp, re, sat⟩
  have as : ∀ {α β γ : Type} (r : R α) (k : α → Hh → R β) (l : β → Hh → R γ), (r.bind k).bind l = r.bind fun a h => (k a h).bind l := by
    intro α β γ r k l; cases r <;> rfl
  have sat : Sat X.K G W rB ρ H σ Q ((φ env hh).bind fun x h => (ψ env h).bind fun y h => (f x y h).bind fun d h => (match d with
      | .bl true => (χ env h).bind fun z h => g y z h
      | .bl false => .ok (.bl false) h
      | _ => .bad : R D).bind fun d h => match d with
        | .bl b => .ok b h
        | _ => .bad) := by
    unfold T.val E.chain at sat
    simp only [as] at sat
    exact sat
  refine tG.seq later_B rp re sat fun x v ρ1 hh1 H1 e1 rp1 re1 rx sat1 => ?_
  refine tG.seq later_B rp1 re1 sat1 fun y u ρ2 hh2 H2 e2 rp2 re2 ry sat2 => ?_
  refine ⟨ρ2, hh2, x, y, rp2, RV.ext e2 _ _ rx, ry, ?_⟩
  cases q : f x y hh2 with
  | ok d hh3 =>
    rw [q] at sat2
    intro v3 H3 ρ3 e3 rp3 r3
    cases d with
    | bl k =>
      have r3' : v3 = .bl k := by simpa [rV, RV] using r3
      refine ⟨k, r3', ?_⟩
      cases k with
      | true =>
        refine iteT ?_
        have sat3 : Sat X.K G W rB ρ3 H3 σ Q ((χ env hh3).bind fun z h => (g y z h).bind fun d h => match d with
          | .bl b => .ok b h
          | _ => .bad) := by
          have := Sat.later later_B e3 sat2
          simp only [R.bind_ok, as] at this
          exact this
        refine tG.seq later_B rp3 (re2.ext e3) sat3 fun z w ρ4 hh4 H4 e4 rp4 re4 rz sat4 => ?_
        refine ⟨ρ4, hh4, y, z, rp4, RV.ext e4 _ _ (RV.ext e3 _ _ ry), rz, ?_⟩
        cases q2 : g y z hh4 with
        | ok d2 hh5 =>
          rw [q2] at sat4
          intro v5 H5 ρ5 e5 rp5 r5
          cases d2 with
          | bl k2 =>
            have r5' : v5 = .bl k2 := by simpa [rV, RV] using r5
            exact ⟨k2, r5', sat4 k2 H5 ρ5 e5 rp5 rfl⟩
          | _ => exact sat4.elim
        | exc x2 hh5 => exact (ho'.nox _ _ _ _ _ q2).elim
        | bad => rw [q2] at sat4; exact sat4.elim
      | false =>
        refine iteF ?_
        exact ⟨false, rfl, sat2 false H3 ρ3 e3 rp3 rfl⟩
    | _ => exact sat2.elim
  | exc x2 hh3 => exact (ho.nox _ _ _ _ _ q).elim
  | bad => rw [q] at sat2; exact sat2.elim
end
abbrev T.isN (a : EΦ) : TΦ := fun env h => (a env h).bind fun d h => .ok d.isN h
abbrev T.notN (a : EΦ) : TΦ := fun env h => (a env h).bind fun d h => .ok (!d.isN) h
abbrev L.slE (a : EΦ) (l u : OΦ) : LΦ := fun env h => (a env h).bind fun d h => (l env h).bind fun i h => (u env h).bind fun j h => (rdL h d).bind fun xs h => .ok (cutD xs i j) h
theorem units65 {k : Nat} {A : Around} (r : Room k A) : A.units + 65 < cLine := by have := r.un; omega
/-- the functions of a text, called d deep -/
abbrev Calls := Nat → List D → Hh → R D
def runF (bd : Nat → Option (Nat × (Calls → SΦ))) : Nat → Calls
  | 0 => fun _ _ _ => .bad
  | d + 1 => fun i ds hh => match bd i with
    | some (n, b) => trunc hh (runB n (b (runF bd d)) ds hh)
    | none => .bad
theorem code_ref {K : PySem.W.Frag} {x qual : Str} {params : Arguments} {body : List Stmt} {scope : Scope} {fd : FuncData} (F : FunD K x qual params body scope [] [] (He.fAd K (x, none)) fd) : fd.code = .ref (He.cT K (x, none)).1 := by
  obtain ⟨oc, od, dV, kV, doc, pm, an, cdv, ct, osl, e, lk, hcd, _, _⟩ := F.ex
  obtain ⟨c, hc⟩ := He.codeIn_ref hcd
  have e2 : fd.code = .ref c := by rw [e]; exact hc
  rw [e2]
  show Value.ref c = Value.ref (He.codeOf K (x, none))
  rw [He.codeOf_eq (p := (x, none)) lk e2]
end DL

set_option Elab.async false
set_option linter.all false
set_option maxRecDepth 100000
set_option maxHeartbeats 4000000
/-! DL15: a law's end. -/
namespace DL
open PySem PySem.Spec PyProof.Rows L2 GX GxR
theorem cx_none {P : Program} {w : World} {H : Hp} {s : Shared} {e : Value} {s' : Shared} (z : L2.CX P w [] H s (fun _ _ _ => False) e s') : False := by
  obtain ⟨_, _, _, _, _, _, _, _, _, _, _, _, z⟩ := z
  exact z
/-- no plain list stands in the written part -/
def noLst (o : Obj) : Bool := match o.cls with
  | .type n => n != "list"
  | _ => true
theorem noLst_ok {K : PySem.W.Frag} (h : (K.all fun q => noLst q.2) = true) {a : Addr} {o : Obj} (e : K.lookup a = some o) : o.cls ≠ .type "list" := fun z => by
  have q := List.all_eq_true.mp h _ (He.lookup_mem e)
  have q : noLst o = true := q
  unfold noLst at q
  rw [z] at q
  simp at q
theorem law_end {l : PySem.W.OpenLaw} {w : World} {K : PySem.W.Frag} {mg : Str → Option Value} {h : Heap} {fa : Addr} {fas : List He.Fa} {fn : List He.DefD} {tf : List He.Defn} {x : Str} {st : Stmt} {d i : Nat} {bd : Nat → Option (Nat × (Calls → SΦ))} {FF : Heap → Prop} {gs : Gs}
    (X : K.In h) (G : h.Ns mainGlobals mg) (hmg : mg "law" = some (.ref fa)) (c : He.SaysX fas fn [] tf (fun K => K.all fun q => noLst q.2) w h K) (hglo : He.Fa.glo "law" ∈ fas) (hfd : ∃ fd, FunD K "law" "law" (defArgs st) (defBody st) (defScope st) [] [] (He.fAd K ("law", none)) fd)
    (facts : ∀ base, K.In base → base.Ns mainGlobals mg → (∀ p ∈ tf.map (He.cT K), TabB base mg p.1 p.2) → FF base)
    (fnl : ∀ base, FF base → ∀ fd, FunD K "law" "law" (defArgs st) (defBody st) (defScope st) [] [] (He.fAd K ("law", none)) fd → FnOk l.prog w K mg base (L2.CX l.prog w) (2 * (d + 1) + 1) (He.fAd K ("law", none)) fd [x] (spF K gs 1 (runF bd (d + 1) i)))
    (hb : ∀ fd, FunD K "law" "law" (defArgs st) (defBody st) (defScope st) [] [] (He.fAd K ("law", none)) fd → ∀ (s : Shared) (u : Value), BindsTo s fd ⟨[u], []⟩ [(x, u)])
    (tabs : gs.tabs = (tf.map (He.cT K)).map (·.2))
    (level2 : ∀ ns : List Int, ns.length ≤ 63 → (∀ z ∈ ns, Builtin.Int.intBits z ≤ 1048576) → ∃ hh, runF bd (d + 1) i [.ref 0] [.frz (ns.map D.int)] = .ok (.bl true) hh) :
    LamX.LawAtS l w K (L2.CX l.prog w) (2 * (d + 1) + 1) 63 x mg fa h := by
  obtain ⟨fd, FD⟩ := hfd
  have e : fa = He.fAd K ("law", none) := by
    have e1 := hmg.symm.trans (He.glo_ok X G (He.SaysD.facts c.t.d hglo))
    cases e1
    rfl
  subst e
  refine ⟨fd, tf.map (He.cT K), spF K gs 1 (runF bd (d + 1) i), fun p hp => ?_, fun p hp => ?_, fun p hp => ?_, hb fd FD, fun H a ns hl hbits hT hS => ?_, fun base hK hG TB => fnl base (facts base hK hG fun p hp => ⟨(TB p hp).code, (TB p hp).bm, (TB p hp).gP⟩) fd FD⟩
  · obtain ⟨q, hq, rfl⟩ := List.mem_map.mp hp
    exact c.empty q hq
  · obtain ⟨q, hq, rfl⟩ := List.mem_map.mp hp
    exact c.out q hq
  · obtain ⟨q, hq, rfl⟩ := List.mem_map.mp hp
    exact PySem.W.codeHd_of_K X (c.hd q hq)
  · have hq : SqH H a (ns.map V.int) := by
      rcases hS with hS | ⟨o, its, n, hk, hc, _⟩
      · exact hS
      · exact (noLst_ok c.more hk hc).elim
    obtain ⟨hh, e⟩ := level2 ns hl hbits
    refine ⟨[a], [.frz (ns.map D.int)], [.ref 0], ⟨rfl, by simp, fun m o hm => ?_, fun P hP => ?_⟩, .cons (by simp only [RV]; exact ⟨a, rfl, rfl⟩) .nil, rfl, ?_⟩
    · cases m with
      | zero =>
        cases hm
        exact ⟨a, rfl, _, hq, RVs.of_ints ns⟩
      | succ m => simp at hm
    · rw [tabs] at hP
      obtain ⟨p, hp, rfl⟩ := List.mem_map.mp hP
      exact ⟨#[], hT p hp, by first | trivial | simp [TriplesOk]⟩
    · rw [e]
      intro v H' ρ' e' rp rv
      exact rv_bl rv
end DL

set_option Elab.async false
set_option linter.all false
set_option maxRecDepth 100000
set_option maxHeartbeats 4000000
/-! DL16: in, not in over tuples of ints; a try whose body raises nothing. -/
namespace DL
open PySem PySem.Spec PyProof.Rows L2 GX GxR
def D.isIn (neg : Bool) : D → D → Hh → R D
  | .int i, .tup l, h => (match intsOf l with
    | some ns => .ok (.bl (if neg then !ns.contains i else ns.contains i)) h
    | none => .bad)
  | _, _, _ => .bad
theorem inV_ints (i : Int) : ∀ ns : List Int, inV (.int i) (ns.map V.int) = ns.contains i
  | [] => rfl
  | n :: r => by
    have ih := inV_ints i r
    unfold inV at ih ⊢
    rw [List.map_cons, List.any_cons, ih, List.contains_cons]
    congr 1
    simp [eqV, Bool.beq_eq_decide_eq, eq_comm]
theorem flat_ints : ∀ ns : List Int, (ns.map V.int).all flatV = true
  | [] => rfl
  | n :: r => by rw [List.map_cons, List.all_cons, flat_ints r]; rfl
section
variable {X : Cx} {G : Gs} {W : WX}
theorem sop_isIn {op : CmpOp} {neg : Bool} (ho : OpR X (compareOp op) (rIn X.K neg)) : SOp X G (compareOp op) (D.isIn neg) := by
  refine ⟨?_, fun x y h e h' q => ?_⟩
  · intro pins s σ H x y v u Q I rx ry h
    obtain ⟨ρ, hh, dx, dy, rp, r1, r2, sat⟩ := h
    cases dx <;> cases dy <;> first | exact sat.elim | skip
    have e1 := rv_int r1
    subst e1
    obtain ⟨p, xs, rfl, h1, h2⟩ := rv_tup r2
    unfold D.isIn at sat
    simp only at sat
    split at sat
    · rename_i ns hn
      have e := intsOf_ok hn
      subst e
      have e2 := RVs.ints h2
      subst e2
      refine ho pins s σ H _ _ v u Q I rx ry ⟨p, _, rfl, .inr h1.sqT, rfl, flat_ints ns, ?_⟩
      rw [inV_ints]
      exact sat.mk (Ext.refl _ _) rp (by show RV _ _ _ _ _ _; simp only [RV])
    · exact sat.elim
  · cases x <;> cases y <;> first | (cases q; done) | (simp only [D.isIn] at q; split at q <;> cases q)
theorem sop_in : SOp X G (compareOp .In) (D.isIn false) := sop_isIn op_in_seq
theorem sop_notIn : SOp X G (compareOp .NotIn) (D.isIn true) := sop_isIn op_notIn_seq
end
/-- a statement that raises nothing -/
def S.thru (ψ : SΦ) : SΦ := fun env h => match ψ env h with
  | .exc _ _ _ => .bad
  | r => r
theorem SS.thru {X : Cx} {G : Gs} {W : WX} {body : List Stmt} {h0 : ExceptHandler} {hs : List ExceptHandler} {pos : Pos} {ψ : SΦ} (hb : SSs X.nox G WF body ψ) : SS X G W (.Try body (h0 :: hs) [] [] pos) (S.thru ψ) := by
  refine ⟨PS.weak (ps_try_thru0 hb.ps) ?_⟩
  rintro D σ H ⟨ρ, hh, env, rp, re, sat⟩
  refine ⟨ρ, hh, env, rp, re, ?_⟩
  unfold S.thru at sat
  cases q : ψ env hh with
  | exc x e h => rw [q] at sat; exact sat.elim
  | _ => rw [q] at sat; exact sat
end DL

set_option Elab.async false
set_option linter.all false
set_option maxRecDepth 100000
set_option maxHeartbeats 4000000
/-! DL17: zip of two tuples. -/
namespace DL
open PySem PySem.Spec PyProof.Rows L2 GX GxR RZ
def zipD : List D → List D → List D
  | a :: l, b :: m => .tup [a, b] :: zipD l m
  | _, _ => []
theorem zipD_length : ∀ (l m : List D), (zipD l m).length = min l.length m.length
  | [], m => by simp [zipD]
  | _ :: _, [] => by simp [zipD]
  | a :: l, b :: m => by simp only [zipD, List.length_cons, zipD_length l m]; omega
theorem zipD_get : ∀ (l m : List D) (i : Nat) (d : D), (zipD l m)[i]? = some d → ∃ x y, l[i]? = some x ∧ m[i]? = some y ∧ d = .tup [x, y]
  | [], _, _, _, h => by simp [zipD] at h
  | _ :: _, [], _, _, h => by simp [zipD] at h
  | a :: l, b :: m, 0, d, h => by
    simp [zipD] at h
    exact ⟨a, b, rfl, rfl, h.symm⟩
  | a :: l, b :: m, i + 1, d, h => by
    obtain ⟨x, y, h1, h2, h3⟩ := zipD_get l m i d (by simpa [zipD] using h)
    exact ⟨x, y, by simpa using h1, by simpa using h2, h3⟩
section
variable {X : Cx} {G : Gs} {W : WX} {a b : Expr} {pos : Pos}
theorem rvw_two {K : PySem.W.Frag} {ρ : List Addr} {H : Hp} {T : Addr} {c d : D} {x y : V} (hT : H T = none) (r1 : RV K G ρ H c x) (r2 : RV K G ρ H d y) : RVw K G ρ (L2.upd H T (.tup [x, y])) (.tup [c, d]) (.ref T) :=
  ⟨T, _, rfl, .inl (.inl upd_same), .cons (RV.ext (Ext.laid hT) _ _ r1) (.cons (RV.ext (Ext.laid hT) _ _ r2) .nil)⟩
theorem itOk_zipT {ρ0 : List Addr} {H0 : Hp} {l m : List D} {p q : Addr} {xs ys : List V} (h1 : TupK X.K H0 p xs) (h2 : RVs X.K G ρ0 H0 l xs) (h3 : TupK X.K H0 q ys) (h4 : RVs X.K G ρ0 H0 m ys) : ItOk X.K G (RVw X.K G) ρ0 H0 ⟨zipD l m, none⟩ (ItzT X.K p q) where
  go := fun i ρ hh H e rp _ hi => by
    have hi : i < (zipD l m).length := hi
    rw [zipD_length] at hi
    obtain ⟨v, q1, _⟩ := (RVs.ext e _ _ h2).get (List.getElem?_eq_getElem (show i < l.length by omega))
    obtain ⟨u, q2, _⟩ := (RVs.ext e _ _ h4).get (List.getElem?_eq_getElem (show i < m.length by omega))
    exact ⟨xs, ys, v, u, (e.tupK h1).sqT, (e.tupK h3).sqT, q1, q2⟩
  yld := fun i ρ hh H x H' d e rp _ hd hy => by
    obtain ⟨T, x, y, rfl, hT, rfl, hx, hy⟩ := hy
    obtain ⟨c, z, g1, g2, rfl⟩ := zipD_get _ _ _ _ hd
    obtain ⟨v, q1, r1⟩ := (RVs.ext e _ _ h2).get g1
    obtain ⟨u, q2, r2⟩ := (RVs.ext e _ _ h4).get g2
    have a1 := hx xs (e.tupK h1).sqT
    rw [q1] at a1
    cases a1
    have a2 := hy ys (e.tupK h3).sqT
    rw [q2] at a2
    cases a2
    exact ⟨Ext.laid hT, rp.side hT, rvw_two hT r1 r2⟩
  stop := fun i ρ hh H e rp _ hi => by
    have hi : (zipD l m).length ≤ i := hi
    rw [zipD_length] at hi
    exact ⟨xs, ys, (e.tupK h1).sqT, (e.tupK h3).sqT, by rw [h2.length, h4.length]; omega⟩
def srcZ : D → D → Hh → R Src
  | .tup l, .tup m, h => .ok ⟨zipD l m, none⟩ h
  | _, _, _ => .bad
def I.zip (a b : EΦ) : IΦ := fun env h => (a env h).bind fun x h => (b env h).bind fun y h => srcZ x y h
theorem SI.zip {φ ψ : EΦ} {p tpos : Pos} {elts : List Expr} {kk : Nat} (hg : Gl X "zip") (hm : X.mg "zip" = none) (ha : SE X G W a φ) (hb : SE X G W b ψ) (hs : starEach [a, b] X.env = (false, eval a X.env) :: starEach [b] X.env := by rfl) (hs2 : starEach [b] X.env = (false, eval b X.env) :: starEach [] X.env := by rfl) (hs3 : ((backTo pos (starEach [b] X.env)).any fun x => x.fst) = false := by rfl) : SI X G W (RVw X.K G) (.Tuple elts kk tpos) (.Call (.Name "zip" p) [a, b] [] pos) (I.zip φ ψ) := by
  refine ⟨PI.weak (pi_zipA hg hm (pa_cons ha.pe (pa_cons hb.pe pa_nil hs2) hs) hs hs3) ?_⟩
  rintro σ H Rr ⟨ρ, hh, env, rp, re, sat⟩
  unfold I.zip at sat
  cases q1 : φ env hh with
  | bad => rw [q1] at sat; exact sat.elim
  | exc x h1 =>
    rw [q1] at sat
    exact ⟨ρ, hh, env, rp, re, by rw [q1]; exact sat⟩
  | ok x h1 =>
    rw [q1, R.bind_ok] at sat
    refine ⟨ρ, hh, env, rp, re, ?_⟩
    rw [q1]
    intro v H1 ρ1 e1 rp1 rd1
    cases q2 : ψ env h1 with
    | bad => rw [q2] at sat; exact sat.elim
    | exc y h2 =>
      rw [q2] at sat
      exact ⟨ρ1, h1, env, rp1, re.ext e1, by rw [q2]; exact fun cls dx H' ρ' e' => sat cls dx H' ρ' (e1.trans e')⟩
    | ok y h2 =>
      rw [q2, R.bind_ok] at sat
      refine ⟨ρ1, h1, env, rp1, re.ext e1, ?_⟩
      rw [q2]
      intro u H2 ρ2 e2 rp2 rd2
      cases x <;> cases y <;> first | exact sat.elim | skip
      obtain ⟨p1, xs, rfl, t1, t2⟩ := rv_tup rd1
      obtain ⟨p2, ys, rfl, t3, t4⟩ := rv_tup rd2
      exact ⟨p1, p2, xs, ys, rfl, .inr ⟨(e2.tupK t1).sqT, t3.sqT, sat _ ρ2 H2 (e1.trans e2) rp2 (itOk_zipT (e2.tupK t1) (RVs.ext e2 _ _ t2) t3 t4)⟩⟩
end
end DL

set_option Elab.async false
set_option linter.all false
set_option maxRecDepth 100000
set_option maxHeartbeats 4000000
/-! DL18: dicts: look-ups, stores, walks. -/
namespace DL
open PySem PySem.Spec PyProof.Rows L2 GX GxR RZ

theorem relV_inj {a b : V} {u : Value} (h : RelV a u) (h' : RelV b u) : a = b := by
  cases a <;> cases b <;> simp only [L2.RelV] at h h' <;> first
    | rfl
    | (subst h; cases h'; rfl)
    | (obtain ⟨t, rfl⟩ := h; obtain ⟨t', h'⟩ := h'; cases h'; rfl)
    | (obtain ⟨t, rfl⟩ := h; cases h'; done)
    | (subst h; obtain ⟨t', h'⟩ := h'; cases h'; done)
    | (subst h; cases h'; done)
    | (obtain ⟨t, rfl⟩ := h; obtain ⟨t', h'⟩ := h'; cases h'; done)

section
variable {X : Cx} {G : Gs} {W : WX} {pins : List (Addr × Obj)} {σ : L2.St} {H : Hp} {s : Shared} {ρ : List Addr} {hh : Hh}
mutual
/-- what a value is as a key -/
theorem kis (I : Inv X pins σ H s) : ∀ (n : Nat) (d : D) (v : V) (u : Value), RV X.K G ρ H d v → RelV v u → D.kok n d = true → NestedIs s.heap d.nk u ∧ d.nk.depth ≤ n
  | n, .non, v, u, r, rv, _ => by
    simp only [RV] at r
    subst r
    have : u = .none := rv
    subst this
    exact ⟨.none, by simp [D.nk, NestedKey.depth]⟩
  | n, .bl b, v, u, r, rv, _ => by
    simp only [RV] at r
    subst r
    have : u = .bool b := rv
    subst this
    exact ⟨.bool rfl, by simp [D.nk, NestedKey.depth]⟩
  | n, .int i, v, u, r, rv, _ => by
    simp only [RV] at r
    subst r
    obtain ⟨t, rfl⟩ := (show ∃ t, u = Value.int i t from rv)
    exact ⟨.int i t, by simp [D.nk, NestedKey.depth]⟩
  | n, .str x, v, u, r, rv, _ => by
    simp only [RV] at r
    subst r
    obtain ⟨t, rfl⟩ := (show ∃ t, u = Value.str x t from rv)
    exact ⟨.text x t, by simp [D.nk, NestedKey.depth]⟩
  | 0, .tup l, v, u, r, rv, k => by simp [D.kok] at k
  | n + 1, .tup l, v, u, r, rv, k => by
    simp only [RV] at r
    obtain ⟨a, xs, rfl, e2, e3⟩ := r
    have : u = .ref a := rv
    subst this
    simp only [D.kok] at k
    have key : ∃ o its m, s.heap.get? a = some o ∧ o.cls = .type "tuple" ∧ o.data = .seq its m ∧ Vals xs its.toList := by
      rcases e2 with ⟨o, h, _⟩ | ⟨o, its, m, h1, h2, _, h3, _, h5⟩
      · obtain ⟨e, _, its, rv', o', e', c⟩ := I.hok a _ h
        exact ⟨o', _, _, e', c.1, c.2.choose_spec, by simpa using rv'⟩
      · exact ⟨o, its, m, I.kIn a o h1, h2, h3, h5⟩
    obtain ⟨o, its, m, h1, h2, h3, h4⟩ := key
    obtain ⟨k1, k2⟩ := kiss I n l xs its.toList e3 h4 k
    refine ⟨.tup h1 h2 h3 k1, ?_⟩
    simp only [D.nk, NestedKey.depth]
    omega
  | n, .ref m, v, u, r, rv, k => by simp [D.kok] at k
  | n, .fn m, v, u, r, rv, k => by simp [D.kok] at k
theorem kiss (I : Inv X pins σ H s) : ∀ (n : Nat) (l : List D) (xs : List V) (us : List Value), RVs X.K G ρ H l xs → Vals xs us → D.koks n l = true → NestedAll s.heap (D.nks l) us ∧ NestedKey.depthAll (D.nks l) ≤ n
  | n, [], xs, us, r, rv, _ => by
    rw [r.inv_nil] at rv
    cases rv
    exact ⟨.nil, by simp [D.nks, NestedKey.depthAll]⟩
  | n, d :: l, xs, us, r, rv, k => by
    obtain ⟨v, q, rfl, r1, r2⟩ := r.inv_cons
    cases rv with
    | cons h t =>
      simp only [D.koks, Bool.and_eq_true] at k
      obtain ⟨a1, a2⟩ := kis I n d v _ r1 h k.1
      obtain ⟨b1, b2⟩ := kiss I n l q _ r2 t k.2
      refine ⟨.cons a1 b1, ?_⟩
      simp only [D.nks, NestedKey.depthAll]
      omega
end
theorem kisK (I : Inv X pins σ H s) {d : D} {v : V} {u : Value} (r : RV X.K G ρ H d v) (rv : RelV v u) (k : D.kok 8 d = true) : DK.KIs s.heap d.nk u := kis I 8 d v u r rv k

/-! ### entries -/
theorem EntsR.length {K : PySem.W.Frag} {H : Hp} : ∀ {l : List (D × D)} {xs : List DK.Ent}, EntsR K G ρ H l xs → xs.length = l.length
  | [], _, h => by cases h; rfl
  | _ :: _, _, ⟨x, r, e, _, t⟩ => by rw [e, List.length_cons, List.length_cons, t.length]
theorem EntsR.get {K : PySem.W.Frag} {H : Hp} : ∀ {l : List (D × D)} {xs : List DK.Ent} {i : Nat} {p : D × D}, EntsR K G ρ H l xs → l[i]? = some p → ∃ x, xs[i]? = some x ∧ EntR K G ρ H p x
  | [], _, _, _, _, e => by simp at e
  | p :: l, _, 0, q, ⟨x, r, e, h, t⟩, g => by
    simp at g
    subst g
    exact ⟨x, by rw [e]; rfl, h⟩
  | p :: l, _, i + 1, q, ⟨x, r, e, h, t⟩, g => by
    obtain ⟨y, h1, h2⟩ := t.get (i := i) (by simpa using g)
    exact ⟨y, by rw [e]; simpa using h1, h2⟩
theorem EntsR.keys {K : PySem.W.Frag} {H : Hp} : ∀ {l : List (D × D)} {xs : List DK.Ent}, EntsR K G ρ H l xs → xs.map (·.1) = l.map fun p => p.1.nk
  | [], _, h => by cases h; rfl
  | _ :: _, _, ⟨x, r, e, h, t⟩ => by rw [e, List.map_cons, List.map_cons, t.keys, h.1]
theorem EntsR.snoc {K : PySem.W.Frag} {H : Hp} {p : D × D} {x : DK.Ent} (h : EntR K G ρ H p x) : ∀ {l : List (D × D)} {xs : List DK.Ent}, EntsR K G ρ H l xs → EntsR K G ρ H (l ++ [p]) (xs ++ [x])
  | [], _, e => by cases e; exact ⟨x, [], rfl, h, rfl⟩
  | _ :: _, _, ⟨y, r, e, g, t⟩ => ⟨y, r ++ [x], by rw [e]; rfl, g, t.snoc h⟩
/-- the value at a key -/
def findD (kvs : List (D × D)) (k : NestedKey) : Option D := (kvs.find? fun p => decide (p.1.nk = k)).map (·.2)
theorem EntsR.find {K : PySem.W.Frag} {H : Hp} {k : NestedKey} : ∀ {l : List (D × D)} {xs : List DK.Ent}, EntsR K G ρ H l xs → match findD l k with
    | some d => ∃ v u, DK.valOf xs k = some u ∧ RelV v u ∧ RV K G ρ H d v
    | none => DK.valOf xs k = none
  | [], _, h => by cases h; rfl
  | p :: l, _, ⟨x, r, e, ⟨h1, h2, vk, vv, r1, r2, r3, r4⟩, t⟩ => by
    have ih := EntsR.find (k := k) t
    unfold findD DK.valOf at ih ⊢
    rw [e, List.find?_cons, List.find?_cons, h1]
    by_cases q : p.1.nk = k
    · simp only [decide_eq_true q]
      exact ⟨vv, x.2.2, rfl, r2, r4⟩
    · simp only [decide_eq_false q]
      exact ih
theorem EntsR.isSome {K : PySem.W.Frag} {H : Hp} {k : NestedKey} {l : List (D × D)} {xs : List DK.Ent} (h : EntsR K G ρ H l xs) : (DK.valOf xs k).isSome = (findD l k).isSome := by
  have := h.find (k := k)
  split at this
  · rename_i d hd
    obtain ⟨v, u, e, _⟩ := this
    rw [e, hd]; rfl
  · rename_i hd
    rw [this, hd]; rfl
def replD (k : NestedKey) (d : D) (p : D × D) : D × D := if p.1.nk = k then (p.1, d) else p
def putD (kvs : List (D × D)) (x d : D) : List (D × D) := if (findD kvs x.nk).isSome then kvs.map (replD x.nk d) else kvs ++ [(x, d)]
def epD (kvs : List (D × D)) (x : D) (ep : Nat) : Nat := if (findD kvs x.nk).isSome then ep else ep + 1
theorem EntsR.repl {K : PySem.W.Frag} {H : Hp} {k : NestedKey} {d : D} {v : V} {u : Value} (rv : RelV v u) (r : RV K G ρ H d v) : ∀ {l : List (D × D)} {xs : List DK.Ent}, EntsR K G ρ H l xs → EntsR K G ρ H (l.map (replD k d)) (xs.map (DK.repl k u))
  | [], _, h => by cases h; rfl
  | p :: l, _, ⟨x, q, e, ⟨h1, h2, vk, vv, r1, r2, r3, r4⟩, t⟩ => by
    refine ⟨DK.repl k u x, q.map (DK.repl k u), by rw [e]; rfl, ?_, t.repl rv r⟩
    unfold DK.repl replD
    rw [h1]
    by_cases z : p.1.nk = k
    · rw [if_pos z, if_pos z]
      exact ⟨rfl, h2, vk, v, r1, rv, r3, r⟩
    · rw [if_neg z, if_neg z]
      exact ⟨h1, h2, vk, vv, r1, r2, r3, r4⟩
theorem EntsR.put {K : PySem.W.Frag} {H : Hp} {x d : D} {vx v : V} {ux u : Value} (kx : D.kok 8 x = true) (rx : RelV vx ux) (rvx : RV K G ρ H x vx) (rv : RelV v u) (r : RV K G ρ H d v) {l : List (D × D)} {xs : List DK.Ent} (h : EntsR K G ρ H l xs) : EntsR K G ρ H (putD l x d) (DK.put xs x.nk ux u) := by
  unfold putD DK.put
  rw [h.isSome]
  split
  · exact h.repl rv r
  · exact h.snoc ⟨rfl, kx, vx, v, rx, rv, rvx, r⟩
theorem nd_put {kvs : List (D × D)} {x d : D} (h : (kvs.map fun p => p.1.nk).Nodup) : ((putD kvs x d).map fun p => p.1.nk).Nodup := by
  unfold putD
  split
  · have : (kvs.map (replD x.nk d)).map (fun p => p.1.nk) = kvs.map fun p => p.1.nk := by
      rw [List.map_map]
      refine List.map_congr_left fun p _ => ?_
      show (replD x.nk d p).1.nk = p.1.nk
      unfold replD
      split <;> rfl
    rw [this]; exact h
  · rename_i hs
    rw [List.map_append, List.nodup_append]
    refine ⟨h, by simp, fun a ha b hb e => ?_⟩
    simp at hb
    subst hb e
    obtain ⟨p, hp, hpe⟩ := List.mem_map.mp ha
    apply hs
    unfold findD
    rw [Option.isSome_map, List.find?_isSome]
    exact ⟨p, hp, by simpa using hpe⟩
theorem put_length (kvs : List (D × D)) (x d : D) : (putD kvs x d).length ≤ kvs.length + 1 := by
  unfold putD
  split <;> simp

/-! ### the dict at an address -/
def dctAt (h : Hh) : D → Option (Nat × List (D × D) × Nat)
  | .ref n => (match h[n]? with
    | some (.dct l ep) => some (n, l, ep)
    | _ => none)
  | _ => none
theorem dctAt_ok {K : PySem.W.Frag} {H : Hp} {d : D} {v : V} {n : Nat} {l : List (D × D)} {ep : Nat} (rp : Rep K G ρ hh H) (r : RV K G ρ H d v) (h : dctAt hh d = some (n, l, ep)) : ∃ a xs, v = .ref a ∧ ρ[n]? = some a ∧ DctR K G ρ H a l ep xs ∧ hh[n]? = some (.dct l ep) := by
  unfold dctAt at h
  split at h
  · split at h
    · rename_i l' ep' hl
      cases h
      simp only [RV] at r
      obtain ⟨a, rfl, ha⟩ := r
      obtain ⟨b, e1, xs, e2⟩ := rp.ob _ _ hl
      rw [ha] at e1; cases e1
      exact ⟨a, xs, rfl, ha, e2, hl⟩
    · cases h
  · cases h
theorem DctR.isD {l : List (D × D)} {ep : Nat} {a : Addr} {xs : List DK.Ent} (hw : X.w = G.w) (I : Inv X pins σ H s) (h : DctR X.K G ρ H a l ep xs) : DK.IsD X.w s.heap a xs ep := by
  refine ⟨?_, ?_, by rw [h.es.keys]; exact h.nd⟩
  · have := (I.hok a _ h.raw).1
    rw [← hw] at this
    exact this
  · have key : ∀ {l : List (D × D)} {xs : List DK.Ent}, EntsR X.K G ρ H l xs → ∀ x ∈ xs, DK.KIs s.heap x.1 x.2.1 := by
      intro l
      induction l with
      | nil => intro xs h x hx; cases h; cases hx
      | cons p l ih =>
        intro xs h x hx
        obtain ⟨y, r, e, ⟨h1, h2, vk, vv, r1, r2, r3, r4⟩, t⟩ := h
        rw [e] at hx
        rcases List.mem_cons.mp hx with rfl | hx
        · rw [h1]; exact kisK I r3 r1 h2
        · exact ih t x hx
    exact key h.es
theorem dctW {l : List (D × D)} {ep ep' : Nat} {a : Addr} {xs ys : List DK.Ent} {h' : Heap} (hw : X.w = G.w) (I : Inv X pins σ H s) (h : DctR X.K G ρ H a l ep xs) (hd : DK.IsD X.w h' a ys ep') (hs : Heap.SameBut a s.heap h') {t' : Nat} : Inv X pins σ (upd H a (.ext (RawD G.w a ys ep'))) { s with heap := h', toks := t' } := by
  obtain ⟨o, es, ho, hc, hdt, he⟩ := hd.ob
  refine d_write I (by rw [h.raw]; exact True.intro) hs ⟨o, ho⟩ ⟨⟨o, es, ho, hc, hdt, by rw [← hw]; exact he⟩, ⟨o, ho⟩, ?_⟩
  rintro h1 h2 ⟨o, es, e1, e2⟩ k
  exact ⟨o, es, k o e1, e2⟩

/-! ### k in d -/
def D.inK (neg : Bool) (k d : D) (h : Hh) : R D := match dctAt h d with
  | some (_, l, _) => if D.kok 8 k then .ok (.bl (if neg then !(findD l k.nk).isSome else (findD l k.nk).isSome)) h else .bad
  | none => .bad
theorem op_inK (hu : X.A.units + 65 < cLine) (hw : X.w = G.w) : OpR X (compareOp .In) (rOp X.K G (D.inK false)) := by
  intro pins s σ H x y v u Q I rx ry h
  obtain ⟨ρ, hh, dx, dy, rp, r1, r2, sat⟩ := h
  unfold D.inK at sat
  split at sat
  · rename_i n l ep hl
    obtain ⟨a, xs, rfl, ha, hd, _⟩ := dctAt_ok rp r2 hl
    split at sat
    · rename_i hk
      have : u = .ref a := ry
      subst this
      refine DK.in_d (k := dx.nk) (by show X.A.units + 1 + 8 < cLine; omega) (kisK I r1 rx hk) hd.sm (hd.isD hw I) ?_
      rw [hd.es.isSome]
      exact ⟨.bl _, H, I.tok _, rfl, Sat.mk sat (Ext.refl _ _) rp (by show RV _ _ _ _ _ _; simp only [RV]; rfl)⟩
    · exact sat.elim
  · exact sat.elim
theorem op_notInK (hu : X.A.units + 65 < cLine) (hw : X.w = G.w) : OpR X (compareOp .NotIn) (rOp X.K G (D.inK true)) := by
  intro pins s σ H x y v u Q I rx ry h
  obtain ⟨ρ, hh, dx, dy, rp, r1, r2, sat⟩ := h
  unfold D.inK at sat
  split at sat
  · rename_i n l ep hl
    obtain ⟨a, xs, rfl, ha, hd, _⟩ := dctAt_ok rp r2 hl
    split at sat
    · rename_i hk
      have : u = .ref a := ry
      subst this
      refine DK.notIn_d (k := dx.nk) (by show X.A.units + 1 + 8 < cLine; omega) (kisK I r1 rx hk) hd.sm (hd.isD hw I) ?_
      rw [hd.es.isSome]
      exact ⟨.bl _, H, I.tok _, rfl, Sat.mk sat (Ext.refl _ _) rp (by show RV _ _ _ _ _ _; simp only [RV]; rfl)⟩
    · exact sat.elim
  · exact sat.elim
theorem nox_inK (neg : Bool) : ∀ x y h e h', D.inK neg x y h ≠ .exc e h' := by
  intro x y h e h' q
  unfold D.inK at q
  split at q
  · split at q <;> cases q
  · cases q
end
end DL

set_option Elab.async false
set_option linter.all false
set_option maxRecDepth 100000
set_option maxHeartbeats 4000000
/-! DL19: d[k], d[k] = v, d[k] op= v, d.get, {..}. -/
namespace DL
open PySem PySem.Spec PyProof.Rows L2 GX GxR RZ
section
variable {X : Cx} {G : Gs} {W : WX} {a b o i e iter tg : Expr} {es : List Expr} {pos tpos : Pos}
theorem dct_noDict {s : Shared} {a : Addr} {xs : List DK.Ent} {ep : Nat} (h : DK.IsD X.w s.heap a xs ep) : ∀ b, Value.ref a = .ref b → ∃ ob, s.heap.get? b = some ob ∧ ob.dict = none := fun b q => by
  cases q
  obtain ⟨o, es, ho, hc, _⟩ := h.ob
  exact ⟨o, ho, hc.2.1⟩
/-! ### d[k] -/
def D.ixK (x y : D) (h : Hh) : R D := match dctAt h x with
  | some (_, l, _) => if D.kok 8 y then (match findD l y.nk with
    | some d => .ok d h
    | none => .bad) else .bad
  | none => D.ix x y h
theorem ix_K (hu : X.A.units + 65 < cLine) (hw : X.w = G.w) : IxR X (rOp X.K G D.ixK) := by
  intro value slice pins s σ H x y v u Q I rx ry h hs
  obtain ⟨ρ, hh, dx, dy, rp, r1, r2, sat⟩ := h
  unfold D.ixK at sat
  split at sat
  · rename_i n l ep hl
    obtain ⟨a, xs, rfl, ha, hd, _⟩ := dctAt_ok rp r1 hl
    split at sat
    · rename_i hk
      have hf := hd.es.find (k := dy.nk)
      split at sat
      · rename_i d hfd
        rw [hfd] at hf
        obtain ⟨vd, ud, h1, h2, h3⟩ := hf
        have : v = .ref a := rx
        subst this
        have hD := hd.isD hw I
        exact subscriptTail_builtinR (x := ud) hD.typeIs PySem.F.slot_dict_getitem.lookup
          (DK.getItem_d (Q := fun r s' => r = ud ∧ EP X pins σ Q r s') (by show X.A.units + 1 + 8 < cLine; omega) (kisK I r2 ry hk) hD h1 ⟨rfl, vd, H, I.tok _, h2, Sat.mk sat (Ext.refl _ _) rp h3⟩) hs
      · exact sat.elim
    · exact sat.elim
  · exact ix_D value slice pins s σ H x y v u Q I rx ry ⟨ρ, hh, dx, dy, rp, r1, r2, sat⟩ hs
theorem nox_ixK : ∀ x y h e h', D.ixK x y h ≠ .exc e h' := by
  intro x y h e h' q
  unfold D.ixK at q
  split at q
  · split at q
    · split at q <;> cases q
    · cases q
  · exact nox_ix _ _ _ _ _ q
theorem SE.ixK {φ ψ : EΦ} (hu : X.A.units + 65 < cLine) (hw : X.w = G.w) (ha : SE X G W a φ) (hb : SE X G W b ψ) (hs : PlainIx b := by exact fun _ _ => rfl) : SE X G W (.Subscript a b pos) (E.op2 D.ixK φ ψ) := by
  refine ⟨PE.weak (pe_ix (ix_K (G := G) hu hw) ha.pe hb.pe hs) ?_⟩
  rintro σ H Q ⟨ρ, hh, env, rp, re, sat⟩
  refine tG.seq later_V rp re sat fun x v ρ1 hh1 H1 e1 rp1 re1 rx sat1 => ?_
  refine tG.seq later_V rp1 re1 sat1 fun y u ρ2 hh2 H2 e2 rp2 re2 ry sat2 => ?_
  exact ⟨ρ2, hh2, x, y, rp2, RV.ext e2 _ _ rx, ry, sat2.nox (nox_ixK _ _ _)⟩

/-! ### d[k] = v -/
def setK (x y d : D) (env : Env) (h : Hh) : R Env := match dctAt h x with
  | some (n, l, ep) => if D.kok 8 y && Nat.ble l.length 16000000 then .ok env (h.set n (.dct (putD l y d) (epD l y ep))) else .bad
  | none => setL x y d env h
def Tg.subK (a b : EΦ) : GΦ := fun d env h => (a env h).bind fun x h => (b env h).bind fun y h => setK x y d env h
/-- a store, by the heap of data -/
def rSetK (K : PySem.W.Frag) (G : Gs) : V → V → V → Hp → (Hp → Prop) → Prop := fun o i v H Q => ∃ ρ hh x y d, Rep K G ρ hh H ∧ RV K G ρ H x o ∧ RV K G ρ H y i ∧ RV K G ρ H d v ∧
  (setK x y d [] hh).sat (fun _ hh' => ∀ H', Ext ρ H ρ H' → Rep K G ρ hh' H' → Q H') fun _ _ => False
theorem setK_env (x y d : D) (env env' : Env) (h : Hh) {P : Hh → Prop} (q : (setK x y d env h).sat (fun e hh => e = env → P hh) fun _ _ => False) : (setK x y d env' h).sat (fun _ hh => P hh) fun _ _ => False := by
  unfold setK at q ⊢
  split
  · rename_i n l ep hl
    rw [hl] at q
    simp only at q
    split
    · rename_i c
      rw [if_pos c] at q
      exact q rfl
    · rename_i c
      rw [if_neg c] at q
      exact q
  · rename_i hl
    rw [hl] at q
    simp only at q
    unfold setL at q ⊢
    cases y <;> first | exact q | skip
    simp only at q ⊢
    cases h1 : lstAt h x with
    | none => rw [h1] at q; exact q
    | some p =>
      obtain ⟨n, l⟩ := p
      rw [h1] at q
      simp only at q ⊢
      rename_i _ k
      cases h2 : ixN l.length k with
      | none => rw [h2] at q; exact q
      | some j => rw [h2] at q; exact q rfl
theorem epo_epD {K : PySem.W.Frag} {ρ : List Addr} {H : Hp} {l : List (D × D)} {xs : List DK.Ent} {y : D} {ep : Nat} (h : EntsR K G ρ H l xs) : DK.epo xs y.nk ep = epD l y ep := by
  unfold DK.epo epD
  rw [h.isSome]
theorem pset_K (hu : X.A.units + 65 < cLine) (hw : X.w = G.w) : PSet X (rSetK X.K G) := by
  intro pins s σ H o i v ov iv u Q I ro ri rv h
  obtain ⟨ρ, hh, x, y, d, rp, r1, r2, r3, sat⟩ := h
  unfold setK at sat
  split at sat
  · rename_i n l ep hl
    obtain ⟨a, xs, rfl, ha, hd, hn⟩ := dctAt_ok rp r1 hl
    split at sat
    · rename_i hk
      simp only [Bool.and_eq_true, Nat.ble_eq] at hk
      have : ov = .ref a := ro
      subst this
      have hD := hd.isD hw I
      have hlen := hd.es.length
      refine DK.setItem_d (by show X.A.units + 1 + 8 < cLine; omega) (kisK I r2 ri hk.1) hD (fun h' hD' hs => ?_) (by rw [hlen, sizeLine_eq]; omega)
      have hI := dctW hw I hd hD' hs (t' := s.toks + y.nk.draws)
      refine ⟨_, hI, sat _ ?_ ?_⟩
      · exact (rp.setM (mo' := .dct (putD l y d) (epD l y ep)) hn ha hd.raw mutb_ext (fun ps z => (nomatch z)) fun e => ⟨DK.put xs y.nk iv u, by rw [upd_same, epo_epD hd.es], hd.sm, nd_put hd.nd, by have := put_length l y d; rw [sizeLine_eq]; omega, (hd.es.put hk.1 ri r2 rv r3).ext e⟩).2
      · exact (rp.setM (mo' := .dct (putD l y d) (epD l y ep)) hn ha hd.raw mutb_ext (fun ps z => (nomatch z)) fun e => ⟨DK.put xs y.nk iv u, by rw [upd_same, epo_epD hd.es], hd.sm, nd_put hd.nd, by have := put_length l y d; rw [sizeLine_eq]; omega, (hd.es.put hk.1 ri r2 rv r3).ext e⟩).1
    · exact sat.elim
  · unfold setL at sat
    cases y <;> first | exact sat.elim | skip
    rename_i k
    simp only at sat
    split at sat
    · rename_i n l hl
      obtain ⟨a, ys, rfl, g1, g2, g3, g4⟩ := lstAt_ok rp r1 hl
      split at sat
      · rename_i j hj
        have ek := rv_int r2
        subst ek
        obtain ⟨s1, s2⟩ := rp.set g4 g1 g2 (RVs.set r3 j g3)
        exact set_list pins s σ H _ _ v ov iv u Q I ro ri rv ⟨a, ys, k, j, rfl, rfl, g2, by rw [g3.length]; exact hj, sat _ s2 s1⟩
      · exact sat.elim
    · exact sat.elim
theorem SG.subK {φ ψ : EΦ} (hu : X.A.units + 65 < cLine) (hw : X.w = G.w) (ho : SE X G WF o φ) (hi : SE X G WF i ψ)
    (ha : ∀ v, assign (.Subscript o i pos) X.env v = (do
      let ov ← holding [v] (eval o X.env)
      let iv ← holding [v, ov] (eval i X.env)
      standAt pos
      holding [v, ov, iv] (setItem ov iv v)
      release [v, ov, iv] []) := by intro _; rfl) : SG X G (RV X.K G) (.Subscript o i pos) (Tg.subK φ ψ) := by
  refine ⟨PG.weak (pg_sub ho.pe hi.pe (pset_K (G := G) hu hw) ha) ?_⟩
  rintro v σ H Q ⟨ρ, hh, env, d, rp, re, rd, sat⟩
  refine ⟨ρ, hh, env, rp, re, R.sat_mono (R.sat_bind sat) (fun x hh1 q vx H1 ρ1 e1 rp1 rx => ?_) fun _ _ z => z.elim⟩
  refine ⟨ρ1, hh1, env, rp1, re.ext e1, R.sat_mono (R.sat_bind q) (fun y hh2 q2 vy H2 ρ2 e2 rp2 ry => ?_) fun _ _ z => z.elim⟩
  refine ⟨ρ2, hh2, x, y, d, rp2, RV.ext e2 _ _ rx, ry, RV.ext (e1.trans e2) _ _ rd, ?_⟩
  refine setK_env x y d env [] hh2 (R.sat_mono q2 (fun env' hh3 q3 ee H' e3 rp3 => ?_) fun _ _ z => z)
  subst ee
  exact q3 ρ2 σ H' (e1.trans (e2.trans e3)) rp3 (re.ext (e1.trans (e2.trans e3)))

/-! ### d[k] op= v -/
def getK (x y : D) (h : Hh) : R D := match dctAt h x with
  | some (_, l, _) => if D.kok 8 y then (match findD l y.nk with
    | some d => .ok d h
    | none => .bad) else .bad
  | none => .bad
/-- the store behind it: into a dict -/
def putK' (x y d : D) (env : Env) (h : Hh) : R Env := match dctAt h x with
  | some _ => setK x y d env h
  | none => .bad
def S.augK (f : D → D → Hh → R D) (a b c : EΦ) : SΦ := fun env h => (a env h).toS env fun x h => (b env h).toS env fun y h => (getK x y h).toS env fun old h => (c env h).toS env fun v h => (f old v h).toS env fun new h => (putK' x y new env h).toG .nx
theorem SS.augK {value : Expr} {op : Operator} {f : D → D → Hh → R D} {φ ψ χ : EΦ} (hu : X.A.units + 65 < cLine) (hw : X.w = G.w) (ho : SE X G W o φ) (hi : SE X G W i ψ) (hv : SE X G W value χ) (hop : PIp X op (rOp X.K G f)) (nox : ∀ x y h e h', f x y h ≠ .exc e h')
    (ha : ∀ ov iv new, augStore i ov iv new = (do holding [new, ov, iv] (setItem ov iv new); release [new, ov, iv] []; pure .next) := by intros; rfl) : SS X G W (.AugAssign (.Subscript o i tpos) op value pos) (S.augK f φ ψ χ) := by
  refine ⟨⟨fun pins s σ H D I h => ?_⟩⟩
  obtain ⟨ρ, hh, env, rp, re, sat⟩ := h
  unfold S.augK at sat
  have q0 := tG.toS (rep := rV X.K G) (rest := fun vo H1 => ∃ ρ1 hh1 x, Rep X.K G ρ1 hh1 H1 ∧ RE X.K G ρ1 H1 env σ ∧ RV X.K G ρ1 H1 x vo ∧ SatS X.K G W ρ1 H1 D ((ψ env hh1).toS env fun y h => (getK x y h).toS env fun old h => (χ env h).toS env fun v h => (f old v h).toS env fun new h => (putK' x y new env h).toG .nx)) rp re sat
    (fun x v ρ1 hh1 H1 e1 rp1 re1 rx sat1 => ⟨ρ1, hh1, x, rp1, re1, rx, sat1⟩)
  refine wpAny_AugAssign_SubscriptAny (thn (ho.pe.run pins s σ H _ I q0) fun ov s1 ⟨vo, H1, I1, ro, ρ1, hh1, x, rp1, re1, rx, sat1⟩ => ?_) ha
  have q1 := tG.toS (rep := rV X.K G) (rest := fun vi H2 => ∃ ρ2 hh2 y, Ext ρ1 H1 ρ2 H2 ∧ Rep X.K G ρ2 hh2 H2 ∧ RE X.K G ρ2 H2 env σ ∧ RV X.K G ρ2 H2 y vi ∧ SatS X.K G W ρ2 H2 D ((getK x y hh2).toS env fun old h => (χ env h).toS env fun v h => (f old v h).toS env fun new h => (putK' x y new env h).toG .nx)) rp1 re1 sat1
    (fun y v ρ2 hh2 H2 e2 rp2 re2 ry sat2 => ⟨ρ2, hh2, y, e2, rp2, re2, ry, sat2⟩)
  refine thn (hi.pe.run pins s1 σ H1 _ I1 q1) fun iv s2 ⟨vi, H2, I2, ri, ρ2, hh2, y, e2, rp2, re2, ry, sat2⟩ => ?_
  have rx2 := RV.ext e2 _ _ rx
  unfold getK at sat2
  split at sat2
  · rename_i n l ep hl
    obtain ⟨a, xs, rfl, hρ, hd, hn⟩ := dctAt_ok rp2 rx2 hl
    split at sat2
    · rename_i hk
      have hf := hd.es.find (k := y.nk)
      split at sat2
      · rename_i d hfd
        rw [hfd] at hf
        obtain ⟨vd, ud, h1, h2, h3⟩ := hf
        have : ov = .ref a := ro
        subst this
        refine DK.getItem_d (by show X.A.units + 1 + 8 < cLine; omega) (kisK I2 ry ri hk) (hd.isD hw I2) h1 ?_
        have sat2 : SatS X.K G W ρ2 H2 D ((χ env hh2).toS env fun v h => (f d v h).toS env fun new h => (putK' x y new env h).toG .nx) := sat2
        have q2 := tG.toS (rep := rV X.K G) (rest := fun vv H3 => ∃ ρ3 hh3 z, Ext ρ2 H2 ρ3 H3 ∧ Rep X.K G ρ3 hh3 H3 ∧ RE X.K G ρ3 H3 env σ ∧ RV X.K G ρ3 H3 z vv ∧ SatS X.K G W ρ3 H3 D ((f d z hh3).toS env fun new h => (putK' x y new env h).toG .nx)) rp2 re2 sat2
          (fun z v ρ3 hh3 H3 e3 rp3 re3 rz sat3 => ⟨ρ3, hh3, z, e3, rp3, re3, rz, sat3⟩)
        refine thn (hv.pe.run pins _ σ H2 _ (I2.tok _) q2) fun wv s3 ⟨vv, H3, I3, rv3, ρ3, hh3, z, e3, rp3, re3, rz, sat3⟩ => ?_
        cases qf : f d z hh3 with
        | exc x2 hh4 => exact (nox _ _ _ _ _ qf).elim
        | bad => rw [qf] at sat3; exact sat3.elim
        | ok new hh4 =>
          rw [qf] at sat3
          refine thn (hop pins s3 σ H3 vd vv ud wv (fun vn H4 => ∃ ρ4, Ext ρ3 H3 ρ4 H4 ∧ Rep X.K G ρ4 hh4 H4 ∧ RV X.K G ρ4 H4 new vn) I3 h2 rv3 ⟨ρ3, hh3, d, z, rp3, RV.ext e3 _ _ h3, rz, ?_⟩) fun wn s4 ⟨vn, H4, I4, rn, ρ4, e4, rp4, rvn⟩ => ?_
          · rw [qf]
            exact fun b H' ρ' e rp' r => ⟨ρ', e, rp', r⟩
          · have rx4 := RV.ext (e3.trans e4) _ _ rx2
            have ry4 := RV.ext (e3.trans e4) _ _ ry
            have sat4 : SatS X.K G W ρ3 H3 D ((putK' x y new env hh4).toG .nx) := sat3
            unfold putK' at sat4
            split at sat4
            · refine thn (pset_K (G := G) hu hw pins s4 σ H4 (.ref a) vi vn _ iv wn (fun H5 => D.nx σ H5) I4 rfl ri rn ⟨ρ4, hh4, x, y, new, rp4, rx4, ry4, rvn, ?_⟩) fun _ s5 ⟨H5, I5, q5⟩ => ⟨σ, H5, I5, q5⟩
              refine setK_env x y new env [] hh4 (P := fun hh' => ∀ H', Ext ρ4 H4 ρ4 H' → Rep X.K G ρ4 hh' H' → D.nx σ H') ?_
              cases qs : setK x y new env hh4 with
              | exc x2 h5 => rw [qs] at sat4; exact sat4.elim
              | bad => rw [qs] at sat4; exact sat4.elim
              | ok env' h5 =>
                rw [qs] at sat4
                intro ee H' e5 rp5
                subst ee
                exact sat4 ρ4 σ H' (e4.trans e5) rp5 (re3.ext (e4.trans e5))
            · exact sat4.elim
      · exact sat2.elim
    · exact sat2.elim
  · exact sat2.elim

/-! ### d.get(k), d.get(k, x) -/
def isDc : D → Hh → Bool
  | .ref n, h => (match h[n]? with
    | some (.dct _ _) => true
    | _ => false)
  | _, _ => false
theorem isDc_at {d : D} {h : Hh} (c : isDc d h = true) : ∃ n l ep, dctAt h d = some (n, l, ep) := by
  cases d <;> first | (cases c; done) | skip
  rename_i n
  simp only [isDc] at c
  split at c
  · rename_i l ep hl
    exact ⟨n, l, ep, by unfold dctAt; simp only [hl]⟩
  · cases c
theorem ty_D (hw : X.w = G.w) : TyOk X "dict" (tyD X.K G isDc) := by
  intro pins σ H s x v I r h
  obtain ⟨ρ, hh, d, rp, rd, hc⟩ := h
  obtain ⟨n, l, ep, hl⟩ := isDc_at hc
  obtain ⟨a, xs, rfl, ha, hd, _⟩ := dctAt_ok rp rd hl
  have : v = .ref a := r
  subst this
  have hD := hd.isD hw I
  exact ⟨hD.typeIs, dct_noDict hD⟩
def D.dget (d : D) (ds : List D) (h : Hh) : R D := match dctAt h d, ds with
  | some (_, l, _), [y] => if D.kok 8 y then .ok ((findD l y.nk).getD .non) h else .bad
  | some (_, l, _), [y, z] => if D.kok 8 y then .ok ((findD l y.nk).getD z) h else .bad
  | _, _ => .bad
theorem sm_dget (hu : X.A.units + 65 < cLine) (hw : X.w = G.w) : SMet X G "dict.get" D.dget := by
  refine ⟨fun pins s σ H x xs v us Q I rx rs h => ?_, fun d ds h e h' q => ?_⟩
  · obtain ⟨ρ, hh, d, ds, rp, rd, rds, sat⟩ := h
    unfold D.dget at sat
    split at sat
    · rename_i n l ep y hl
      obtain ⟨a, ents, rfl, ha, hd, _⟩ := dctAt_ok rp rd hl
      split at sat
      · rename_i hk
        obtain ⟨w1, rfl, r1⟩ := rds.one
        cases rs with
        | cons ry t =>
          cases t
          have : v = .ref a := rx
          subst this
          refine DK.get_d (by show X.A.units + 1 + 8 < cLine; omega) (kisK I r1 ry hk) hd.sm (hd.isD hw I) ?_
          have hf := hd.es.find (k := y.nk)
          cases q : findD l y.nk with
          | some z =>
            rw [q] at hf sat
            obtain ⟨vd, ud, h1, h2, h3⟩ := hf
            rw [h1]
            exact ⟨vd, H, I.tok _, h2, Sat.mk sat (Ext.refl _ _) rp h3⟩
          | none =>
            rw [q] at hf sat
            rw [hf]
            exact ⟨.non, H, I.tok _, rfl, Sat.mk sat (Ext.refl _ _) rp (by show RV _ _ _ _ D.non _; simp only [RV])⟩
      · exact sat.elim
    · rename_i n l ep y z hl
      obtain ⟨a, ents, rfl, ha, hd, _⟩ := dctAt_ok rp rd hl
      split at sat
      · rename_i hk
        obtain ⟨w1, w2, rfl, r1, r2⟩ := RVs.two rds
        cases rs with
        | cons ry t =>
          cases t with
          | cons rz t =>
            cases t
            have : v = .ref a := rx
            subst this
            refine DK.getOr_d (by show X.A.units + 1 + 8 < cLine; omega) (kisK I r1 ry hk) hd.sm (hd.isD hw I) ?_
            have hf := hd.es.find (k := y.nk)
            cases q : findD l y.nk with
            | some d2 =>
              rw [q] at hf sat
              obtain ⟨vd, ud, h1, h2, h3⟩ := hf
              rw [h1]
              exact ⟨vd, H, I.tok _, h2, Sat.mk sat (Ext.refl _ _) rp h3⟩
            | none =>
              rw [q] at hf sat
              rw [hf]
              exact ⟨w2, H, I.tok _, rz, Sat.mk sat (Ext.refl _ _) rp r2⟩
      · exact sat.elim
    · exact sat.elim
  · unfold D.dget at q
    split at q
    · split at q <;> cases q
    · split at q <;> cases q
    · cases q
end
end DL

set_option Elab.async false
set_option linter.all false
set_option maxRecDepth 100000
set_option maxHeartbeats 4000000
/-! DL20: displays of dicts, their walks, their lengths, lists of their keys and values. -/
namespace DL
open PySem PySem.Spec PyProof.Rows L2 GX GxR RZ

/-! ### {k: v, ..} -/
abbrev PΦ := Env → Hh → R (List (D × D))
def PsR (K : PySem.W.Frag) (G : Gs) (ρ : List Addr) (H : Hp) : List (D × D) → List (V × V) → Prop
  | [], ps => ps = []
  | p :: l, ps => ∃ q r, ps = q :: r ∧ RV K G ρ H p.1 q.1 ∧ RV K G ρ H p.2 q.2 ∧ PsR K G ρ H l r
theorem PsR.ext {K : PySem.W.Frag} {G : Gs} {ρ ρ' : List Addr} {H H' : Hp} (e : Ext ρ H ρ' H') : ∀ {l : List (D × D)} {ps : List (V × V)}, PsR K G ρ H l ps → PsR K G ρ' H' l ps
  | [], _, h => h
  | _ :: _, _, ⟨q, r, e1, h1, h2, t⟩ => ⟨q, r, e1, RV.ext e _ _ h1, RV.ext e _ _ h2, t.ext e⟩
def rPs (K : PySem.W.Frag) (G : Gs) : Hp → List Addr → Hp → List (D × D) → List (V × V) → Prop := fun _ ρ H d v => PsR K G ρ H d v
theorem later_Ps {K : PySem.W.Frag} {G : Gs} : Later (rPs K G) := fun _ _ _ _ _ _ _ _ _ _ h => h
def P.nil : PΦ := fun _ h => .ok [] h
def P.cons (a b : EΦ) (c : PΦ) : PΦ := fun env h => (a env h).bind fun x h => (b env h).bind fun y h => (c env h).bind fun l h => .ok ((x, y) :: l) h
structure SP (X : Cx) (G : Gs) (W : WX) (pos : Pos) (keys : List (Option Expr)) (values : List Expr) (φ : PΦ) : Prop where
  run : ∀ (pins : List (Addr × Obj)) (s : Shared) (σ : L2.St) (H : Hp) (Q : List (V × V) → Hp → Prop), L2.Inv X pins σ H s → tG X.K G W (rPs X.K G) φ σ H Q →
    wpAny (model X.prog X.w) X.A (evalPairs (pairTrees keys values X.env pos)) (fun vs s' => ∃ ps H', L2.Inv X pins σ H' s' ∧ VV ps vs ∧ Q ps H') X.xe s
section
variable {X : Cx} {G : Gs} {W : WX} {a b o i e iter tg : Expr} {es : List Expr} {pos tpos : Pos}
theorem SP.nil : SP X G W pos [] [] P.nil := ⟨fun pins s σ H Q I ⟨ρ, hh, env, rp, re, sat⟩ => pairTrees_nil_walk ⟨[], H, I, .nil, Sat.mk (rep2 := rPs X.K G) sat (Ext.refl _ _) rp rfl⟩⟩
theorem SP.cons {ks : List (Option Expr)} {vs : List Expr} {φ ψ : EΦ} {χ : PΦ} (ha : SE X G W a φ) (hb : SE X G W b ψ) (hc : SP X G W pos ks vs χ) : SP X G W pos (some a :: ks) (b :: vs) (P.cons φ ψ χ) := by
  refine ⟨fun pins s σ H Q I ⟨ρ, hh, env, rp, re, sat⟩ => ?_⟩
  have q0 := tG.seq (rep1 := rV X.K G) (rest := fun vx H1 => ∃ ρ1 hh1 x, Rep X.K G ρ1 hh1 H1 ∧ RE X.K G ρ1 H1 env σ ∧ RV X.K G ρ1 H1 x vx ∧ Sat X.K G W (rPs X.K G) ρ1 H1 σ Q ((ψ env hh1).bind fun y h => (χ env h).bind fun l h => .ok ((x, y) :: l) h)) later_Ps rp re sat
    fun x v ρ1 hh1 H1 e1 rp1 re1 rx sat1 => ⟨ρ1, hh1, x, rp1, re1, rx, sat1⟩
  refine pairTrees_cons_walk (thn (ha.pe.run pins s σ H _ I q0) fun u s1 ⟨vx, H1, I1, rx, ρ1, hh1, x, rp1, re1, rdx, sat1⟩ => ?_)
  have q1 := tG.seq (rep1 := rV X.K G) (rest := fun vy H2 => ∃ ρ2 hh2 y, Ext ρ1 H1 ρ2 H2 ∧ Rep X.K G ρ2 hh2 H2 ∧ RE X.K G ρ2 H2 env σ ∧ RV X.K G ρ2 H2 y vy ∧ Sat X.K G W (rPs X.K G) ρ2 H2 σ Q ((χ env hh2).bind fun l h => .ok ((x, y) :: l) h)) later_Ps rp1 re1 sat1
    fun y v ρ2 hh2 H2 e2 rp2 re2 ry sat2 => ⟨ρ2, hh2, y, e2, rp2, re2, ry, sat2⟩
  refine thn (hb.pe.run pins s1 σ H1 _ I1 q1) fun w2 s2 ⟨vy, H2, I2, ry, ρ2, hh2, y, e2, rp2, re2, rdy, sat2⟩ => ?_
  have q2 := tG.seq (rep1 := rPs X.K G) (rest := fun ps H3 => Q ((vx, vy) :: ps) H3) later_Ps rp2 re2 sat2
    fun l ps ρ3 hh3 H3 e3 rp3 re3 rl sat3 => Sat.mk sat3 (Ext.refl _ _) rp3 ⟨(vx, vy), ps, rfl, RV.ext (e2.trans e3) _ _ rdx, RV.ext e3 _ _ rdy, rl⟩
  exact thn (hc.run pins s2 σ H2 _ I2 q2) fun ws s3 ⟨ps, H3, I3, rel, q3⟩ => ⟨(vx, vy) :: ps, H3, I3, .cons ⟨rx, ry⟩ rel, q3⟩
def putAllD : List (D × D) → Nat → List (D × D) → List (D × D) × Nat
  | acc, ep, [] => (acc, ep)
  | acc, ep, (k, v) :: r => putAllD (putD acc k v) (epD acc k ep) r
theorem putAll_len : ∀ (l acc : List (D × D)) (ep : Nat), (putAllD acc ep l).1.length ≤ acc.length + l.length
  | [], acc, ep => by simp [putAllD]
  | (k, v) :: l, acc, ep => by
    have h1 := putAll_len l (putD acc k v) (epD acc k ep)
    have h2 := put_length acc k v
    simp only [putAllD, List.length_cons]
    omega
theorem nd_putAll : ∀ (l acc : List (D × D)) (ep : Nat), (acc.map fun p => p.1.nk).Nodup → ((putAllD acc ep l).1.map fun p => p.1.nk).Nodup
  | [], acc, ep, h => h
  | (k, v) :: l, acc, ep, h => nd_putAll l _ _ (nd_put h)
theorem EntsR.putAll {K : PySem.W.Frag} {ρ : List Addr} {H : Hp} : ∀ (l acc : List (D × D)) (es ps : List DK.Ent) (ep : Nat), EntsR K G ρ H acc es → EntsR K G ρ H l ps → EntsR K G ρ H (putAllD acc ep l).1 (DK.putAll es ep ps).1 ∧ (putAllD acc ep l).2 = (DK.putAll es ep ps).2
  | [], acc, es, ps, ep, h, g => by
    have : ps = [] := g
    subst this
    exact ⟨h, rfl⟩
  | (k, v) :: l, acc, es, _, ep, h, ⟨⟨k', key, vv⟩, r, e, ⟨h1, h2, vk, vw, r1, r2, r3, r4⟩, t⟩ => by
    subst e
    have h1 : k' = k.nk := h1
    subst h1
    simp only [putAllD, DK.putAll]
    rw [epo_epD h]
    exact EntsR.putAll l _ _ _ _ (h.put h2 r1 r3 r2 r4) t
def koksP : List (D × D) → Bool
  | [] => true
  | p :: l => D.kok 8 p.1 && koksP l
def E.dict (φ : PΦ) : EΦ := fun env h => (φ env h).bind fun l h => if koksP l then .ok (.ref h.length) (h ++ [.dct (putAllD [] 0 l).1 (putAllD [] 0 l).2]) else .bad
def E.dict0 : EΦ := fun _ h => .ok (.ref h.length) (h ++ [.dct [] 0])
theorem raw_stay {w : World} {d : Addr} {xs : List DK.Ent} {ep : Nat} : ∀ h1 h2 : Heap, RawD w d xs ep h1 → (∀ o, h1.get? d = some o → h2.get? d = some o) → RawD w d xs ep h2 := by
  rintro h1 h2 ⟨o, es, e1, e2⟩ k
  exact ⟨o, es, k o e1, e2⟩
theorem raw_new {P : Program} {w w2 : World} {H : Hp} (h : Heap) : ObjOk P w H (h.push { cls := .type "dict", data := .dict #[] }) h.objs.size (.ext (RawD w2 h.objs.size [] 0)) :=
  ⟨⟨_, #[], Heap.get?_push_size _ rfl, ⟨rfl, rfl, rfl⟩, rfl, rfl⟩, ⟨_, Heap.get?_push_size _ rfl⟩, raw_stay⟩
theorem ents_of {K : PySem.W.Frag} {ρ : List Addr} {H : Hp} : ∀ {l : List (D × D)} {ps : List (V × V)} {vs : List (Value × Value)}, PsR K G ρ H l ps → VV ps vs → koksP l = true → ∃ xs : List DK.Ent, vs = xs.map (·.2) ∧ EntsR K G ρ H l xs
  | [], ps, vs, h, r, _ => by
    have : ps = [] := h
    subst this
    cases r
    exact ⟨[], rfl, rfl⟩
  | p :: l, _, vs, ⟨q, ps, e, h1, h2, t⟩, r, k => by
    subst e
    cases r with
    | cons hr tr =>
      simp only [koksP, Bool.and_eq_true] at k
      obtain ⟨xs, e1, e2⟩ := ents_of t tr k.2
      rename_i u us
      exact ⟨(p.1.nk, u.1, u.2) :: xs, by rw [e1]; rfl, ⟨_, _, rfl, ⟨rfl, k.1, q.1, q.2, hr.1, hr.2, h1, h2⟩, e2⟩⟩
theorem countD {K : PySem.W.Frag} {ρ ρ1 : List Addr} {hh1 : Hh} {H H1 : Hp} {σ : L2.St} {Q : VK} {p : Addr} {l : List (D × D)} {ep : Nat} {xs : List DK.Ent} (h0 : H p = none) (e1 : Ext ρ H ρ1 H1) (rp1 : Rep K G ρ1 hh1 H1) (hn : p ∉ ρ1) (hd : DctR K G ρ1 H1 p l ep xs) (sat : Sat K G W (rV K G) ρ H σ Q (.ok (.ref hh1.length) (hh1 ++ [.dct l ep]))) : Q (.ref p) H1 := by
  have get : ∀ {n : Nat} {b : Addr}, ρ1[n]? = some b → (ρ1 ++ [p])[n]? = some b := fun {n b} h => by
    rw [List.getElem?_append_left (List.getElem?_eq_some_iff.mp h).1]; exact h
  refine sat (.ref p) H1 (ρ1 ++ [p]) ?_ (rp1.countM hd.raw (fun _ z => (nomatch z)) hn ⟨xs, hd.raw, hd.sm, hd.nd, hd.sz, hd.es.map fun d v => RV.more get d v⟩) ?_
  · obtain ⟨m, em, fm⟩ := e1.pre
    exact ⟨⟨m ++ [p], by rw [em, List.append_assoc], fun b hb => (List.mem_append.mp hb).elim (fm b) fun hb => by simp at hb; rw [hb]; exact h0⟩, e1.tups, e1.frzs, e1.side, e1.dom⟩
  · show RV K G (ρ1 ++ [p]) H1 (.ref hh1.length) (.ref p)
    simp only [RV]
    refine ⟨p, rfl, ?_⟩
    rw [List.getElem?_append_right (by rw [rp1.len]; exact Nat.le_refl _), rp1.len, Nat.sub_self]
    rfl
theorem SE.dict0 : SE X G W (.Dict [] [] pos) E.dict0 := by
  refine ⟨⟨fun pins s σ H Q I ⟨ρ, hh, env, rp, re, sat⟩ => ?_⟩⟩
  have hn := I.hok.fresh (Nat.le_refl s.heap.objs.size)
  refine wpAny_Dict_empty ⟨.ref s.heap.objs.size, _, I.laid (a := s.heap.objs.size) (o := .ext (RawD G.w s.heap.objs.size [] 0)) (t' := s.toks) (fun _ _ q => Heap.get?_push_of_some _ q) (Nat.le_refl _) (raw_new s.heap), rfl, ?_⟩
  exact countD (l := []) (ep := 0) (xs := []) hn (Ext.laid hn) (rp.side hn) (rp.notin hn) ⟨upd_same, beq_eq_false_iff_ne.mpr (Ne.symm (Nat.ne_of_lt (Inv.big I))), by simp, by simp, rfl⟩ sat
theorem SE.dict {keys : List (Option Expr)} {values : List Expr} {φ : PΦ} (hu : X.A.units + 65 < cLine) (hw : X.w = G.w) (h : SP X G W pos keys values φ) (hall : keys.all (·.isSome) = true := by rfl) (hl : keys.length = values.length := by rfl) (h0 : keys ≠ [] := by decide)
    (h15 : keys.length ≤ 15 := by decide) : SE X G W (.Dict keys values pos) (E.dict φ) := by
  refine ⟨⟨fun pins s σ H Q I ⟨ρ, hh, env, rp, re, sat⟩ => ?_⟩⟩
  have hn := I.hok.fresh (Nat.le_refl s.heap.objs.size)
  have I1 := I.laid (a := s.heap.objs.size) (o := .ext (RawD G.w s.heap.objs.size [] 0)) (h' := s.heap.push { cls := .type "dict", data := .dict #[] }) (t' := s.toks) (fun _ _ q => Heap.get?_push_of_some _ q) (Nat.le_refl _) (raw_new s.heap)
  have eL := Ext.laid (ρ := ρ) (o := .ext (RawD G.w s.heap.objs.size [] 0)) hn
  unfold E.dict at sat
  have q0 : tG X.K G W (rPs X.K G) φ σ (L2.upd H s.heap.objs.size (.ext (RawD G.w s.heap.objs.size [] 0))) (fun ps H2 => ∃ ρ2 hh2 l, Ext ρ (L2.upd H s.heap.objs.size (.ext (RawD G.w s.heap.objs.size [] 0))) ρ2 H2 ∧ Rep X.K G ρ2 hh2 H2 ∧ PsR X.K G ρ2 H2 l ps ∧ Sat X.K G W (rV X.K G) ρ H σ Q (if koksP l then .ok (.ref hh2.length) (hh2 ++ [.dct (putAllD [] 0 l).1 (putAllD [] 0 l).2]) else .bad)) :=
    ⟨ρ, hh, env, rp.side hn, re.ext eL, R.sat_mono (R.sat_bind sat) (fun l hh2 q ps H2 ρ2 e2 rp2 rl => ⟨ρ2, hh2, l, e2, rp2, rl, q⟩) fun x hh' q cls dx H' ρ' e' => q cls dx H' ρ' (eL.trans e')⟩
  refine DK.display_d (by omega) hall hl h0 h15 (wpAny_mono (wpAny_evalPairs_len (h.run pins _ σ _ _ I1 q0)) (fun ws s2 hx => ?_) fun _ _ e => e)
  obtain ⟨hlen, ps, H2, I2, rel, ρ2, hh2, l, e2, rp2, rl, sat2⟩ := hx
  split at sat2
  · rename_i hk
    obtain ⟨xs, e3, he⟩ := ents_of rl rel hk
    subst e3
    have hraw : H2 s.heap.objs.size = some (.ext (RawD G.w s.heap.objs.size [] 0)) := e2.side _ _ upd_same (rp.notin hn) (fun _ z => (nomatch z))
    have hout : s.heap.objs.size ∉ ρ2 := e2.notin upd_same (rp.notin hn)
    have hsm : (s.heap.objs.size == sysModules) = false := beq_eq_false_iff_ne.mpr (Ne.symm (Nat.ne_of_lt (Inv.big I)))
    have hD0 : DK.IsD X.w s2.heap s.heap.objs.size [] 0 := ⟨by have := (I2.hok _ _ hraw).1; rw [← hw] at this; exact this, fun _ hx => by simp at hx, List.nodup_nil⟩
    have hk2 : ∀ x ∈ xs, DK.KIs s2.heap x.1 x.2.1 := by
      have key : ∀ {l : List (D × D)} {xs : List DK.Ent}, EntsR X.K G ρ2 H2 l xs → ∀ x ∈ xs, DK.KIs s2.heap x.1 x.2.1 := by
        intro l
        induction l with
        | nil => intro xs h x hx; cases h; cases hx
        | cons p l ih =>
          intro xs h x hx
          obtain ⟨y, r, e, ⟨h1, h2, vk, vv, r1, r2, r3, r4⟩, t⟩ := h
          rw [e] at hx
          rcases List.mem_cons.mp hx with rfl | hx
          · rw [h1]; exact kisK I2 r3 r1 h2
          · exact ih t x hx
      exact key he
    refine ⟨xs, rfl, hk2, hD0, fun h' tk hD' hs => ?_⟩
    have d0 : DctR X.K G ρ2 H2 s.heap.objs.size [] 0 [] := ⟨hraw, hsm, by simp, by simp, rfl⟩
    have I3 := dctW hw I2 d0 hD' hs (t' := tk)
    have hl15 : l.length ≤ 15 := by
      have h1 := he.length
      rw [List.length_map] at hlen
      have hn2 := pairTrees_length keys values X.env pos hall hl
      omega
    obtain ⟨hp1, hp2⟩ := EntsR.putAll (G := G) l [] [] xs 0 rfl he
    have eU : Ext ρ H ρ2 (L2.upd H2 s.heap.objs.size (.ext (RawD G.w s.heap.objs.size (DK.putAll [] 0 xs).1 (DK.putAll [] 0 xs).2))) := by
      refine ⟨?_, fun b ys q => ?_, fun b q u z => ?_, fun b u q n t => ?_, fun b q => ?_⟩
      · obtain ⟨m, em, fm⟩ := e2.pre
        refine ⟨m, em, fun b hb => ?_⟩
        have := fm b hb
        by_cases z : b = s.heap.objs.size
        · rw [z]; exact hn
        · rwa [upd_ne z] at this
      · rw [upd_ne (ne_of_none q hn)]; exact e2.tups _ _ (by rw [upd_ne (ne_of_none q hn)]; exact q)
      · rw [upd_ne (ne_of_none z hn)]; exact e2.frzs _ _ _ (by rw [upd_ne (ne_of_none z hn)]; exact z)
      · rw [upd_ne (ne_of_none q hn)]; exact e2.side _ _ (by rw [upd_ne (ne_of_none q hn)]; exact q) n t
      · by_cases z : b = s.heap.objs.size
        · rw [z]; exact hn
        · rw [upd_ne z] at q
          have := e2.dom b q
          rwa [upd_ne z] at this
    have gen : ∀ d v, RV X.K G ρ2 H2 d v → RV X.K G ρ2 (L2.upd H2 s.heap.objs.size (.ext (RawD G.w s.heap.objs.size (DK.putAll [] 0 xs).1 (DK.putAll [] 0 xs).2))) d v := fun d v r =>
      RV.gen (fun h => h) (fun b q u z => by rw [upd_ne (fun e => by rw [e, hraw] at z; cases z)]; exact z) d v r
    have rp3 : Rep X.K G ρ2 hh2 (L2.upd H2 s.heap.objs.size (.ext (RawD G.w s.heap.objs.size (DK.putAll [] 0 xs).1 (DK.putAll [] 0 xs).2))) := by
      refine ⟨rp2.len, rp2.nd, fun m ob hm => ?_, fun P hP => ?_⟩
      · obtain ⟨c, g1, g2⟩ := rp2.ob m ob hm
        refine ⟨c, g1, g2.gen (fun h => h) (fun b q u z => by rw [upd_ne (fun e => by rw [e, hraw] at z; cases z)]; exact z) (upd_ne fun q => hout (by rw [← q]; exact List.mem_of_getElem? g1)) fun c2 y hc nc => ⟨?_, nc⟩⟩
        rw [upd_ne (fun e => by rw [e, hraw] at hc; cases hc)]; exact hc
      · obtain ⟨pp, g1, g2⟩ := rp2.tb P hP
        exact ⟨pp, by rw [upd_ne (fun e => by rw [e, hraw] at g1; cases g1)]; exact g1, g2⟩
    have hfin : DctR X.K G ρ2 (L2.upd H2 s.heap.objs.size (.ext (RawD G.w s.heap.objs.size (DK.putAll [] 0 xs).1 (DK.putAll [] 0 xs).2))) s.heap.objs.size (putAllD [] 0 l).1 (putAllD [] 0 l).2 (DK.putAll [] 0 xs).1 := by
      refine ⟨by rw [upd_same, hp2], hsm, nd_putAll l [] 0 (by simp), ?_, hp1.map gen⟩
      have := putAll_len l [] 0
      rw [sizeLine_eq]
      simp only [List.length_nil] at this
      omega
    exact ⟨.ref s.heap.objs.size, _, I3, rfl, countD hn eU rp3 hout hfin sat2⟩
  · exact sat2.elim

/-! ### walks of dicts -/
theorem raw_of {w : World} {h : Heap} {d : Addr} {xs : List DK.Ent} {ep : Nat} (x : RawD w d xs ep h) : ∃ es, h.DictRaw d es ep ∧ es.size = xs.length ∧ ∀ i (hi : i < es.size), ∃ x, xs[i]? = some x ∧ es[i].key = x.2.1 ∧ es[i].val = x.2.2 := by
  obtain ⟨o, es, ho, hc, hd, he⟩ := x
  have hs : es.size = xs.length := by rw [← Array.length_toList, he, List.length_map]
  refine ⟨es, ⟨o, ho, hc, hd⟩, hs, fun i hi => ?_⟩
  have e1 : es[i]? = (xs[i]?).map (DK.ent w) := by rw [← Array.getElem?_toList, he, List.getElem?_map]
  obtain ⟨y, hy⟩ : ∃ y, xs[i]? = some y := ⟨xs[i]'(by rw [← hs]; exact hi), List.getElem?_eq_getElem _⟩
  rw [hy, Array.getElem?_eq_getElem hi] at e1
  have e2 : es[i] = DK.ent w y := Option.some.inj e1
  exact ⟨y, hy, by rw [e2]; rfl, by rw [e2]; rfl⟩
theorem raw_same {w : World} {h : Heap} {d : Addr} {xs ys : List DK.Ent} {ep : Nat} (x : RawD w d xs ep h) (y : RawD w d ys ep h) {i : Nat} {e : DK.Ent} (he : xs[i]? = some e) : ∃ e', ys[i]? = some e' ∧ e'.2.1 = e.2.1 ∧ e'.2.2 = e.2.2 := by
  obtain ⟨o, es, ho, _, hd, h1⟩ := x
  obtain ⟨o', es', ho', _, hd', h2⟩ := y
  rw [ho] at ho'; cases ho'
  rw [hd] at hd'; cases hd'
  rw [h1] at h2
  have e1 : (xs.map (DK.ent w))[i]? = some (DK.ent w e) := by rw [List.getElem?_map, he]; rfl
  rw [h2, List.getElem?_map] at e1
  obtain ⟨e', g1, g2⟩ := Option.map_eq_some_iff.mp e1
  unfold DK.ent at g2
  exact ⟨e', g1, by injection g2, by injection g2⟩
/-- the keys (the values) of the dict at d, in their order -/
def Itdk (w : World) (f : DK.Ent → Value) (d : Addr) (n : Nat) (ep : Nat) : It :=
  ⟨fun i H => ∃ xs : List DK.Ent, H d = some (.ext (RawD w d xs ep)) ∧ xs.length = n ∧ i < n ∧ ∀ e, xs[i]? = some e → ∃ x, L2.RelV x (f e),
   fun i H x H' => H' = H ∧ ∀ xs : List DK.Ent, H d = some (.ext (RawD w d xs ep)) → ∃ e, xs[i]? = some e ∧ L2.RelV x (f e), fun i H => ∃ xs : List DK.Ent, H d = some (.ext (RawD w d xs ep)) ∧ xs.length = n ∧ n ≤ i⟩
/-- the pairs, each a new tuple -/
def Itdi (w : World) (d : Addr) (n : Nat) (ep : Nat) : It :=
  ⟨fun i H => ∃ xs : List DK.Ent, H d = some (.ext (RawD w d xs ep)) ∧ xs.length = n ∧ i < n ∧ ∀ e, xs[i]? = some e → (∃ x, L2.RelV x e.2.1) ∧ ∃ y, L2.RelV y e.2.2,
   fun i H x H' => ∃ T k v, (∀ xs : List DK.Ent, H d = some (.ext (RawD w d xs ep)) → ∃ e, xs[i]? = some e ∧ L2.RelV k e.2.1 ∧ L2.RelV v e.2.2) ∧ x = .ref T ∧ H T = none ∧ H' = L2.upd H T (.tup [k, v]), fun i H => ∃ xs : List DK.Ent, H d = some (.ext (RawD w d xs ep)) ∧ xs.length = n ∧ n ≤ i⟩
section
variable {P : Program} {w w2 : World} {K : PySem.W.Frag} {tg : Expr} {d : Addr} {n : Nat} {ep : Nat}
theorem turn_dk (it : Addr) : L2.Turn P w K tg (Itdk w2 (·.2.1) d n ep) [it] it (fun i h => h.IsKeyIter it d i n ep) where
  mem := by simp
  obj := fun i h st b hb => by
    have e : b = it := by simpa using hb
    subst e
    obtain ⟨oi, e, c, dd⟩ := st
    exact ⟨oi, e, fun v z => by rw [dd] at z; cases z⟩
  keep := fun i h h' st k => st.at fun oi e => k it (by simp) oi e
  item := by
    intro X hP hw hK hc i pins s σ H E I hf st hg
    subst hP hw hK
    obtain ⟨xs, hd, hn, hi, hx⟩ := hg
    subst hn
    obtain ⟨f0, f1, f2, f3, f4, f5⟩ := hf it (by simp)
    obtain ⟨es, hraw, hsz, hent⟩ := raw_of (I.hok d _ hd).1
    rw [← hsz] at st hi
    obtain ⟨e, he, h1, h2⟩ := hent i hi
    obtain ⟨x, rx⟩ := hx e he
    refine wpAny_pyNext_keys_item_raw st hraw hi fun h' st' sb => ?_
    have I1 : L2.Inv X pins σ H { s with heap := h' } := I.turned (t' := s.toks) (fun b ob hb e => (sb.2 b hb).trans e) f0 f1 f3 f4 f5
    obtain ⟨oi, e1, c, dd⟩ := id st'
    refine ⟨es[i].key, rfl, go_of (s := { s with heap := h' }) e1 c dd (by decide) ⟨x, H, I1, by rw [h1]; exact rx, ⟨rfl, fun ys hy => ?_⟩, ?_, fun b hb => (hf b hb).1⟩⟩
    · obtain ⟨e', g1, g2, g3⟩ := raw_same (I.hok d _ hd).1 (I.hok d _ hy).1 he
      exact ⟨e', g1, by first | (show L2.RelV x e'.2.1; rw [g2]; exact rx) | (show L2.RelV x e'.2.2; rw [g3]; exact rx)⟩
    show h'.IsKeyIter it d (i + 1) xs.length _
    rw [← hsz]
    exact st'
  done := by
    intro X hP hw hK hc i pins s σ H E I hf st hg
    subst hP hw hK
    obtain ⟨xs, hd, hn, hi⟩ := hg
    subst hn
    obtain ⟨f0, f1, f2, f3, f4, f5⟩ := hf it (by simp)
    obtain ⟨es, hraw, hsz, hent⟩ := raw_of (I.hok d _ hd).1
    rw [← hsz] at st hi
    exact wpAny_pyNext_keys_end_raw (I.ok.hd hc) st hraw hi fun h' eb => ⟨rfl, I.turned (t' := s.toks) (fun b ob hb e => eb b ob hb e) f0 f1 f3 f4 f5⟩
  self := fun A i s Q E st h => wpAny_pyIter_keyiter st h
theorem turn_dv (it : Addr) : L2.Turn P w K tg (Itdk w2 (·.2.2) d n ep) [it] it (fun i h => h.IsValIter it d i n ep) where
  mem := by simp
  obj := fun i h st b hb => by
    have e : b = it := by simpa using hb
    subst e
    obtain ⟨oi, e, c, dd⟩ := st
    exact ⟨oi, e, fun v z => by rw [dd] at z; cases z⟩
  keep := fun i h h' st k => st.at fun oi e => k it (by simp) oi e
  item := by
    intro X hP hw hK hc i pins s σ H E I hf st hg
    subst hP hw hK
    obtain ⟨xs, hd, hn, hi, hx⟩ := hg
    subst hn
    obtain ⟨f0, f1, f2, f3, f4, f5⟩ := hf it (by simp)
    obtain ⟨es, hraw, hsz, hent⟩ := raw_of (I.hok d _ hd).1
    rw [← hsz] at st hi
    obtain ⟨e, he, h1, h2⟩ := hent i hi
    obtain ⟨x, rx⟩ := hx e he
    refine wpAny_pyNext_values_item_raw st hraw hi fun h' st' sb => ?_
    have I1 : L2.Inv X pins σ H { s with heap := h' } := I.turned (t' := s.toks) (fun b ob hb e => (sb.2 b hb).trans e) f0 f1 f3 f4 f5
    obtain ⟨oi, e1, c, dd⟩ := id st'
    refine ⟨es[i].val, rfl, go_of (s := { s with heap := h' }) e1 c dd (by decide) ⟨x, H, I1, by rw [h2]; exact rx, ⟨rfl, fun ys hy => ?_⟩, ?_, fun b hb => (hf b hb).1⟩⟩
    · obtain ⟨e', g1, g2, g3⟩ := raw_same (I.hok d _ hd).1 (I.hok d _ hy).1 he
      exact ⟨e', g1, by first | (show L2.RelV x e'.2.1; rw [g2]; exact rx) | (show L2.RelV x e'.2.2; rw [g3]; exact rx)⟩
    show h'.IsValIter it d (i + 1) xs.length _
    rw [← hsz]
    exact st'
  done := by
    intro X hP hw hK hc i pins s σ H E I hf st hg
    subst hP hw hK
    obtain ⟨xs, hd, hn, hi⟩ := hg
    subst hn
    obtain ⟨f0, f1, f2, f3, f4, f5⟩ := hf it (by simp)
    obtain ⟨es, hraw, hsz, hent⟩ := raw_of (I.hok d _ hd).1
    rw [← hsz] at st hi
    exact wpAny_pyNext_values_end_raw (I.ok.hd hc) st hraw hi fun h' eb => ⟨rfl, I.turned (t' := s.toks) (fun b ob hb e => eb b ob hb e) f0 f1 f3 f4 f5⟩
  self := fun A i s Q E st h => wpAny_pyIter_valiter st h
theorem turn_di {elts : List Expr} {kk : Nat} {tpos : Pos} (it : Addr) : L2.Turn P w K (.Tuple elts kk tpos) (Itdi w2 d n ep) [it] it (fun i h => ∃ ok ov, IsItemIter h it d i n ep ok ov) where
  mem := by simp
  obj := fun i h st b hb => by
    have e : b = it := by simpa using hb
    subst e
    obtain ⟨ok, ov, e⟩ := st
    exact ⟨_, e, fun v z => nomatch z⟩
  keep := fun i h h' st k => let ⟨ok, ov, e⟩ := st; ⟨ok, ov, k it (by simp) _ e⟩
  item := by
    intro X hP hw hK hc i pins s σ H E I hf st hg
    subst hP hw hK
    obtain ⟨xs, hd, hn, hi, hx⟩ := hg
    subst hn
    obtain ⟨es, hraw, hsz, hent⟩ := raw_of (I.hok d _ hd).1
    obtain ⟨ok, ov, st⟩ := st
    rw [← hsz] at st hi
    obtain ⟨e, he, h1, h2⟩ := hent i hi
    obtain ⟨⟨k, rk⟩, ⟨v, rv⟩⟩ := hx e he
    have hlt : it < s.heap.objs.size := Heap.lt_size st
    refine wpAny_pyNext_items_item_raw st hraw hi fun h' ho hT hz hk => ?_
    refine ⟨_, rfl, wpAny_letOwnedTupleGo_items (s := { s with heap := h' }) ho fun h'' he' sb => ?_⟩
    have hT2 : h''.get? s.heap.objs.size = some { cls := .type "tuple", data := .seq #[es[i].key, es[i].val] } := (sb.2 _ (Nat.ne_of_gt hlt)).trans hT
    have new : ObjOk X.prog X.w (L2.upd H s.heap.objs.size (.tup [k, v])) h'' s.heap.objs.size (.tup [k, v]) :=
      ⟨by show 2 ≤ sizeLine; decide, [es[i].key, es[i].val], .cons (by rw [h1]; exact rk) (.cons (by rw [h2]; exact rv) .nil), ⟨_, hT2, rfl, _, rfl⟩⟩
    have I1 : L2.Inv X pins σ (L2.upd H s.heap.objs.size (.tup [k, v])) { s with heap := h'' } :=
      I.turnedNew (t' := s.toks) (ch := [it]) (fun b ob hb e => (sb.2 b (by simpa using hb)).trans (hk b ob (by simpa using hb) e)) hf (Nat.le_refl _) new
    refine ⟨.ref s.heap.objs.size, _, I1, rfl, ⟨_, k, v, fun ys hy => ?_, rfl, I.hok.fresh (Nat.le_refl _), rfl⟩, ⟨es[i].key, es[i].val, ?_⟩, fun b hb => ?_⟩
    · obtain ⟨e', g1, g2, g3⟩ := raw_same (I.hok d _ hd).1 (I.hok d _ hy).1 he
      exact ⟨e', g1, by rw [g2]; exact rk, by rw [g3]; exact rv⟩
    · rw [← hsz]; exact he'
    · have e : b = it := by simpa using hb
      rw [e, upd_ne (Nat.ne_of_lt hlt)]
      exact (hf it (by simp)).1
  done := by
    intro X hP hw hK hc i pins s σ H E I hf st hg
    subst hP hw hK
    obtain ⟨xs, hd, hn, hi⟩ := hg
    subst hn
    obtain ⟨f0, f1, f2, f3, f4, f5⟩ := hf it (by simp)
    obtain ⟨es, hraw, hsz, hent⟩ := raw_of (I.hok d _ hd).1
    obtain ⟨ok, ov, st⟩ := st
    rw [← hsz] at st hi
    exact wpAny_pyNext_items_end_raw (I.ok.hd hc) st hraw hi fun h' eb => ⟨rfl, I.turned (t' := s.toks) (fun b ob hb e => eb b ob hb e) f0 f1 f3 f4 f5⟩
  self := fun A i s Q E st h => let ⟨_, _, e⟩ := st; PySem.W.kcp_self e h
end
section
variable {apos cpos : Pos} {td : TE}
def iDk (w : World) (td : TE) : TI := fun σ H R => td σ H fun x H1 => ∃ d xs ep, x = .ref d ∧ (d == sysModules) = false ∧ H1 d = some (.ext (RawD w d xs ep)) ∧ R (Itdk w (·.2.1) d xs.length ep) H1
def iDv (w : World) (td : TE) : TI := fun σ H R => td σ H fun x H1 => ∃ d xs ep, x = .ref d ∧ (d == sysModules) = false ∧ H1 d = some (.ext (RawD w d xs ep)) ∧ R (Itdk w (·.2.2) d xs.length ep) H1
def iDi (w : World) (td : TE) : TI := fun σ H R => td σ H fun x H1 => ∃ d xs ep, x = .ref d ∧ (d == sysModules) = false ∧ H1 d = some (.ext (RawD w d xs ep)) ∧ R (Itdi w d xs.length ep) H1
theorem pi_dk {w : World} (he : PE X e td) : PI X tg e (iDk w td) := by
  refine ⟨fun pins s σ H R I h => ?_⟩
  refine thn (he.run pins s σ H _ I h) fun u s1 ⟨x, H1, I1, rx, d, xs, ep, ex, hs, hd, q⟩ => ?_
  subst ex
  obtain rfl : u = Value.ref d := rx
  obtain ⟨es, hraw, hsz, hent⟩ := raw_of (I1.hok d _ hd).1
  refine wpAny_pyIter_dict_raw hs hraw (pi_one (tk := s1.toks) I1 _ (turn_dk _) ⟨_, Heap.get?_push_size _ rfl, rfl, ?_⟩ q)
  rw [← hsz] <;> rfl
theorem pi_dv {w : World} (he : PE X e td) (hbase : attributeBase e "values" X.env (eval e X.env) = eval e X.env := by rfl) (hline : (apos.endLine == cpos.line) = true := by rfl) : PI X tg (.Call (.Attribute e "values" apos) [] [] cpos) (iDv w td) := by
  refine ⟨fun pins s σ H R I h => ?_⟩
  refine wpAny_Call_method (T := "dict") (id := "dict.values") hbase rfl hline F.plainAttrs_dict F.slot_dict_values F.type_dict_values (thn (he.run pins s σ H _ I h) fun u s1 ⟨x, H1, I1, rx, d, xs, ep, ex, hs, hd, q⟩ => ?_)
  subst ex
  obtain rfl : u = Value.ref d := rx
  obtain ⟨es, hraw, hsz, hent⟩ := raw_of (I1.hok d _ hd).1
  refine ⟨hraw.typeIs, fun b z => by cases z; obtain ⟨o, ho, hc, _⟩ := hraw; exact ⟨o, ho, hc.2.1⟩, ?_⟩
  have I2 : L2.Inv X pins σ H1 { s1 with heap := s1.heap.push { cls := .type "dict_values", data := .fields #[.ref d] } } := I1.kept (t' := s1.toks) fun b ob q => Heap.get?_push_of_some _ q
  have fin : wpAny (model X.prog X.w) X.A (pyIter (.ref s1.heap.objs.size)) (PIE X pins σ tg R) X.xe { s1 with heap := s1.heap.push { cls := .type "dict_values", data := .fields #[.ref d] } } := by
    refine wpAny_pyIter_values_raw (d := d) (s := { s1 with heap := s1.heap.push { cls := .type "dict_values", data := .fields #[.ref d] } }) ⟨_, Heap.get?_push_size _ rfl, rfl, rfl⟩ (hraw.at fun o e => Heap.get?_push_of_some _ e) (pi_one (tk := s1.toks) I2 _ (turn_dv _) ⟨_, Heap.get?_push_size _ rfl, rfl, ?_⟩ q)
    rw [← hsz] <;> rfl
  show wpAny _ _ (callWith cpos (.builtin "dict.values") [.ref d] [] []) _ X.xe s1
  exact method_meetsIn F.slot_dict_values F.entry_dict_values rfl (PySem.evalArgs_none ⟨rfl, hraw.typeIs, F.args_dict_values_1 _, _, meets_dict_values_raw d hs, ⟨⟨_, _, hraw⟩, fin⟩⟩)
theorem pi_dkM {w : World} (he : PE X e td) (hbase : attributeBase e "keys" X.env (eval e X.env) = eval e X.env := by rfl) (hline : (apos.endLine == cpos.line) = true := by rfl) : PI X tg (.Call (.Attribute e "keys" apos) [] [] cpos) (iDk w td) := by
  refine ⟨fun pins s σ H R I h => ?_⟩
  refine wpAny_Call_method (T := "dict") (id := "dict.keys") hbase rfl hline F.plainAttrs_dict F.slot_dict_keys F.type_dict_keys (thn (he.run pins s σ H _ I h) fun u s1 ⟨x, H1, I1, rx, d, xs, ep, ex, hs, hd, q⟩ => ?_)
  subst ex
  obtain rfl : u = Value.ref d := rx
  obtain ⟨es, hraw, hsz, hent⟩ := raw_of (I1.hok d _ hd).1
  refine ⟨hraw.typeIs, fun b z => by cases z; obtain ⟨o, ho, hc, _⟩ := hraw; exact ⟨o, ho, hc.2.1⟩, ?_⟩
  have I2 : L2.Inv X pins σ H1 { s1 with heap := s1.heap.push { cls := .type "dict_keys", data := .fields #[.ref d] } } := I1.kept (t' := s1.toks) fun b ob q => Heap.get?_push_of_some _ q
  have fin : wpAny (model X.prog X.w) X.A (pyIter (.ref s1.heap.objs.size)) (PIE X pins σ tg R) X.xe { s1 with heap := s1.heap.push { cls := .type "dict_keys", data := .fields #[.ref d] } } := by
    refine wpAny_pyIter_keys_raw (d := d) (s := { s1 with heap := s1.heap.push { cls := .type "dict_keys", data := .fields #[.ref d] } }) ⟨_, Heap.get?_push_size _ rfl, rfl, rfl⟩ (hraw.at fun o e => Heap.get?_push_of_some _ e) (pi_one (tk := s1.toks) I2 _ (turn_dk _) ⟨_, Heap.get?_push_size _ rfl, rfl, ?_⟩ q)
    rw [← hsz] <;> rfl
  show wpAny _ _ (callWith cpos (.builtin "dict.keys") [.ref d] [] []) _ X.xe s1
  exact method_meetsIn F.slot_dict_keys F.entry_dict_keys rfl (PySem.evalArgs_none ⟨rfl, hraw.typeIs, F.args_dict_keys_1 _, _, meets_dict_keys_raw d hs, ⟨⟨_, _, hraw⟩, fin⟩⟩)
theorem pi_di {w : World} {elts : List Expr} {kk : Nat} {tpos : Pos} (he : PE X e td) (hbase : attributeBase e "items" X.env (eval e X.env) = eval e X.env := by rfl) (hline : (apos.endLine == cpos.line) = true := by rfl) :
    PI X (.Tuple elts kk tpos) (.Call (.Attribute e "items" apos) [] [] cpos) (iDi w td) := by
  refine ⟨fun pins s σ H R I h => ?_⟩
  refine wpAny_Call_method (T := "dict") (id := "dict.items") hbase rfl hline F.plainAttrs_dict F.slot_dict_items F.type_dict_items (thn (he.run pins s σ H _ I h) fun u s1 ⟨x, H1, I1, rx, d, xs, ep, ex, hs, hd, q⟩ => ?_)
  subst ex
  obtain rfl : u = Value.ref d := rx
  obtain ⟨es, hraw, hsz, hent⟩ := raw_of (I1.hok d _ hd).1
  refine ⟨hraw.typeIs, fun b z => by cases z; obtain ⟨o, ho, hc, _⟩ := hraw; exact ⟨o, ho, hc.2.1⟩, ?_⟩
  have I2 : L2.Inv X pins σ H1 { s1 with heap := s1.heap.push { cls := .type "dict_items", data := .fields #[.ref d] } } := I1.kept (t' := s1.toks) fun b ob q => Heap.get?_push_of_some _ q
  have fin : wpAny (model X.prog X.w) X.A (pyIter (.ref s1.heap.objs.size)) (PIE X pins σ (.Tuple elts kk tpos) R) X.xe { s1 with heap := s1.heap.push { cls := .type "dict_items", data := .fields #[.ref d] } } := by
    refine wpAny_pyIter_items_raw (d := d) (s := { s1 with heap := s1.heap.push { cls := .type "dict_items", data := .fields #[.ref d] } }) ⟨_, Heap.get?_push_size _ rfl, rfl, rfl⟩ (hraw.at fun o e => Heap.get?_push_of_some _ e) (pi_one (tk := s1.toks) I2 _ (turn_di _) ⟨.none, .none, ?_⟩ q)
    rw [← hsz]
    exact Heap.get?_push_size _ rfl
  show wpAny _ _ (callWith cpos (.builtin "dict.items") [.ref d] [] []) _ X.xe s1
  exact method_meetsIn F.slot_dict_items F.entry_dict_items rfl (PySem.evalArgs_none ⟨rfl, hraw.typeIs, F.args_dict_items_1 _, _, meets_dict_items_raw d hs, ⟨⟨_, _, hraw⟩, fin⟩⟩)
end

/-! ### sources -/
def srcK (d : D) (h : Hh) : R Src := match dctAt h d with
  | some (n, l, ep) => .ok ⟨l.map (·.1), some (n, .dct l ep)⟩ h
  | none => srcD d h
def srcVals (d : D) (h : Hh) : R Src := match dctAt h d with
  | some (n, l, ep) => .ok ⟨l.map (·.2), some (n, .dct l ep)⟩ h
  | none => .bad
def srcKeys (d : D) (h : Hh) : R Src := match dctAt h d with
  | some (n, l, ep) => .ok ⟨l.map (·.1), some (n, .dct l ep)⟩ h
  | none => .bad
def srcItems (d : D) (h : Hh) : R Src := match dctAt h d with
  | some (n, l, ep) => .ok ⟨l.map fun p => .tup [p.1, p.2], some (n, .dct l ep)⟩ h
  | none => .bad
def I.ofK (a : EΦ) : IΦ := fun env h => (a env h).bind srcK
def I.vals (a : EΦ) : IΦ := fun env h => (a env h).bind srcVals
def I.keys (a : EΦ) : IΦ := fun env h => (a env h).bind srcKeys
def I.items (a : EΦ) : IΦ := fun env h => (a env h).bind srcItems
theorem src_dct {ρ : List Addr} {hh : Hh} {H : Hp} {n ep : Nat} {l : List (D × D)} {it : List D} {p : Addr} {K : PySem.W.Frag} (rp : Rep K G ρ hh H) (hok : (⟨it, some (n, .dct l ep)⟩ : Src).ok hh = true) (hp : ρ[n]? = some p) : ∃ xs, DctR K G ρ H p l ep xs := by
  unfold Src.ok at hok
  simp only at hok
  split at hok
  · rename_i m hm
    cases m <;> first | (cases hok; done) | skip
    simp only [MO.still, Bool.and_eq_true, decide_eq_true_eq] at hok
    obtain ⟨rfl, rfl⟩ := hok
    obtain ⟨p', e1, xs, e2⟩ := rp.ob _ _ hm
    rw [hp] at e1; cases e1
    exact ⟨xs, e2⟩
  · cases hok
theorem ent_val {K : PySem.W.Frag} {ρ : List Addr} {H : Hp} {p : D × D} {x : DK.Ent} (h : EntR K G ρ H p x) : (∃ v, L2.RelV v x.2.1 ∧ RV K G ρ H p.1 v) ∧ ∃ v, L2.RelV v x.2.2 ∧ RV K G ρ H p.2 v := by
  obtain ⟨_, _, vk, vv, r1, r2, r3, r4⟩ := h
  exact ⟨⟨vk, r1, r3⟩, vv, r2, r4⟩
theorem get_of {K : PySem.W.Frag} {ρ : List Addr} {H : Hp} {l : List (D × D)} {xs : List DK.Ent} (h : EntsR K G ρ H l xs) {i : Nat} {e : DK.Ent} (he : xs[i]? = some e) : ∃ p, l[i]? = some p ∧ EntR K G ρ H p e := by
  have hi := (List.getElem?_eq_some_iff.mp he).1
  rw [h.length] at hi
  obtain ⟨x, g1, g2⟩ := h.get (List.getElem?_eq_getElem hi)
  rw [he] at g1; cases g1
  exact ⟨_, List.getElem?_eq_getElem hi, g2⟩
theorem itOk_dk {ρ0 : List Addr} {H0 : Hp} {l : List (D × D)} {n ep m : Nat} {p : Addr} (hp : ρ0[n]? = some p) (hm : m = l.length) : ItOk X.K G (RV X.K G) ρ0 H0 ⟨l.map (·.1), some (n, .dct l ep)⟩ (Itdk G.w (·.2.1) p m ep) where
  go := fun i ρ hh H e rp hok hi => by
    subst hm
    obtain ⟨xs, h1⟩ := src_dct rp hok (e.get hp)
    exact ⟨xs, h1.raw, h1.es.length, by simpa using hi, fun e he => by
      obtain ⟨q, _, h2⟩ := get_of h1.es he
      obtain ⟨⟨v, r1, _⟩, _⟩ := ent_val h2
      exact ⟨v, r1⟩⟩
  yld := fun i ρ hh H x H' d e rp hok hd hy => by
    obtain ⟨rfl, hy⟩ := hy
    obtain ⟨xs, h1⟩ := src_dct rp hok (e.get hp)
    obtain ⟨en, g1, g2⟩ := hy xs h1.raw
    obtain ⟨q, g3, g4⟩ := get_of h1.es g1
    obtain ⟨⟨v, r1, r2⟩, _⟩ := ent_val g4
    have hd : (l.map (·.1))[i]? = some d := hd
    rw [List.getElem?_map, g3] at hd
    cases hd
    exact ⟨Ext.refl _ _, rp, by rw [relV_inj g2 r1]; exact r2⟩
  stop := fun i ρ hh H e rp hok hi => by
    subst hm
    obtain ⟨xs, h1⟩ := src_dct rp hok (e.get hp)
    exact ⟨xs, h1.raw, h1.es.length, by simpa using hi⟩
theorem itOk_dv {ρ0 : List Addr} {H0 : Hp} {l : List (D × D)} {n ep m : Nat} {p : Addr} (hp : ρ0[n]? = some p) (hm : m = l.length) : ItOk X.K G (RV X.K G) ρ0 H0 ⟨l.map (·.2), some (n, .dct l ep)⟩ (Itdk G.w (·.2.2) p m ep) where
  go := fun i ρ hh H e rp hok hi => by
    subst hm
    obtain ⟨xs, h1⟩ := src_dct rp hok (e.get hp)
    exact ⟨xs, h1.raw, h1.es.length, by simpa using hi, fun e he => by
      obtain ⟨q, _, h2⟩ := get_of h1.es he
      obtain ⟨_, ⟨v, r1, _⟩⟩ := ent_val h2
      exact ⟨v, r1⟩⟩
  yld := fun i ρ hh H x H' d e rp hok hd hy => by
    obtain ⟨rfl, hy⟩ := hy
    obtain ⟨xs, h1⟩ := src_dct rp hok (e.get hp)
    obtain ⟨en, g1, g2⟩ := hy xs h1.raw
    obtain ⟨q, g3, g4⟩ := get_of h1.es g1
    obtain ⟨_, ⟨v, r1, r2⟩⟩ := ent_val g4
    have hd : (l.map (·.2))[i]? = some d := hd
    rw [List.getElem?_map, g3] at hd
    cases hd
    exact ⟨Ext.refl _ _, rp, by rw [relV_inj g2 r1]; exact r2⟩
  stop := fun i ρ hh H e rp hok hi => by
    subst hm
    obtain ⟨xs, h1⟩ := src_dct rp hok (e.get hp)
    exact ⟨xs, h1.raw, h1.es.length, by simpa using hi⟩
theorem itOk_di {ρ0 : List Addr} {H0 : Hp} {l : List (D × D)} {n ep m : Nat} {p : Addr} (hp : ρ0[n]? = some p) (hm : m = l.length) : ItOk X.K G (RVw X.K G) ρ0 H0 ⟨l.map fun p => .tup [p.1, p.2], some (n, .dct l ep)⟩ (Itdi G.w p m ep) where
  go := fun i ρ hh H e rp hok hi => by
    subst hm
    obtain ⟨xs, h1⟩ := src_dct rp hok (e.get hp)
    exact ⟨xs, h1.raw, h1.es.length, by simpa using hi, fun e he => by
      obtain ⟨q, _, h2⟩ := get_of h1.es he
      obtain ⟨⟨u, r0, _⟩, ⟨v, r1, _⟩⟩ := ent_val h2
      exact ⟨⟨u, r0⟩, ⟨v, r1⟩⟩⟩
  yld := fun i ρ hh H x H' d e rp hok hd hy => by
    obtain ⟨T, k, v, hy, rfl, hT, rfl⟩ := hy
    obtain ⟨xs, h1⟩ := src_dct rp hok (e.get hp)
    obtain ⟨en, g1, g2, g2'⟩ := hy xs h1.raw
    obtain ⟨q, g3, g4⟩ := get_of h1.es g1
    obtain ⟨⟨u, r1, r2⟩, ⟨v', r3, r4⟩⟩ := ent_val g4
    have hd : (l.map fun p => D.tup [p.1, p.2])[i]? = some d := hd
    rw [List.getElem?_map, g3] at hd
    cases hd
    exact ⟨Ext.laid hT, rp.side hT, rvw_two hT (by rw [relV_inj g2 r1]; exact r2) (by rw [relV_inj g2' r3]; exact r4)⟩
  stop := fun i ρ hh H e rp hok hi => by
    subst hm
    obtain ⟨xs, h1⟩ := src_dct rp hok (e.get hp)
    exact ⟨xs, h1.raw, h1.es.length, by simpa using hi⟩
/-- a tuple, a list, a dict's keys -/
theorem SI.ofK {φ : EΦ} (ha : SE X G W iter φ) : SI X G W (RV X.K G) tg iter (I.ofK φ) := by
  refine ⟨PI.weak (PI.or (SI.of (tg := tg) ha).pi (pi_dk (w := G.w) ha.pe)) ?_⟩
  rintro σ H Rr ⟨ρ, hh, env, rp, re, sat⟩
  unfold I.ofK at sat
  cases q : φ env hh with
  | exc x h1 =>
    rw [q] at sat
    exact .inr ⟨ρ, hh, env, rp, re, by rw [q]; exact sat⟩
  | bad => rw [q] at sat; exact sat.elim
  | ok d hh1 =>
    rw [q, R.bind_ok] at sat
    unfold srcK at sat
    split at sat
    · rename_i n l ep hl
      refine .inr ⟨ρ, hh, env, rp, re, ?_⟩
      rw [q]
      intro v H1 ρ1 e1 rp1 rd
      obtain ⟨a, xs, rfl, ha', hd, _⟩ := dctAt_ok rp1 rd hl
      exact ⟨a, xs, ep, rfl, hd.sm, hd.raw, sat _ ρ1 H1 e1 rp1 (itOk_dk ha' hd.es.length)⟩
    · refine .inl ⟨ρ, hh, env, rp, re, ?_⟩
      unfold I.of
      rw [q]
      exact sat
theorem SI.valsK {φ : EΦ} {apos cpos : Pos} (ha : SE X G W e φ) (hbase : attributeBase e "values" X.env (eval e X.env) = eval e X.env := by rfl) (hline : (apos.endLine == cpos.line) = true := by rfl) : SI X G W (RV X.K G) tg (.Call (.Attribute e "values" apos) [] [] cpos) (I.vals φ) := by
  refine ⟨PI.weak (pi_dv (w := G.w) ha.pe hbase hline) ?_⟩
  rintro σ H Rr ⟨ρ, hh, env, rp, re, sat⟩
  unfold I.vals at sat
  refine ⟨ρ, hh, env, rp, re, ?_⟩
  cases q : φ env hh with
  | exc x h1 => rw [q] at sat; exact sat
  | bad => rw [q] at sat; exact sat.elim
  | ok d hh1 =>
    rw [q, R.bind_ok] at sat
    intro v H1 ρ1 e1 rp1 rd
    unfold srcVals at sat
    split at sat
    · rename_i n l ep hl
      obtain ⟨a, xs, rfl, ha', hd, _⟩ := dctAt_ok rp1 rd hl
      exact ⟨a, xs, ep, rfl, hd.sm, hd.raw, sat _ ρ1 H1 e1 rp1 (itOk_dv ha' hd.es.length)⟩
    · exact sat.elim
theorem SI.keysK {φ : EΦ} {apos cpos : Pos} (ha : SE X G W e φ) (hbase : attributeBase e "keys" X.env (eval e X.env) = eval e X.env := by rfl) (hline : (apos.endLine == cpos.line) = true := by rfl) : SI X G W (RV X.K G) tg (.Call (.Attribute e "keys" apos) [] [] cpos) (I.keys φ) := by
  refine ⟨PI.weak (pi_dkM (w := G.w) ha.pe hbase hline) ?_⟩
  rintro σ H Rr ⟨ρ, hh, env, rp, re, sat⟩
  unfold I.keys at sat
  refine ⟨ρ, hh, env, rp, re, ?_⟩
  cases q : φ env hh with
  | exc x h1 => rw [q] at sat; exact sat
  | bad => rw [q] at sat; exact sat.elim
  | ok d hh1 =>
    rw [q, R.bind_ok] at sat
    intro v H1 ρ1 e1 rp1 rd
    unfold srcKeys at sat
    split at sat
    · rename_i n l ep hl
      obtain ⟨a, xs, rfl, ha', hd, _⟩ := dctAt_ok rp1 rd hl
      exact ⟨a, xs, ep, rfl, hd.sm, hd.raw, sat _ ρ1 H1 e1 rp1 (itOk_dk ha' hd.es.length)⟩
    · exact sat.elim
theorem SI.itemsK {φ : EΦ} {apos cpos : Pos} {elts : List Expr} {kk : Nat} (ha : SE X G W e φ) (hbase : attributeBase e "items" X.env (eval e X.env) = eval e X.env := by rfl) (hline : (apos.endLine == cpos.line) = true := by rfl) : SI X G W (RVw X.K G) (.Tuple elts kk tpos) (.Call (.Attribute e "items" apos) [] [] cpos) (I.items φ) := by
  refine ⟨PI.weak (pi_di (w := G.w) ha.pe hbase hline) ?_⟩
  rintro σ H Rr ⟨ρ, hh, env, rp, re, sat⟩
  unfold I.items at sat
  refine ⟨ρ, hh, env, rp, re, ?_⟩
  cases q : φ env hh with
  | exc x h1 => rw [q] at sat; exact sat
  | bad => rw [q] at sat; exact sat.elim
  | ok d hh1 =>
    rw [q, R.bind_ok] at sat
    intro v H1 ρ1 e1 rp1 rd
    unfold srcItems at sat
    split at sat
    · rename_i n l ep hl
      obtain ⟨a, xs, rfl, ha', hd, _⟩ := dctAt_ok rp1 rd hl
      exact ⟨a, xs, ep, rfl, hd.sm, hd.raw, sat _ ρ1 H1 e1 rp1 (itOk_di ha' hd.es.length)⟩
    · exact sat.elim
end
end DL

set_option Elab.async false
set_option linter.all false
set_option maxRecDepth 100000
set_option maxHeartbeats 4000000
/-! DL21: orders of data; sorted, max, min; len and list of dicts. -/
namespace DL
open PySem PySem.Spec PyProof.Rows L2 GX GxR RZ PySem.W

/-! ### data -/
def D.ltD (x y : D) : Bool := dataLt x.py y.py
def alikeD (x y : D) : Bool := D.flat 31 x && D.flat 31 y && alike x.py y.py
theorem py_inj : ∀ (n : Nat) (x y : D), D.flat n x = true → D.flat n y = true → x.py = y.py → x = y := by
  have key : ∀ (n : Nat), (∀ x y : D, D.flat n x = true → D.flat n y = true → x.py = y.py → x = y) ∧ ∀ l m : List D, D.flats n l = true → D.flats n m = true → D.pys l = D.pys m → l = m := by
    intro n
    induction n with
    | zero =>
      have h1 : ∀ x y : D, D.flat 0 x = true → D.flat 0 y = true → x.py = y.py → x = y := by
        intro x y fx fy e
        cases x <;> cases y <;> first | rfl | (simp [D.flat] at fx; done) | (simp [D.flat] at fy; done) | (simp only [D.py] at e; first | (cases e; rfl) | (cases e; done))
      refine ⟨h1, fun l => ?_⟩
      induction l with
      | nil => intro m _ _ e; cases m with
        | nil => rfl
        | cons y m => simp [D.pys] at e
      | cons x l ih => intro m fl fm e; cases m with
        | nil => simp [D.pys] at e
        | cons y m =>
          simp only [D.flats, Bool.and_eq_true] at fl fm
          simp only [D.pys, List.cons.injEq] at e
          rw [h1 x y fl.1 fm.1 e.1, ih m fl.2 fm.2 e.2]
    | succ n ihn =>
      have h1 : ∀ x y : D, D.flat (n + 1) x = true → D.flat (n + 1) y = true → x.py = y.py → x = y := by
        intro x y fx fy e
        cases x <;> cases y <;> first
          | rfl
          | (simp [D.flat] at fx; done)
          | (simp [D.flat] at fy; done)
          | (simp only [D.py] at e; first | (cases e; rfl) | (cases e; done))
          | (simp only [D.py, PyData.tuple.injEq] at e
             simp only [D.flat] at fx fy
             rw [ihn.2 _ _ fx fy e])
      refine ⟨h1, fun l => ?_⟩
      induction l with
      | nil => intro m _ _ e; cases m with
        | nil => rfl
        | cons y m => simp [D.pys] at e
      | cons x l ih => intro m fl fm e; cases m with
        | nil => simp [D.pys] at e
        | cons y m =>
          simp only [D.flats, Bool.and_eq_true] at fl fm
          simp only [D.pys, List.cons.injEq] at e
          rw [h1 x y fl.1 fm.1 e.1, ih m fl.2 fm.2 e.2]
  exact fun n => (key n).1
section
variable {X : Cx} {G : Gs} {W : WX} {a b o i e iter tg : Expr} {es : List Expr} {pos tpos : Pos}
theorem depth31 {d : D} (h : D.flat 31 d = true) : d.py.depth ≤ 31 := py_depth 31 d h
/-! ### comparisons -/
def cmpD (f : Int → Int → Bool) (g : D → D → Bool) (x y : D) (h : Hh) : R D := match x, y with
  | .int i, .int j => .ok (.bl (f i j)) h
  | x, y => if alikeD x y && !x.isN then .ok (.bl (g x y)) h else .bad
def D.ltA := cmpD (fun i j => decide (i < j)) fun x y => D.ltD x y
def D.leA := cmpD (fun i j => decide (i ≤ j)) fun x y => !D.ltD y x
def D.gtA := cmpD (fun i j => decide (j < i)) fun x y => D.ltD y x
def D.geA := cmpD (fun i j => decide (j ≤ i)) fun x y => !D.ltD x y
theorem nox_cmp {f : Int → Int → Bool} {g : D → D → Bool} : ∀ x y h e h', cmpD f g x y h ≠ .exc e h' := by
  intro x y h e h' q
  unfold cmpD at q
  split at q
  · cases q
  · split at q <;> cases q
theorem ne_non {d : D} (h : (!d.isN) = true) (hf : D.flat 31 d = true) : d.py ≠ .none := by
  intro e
  cases d <;> simp [D.py, D.isN, D.flat] at e h hf
theorem sop_cmp {op : CmpOp} {f0 : D → D → Hh → R D} {f : Int → Int → Bool} {g : D → D → Bool} (h0 : SOp X G (compareOp op) f0) (hf : ∀ i j h, f0 (.int i) (.int j) h = .ok (.bl (f i j)) h)
    (hd : ∀ {s : Shared} {x y : D} {u v : Value} {as bs : List Addr} {Q : Value → Shared → Prop} {E : Value → Shared → Prop}, Reads s.heap u x.py as → Reads s.heap v y.py bs → alike x.py y.py = true → x.py ≠ .none → X.A.units + min x.py.depth y.py.depth < cLine → Q (.bool (g x y)) s → wpAny (model X.prog X.w) X.A (compareOp op u v) Q E s)
    (hu : X.A.units + 65 < cLine) : SOp X G (compareOp op) (cmpD f g) := by
  refine ⟨?_, nox_cmp⟩
  intro pins s σ H x y v u Q I rx ry h
  obtain ⟨ρ, hh, dx, dy, rp, r1, r2, sat⟩ := h
  have gen : Sat X.K G (fun _ _ _ _ => False) (rV X.K G) ρ H [] Q (if alikeD dx dy && !dx.isN then .ok (.bl (g dx dy)) hh else .bad) → wpAny (model X.prog X.w) X.A (compareOp op v u) (EP X pins σ Q) X.xe s := fun sat => by
    split at sat
    · rename_i c
      simp only [alikeD, Bool.and_eq_true] at c
      obtain ⟨as, q1⟩ := Dp.reads I _ _ _ (dp_of 31 _ _ c.1.1.1 r1) rx
      obtain ⟨bs, q2⟩ := Dp.reads I _ _ _ (dp_of 31 _ _ c.1.1.2 r2) ry
      have d1 := depth31 c.1.1.1
      exact hd q1 q2 c.1.2 (ne_non c.2 c.1.1.1) (by omega) ⟨.bl _, H, I, rfl, Sat.mk sat (Ext.refl _ _) rp (by show RV _ _ _ _ _ _; simp only [RV])⟩
    · exact sat.elim
  unfold cmpD at sat
  split at sat
  · rename_i i j
    exact h0.op pins s σ H x y v u Q I rx ry ⟨ρ, hh, _, _, rp, r1, r2, by rw [hf]; exact sat⟩
  · exact gen sat
theorem sop_ltA (hu : X.A.units + 65 < cLine) : SOp X G (compareOp .Lt) D.ltA := sop_cmp sop_lt (fun _ _ _ => rfl) (fun r1 r2 h n u q => lt_data r1 r2 h n u q) hu
theorem sop_leA (hu : X.A.units + 65 < cLine) : SOp X G (compareOp .LtE) D.leA := sop_cmp sop_le (fun _ _ _ => rfl) (fun r1 r2 h n u q => le_data r1 r2 h n u q) hu
theorem sop_gtA (hu : X.A.units + 65 < cLine) : SOp X G (compareOp .Gt) D.gtA := sop_cmp sop_gt (fun _ _ _ => rfl) (fun r1 r2 h n u q => gt_data r1 r2 h n u q) hu
theorem sop_geA (hu : X.A.units + 65 < cLine) : SOp X G (compareOp .GtE) D.geA := sop_cmp sop_ge (fun _ _ _ => rfl) (fun r1 r2 h n u q => ge_data r1 r2 h n u q) hu

/-! ### sorted -/
/-- any two of them can be compared -/
def alikesD (l : List D) : Bool := l.all fun x => l.all fun y => alike x.py y.py
def sortable (l : List D) : Bool := (l.all fun d => match d with
  | .tup (_ :: _) => true
  | _ => false) || l.all fun d => match d with
  | .tup _ => false
  | .non => false
  | _ => true
def sortOk (l : List D) : Bool := D.flats 31 l && alikesD l && sortable l && Nat.ble l.length 16000000
def sortD (l : List D) : List D := l.mergeSort fun x y => !D.ltD y x
theorem allAlike_of {l : List D} (h : alikesD l = true) : AllAlike (l.map D.py) := by
  intro d hd d' hd'
  obtain ⟨x, hx, rfl⟩ := List.mem_map.mp hd
  obtain ⟨y, hy, rfl⟩ := List.mem_map.mp hd'
  unfold alikesD at h
  rw [List.all_eq_true] at h
  have := h x hx
  rw [List.all_eq_true] at this
  exact this y hy
theorem flats_mem {n : Nat} : ∀ {l : List D} {d : D}, D.flats n l = true → d ∈ l → D.flat n d = true
  | [], _, _, h => by simp at h
  | x :: l, d, f, h => by
    simp only [D.flats, Bool.and_eq_true] at f
    rcases List.mem_cons.mp h with rfl | h
    · exact f.1
    · exact flats_mem f.2 h
theorem sortable_of {l : List D} (f : D.flats 31 l = true) (h : sortable l = true) : Sortable (l.map D.py) := by
  unfold sortable at h
  rw [Bool.or_eq_true, List.all_eq_true, List.all_eq_true] at h
  rcases h with h | h
  · refine .inl fun d hd => ?_
    obtain ⟨x, hx, rfl⟩ := List.mem_map.mp hd
    have := h x hx
    cases x <;> first | (cases this; done) | skip
    rename_i l'
    cases l' with
    | nil => cases this
    | cons y r => exact ⟨y.py, D.pys r, by simp [D.py, D.pys]⟩
  · refine .inr fun d hd => ?_
    obtain ⟨x, hx, rfl⟩ := List.mem_map.mp hd
    have := h x hx
    have fx := flats_mem f hx
    cases x <;> first | (cases this; done) | (simp [D.flat] at fx; done) | exact ⟨by simp [D.py], fun xs => by simp [D.py]⟩
/-- values that stand for data -/
def ValR (K : PySem.W.Frag) (G : Gs) (ρ : List Addr) (H : Hp) (u : Value) (d : D) : Prop := ∃ v, L2.RelV v u ∧ RV K G ρ H d v
theorem each_of {K : PySem.W.Frag} {ρ : List Addr} {H : Hp} : ∀ {l : List D} {xs : List V} {us : List Value}, RVs K G ρ H l xs → Vals xs us → EachIs (ValR K G ρ H) us l
  | [], _, us, h, r => by rw [h.inv_nil] at r; cases r; exact .nil
  | d :: l, _, us, h, r => by
    obtain ⟨v, q, rfl, h1, h2⟩ := h.inv_cons
    cases r with
    | cons a t => exact .cons ⟨v, a, h1⟩ (each_of h2 t)
theorem of_each {K : PySem.W.Frag} {ρ : List Addr} {H : Hp} {us : List Value} {l : List D} (h : EachIs (ValR K G ρ H) us l) : ∃ xs, Vals xs us ∧ RVs K G ρ H l xs := by
  induction h with
  | nil => exact ⟨[], .nil, .nil⟩
  | cons a t ih =>
    obtain ⟨xs, h1, h2⟩ := ih
    obtain ⟨v, r1, r2⟩ := a
    exact ⟨v :: xs, .cons r1 h1, .cons r2 h2⟩
theorem each_reads {pins : List (Addr × Obj)} {σ : L2.St} {H : Hp} {s : Shared} {ρ : List Addr} (I : L2.Inv X pins σ H s) {us : List Value} {l : List D} (f : D.flats 31 l = true) (h : EachIs (ValR X.K G ρ H) us l) : EachIs (fun v b => ∃ as, Reads s.heap v (D.py b) as) us l := by
  induction h with
  | nil => exact .nil
  | cons a t ih =>
    simp only [D.flats, Bool.and_eq_true] at f
    obtain ⟨v, r1, r2⟩ := a
    exact .cons (Dp.reads I _ _ _ (dp_of 31 _ _ f.1 r2) r1) (ih f.2)
/-- u can be collected to vs -/
def Coll (prog : Program) (w : World) (hd : Option Value) (s : Shared) (u : Value) (vs : List Value) : Prop :=
  ∀ (A' : Around), A'.handled = hd → ∀ (E : Value → Shared → Prop) (Q' : List Value → Shared → Prop), (∀ h' tk, (∀ b o, s.heap.get? b = some o → h'.get? b = some o) → s.heap.objs.size ≤ h'.objs.size → Q' vs { s with heap := h', toks := tk }) → wpAny (model prog w) A' (collect u) Q' E s
/-- sorted of what can be collected -/
theorem sorted_of {prog : Program} {w : World} {A : Around} {E : Value → Shared → Prop} {s : Shared} {u : Value} {vs : List Value} {κ : Heap → PyProof.Rows.KeyKind} {Ok : List Value → Prop} {Q : Value → Shared → Prop} (hL : vs.length ≤ sizeLine)
    (hc : Coll prog w A.handled s u vs)
    (S : ∀ h' : Heap, (∀ b o, s.heap.get? b = some o → h'.get? b = some o) → ∀ tk, SortsAt prog w A.in1.in1 { s with heap := h', toks := tk } (κ h') vs ∧ Ok (sortVals (κ h') false vs vs))
    (h : ∀ h' tk d n out, Ok out → (∀ b o, s.heap.get? b = some o → h'.get? b = some o) → s.heap.objs.size ≤ d → h'.get? d = some (seqObj "list" out.toArray n) → Q (.ref d) { s with heap := h', toks := tk }) :
    wpAny (model prog w) A (call (.builtin "sorted") [u]) Q E s := by
  refine Calls.call_function_entry kind_sorted plain_sorted entry_sorted (args_sorted1 _) ?_
  unfold Builtin.«sorted»
  refine wpAny_bind (m := checkCount "sorted" 1 1 _) (wpAny_pure ?_)
  refine wpAny_bind (show wpAny _ A.in1 (collect u) _ _ _ from hc A.in1 rfl _ _ fun h1 tk1 k1 z1 => ?_)
  refine wpAny_bind (wpAny_newList ?_ hL)
  have ho : (h1.push (seqObj "list" vs.toArray 0)).get? h1.objs.size = some (seqObj "list" vs.toArray 0) := Heap.get?_push_size _ rfl
  have k2 : ∀ b o, s.heap.get? b = some o → (sortingHeap (h1.push (seqObj "list" vs.toArray 0)) h1.objs.size vs).get? b = some o := fun b o e =>
    sortingHeap_old (Nat.ne_of_lt (Nat.lt_of_lt_of_le (Heap.lt_size e) z1)) (Heap.get?_push_of_some _ (k1 b o e))
  obtain ⟨S1, S2⟩ := S _ k2 tk1
  refine wpAny_bind (wpAny_holding (wpAny_call_entry slot_list_sort ⟨_, ho, rfl⟩ entry_list_sort ?body (args_list_sort _)))
  case body =>
    refine list_sort_vals (s := { s with heap := h1.push (seqObj "list" vs.toArray 0), toks := tk1 }) ho S1 hL ⟨_, rfl, ?_⟩
    refine wpAny_pure ⟨_, rfl, ?_⟩
    generalize sortVals _ false vs vs = out at S2 ⊢
    have k3 : ∀ b o, s.heap.get? b = some o → (sortedHeap (h1.push (seqObj "list" vs.toArray 0)) h1.objs.size vs out.toArray).get? b = some o := fun b o e => by
      have hlt := Nat.lt_of_lt_of_le (Heap.lt_size e) z1
      rw [sortedHeap_old (Nat.ne_of_lt hlt) (Nat.lt_of_lt_of_le hlt (by rw [size_push']; exact Nat.le_succ _))]
      exact Heap.get?_push_of_some _ (k1 b o e)
    obtain ⟨n, hn⟩ := sortedHeap_at (vs := vs) (out := out.toArray) ho
    exact h _ tk1 h1.objs.size n out S2 k3 z1 hn
theorem coll_seq {prog : Program} {w : World} {hd : Option Value} {s : Shared} {l : Addr} {o : Obj} {vs : List Value} {n : Nat} (ho : s.heap.get? l = some o) (hc : o.cls = .type "list" ∨ o.cls = .type "tuple") (hdt : o.data = .seq vs.toArray n) (hsz : vs.length ≤ sizeLine) : Coll prog w hd s (.ref l) vs := by
  intro A hA E Q h
  unfold collect
  refine wpAny_bind (wpAny_runValue (codeAny_builtin entry_proto_collect' ?_))
  show wpAny _ _ (do again (.builtin "list.__iadd__" ⟨[← newList [], .ref l], []⟩)) _ _ s
  refine wpAny_bind (wpAny_newList (wpAny_pure ⟨Code.quiet_builtin _ (by decide +kernel), codeAny_builtin entry_list_iadd' ?_⟩))
  show wpAny _ _ (Builtin.List.listExtendWith (.ref s.heap.objs.size) (.ref l) (.ref s.heap.objs.size)) _ _ { s with heap := s.heap.push (seqObj "list" #[] 0) }
  unfold Builtin.List.listExtendWith
  have ho' : (s.heap.push (seqObj "list" #[] 0)).get? l = some o := Heap.get?_push_of_some _ ho
  rcases hc with hc | hc
  all_goals
    refine wpAny_bind (wpAny_typeOf ⟨o, ho', hc⟩ ?_)
    rw [if_pos (by simp)]
    refine wpAny_bind (listItems_at ho' hdt ?_)
    refine wpAny_bind (listItems_at (xs := #[]) (n := 0) (Heap.get?_push_size _ rfl) rfl ?_)
    rw [if_neg (by simp)]
    refine wpAny_bind (listUpdate_at (xs := #[]) (n := 0) (Heap.get?_push_size _ rfl) rfl ?_ (Nat.zero_le _) (by show (#[] ++ vs.toArray).size ≤ sizeLine + 1; simp only [Array.size_append, List.size_toArray, List.length_nil]; omega))
    refine wpAny_pure ?_
    show wpAny (model prog w) A (do
        let o ← load s.heap.objs.size
        match o.data with
        | .seq xs _ => pure xs.toList
        | _ => unsupported "internal:collect") Q E { s with heap := (s.heap.push (seqObj "list" #[] 0)).update s.heap.objs.size (Obj.mapSeq (· ++ vs.toArray)) }
    refine wpAny_bind (wpAny_load (get?_update_seq (Heap.get?_push_size _ rfl) _) ?_)
    show wpAny _ _ (pure ((#[] : Array Value) ++ vs.toArray).toList) Q E _
    rw [show ((#[] : Array Value) ++ vs.toArray).toList = vs by simp]
    exact wpAny_pure (h _ _ (fun b o e => by rw [Heap.get?_update_ne _ _ _ _ (Nat.ne_of_lt (Heap.lt_size e))]; exact Heap.get?_push_of_some _ e) (by rw [Heap.size_update, size_push']; omega))
theorem coll_kdl {prog : Program} {w : World} {s : Shared} {T : String} {r d : Addr} {n : Nat} {P : Nat → Value → Prop} {OK : Heap → Prop} {vs : List Value} (K : KdlSrc prog w T r d n P OK) (hok : OK s.heap) (hn : n ≤ sizeLine) (hv : ∀ acc : Array Value, ItemsOf P acc n → acc.toList = vs) : Coll prog w none s (.ref r) vs := by
  intro A hh E Q hq
  unfold collect
  refine wpAny_bind (wpAny_runValue (codeAny_builtin F.entry_proto_collect ?_))
  rw [Around.under_plainId F.plain_proto_collect _]
  show wpAny _ A.in1 (newList [] >>= fun l => again (.builtin "list.__iadd__" ⟨[l, .ref r], []⟩)) _ _ s
  refine wpAny_bind (wpAny_newObj_type ?_)
  refine wpAny_pure ⟨plainId_quiet F.plain_list_iadd _, codeAny_builtin F.entry_list_iadd ?_⟩
  rw [Around.under_plainId F.plain_list_iadd _]
  show wpAny _ A.in1 (Builtin.List.listExtendWith (.ref s.heap.objs.size) (.ref r) (.ref s.heap.objs.size)) _ _ _
  have hS : (s.heap.push { cls := .type "list", data := .seq ([] : List Value).toArray }).get? s.heap.objs.size = some { cls := .type "list", data := .seq #[] 0 } := Heap.get?_push_size _ rfl
  have hlt := K.there _ hok
  refine wpAny_mono (kdl_extend (A := A) (R := fun rr s' => rr = .ok (.ret (.ref s.heap.objs.size)) ∧ ∃ (h' : Heap) (tk : Nat) (acc : Array Value) (c' : Nat), s' = { s with heap := h', toks := tk } ∧
      (∀ b o, s.heap.get? b = some o → h'.get? b = some o) ∧ h'.get? s.heap.objs.size = some { cls := .type "list", dict := none, data := .seq acc c', slots := #[] } ∧ ItemsOf P acc n)
    (s := { s with heap := s.heap.push { cls := .type "list", data := .seq ([] : List Value).toArray } }) K hh (K.keep _ _ hok fun b _ o e => Heap.get?_push_of_some _ e) _ (Nat.ne_of_gt hlt.1) (Nat.ne_of_gt hlt.2) _ 0 hS
    (fun h' tk acc c' hk e hi => ⟨rfl, h', tk, acc, c', rfl, fun b o q => hk b o (Nat.ne_of_lt (Heap.lt_size q)) (Heap.get?_push_of_some _ q), e, hi⟩) hn) (fun fin s' h => ?_) (fun e s' h => ?_)
  · cases fin with
    | done f =>
      obtain ⟨e, h', tk, acc, c', rfl, hk, hS', hi⟩ := h
      cases e
      show wpAny _ A (load s.heap.objs.size >>= _) _ _ _
      have := hv acc hi
      subst this
      exact wpAny_bind (wpAny_load hS' (wpAny_pure (hq h' tk hk (Nat.le_of_lt (Heap.lt_size hS')))))
    | again c' =>
      refine ⟨h.1, codeAny_mono h.2 fun rr s'' hr' => ?_⟩
      obtain ⟨rfl, h', tk, acc, c', rfl, hk, hS', hi⟩ := hr'
      have := hv acc hi
      subst this
      show wpAny _ A (load s.heap.objs.size >>= _) _ _ _
      exact wpAny_bind (wpAny_load hS' (wpAny_pure (hq h' tk hk (Nat.le_of_lt (Heap.lt_size hS')))))
  · exact absurd h.1 (by simp)
end
end DL

set_option Elab.async false
set_option linter.all false
set_option maxRecDepth 100000
set_option maxHeartbeats 4000000
/-! DL22: what can be collected; list, sorted, len, max, min, sum of it. -/
namespace DL
open PySem PySem.Spec PyProof.Rows L2 GX GxR RZ PySem.W
/-- a list or a tuple that can be read, or a dict, whose keys these are -/
def rCo (K : PySem.W.Frag) (G : Gs) : Hp → List Addr → Hp → List D → V → Prop := fun _ ρ H l v =>
  (∃ a xs, v = .ref a ∧ (SqL K H a xs ∨ SqT K H a xs) ∧ RVs K G ρ H l xs) ∨ ∃ a kvs ep ents, v = .ref a ∧ DctR K G ρ H a kvs ep ents ∧ l = kvs.map (·.1)
theorem later_Co {K : PySem.W.Frag} {G : Gs} : Later (rCo K G) := fun _ _ _ _ _ _ _ _ _ _ h => h
structure SCo (X : Cx) (G : Gs) (W : WX) (e : Expr) (φ : LΦ) : Prop where
  pe : PE X e (tG X.K G W (rCo X.K G) φ)
def rdC (h : Hh) (d : D) : R (List D) := match dctAt h d with
  | some (_, l, _) => .ok (l.map (·.1)) h
  | none => rdQ h d
def Co.of (a : EΦ) : LΦ := fun env h => (a env h).bind fun d h => rdC h d
section
variable {X : Cx} {G : Gs} {W : WX} {a b o i e iter tg : Expr} {es : List Expr} {pos tpos : Pos}
theorem SCo.ofE {φ : EΦ} (h : SE X G W e φ) : SCo X G W e (Co.of φ) := by
  refine ⟨PE.weak h.pe ?_⟩
  rintro σ H Q ⟨ρ, hh, env, rp, re, sat⟩
  refine tG.seq later_Co rp re sat fun d v ρ1 hh1 H1 e1 rp1 re1 rd sat1 => ?_
  unfold rdC at sat1
  split at sat1
  · rename_i n l ep hl
    obtain ⟨a, xs, rfl, ha, hd, _⟩ := dctAt_ok rp1 rd hl
    exact Sat.mk sat1 (Ext.refl _ _) rp1 (.inr ⟨a, l, ep, xs, rfl, hd, rfl⟩)
  · obtain ⟨l, p, xs, rfl, h1, h2, h3⟩ := rdQ_ok rp1 rd sat1
    exact h3 _ _ _ (Ext.refl _ _) rp1 (.inl ⟨p, xs, rfl, h1, h2⟩)
theorem SCo.ofQ {φ : LΦ} (h : SQ X G W e φ) : SCo X G W e φ := by
  refine ⟨PE.weak h.pe ?_⟩
  rintro σ H Q ⟨ρ, hh, env, rp, re, sat⟩
  exact ⟨ρ, hh, env, rp, re, R.sat_mono sat (fun l hh1 q v H1 ρ1 e1 rp1 rl => q _ _ _ e1 rp1 (.inl rl)) fun x hh' q => q⟩
theorem SCo.ofL {φ : LΦ} (h : SL X G W e φ) : SCo X G W e φ := .ofQ (.ofL h)
theorem keys_each {K : PySem.W.Frag} {ρ : List Addr} {H : Hp} : ∀ {kvs : List (D × D)} {ents : List DK.Ent}, EntsR K G ρ H kvs ents → EachIs (ValR K G ρ H) (ents.map (·.2.1)) (kvs.map (·.1))
  | [], _, h => by cases h; exact .nil
  | p :: l, _, ⟨x, r, e, ⟨h1, h2, vk, vv, r1, r2, r3, r4⟩, t⟩ => by
    subst e
    exact .cons ⟨vk, r1, r3⟩ (keys_each t)
theorem keys_list {w : World} {h : Heap} {d : Addr} {ents : List DK.Ent} {ep : Nat} (hr : RawD w d ents ep h) : ∃ es, h.DictRaw d es ep ∧ es.size = ents.length ∧ ∀ acc : Array Value, ItemsOf (fun i v => ∃ hi : i < es.size, v = es[i].key) acc es.size → acc.toList = ents.map (·.2.1) := by
  obtain ⟨es, h1, h2, h3⟩ := raw_of hr
  refine ⟨es, h1, h2, fun acc hi => ?_⟩
  obtain ⟨hs, hi⟩ := hi
  apply List.ext_getElem?
  intro i
  by_cases hl : i < es.size
  · obtain ⟨x, g1, g2, _⟩ := h3 i hl
    rw [List.getElem?_map, g1]
    have hl' : i < acc.size := by omega
    rw [Array.getElem?_toList, Array.getElem?_eq_getElem hl']
    obtain ⟨_, hv⟩ := hi i _ (Array.getElem?_eq_getElem hl')
    rw [hv, g2]
    rfl
  · rw [List.getElem?_eq_none (by rw [Array.length_toList]; omega), List.getElem?_eq_none (by rw [List.length_map]; omega)]
theorem coll_of {pins : List (Addr × Obj)} {σ : L2.St} {H H0 : Hp} {s : Shared} {ρ : List Addr} {hh : Hh} {l : List D} {v : V} {u : Value} (I : L2.Inv X pins σ H s) (r : rCo X.K G H0 ρ H l v) (rv : L2.RelV v u) : ∃ vs, EachIs (ValR X.K G ρ H) vs l ∧ vs.length ≤ sizeLine ∧ Coll X.prog X.w none s u vs := by
  rcases r with ⟨a, xs, rfl, h1, h2⟩ | ⟨a, kvs, ep, ents, rfl, hd, rfl⟩
  · have : u = .ref a := rv
    subst this
    rcases h1 with h1 | h1
    · obtain ⟨its, r', pl, hz⟩ := I.list h1
      obtain ⟨o, ho, hc, n, hdt⟩ := pl.isList
      exact ⟨its, each_of h2 r', by rw [← r'.length]; exact hz, coll_seq ho (.inl hc) hdt (by rw [← r'.length]; exact hz)⟩
    · obtain ⟨its, r', pl, hz⟩ := I.tuple h1
      obtain ⟨o, ho, hc, n, hdt⟩ := pl
      exact ⟨its, each_of h2 r', by rw [← r'.length]; exact hz, coll_seq ho (.inr hc) hdt (by rw [← r'.length]; exact hz)⟩
  · have : u = .ref a := rv
    subst this
    obtain ⟨es, g1, g2, g3⟩ := keys_list (I.hok _ _ hd.raw).1
    have hl := hd.es.length
    refine ⟨_, keys_each hd.es, by rw [List.length_map, hl]; exact hd.sz, coll_kdl (KdlSrc.rawDict hd.sm) g1 (by rw [g2, hl]; exact hd.sz) g3⟩
/-! ### list, sorted -/
theorem call_listC (hc : X.calm = true) : CallR X (.type "list") (fun vs H Q => ∃ v ρ l, vs = [v] ∧ rCo X.K G H ρ H l v ∧ ∀ xs p, RVs X.K G ρ H l xs → H p = none → Q (.ref p) (L2.upd H p (.lst xs))) := by
  intro pins s σ H vs us Q I r h
  obtain ⟨v, ρ, l, rfl, hr, q⟩ := h
  obtain ⟨u, rfl, ru⟩ := vals1 r
  rcases hr with ⟨a, xs, rfl, h1, h2⟩ | ⟨a, kvs, ep, ents, rfl, hd, rfl⟩
  · exact call_list_of pins s σ H _ _ Q I r ⟨a, xs, rfl, h1, fun p hp => q xs p h2 hp⟩
  · have : u = .ref a := ru
    subst this
    obtain ⟨es, g1, g2, g3⟩ := keys_list (I.hok _ _ hd.raw).1
    have hl := hd.es.length
    refine kdl_call (KdlSrc.rawDict hd.sm) (I.ok.hd hc) g1 (by rw [g2, hl]; exact hd.sz) fun h' tk acc c' hk hS hi => ?_
    obtain ⟨xs, w1, w2⟩ := of_each (keys_each hd.es)
    have hacc := g3 acc hi
    refine ⟨.ref s.heap.objs.size, _, I.laid (t' := tk) (o := .lst xs) hk (Nat.le_refl _) ⟨?_, acc.toList, c', by rw [hacc]; exact w1, by simpa using hS⟩, rfl, q xs _ w2 (I.hok.fresh (Nat.le_refl _))⟩
    rw [w1.length, List.length_map, hl]; exact hd.sz
theorem SL.listC {p : Pos} {φ : LΦ} (hc : X.calm = true) (ha : SCo X G W a φ) (hg : Gl X "list") (hm : X.mg "list" = none) (na : starEach [a] X.env = (false, eval a X.env) :: starEach [] X.env := by rfl) : SL X G W (.Call (.Name "list" p) [a] [] pos) φ := by
  refine ⟨PE.weak (pe_callTy (call_listC (G := G) hc) hg hm boot_list (pa_cons ha.pe pa_nil na) (he := na)) ?_⟩
  rintro σ H Q ⟨ρ, hh, env, rp, re, sat⟩
  refine tG.seq (k := fun l h => .ok l h) later_L rp re (by cases q : φ env hh <;> rw [q] at sat <;> exact sat) fun l v ρ1 hh1 H1 e1 rp1 re1 rl sat1 => ?_
  exact ⟨v, ρ1, l, rfl, rl, fun xs t h2 ht => Sat.mk sat1 (Ext.laid ht) (rp1.side ht) ⟨t, xs, rfl, upd_same, ht, rp1.notin ht, RVs.ext (Ext.laid ht) _ _ h2⟩⟩
def L.sorted (a : LΦ) : LΦ := fun env h => (a env h).bind fun l h => if sortOk l then .ok (sortD l) h else .bad
theorem call_sortedC (hc : X.calm = true) (hu : X.A.units + 65 < cLine) : CallR X (.builtin "sorted") (fun vs H Q => ∃ v ρ l, vs = [v] ∧ rCo X.K G H ρ H l v ∧ sortOk l = true ∧ ∀ xs p, RVs X.K G ρ H (sortD l) xs → H p = none → Q (.ref p) (L2.upd H p (.lst xs))) := by
  intro pins s σ H vs us Q I r h
  obtain ⟨v, ρ, l, rfl, hr, hk, q⟩ := h
  obtain ⟨u, rfl, ru⟩ := vals1 r
  obtain ⟨its, he, hz, hcol⟩ := coll_of (hh := []) I hr ru
  simp only [sortOk, Bool.and_eq_true, Nat.ble_eq] at hk
  obtain ⟨⟨⟨k1, k2⟩, k3⟩, k4⟩ := hk
  have hlen := he.length
  have hreads : ∀ h' : Heap, (∀ b o, s.heap.get? b = some o → h'.get? b = some o) → EachIs (fun v b => ∃ as, Reads h' v (D.py b) as) its l := fun h' k =>
    (each_reads I k1 he).mono fun _ _ ⟨as, r⟩ => ⟨as, PyProof.Rows.Reads.keeps (fun b o e => k b o e) r⟩
  have hsort : ∀ h' : Heap, (∀ b o, s.heap.get? b = some o → h'.get? b = some o) → EachIs (ValR X.K G ρ H) (sortVals (dataKind h' (l.map D.py)) false its its) (sortD l) := fun h' k =>
    sortVals_data false he (hreads h' k) (allAlike_of k2)
  have hdep : ∀ d ∈ l, X.A.units + 2 + (D.py d).depth < cLine := fun d hd => by
    have := depth31 (flats_mem k1 hd)
    omega
  refine sorted_of (κ := fun h' => dataKind h' (l.map D.py)) (Ok := fun out => EachIs (ValR X.K G ρ H) out (sortD l)) hz (by rw [I.ok.hd hc]; exact hcol) (fun h' k tk => ⟨?_, hsort h' k⟩) fun h' tk d n out ho k hd hn => ?_
  · exact SortsAt.data (s := { s with heap := h', toks := tk }) (each_map (R := fun v d => ∃ as, Reads h' v d as) D.py (hreads h' k)) (allAlike_of k2) (sortable_of k1 k3) (bound_map hdep)
  · obtain ⟨xs, w1, w2⟩ := of_each ho
    refine ⟨.ref d, _, I.laid (t' := tk) (o := .lst xs) k hd ⟨?_, _, n, w1, hn⟩, rfl, q xs d w2 (I.hok.fresh hd)⟩
    rw [w2.length, sortD, List.length_mergeSort, sizeLine_eq]
    omega
theorem SL.sortedC {p : Pos} {φ : LΦ} (hc : X.calm = true) (hu : X.A.units + 65 < cLine) (ha : SCo X G W a φ) (hg : Gl X "sorted") (hm : X.mg "sorted" = none) (na : starEach [a] X.env = (false, eval a X.env) :: starEach [] X.env := by rfl) : SL X G W (.Call (.Name "sorted" p) [a] [] pos) (L.sorted φ) := by
  refine ⟨PE.weak (pe_callB (call_sortedC (G := G) hc hu) hg hm boot_sorted (pa_cons ha.pe pa_nil na) (he := na)) ?_⟩
  rintro σ H Q ⟨ρ, hh, env, rp, re, sat⟩
  refine tG.seq later_L rp re sat fun l v ρ1 hh1 H1 e1 rp1 re1 rl sat1 => ?_
  split at sat1
  · rename_i hk
    exact ⟨v, ρ1, l, rfl, rl, hk, fun xs t h2 ht => Sat.mk sat1 (Ext.laid ht) (rp1.side ht) ⟨t, xs, rfl, upd_same, ht, rp1.notin ht, RVs.ext (Ext.laid ht) _ _ h2⟩⟩
  · exact sat1.elim
/-! ### len -/
def lenC : List D → Hh → R D := fun ds h => match ds with
  | [.str s] => fits s.length (.ok (.int s.length) h)
  | [d] => (rdC h d).bind fun l h => .ok (.int l.length) h
  | _ => .bad
theorem call_len_dct {K : PySem.W.Frag} : CallR X (.builtin "len") (fun vs H Q => ∃ a ents ep, vs = [.ref a] ∧ (a == sysModules) = false ∧ H a = some (.ext (RawD G.w a ents ep)) ∧ ents.length ≤ sizeLine ∧ Q (.int ents.length) H) := by
  intro pins s σ H vs us Q I r h
  obtain ⟨a, ents, ep, rfl, hs, hr, hz, q⟩ := h
  obtain ⟨u, rfl, ru⟩ := vals1 r
  have : u = .ref a := ru
  subst this
  obtain ⟨es, g1, g2, _⟩ := raw_of (I.hok _ _ hr).1
  rw [sizeLine_eq] at hz
  refine call_len_slot g1.typeIs PySem.F.slot_dict_len (fun Q' hq => call_len_raw hs g1 hq) (by omega) (by omega) ?_
  rw [g2]
  exact ⟨.int ents.length, H, (I.tok (s.toks + 1 + 1)), ⟨_, rfl⟩, q⟩
theorem nox_rdC (d : D) (h : Hh) : ∀ e h', rdC h d ≠ .exc e h' := by
  intro e h' q
  unfold rdC at q
  split at q
  · cases q
  · exact nox_rdQ _ _ _ _ q
theorem sc_lenC : SCall X G (.builtin "len") lenC := by
  refine ⟨fun pins s σ H vs us Q I r h => ?_, fun ds h e h' q => ?_⟩
  · obtain ⟨ρ, hh, ds, rp, rds, sat⟩ := h
    unfold lenC at sat
    split at sat
    · obtain ⟨v, rfl, r1⟩ := rds.one
      have := rv_str r1
      subst this
      obtain ⟨hz, sat⟩ := Sat.fits sat
      exact call_len_str pins s σ H _ us Q I r ⟨_, rfl, Nat.le_of_lt hz, Sat.mk sat (Ext.refl _ _) rp mk_int⟩
    · rename_i d _
      obtain ⟨v, rfl, r1⟩ := rds.one
      unfold rdC at sat
      split at sat
      · rename_i n l ep hl
        obtain ⟨a, xs, rfl, ha, hd, _⟩ := dctAt_ok rp r1 hl
        have hlen := hd.es.length
        have hm : Sat X.K G (fun _ _ _ _ => False) (rV X.K G) ρ H [] Q (.ok (.int (l.map (·.1)).length) hh) := sat
        exact call_len_dct (K := X.K) (G := G) pins s σ H _ us Q I r ⟨a, xs, ep, rfl, hd.sm, hd.raw, by rw [hlen]; exact hd.sz, Sat.mk (rep2 := rV X.K G) (a := D.int (l.map (·.1)).length) hm (Ext.refl _ _) rp (by rw [List.length_map, ← hlen]; exact mk_int)⟩
      · obtain ⟨l, p, xs, rfl, h1, h2, h3⟩ := rdQ_ok rp r1 (R.sat_bind sat)
        exact call_len_seq pins s σ H _ us Q I r ⟨p, xs, rfl, h1, by rw [h2.length]; exact h3 _ _ _ (Ext.refl _ _) rp mk_int⟩
    · exact sat.elim
  · unfold lenC at q
    split at q
    · unfold fits at q; split at q <;> cases q
    · exact nox_bind (nox_rdC _ _) (fun _ _ _ _ q => by cases q) _ _ q
    · cases q

/-! ### max, min of a sequence; sum -/
theorem pys_map : ∀ l : List D, D.pys l = l.map D.py
  | [] => rfl
  | d :: l => by rw [D.pys, pys_map l, List.map_cons]
def bestOk (l : List D) : Bool := D.flats 31 l && alikesD l && (l.all fun d => !d.isN)
def maxF (x : D) (xs : List D) : D := xs.foldl (fun a y => if D.ltD a y then y else a) x
def minF (x : D) (xs : List D) : D := xs.foldl (fun a y => if D.ltD y a then y else a) x
theorem maxF_py : ∀ (xs : List D) (x : D), (maxF x xs).py = maxD x.py (xs.map D.py)
  | [], x => rfl
  | y :: xs, x => by
    show (maxF (if D.ltD x y then y else x) xs).py = maxD (if dataLt x.py y.py then y.py else x.py) (xs.map D.py)
    rw [maxF_py xs]
    congr 1
    unfold D.ltD
    split <;> rfl
theorem minF_py : ∀ (xs : List D) (x : D), (minF x xs).py = minD x.py (xs.map D.py)
  | [], x => rfl
  | y :: xs, x => by
    show (minF (if D.ltD y x then y else x) xs).py = minD (if dataLt y.py x.py then y.py else x.py) (xs.map D.py)
    rw [minF_py xs]
    congr 1
    unfold D.ltD
    split <;> rfl
theorem maxF_mem : ∀ (xs : List D) (x : D), maxF x xs ∈ x :: xs
  | [], x => by simp [maxF]
  | y :: xs, x => by
    have := maxF_mem xs (if D.ltD x y then y else x)
    show maxF (if D.ltD x y then y else x) xs ∈ _
    split at this <;> rename_i c <;> simp only [c, if_true, if_false, Bool.false_eq_true] <;> rcases List.mem_cons.mp this with h | h <;> simp [h]
theorem minF_mem : ∀ (xs : List D) (x : D), minF x xs ∈ x :: xs
  | [], x => by simp [minF]
  | y :: xs, x => by
    have := minF_mem xs (if D.ltD y x then y else x)
    show minF (if D.ltD y x then y else x) xs ∈ _
    split at this <;> rename_i c <;> simp only [c, if_true, if_false, Bool.false_eq_true] <;> rcases List.mem_cons.mp this with h | h <;> simp [h]
def maxL (l : List D) (h : Hh) : R D := match l with
  | [] => .bad
  | x :: xs => if bestOk (x :: xs) then .ok (maxF x xs) h else .bad
def minL (l : List D) (h : Hh) : R D := match l with
  | [] => .bad
  | x :: xs => if bestOk (x :: xs) then .ok (minF x xs) h else .bad
theorem vals_get {xs : List V} {us : List Value} (r : Vals xs us) {i : Nat} {u : Value} (h : us[i]? = some u) : ∃ v, xs[i]? = some v ∧ L2.RelV v u := by
  have hl := r.length
  have hi := (List.getElem?_eq_some_iff.mp h).1
  obtain ⟨u', g1, g2⟩ := r.get (i := i) (x := xs[i]'(by omega)) (List.getElem?_eq_getElem (by omega))
  rw [h] at g1; cases g1
  exact ⟨_, List.getElem?_eq_getElem (by omega), g2⟩
theorem best_is {pins : List (Addr × Obj)} {σ : L2.St} {H : Hp} {s : Shared} {ρ : List Addr} {l : List D} {xs : List V} {its : List Value} {i : Nat} {v : Value} {b : D} {h' : Heap} {bs : List Addr} (I : L2.Inv X pins σ H s) (f : D.flats 31 l = true) (al : alikesD l = true) (h2 : RVs X.K G ρ H l xs) (r : Vals xs its) (hv : its[i]? = some v) (hb : b ∈ l) (hr : Reads h' v b.py bs) (k : ∀ b o, s.heap.get? b = some o → h'.get? b = some o) : ∃ w, L2.RelV w v ∧ RV X.K G ρ H b w := by
  obtain ⟨w, g1, g2⟩ := vals_get r hv
  obtain ⟨d, g3, g4⟩ := h2.get' g1
  have hd := List.mem_of_getElem? g3
  have fd := flats_mem f hd
  have fb := flats_mem f hb
  obtain ⟨as, r1⟩ := Dp.reads I _ _ _ (dp_of 31 _ _ fd g4) g2
  have r2 : Reads h' v d.py as := PyProof.Rows.Reads.keeps (fun b o e => k b o e) r1
  have hal : alike d.py b.py = true := allAlike_of al _ (List.mem_map.mpr ⟨d, hd, rfl⟩) _ (List.mem_map.mpr ⟨b, hb, rfl⟩)
  have := py_inj 31 d b fd fb (alike_unique _ _ _ _ _ hal r2 hr)
  rw [← this]
  exact ⟨w, g2, g4⟩
theorem alikeAll_of {l : List D} (f : D.flats 31 l = true) (al : alikesD l = true) (n : (l.all fun d => !d.isN) = true) : AlikeAll (D.pys l) := by
  rw [pys_map]
  refine ⟨fun x hx y hy => allAlike_of al x hx y hy, fun x hx => ?_⟩
  obtain ⟨d, hd, rfl⟩ := List.mem_map.mp hx
  rw [List.all_eq_true] at n
  exact ne_non (n d hd) (flats_mem f hd)
/-- max or min of a list or tuple -/
def bestL (z : Bool) (l : List D) (h : Hh) : R D := if z then maxL l h else minL l h
abbrev nmB : Bool → String
  | true => "max"
  | false => "min"
theorem call_best (z : Bool) (hc : X.calm = true) (hu : X.A.units + 65 < cLine) : CallR X (.builtin (nmB z)) (fun vs H Q => ∃ ρ hh l v, vs = [v] ∧ Rep X.K G ρ hh H ∧ rQ X.K G H ρ H l v ∧ Sat X.K G (fun _ _ _ _ => False) (rV X.K G) ρ H [] Q (bestL z l hh)) := by
  intro pins s σ H vs us Q I r h
  obtain ⟨ρ, hh, l, v, rfl, rp, ⟨a, xs, rfl, h1, h2⟩, sat⟩ := h
  obtain ⟨u, rfl, ru⟩ := vals1 r
  have : u = .ref a := ru
  subst this
  have fin : ∀ {d : D} {v : Value} {h' : Heap} {tk : Nat}, Sat X.K G (fun _ _ _ _ => False) (rV X.K G) ρ H [] Q (.ok d hh) → (∃ w, L2.RelV w v ∧ RV X.K G ρ H d w) → (∀ b o, s.heap.get? b = some o → h'.get? b = some o) → EP X pins σ Q v { s with heap := h', toks := tk } := fun sat ⟨w, g1, g2⟩ k =>
    ⟨w, H, I.kept k, g1, Sat.mk sat (Ext.refl _ _) rp g2⟩
  have go : ∀ (x : D) (ds : List D), l = x :: ds → bestOk l = true → Sat X.K G (fun _ _ _ _ => False) (rV X.K G) ρ H [] Q (.ok (if z then maxF x ds else minF x ds) hh) → wpAny (model X.prog X.w) X.A (call (.builtin (nmB z)) [.ref a]) (EP X pins σ Q) X.xe s := by
    rintro x ds rfl hk sat
    simp only [bestOk, Bool.and_eq_true] at hk
    obtain ⟨⟨k1, k2⟩, k3⟩ := hk
    have al := alikeAll_of k1 k2 k3
    have hdep : X.A.units + 1 + PyData.depthAll (D.pys (x :: ds)) < cLine := by
      have := pys_depth 31 (x :: ds) k1
      omega
    rcases h1 with h1 | h1
    · obtain ⟨its, r', pl, hz⟩ := I.list h1
      obtain ⟨as, hr⟩ := Dp.readsAll I _ _ its (dps_of 31 _ _ k1 h2) r'
      cases z with
      | true =>
        refine max_list_data (I.ok.hd hc) pl.isList (by simpa [D.pys] using hr) al hdep fun i v h' tk bs hv hrd k => fin sat ?_ k
        exact best_is (bs := bs) I k1 k2 h2 r' (by simpa using hv) (maxF_mem ds x) (by show Reads h' v (maxF x ds).py bs; rw [maxF_py, ← pys_map]; exact hrd) k
      | false =>
        refine min_list_data (I.ok.hd hc) pl.isList (by simpa [D.pys] using hr) al hdep fun i v h' tk bs hv hrd k => fin sat ?_ k
        exact best_is (bs := bs) I k1 k2 h2 r' (by simpa using hv) (minF_mem ds x) (by show Reads h' v (minF x ds).py bs; rw [minF_py, ← pys_map]; exact hrd) k
    · obtain ⟨its, r', pl, hz⟩ := I.tuple h1
      obtain ⟨as, hr⟩ := Dp.readsAll I _ _ its (dps_of 31 _ _ k1 h2) r'
      cases z with
      | true =>
        refine max_tuple_data (I.ok.hd hc) pl (by simpa [D.pys] using hr) al hdep fun i v h' tk bs hv hrd k => fin sat ?_ k
        exact best_is (bs := bs) I k1 k2 h2 r' (by simpa using hv) (maxF_mem ds x) (by show Reads h' v (maxF x ds).py bs; rw [maxF_py, ← pys_map]; exact hrd) k
      | false =>
        refine min_tuple_data (I.ok.hd hc) pl (by simpa [D.pys] using hr) al hdep fun i v h' tk bs hv hrd k => fin sat ?_ k
        exact best_is (bs := bs) I k1 k2 h2 r' (by simpa using hv) (minF_mem ds x) (by show Reads h' v (minF x ds).py bs; rw [minF_py, ← pys_map]; exact hrd) k
  unfold bestL maxL minL at sat
  cases l with
  | nil => cases z <;> exact sat.elim
  | cons x ds =>
    by_cases hk : bestOk (x :: ds) = true
    · refine go x ds rfl hk ?_
      cases z <;> simpa [hk] using sat
    · cases z <;> (simp [hk] at sat; exact sat.elim)
def E.best (z : Bool) (a : LΦ) : EΦ := fun env h => (a env h).bind fun l h => bestL z l h
theorem nox_best (z : Bool) (l : List D) (h : Hh) : ∀ e h', bestL z l h ≠ .exc e h' := by
  intro e h' q
  unfold bestL maxL minL at q
  cases z <;> cases l <;> simp at q <;> split at q <;> cases q
theorem SE.best {p : Pos} {z : Bool} {φ : LΦ} (hc : X.calm = true) (hu : X.A.units + 65 < cLine) (ha : SQ X G W a φ) (hg : Gl X (Str.ofString (nmB z))) (hm : X.mg (Str.ofString (nmB z)) = none) (hb : bootBuiltins (Str.ofString (nmB z)) = some (.builtin (nmB z))) (hn : Str.ofString (nmB z) ≠ "__name__" := by decide) (hdb : (Str.ofString (nmB z) == ("__debug__" : Str)) = false := by decide) (na : starEach [a] X.env = (false, eval a X.env) :: starEach [] X.env := by rfl) (hpl : (backTo pos (starEach [] X.env)).any (·.1) = false := by rfl) : SE X G W (.Call (.Name (Str.ofString (nmB z)) p) [a] [] pos) (E.best z φ) := by
  refine ⟨PE.weak (pe_callB (call_best (G := G) z hc hu) hg hm hb (pa_cons ha.pe pa_nil na) hn hdb na hpl) ?_⟩
  rintro σ H Q ⟨ρ, hh, env, rp, re, sat⟩
  refine tG.seq later_V rp re sat fun l v ρ1 hh1 H1 e1 rp1 re1 rl sat1 => ?_
  exact ⟨ρ1, hh1, l, v, rfl, rp1, rl, Sat.nox sat1 (nox_best _ _ _)⟩
def E.sum (a : LΦ) : EΦ := fun env h => (a env h).bind fun l h => match intsOf l with
  | some ns => .ok (.int ns.sum) h
  | none => .bad
theorem SE.sum {p : Pos} {φ : LΦ} (hc : X.calm = true) (ha : SR X G W a φ) (hg : Gl X "sum") (hm : X.mg "sum" = none) (na : starEach [a] X.env = (false, eval a X.env) :: starEach [] X.env := by rfl) : SE X G W (.Call (.Name "sum" p) [a] [] pos) (E.sum φ) := by
  refine ⟨PE.weak (pe_callB (cr_sum hc) hg hm boot_sum (pa_cons ha.pe pa_nil na) (he := na)) ?_⟩
  rintro σ H Q ⟨ρ, hh, env, rp, re, sat⟩
  refine tG.seq later_V rp re sat fun l v ρ1 hh1 H1 e1 rp1 re1 rl sat1 => ?_
  obtain ⟨a, xs, rfl, h1, h2⟩ := rl
  split at sat1
  · rename_i ns hn
    have e := intsOf_ok hn
    subst e
    have e2 := RVs.ints h2
    subst e2
    exact ⟨a, ns, rfl, h1, Sat.mk sat1 (Ext.refl _ _) rp1 mk_int⟩
  · exact sat1.elim
end
end DL

set_option Elab.async false
set_option linter.all false
set_option maxRecDepth 100000
set_option maxHeartbeats 4000000
/-! DL23: x in c: a tuple, a list, a dict, a text's sign. -/
namespace DL
open PySem PySem.Spec PyProof.Rows L2 GX GxR RZ PySem.W
def anyEq (x : D) (l : List D) : Bool := l.any fun z => D.eqv z x
def inSeq (neg : Bool) (x : D) (l : List D) (h : Hh) : R D := if D.flats 31 l && D.flat 31 x then .ok (.bl (if neg then !anyEq x l else anyEq x l)) h else .bad
def inStr (neg : Bool) (x : Str) (z : Str) (h : Hh) : R D := match x.cps.toList with
  | [c] => .ok (.bl (if neg then !decide (c ∈ z.cps.toList) else decide (c ∈ z.cps.toList))) h
  | _ => .bad
def D.inA (neg : Bool) (x c : D) (h : Hh) : R D := match dctAt h c with
  | some _ => D.inK neg x c h
  | none => (match c with
    | .tup l => inSeq neg x l h
    | .ref n => (rdL h (.ref n)).bind fun l h => inSeq neg x l h
    | .str z => (match x with
      | .str y => inStr neg y z h
      | _ => .bad)
    | _ => .bad)
theorem any_py {x : D} : ∀ {l : List D}, D.flats 31 l = true → D.flat 31 x = true → ((D.pys l).any fun z => PyData.eqv z x.py) = anyEq x l
  | [], _, _ => rfl
  | d :: l, f, g => by
    simp only [D.flats, Bool.and_eq_true] at f
    have ih := any_py (x := x) f.2 g
    unfold anyEq at ih ⊢
    simp only [D.pys, List.any_cons, ih, py_eqv 31 _ _ f.1 g]
section
variable {X : Cx} {G : Gs} {W : WX}
theorem nox_inA (neg : Bool) : ∀ x y h e h', D.inA neg x y h ≠ .exc e h' := by
  intro x y h e h' q
  have n1 : ∀ l h, ∀ e h', inSeq neg x l h ≠ .exc e h' := by
    intro l h e h' q
    unfold inSeq at q
    split at q <;> cases q
  unfold D.inA at q
  split at q
  · exact nox_inK _ _ _ _ _ _ q
  · split at q
    · exact n1 _ _ _ _ q
    · exact nox_bind (nox_rdL _ _) (fun _ _ => n1 _ _) _ _ q
    · split at q
      · unfold inStr at q
        split at q <;> cases q
      · cases q
    · cases q
theorem op_inA (neg : Bool) {op : CmpOp} (hK : OpR X (compareOp op) (rOp X.K G (D.inK neg)))
    (hL : ∀ {s : Shared} {c x : Value} {xs : List PyData} {d : PyData} {as bs : List Addr} {Q : Value → Shared → Prop} {E : Value → Shared → Prop}, Reads s.heap c (.list xs) as → Reads s.heap x d bs → SeqAt.shaped (.list xs) = true → SeqAt.shaped d = true → Q (.bool (if neg then !(xs.any fun z => PyData.eqv z d) else xs.any fun z => PyData.eqv z d)) s → wpAny (model X.prog X.w) X.A (compareOp op x c) Q E s)
    (hT : ∀ {s : Shared} {c x : Value} {xs : List PyData} {d : PyData} {as bs : List Addr} {Q : Value → Shared → Prop} {E : Value → Shared → Prop}, Reads s.heap c (.tuple xs) as → Reads s.heap x d bs → SeqAt.shaped (.tuple xs) = true → SeqAt.shaped d = true → Q (.bool (if neg then !(xs.any fun z => PyData.eqv z d) else xs.any fun z => PyData.eqv z d)) s → wpAny (model X.prog X.w) X.A (compareOp op x c) Q E s)
    (hS : OpR X (compareOp op) (fun x y H Q => ∃ (c : Nat) (z : Str), x = .str ⟨#[c]⟩ ∧ y = .str z ∧ Q (.bl (if neg then !decide (c ∈ z.cps.toList) else decide (c ∈ z.cps.toList))) H)) : SOp X G (compareOp op) (D.inA neg) := by
  refine ⟨?_, nox_inA neg⟩
  intro pins s σ H x y v u Q I rx ry h
  obtain ⟨ρ, hh, dx, dy, rp, r1, r2, sat⟩ := h
  unfold D.inA at sat
  split at sat
  · exact hK pins s σ H x y v u Q I rx ry ⟨ρ, hh, dx, dy, rp, r1, r2, sat⟩
  · split at sat
    · rename_i l _
      unfold inSeq at sat
      split at sat
      · rename_i c
        simp only [Bool.and_eq_true] at c
        obtain ⟨as, q1⟩ := Dp.reads I _ _ _ (dp_of 31 _ _ c.2 r1) rx
        have f2 : D.flat 32 (.tup l) = true := by simp only [D.flat]; exact c.1
        obtain ⟨bs, q2⟩ := Dp.reads I _ _ _ (dp_of 32 _ _ f2 r2) ry
        refine hT (xs := D.pys l) (by simpa [D.py] using q2) q1 (pys_shaped c.1 (by decide)).2 (py_shaped c.2 (by decide)) ?_
        rw [any_py c.1 c.2]
        exact ⟨.bl _, H, I, rfl, Sat.mk sat (Ext.refl _ _) rp (by show RV _ _ _ _ _ _; simp only [RV])⟩
      · exact sat.elim
    · rename_i n _
      obtain ⟨l, p, xs, rfl, h1, h2, h3⟩ := rdL_ok (α := Unit) (β := Unit) rp r2 (R.sat_bind sat)
      unfold inSeq at h3
      split at h3
      · rename_i c
        simp only [Bool.and_eq_true] at c
        obtain ⟨as, q1⟩ := Dp.reads I _ _ _ (dp_of 31 _ _ c.2 r1) rx
        obtain ⟨bs, q2⟩ := Dp.reads I (.list (D.pys l)) (.ref p) u (.lst h1 (dps_of 31 _ _ c.1 h2)) ry
        refine hL q2 q1 (pys_shaped c.1 (by decide)).1 (py_shaped c.2 (by decide)) ?_
        rw [any_py c.1 c.2]
        exact ⟨.bl _, H, I, rfl, h3 _ _ _ (Ext.refl _ _) rp (by show RV _ _ _ _ _ _; simp only [RV])⟩
      · exact h3.elim
    · rename_i z _
      split at sat
      · rename_i yy
        unfold inStr at sat
        split at sat
        · rename_i c hc
          have e1 := rv_str r1
          have e2 := rv_str r2
          subst e1 e2
          have hy : yy = ⟨#[c]⟩ := by
            obtain ⟨cp⟩ := yy
            simp only at hc
            obtain ⟨cl⟩ := cp
            simp only at hc
            subst hc
            rfl
          subst hy
          exact hS pins s σ H _ _ v u Q I rx ry ⟨c, z, rfl, rfl, Sat.mk sat (Ext.refl _ _) rp (by show RV _ _ _ _ _ _; simp only [RV])⟩
        · exact sat.elim
      · exact sat.elim
    · exact sat.elim
theorem sop_inA (hu : X.A.units + 65 < cLine) (hw : X.w = G.w) : SOp X G (compareOp .In) (D.inA false) :=
  op_inA false (op_inK hu hw) (fun r1 r2 s1 s2 q => SeqAt.in_list_reads r1 r2 (SeqAt.canLay_of_shaped s1) (SeqAt.canLay_of_shaped s2) (room_in_shaped s2 hu) q) (fun r1 r2 s1 s2 q => SeqAt.in_tuple_reads r1 r2 (SeqAt.canLay_of_shaped s1) (SeqAt.canLay_of_shaped s2) (room_in_shaped s2 hu) q) op_in_sign
theorem sop_notInA (hu : X.A.units + 65 < cLine) (hw : X.w = G.w) : SOp X G (compareOp .NotIn) (D.inA true) :=
  op_inA true (op_notInK hu hw) (fun r1 r2 s1 s2 q => SeqAt.notIn_list_reads r1 r2 (SeqAt.canLay_of_shaped s1) (SeqAt.canLay_of_shaped s2) (room_in_shaped s2 hu) q) (fun r1 r2 s1 s2 q => SeqAt.notIn_tuple_reads r1 r2 (SeqAt.canLay_of_shaped s1) (SeqAt.canLay_of_shaped s2) (room_in_shaped s2 hu) q) op_notIn_sign
end
end DL

set_option Elab.async false
set_option linter.all false
set_option maxRecDepth 100000
set_option maxHeartbeats 4000000
/-! DL24: tables of functions. -/
namespace DL
open PySem
def fuel : Nat := 20001
abbrev Bd := Nat → Option (Nat × (Calls → SΦ))
def bdFind (i : Nat) : List (Nat × Nat × (Calls → SΦ)) → Option (Nat × (Calls → SΦ))
  | [] => none
  | (j, p) :: r => if Nat.beq i j then some p else bdFind i r
end DL

set_option Elab.async false
set_option linter.all false
set_option maxRecDepth 100000
set_option maxHeartbeats 4000000
/-! DL25: list(d.values()). -/
namespace DL
open PySem PySem.Spec PyProof.Rows L2 GX GxR RZ PySem.W
def VwD (r d : Addr) : Heap → Prop := fun h => h.IsValuesView r d
theorem vw_stay {r d : Addr} : ∀ h1 h2 : Heap, VwD r d h1 → (∀ o, h1.get? r = some o → h2.get? r = some o) → VwD r d h2 := by
  rintro h1 h2 ⟨o, e1, e2⟩ k
  exact ⟨o, k o e1, e2⟩
section
variable {X : Cx} {G : Gs} {W : WX} {a b o i e iter tg : Expr} {es : List Expr} {pos tpos apos cpos : Pos}
def tDv (w : World) (td : TE) : TE := fun σ H Q => td σ H fun x H1 => ∃ d xs ep, x = .ref d ∧ (d == sysModules) = false ∧ H1 d = some (.ext (RawD w d xs ep)) ∧ ∀ r, H1 r = none → Q (.ref r) (L2.upd H1 r (.ext (VwD r d)))
theorem pe_dv {w : World} {td : TE} (he : PE X e td) (hbase : attributeBase e "values" X.env (eval e X.env) = eval e X.env := by rfl) (hline : (apos.endLine == cpos.line) = true := by rfl) : PE X (.Call (.Attribute e "values" apos) [] [] cpos) (tDv w td) := by
  refine ⟨fun pins s σ H Q I h => ?_⟩
  refine wpAny_Call_method (T := "dict") (id := "dict.values") hbase rfl hline F.plainAttrs_dict F.slot_dict_values F.type_dict_values (thn (he.run pins s σ H _ I h) fun u s1 ⟨x, H1, I1, rx, d, xs, ep, ex, hs, hd, q⟩ => ?_)
  subst ex
  obtain rfl : u = Value.ref d := rx
  obtain ⟨es, hraw, hsz, hent⟩ := raw_of (I1.hok d _ hd).1
  refine ⟨hraw.typeIs, fun b z => by cases z; obtain ⟨o, ho, hc, _⟩ := hraw; exact ⟨o, ho, hc.2.1⟩, ?_⟩
  have hn := I1.hok.fresh (Nat.le_refl s1.heap.objs.size)
  have I2 : L2.Inv X pins σ (L2.upd H1 s1.heap.objs.size (.ext (VwD s1.heap.objs.size d))) { s1 with heap := s1.heap.push { cls := .type "dict_values", data := .fields #[.ref d] } } := I1.laid (t' := s1.toks) (fun b ob q => Heap.get?_push_of_some _ q) (Nat.le_refl _) ⟨⟨_, Heap.get?_push_size _ rfl, rfl, rfl⟩, ⟨_, Heap.get?_push_size _ rfl⟩, vw_stay⟩
  have fin : EP X pins σ Q (.ref s1.heap.objs.size) { s1 with heap := s1.heap.push { cls := .type "dict_values", data := .fields #[.ref d] } } := ⟨.ref s1.heap.objs.size, _, I2, rfl, q _ hn⟩
  show wpAny _ _ (callWith cpos (.builtin "dict.values") [.ref d] [] []) _ X.xe s1
  exact method_meetsIn F.slot_dict_values F.entry_dict_values rfl (PySem.evalArgs_none ⟨rfl, hraw.typeIs, F.args_dict_values_1 _, _, meets_dict_values_raw d hs, ⟨⟨_, _, hraw⟩, fin⟩⟩)
theorem vals_list {w : World} {h : Heap} {d : Addr} {ents : List DK.Ent} {ep : Nat} (hr : RawD w d ents ep h) : ∃ es, h.DictRaw d es ep ∧ es.size = ents.length ∧ ∀ acc : Array Value, ItemsOf (fun i v => ∃ hi : i < es.size, v = es[i].val) acc es.size → acc.toList = ents.map (·.2.2) := by
  obtain ⟨es, h1, h2, h3⟩ := raw_of hr
  refine ⟨es, h1, h2, fun acc hi => ?_⟩
  obtain ⟨hs, hi⟩ := hi
  apply List.ext_getElem?
  intro i
  by_cases hl : i < es.size
  · obtain ⟨x, g1, _, g2⟩ := h3 i hl
    rw [List.getElem?_map, g1]
    have hl' : i < acc.size := by omega
    rw [Array.getElem?_toList, Array.getElem?_eq_getElem hl']
    obtain ⟨_, hv⟩ := hi i _ (Array.getElem?_eq_getElem hl')
    rw [hv, g2]
    rfl
  · rw [List.getElem?_eq_none (by rw [Array.length_toList]; omega), List.getElem?_eq_none (by rw [List.length_map]; omega)]
theorem vals_each {K : PySem.W.Frag} {ρ : List Addr} {H : Hp} : ∀ {kvs : List (D × D)} {ents : List DK.Ent}, EntsR K G ρ H kvs ents → EachIs (ValR K G ρ H) (ents.map (·.2.2)) (kvs.map (·.2))
  | [], _, h => by cases h; exact .nil
  | p :: l, _, ⟨x, r, e, ⟨h1, h2, vk, vv, r1, r2, r3, r4⟩, t⟩ => by
    subst e
    exact .cons ⟨vv, r2, r4⟩ (vals_each t)
theorem call_listV (hc : X.calm = true) : CallR X (.type "list") (fun vs H Q => ∃ r d ents ep ρ kvs, vs = [.ref r] ∧ H r = some (.ext (VwD r d)) ∧ DctR X.K G ρ H d kvs ep ents ∧ ∀ xs p, RVs X.K G ρ H (kvs.map (·.2)) xs → H p = none → Q (.ref p) (L2.upd H p (.lst xs))) := by
  intro pins s σ H vs us Q I rr h
  obtain ⟨r, d, ents, ep, ρ, kvs, rfl, hv, hd, q⟩ := h
  obtain ⟨u, rfl, ru⟩ := vals1 rr
  have : u = .ref r := ru
  subst this
  obtain ⟨es, g1, g2, g3⟩ := vals_list (I.hok _ _ hd.raw).1
  have hl := hd.es.length
  refine kdl_call (KdlSrc.rawValues (r := r) (d := d) (es := es) (ep := ep)) (I.ok.hd hc) ⟨(I.hok _ _ hv).1, g1⟩ (by rw [g2, hl]; exact hd.sz) fun h' tk acc c' hk hS hi => ?_
  obtain ⟨xs, w1, w2⟩ := of_each (vals_each hd.es)
  have hacc := g3 acc hi
  refine ⟨.ref s.heap.objs.size, _, I.laid (t' := tk) (o := .lst xs) hk (Nat.le_refl _) ⟨?_, acc.toList, c', by rw [hacc]; exact w1, by simpa using hS⟩, rfl, q xs _ w2 (I.hok.fresh (Nat.le_refl _))⟩
  rw [w1.length, List.length_map, hl]; exact hd.sz
def rdV (h : Hh) (d : D) : R (List D) := match dctAt h d with
  | some (_, l, _) => .ok (l.map (·.2)) h
  | none => .bad
def L.vals (a : EΦ) : LΦ := fun env h => (a env h).bind fun d h => rdV h d
theorem DctR.laid {K : PySem.W.Frag} {ρ : List Addr} {H : Hp} {r d : Addr} {kvs : List (D × D)} {ep : Nat} {ents : List DK.Ent} {o : HO} (h : DctR K G ρ H d kvs ep ents) (hr : H r = none) : DctR K G ρ (L2.upd H r o) d kvs ep ents :=
  ⟨by rw [upd_ne (ne_of_none h.raw hr)]; exact h.raw, h.sm, h.nd, h.sz, h.es.ext (Ext.laid hr)⟩
theorem SL.listVals {p : Pos} {φ : EΦ} (hc : X.calm = true) (ha : SE X G W e φ) (hg : Gl X "list") (hm : X.mg "list" = none) (hbase : attributeBase e "values" X.env (eval e X.env) = eval e X.env := by rfl) (hline : (apos.endLine == cpos.line) = true := by rfl) (na : starEach [.Call (.Attribute e "values" apos) [] [] cpos] X.env = (false, eval (.Call (.Attribute e "values" apos) [] [] cpos) X.env) :: starEach [] X.env := by rfl) : SL X G W (.Call (.Name "list" p) [.Call (.Attribute e "values" apos) [] [] cpos] [] pos) (L.vals φ) := by
  refine ⟨PE.weak (pe_callTy (call_listV (G := G) hc) hg hm boot_list (pa_cons (pe_dv (w := G.w) ha.pe hbase hline) pa_nil na) (he := na)) ?_⟩
  rintro σ H Q ⟨ρ, hh, env, rp, re, sat⟩
  refine tG.seq later_L rp re sat fun d v ρ1 hh1 H1 e1 rp1 re1 rd sat1 => ?_
  unfold rdV at sat1
  split at sat1
  · rename_i n l ep hl
    obtain ⟨a, ents, rfl, ha', hd, _⟩ := dctAt_ok rp1 rd hl
    refine ⟨a, ents, ep, rfl, hd.sm, hd.raw, fun r hr => ?_⟩
    refine ⟨r, a, ents, ep, ρ1, l, rfl, upd_same, hd.laid hr, fun xs t h2 ht => ?_⟩
    have hrt : H1 t = none := by
      by_cases z : t = r
      · rw [z]; exact hr
      · rwa [upd_ne z] at ht
    have e2 : Ext ρ1 H1 ρ1 (L2.upd (L2.upd H1 r (.ext (VwD r a))) t (.lst xs)) := (Ext.laid hr).trans (Ext.laid ht)
    have nt : t ∉ ρ1 := rp1.notin hrt
    exact Sat.mk sat1 e2 ((rp1.side hr).side ht) ⟨t, xs, rfl, upd_same, hrt, nt, RVs.ext (Ext.laid ht) _ _ h2⟩
  · exact sat1.elim
end
end DL

set_option Elab.async false
set_option linter.all false
set_option maxRecDepth 100000
set_option maxHeartbeats 1000000
/-! LV: the second level: what the functions of data compute; tools. -/
namespace DL
open PySem
/-- a tuple of ints -/
abbrev tl (l : List Int) : D := .tup (l.map D.int)
/-- 0 .. m-1 -/
def rg (m : Nat) : List Int := (List.range m).map fun (i : Nat) => (i : Int)
/-! ### results -/
theorem trunc_keep {hh h1 : Hh} {d : D} (h : h1.length = hh.length) : trunc hh (.ok d h1) = .ok d h1 := by
  unfold trunc
  simp only
  split
  · rw [← h, List.take_length]
  · rfl
theorem trunc_drop {hh g : Hh} {d : D} (h : d.under hh.length = true) : trunc hh (.ok d (hh ++ g)) = .ok d hh := by
  unfold trunc
  simp only
  rw [if_pos (by rw [h, agree_app]; rfl), List.take_left']
  rfl
theorem trunc_drop' {hh h1 g : Hh} {d : D} (h : d.under hh.length = true) (hl : h1.length = hh.length) (ha : agree hh.length hh (h1 ++ g) = true) : trunc hh (.ok d (h1 ++ g)) = .ok d h1 := by
  unfold trunc
  simp only
  rw [if_pos (by rw [h, ha]; rfl), ← hl, List.take_left']
  rfl
theorem trunc_ref {hh h1 : Hh} {d : D} (h : d.under hh.length = false) : trunc hh (.ok d h1) = .ok d h1 := by
  unfold trunc
  simp only
  rw [h]
  rfl
theorem unders_ints (n : Nat) (l : List Int) : D.unders n (l.map D.int) = true := by
  induction l with
  | nil => rfl
  | cons a r ih => simp only [List.map_cons, D.unders, D.under, ih, Bool.and_self]
theorem under_tl (n : Nat) (l : List Int) : (tl l).under n = true := by
  simp only [tl, D.under, unders_ints]
theorem unders_tl (n : Nat) (l : List (List Int)) : D.unders n (l.map tl) = true := by
  induction l with
  | nil => rfl
  | cons a r ih => simp only [List.map_cons, D.unders, under_tl, ih, Bool.and_self]
theorem flats_ints (n : Nat) (l : List Int) : D.flats n (l.map D.int) = true := by
  induction l with
  | nil => simp [D.flats]
  | cons a r ih => simp only [List.map_cons, D.flats, ih, D.flat, Bool.and_self]
theorem flat_tl (n : Nat) (l : List Int) : D.flat (n + 1) (tl l) = true := by
  simp only [tl, D.flat, flats_ints]
theorem eqvs_ints : ∀ l m : List Int, D.eqvs (l.map D.int) (m.map D.int) = decide (l = m)
  | [], [] => by simp [D.eqvs]
  | [], _ :: _ => by simp [D.eqvs]
  | _ :: _, [] => by simp [D.eqvs]
  | a :: l, b :: m => by
    simp only [List.map_cons, D.eqvs, D.eqv, eqvs_ints l m, List.cons.injEq, Bool.decide_and]
    rfl
/-! ### loops -/
theorem forGo_nil {s : Src} {g : GΦ} {b : SΦ} {env : Env} {h : Hh} (hok : s.ok h = true) : S.forGo s g b [] env h = .nx env h := by
  unfold S.forGo
  rw [if_pos hok]
theorem forGo_cons {s : Src} {g : GΦ} {b : SΦ} {env env1 env2 : Env} {h h1 h2 : Hh} {d : D} {r : List D} (hok : s.ok h = true) (hg : g d env h = .ok env1 h1) (hb : b env1 h1 = .nx env2 h2) : S.forGo s g b (d :: r) env h = S.forGo s g b r env2 h2 := by
  rw [S.forGo, if_pos hok, hg]
  simp only [R.toG_ok, hb]
theorem forGo_ret {s : Src} {g : GΦ} {b : SΦ} {env env1 : Env} {h h1 h2 : Hh} {d v : D} {r : List D} (hok : s.ok h = true) (hg : g d env h = .ok env1 h1) (hb : b env1 h1 = .rt v h2) : S.forGo s g b (d :: r) env h = .rt v h2 := by
  rw [S.forGo, if_pos hok, hg]
  simp only [R.toG_ok, hb]
theorem compGo_map {s : Src} {tg : TgC} {t : TΦ} {e : EΦ} {env : Env} {h : Hh} {f : D → D} (hok : s.ok h = true) : ∀ {l : List D}, (∀ d ∈ l, ∃ env1, setC tg d env = some env1 ∧ t env1 h = .ok true h ∧ e env1 h = .ok (f d) h) → compGo s tg t e env l h = .ok (l.map f) h
  | [], _ => by unfold compGo; rw [if_pos hok]; rfl
  | d :: r, hd => by
    obtain ⟨env1, h1, h2, h3⟩ := hd d List.mem_cons_self
    have ih := compGo_map (f := f) hok (l := r) fun x hx => hd x (List.mem_cons_of_mem _ hx)
    rw [compGo, if_pos hok, h1]
    simp only [h2, h3, ih, R.bind_ok, List.map_cons]
/-- with a test -/
theorem compGo_filter {s : Src} {tg : TgC} {t : TΦ} {e : EΦ} {env : Env} {h : Hh} {p : D → Bool} {f : D → D} (hok : s.ok h = true) : ∀ {l : List D}, (∀ d ∈ l, ∃ env1, setC tg d env = some env1 ∧ t env1 h = .ok (p d) h ∧ (p d = true → e env1 h = .ok (f d) h)) → compGo s tg t e env l h = .ok ((l.filter p).map f) h
  | [], _ => by unfold compGo; rw [if_pos hok]; rfl
  | d :: r, hd => by
    obtain ⟨env1, h1, h2, h3⟩ := hd d List.mem_cons_self
    have ih := compGo_filter (p := p) (f := f) hok (l := r) fun x hx => hd x (List.mem_cons_of_mem _ hx)
    rw [compGo, if_pos hok, h1]
    cases q : p d with
    | true => simp only [h2, q, h3 q, ih, R.bind_ok, List.filter_cons, List.map_cons, if_true]
    | false => simp only [h2, q, ih, List.filter_cons, Bool.false_eq_true, if_false]
theorem genGo_all {s : Src} {tg : TgC} {t : TΦ} {e : EΦ} {env : Env} {h : Hh} (hok : s.ok h = true) : ∀ {l : List D}, (∀ d ∈ l, ∃ env1, setC tg d env = some env1 ∧ t env1 h = .ok true h ∧ e env1 h = .ok (.bl true) h) → genGo false s tg t e env l h = .ok (.bl true) h
  | [], _ => by unfold genGo; rw [if_pos hok]; rfl
  | d :: r, hd => by
    obtain ⟨env1, h1, h2, h3⟩ := hd d List.mem_cons_self
    have ih := genGo_all hok (l := r) fun x hx => hd x (List.mem_cons_of_mem _ hx)
    rw [genGo, if_pos hok, h1]
    simp only [h2, h3, ih]
    rfl
theorem ok_none (l : List D) (h : Hh) : (⟨l, none⟩ : Src).ok h = true := rfl
/-! ### subscripts -/
theorem ixN_nat {n i : Nat} (h : i < n) : L2.ixN n (i : Int) = some i := by
  unfold L2.ixN
  rw [if_pos (by omega), if_pos (by omega)]
  simp
theorem ixL_ints {l : List Int} {i : Int} (h0 : 0 ≤ i) (h1 : i < l.length) (h : Hh) : ixL (l.map D.int) i h = .ok (.int (l.getD i.toNat 0)) h := by
  obtain ⟨k, rfl⟩ : ∃ k : Nat, i = k := ⟨i.toNat, by omega⟩
  have hk : k < l.length := by omega
  unfold ixL L2.atI
  rw [List.length_map, ixN_nat hk]
  simp [hk]
theorem ixL_rows {l : List (List Int)} {i : Int} (h0 : 0 ≤ i) (h1 : i < l.length) (h : Hh) : ixL (l.map fun r => tl r) i h = .ok (tl (l.getD i.toNat [])) h := by
  obtain ⟨k, rfl⟩ : ∃ k : Nat, i = k := ⟨i.toNat, by omega⟩
  have hk : k < l.length := by omega
  unfold ixL L2.atI
  rw [List.length_map, ixN_nat hk]
  simp [hk]
theorem cut_take {α : Type} {l : List α} {k : Nat} (h : k ≤ l.length) : cutD l none (some (k : Int)) = l.take k := by
  unfold cutD
  rw [HT.sIx_none, HT.sIx_nat, Nat.min_eq_left h]
  simp
theorem cut_drop {α : Type} {l : List α} {k : Nat} (h : k ≤ l.length) : cutD l (some (k : Int)) none = l.drop k := by
  unfold cutD
  rw [HT.sIx_none, HT.sIx_nat, Nat.min_eq_left h]
  rw [List.take_of_length_le (by simp)]
theorem cut_takeI {l : List Int} {k : Nat} (h : k ≤ l.length) : cutD (l.map D.int) none (some (k : Int)) = (l.take k).map D.int := by
  rw [cut_take (by simpa using h), List.map_take]
theorem cut_dropI {l : List Int} {k : Nat} (h : k + 1 ≤ l.length) : cutD (l.map D.int) (some ((k : Int) + 1)) none = (l.drop (k + 1)).map D.int := by
  rw [show (k : Int) + 1 = ((k + 1 : Nat) : Int) by omega, cut_drop (by simpa using h), List.map_drop]
theorem rngD_rg (n : Nat) : rngD 0 (n : Int) = (rg n).map D.int := by
  unfold rngD rg
  rw [List.map_map]
  simp
theorem lrng_rg {n : Nat} (hn : n ≤ 1000) (h : Hh) : lrng (.int 0) (.int n) h = .ok ((rg n).map D.int) h := by
  unfold lrng
  simp only
  rw [if_pos (by simp only [rngOk, Bool.and_eq_true, small_iff, Nat.ble_eq]; omega), rngD_rg]
theorem rngS_rg {n : Nat} (hn : n ≤ 1000) (h : Hh) : rngS (.int 0) (.int n) h = .ok ⟨(rg n).map D.int, none⟩ h := by
  unfold rngS
  simp only
  rw [if_pos (by simp only [rngOk, Bool.and_eq_true, small_iff]; omega), rngD_rg]
theorem first_ints {l : List Int} {p : Int} (h : p ∈ l) : firstD (fun z => D.eqv z (.int p)) (l.map D.int) = some (l.idxOf p) := by
  induction l with
  | nil => cases h
  | cons a r ih =>
    rw [List.map_cons, firstD]
    by_cases e : a = p
    · subst e
      simp [D.eqv]
    · have hp : p ∈ r := (List.mem_cons.mp h).resolve_left fun z => e z.symm
      have ne : (a == p) = false := by simpa using e
      simp only [D.eqv, ne, Bool.false_eq_true, if_false, ih hp, Option.map_some]
      rw [List.idxOf_cons, ne]
      rfl
theorem ixOf_ints {l : List Int} {p : Int} (hp : p ∈ l) (h : Hh) : ixOf (l.map D.int) (.int p) h = .ok (.int (l.idxOf p : Nat)) h := by
  unfold ixOf
  rw [flats_ints, first_ints hp]
  rfl
theorem get_last (g : Hh) (x : MO) : (g ++ [x])[g.length]? = some x := by simp
theorem set_last (g : Hh) (x y : MO) : (g ++ [x]).set g.length y = g ++ [y] := by simp
theorem mut_last {f : List D → List D → Option (D × List D)} {g : Hh} {l l' ds : List D} {y : D} (hf : f l ds = some (y, l')) (hl : l'.length ≤ 16000000) : mutL f (.ref g.length) ds (g ++ [.lst l]) = .ok y (g ++ [.lst l']) := by
  unfold mutL lstAt
  simp only [get_last, hf, fits_ok hl, set_last]
theorem mut_at {f : List D → List D → Option (D × List D)} {h : Hh} {n : Nat} {l l' ds : List D} {y : D} (hn : h[n]? = some (.lst l)) (hf : f l ds = some (y, l')) (hl : l'.length ≤ 16000000) : mutL f (.ref n) ds h = .ok y (h.set n (.lst l')) := by
  unfold mutL lstAt
  simp only [hn, hf, fits_ok hl]
theorem app_ints (l : List Int) (x : Int) : fAppend (l.map D.int) [.int x] = some (.non, (l ++ [x]).map D.int) := by simp [fAppend]
theorem seq_nx {a b : SΦ} {env env1 : Env} {h h1 : Hh} (e : a env h = .nx env1 h1) : S.seq a b env h = b env1 h1 := by
  unfold S.seq
  rw [e]
theorem seq_rt {a b : SΦ} {env : Env} {h h1 : Hh} {d : D} (e : a env h = .rt d h1) : S.seq a b env h = .rt d h1 := by
  unfold S.seq
  rw [e]
theorem runB_rt {n : Nat} {ψ : SΦ} {ds : List D} {hh h1 : Hh} {d : D} (e : ψ (ds.map some ++ List.replicate (n - ds.length) none) hh = .rt d h1) : runB n ψ ds hh = .ok d h1 := by
  unfold runB
  rw [e]
theorem runB_nx {n : Nat} {ψ : SΦ} {ds : List D} {hh h1 : Hh} {env : Env} (e : ψ (ds.map some ++ List.replicate (n - ds.length) none) hh = .nx env h1) : runB n ψ ds hh = .ok .non h1 := by
  unfold runB
  rw [e]
theorem for_of {i : IΦ} {g : GΦ} {b : SΦ} {env : Env} {h h1 : Hh} {s : Src} {r : RS} (e : i env h = .ok s h1) (q : S.forGo s g b s.items env h1 = r) : S.for i g b env h = r := by
  unfold S.for
  rw [e]
  exact q
theorem whl_stop {t : TΦ} {b : SΦ} {n : Nat} {env : Env} {h h1 : Hh} (ht : t env h = .ok false h1) : S.whl t b (n + 1) env h = .nx env h1 := by
  rw [S.whl, ht]
  rfl
theorem whl_step {t : TΦ} {b : SΦ} {n : Nat} {env env2 : Env} {h h1 h2 : Hh} (ht : t env h = .ok true h1) (hb : b env h1 = .nx env2 h2) : S.whl t b (n + 1) env h = S.whl t b n env2 h2 := by
  rw [S.whl, ht]
  simp only [R.toS_ok, if_true, hb]
theorem get_a (f r x y : MO) (g : Hh) : (f :: r :: (g ++ [x, y]))[g.length + 2]? = some x := by simp
theorem get_b (f r x y : MO) (g : Hh) : (f :: r :: (g ++ [x, y]))[g.length + 3]? = some y := by simp
theorem set_a (f r x y z : MO) (g : Hh) : (f :: r :: (g ++ [x, y])).set (g.length + 2) z = f :: r :: (g ++ [z, y]) := by simp
theorem set_b (f r x y z : MO) (g : Hh) : (f :: r :: (g ++ [x, y])).set (g.length + 3) z = f :: r :: (g ++ [x, z]) := by simp
theorem map_erase {α β : Type} (f : α → β) : ∀ (l : List α) (i : Nat), (l.map f).eraseIdx i = (l.eraseIdx i).map f
  | [], _ => rfl
  | _ :: _, 0 => rfl
  | a :: l, i + 1 => by simp only [List.map_cons, List.eraseIdx_cons_succ, map_erase f l i]
theorem pop_ints {l : List Int} {v : Int} (h0 : 0 ≤ v) (h1 : v < l.length) : fPopAt (l.map D.int) [.int v] = some (.int (l.getD v.toNat 0), (l.eraseIdx v.toNat).map D.int) := by
  obtain ⟨k, rfl⟩ : ∃ k : Nat, v = k := ⟨v.toNat, by omega⟩
  have hk : k < l.length := by omega
  unfold fPopAt
  simp only [List.length_map, ixN_nat hk, Int.toNat_natCast]
  simp [hk, map_erase]
theorem perm_pop : ∀ {l : List Int} {k : Nat}, k < l.length → (l.getD k 0 :: l.eraseIdx k).Perm l
  | [], _, h => by simp at h
  | a :: l, 0, _ => by simp
  | a :: l, k + 1, h => by
    have ih := perm_pop (l := l) (k := k) (by simpa using h)
    simp only [List.getD_cons_succ, List.eraseIdx_cons_succ]
    exact (List.Perm.swap _ _ _).trans (ih.cons a)
theorem compGo_ints {s : Src} {tg : TgC} {t : TΦ} {e : EΦ} {env : Env} {h : Hh} {f : Int → Int} (hok : s.ok h = true) {l : List Int} (hd : ∀ x ∈ l, ∃ env1, setC tg (.int x) env = some env1 ∧ t env1 h = .ok true h ∧ e env1 h = .ok (.int (f x)) h) : compGo s tg t e env (l.map D.int) h = .ok ((l.map f).map D.int) h := by
  have q : (l.map f).map D.int = (l.map D.int).map fun d => match d with
      | .int x => D.int (f x)
      | d => d := by
    rw [List.map_map, List.map_map]
    rfl
  rw [q]
  refine compGo_map hok fun d hd' => ?_
  obtain ⟨x, hx, rfl⟩ := List.mem_map.mp hd'
  exact hd x hx
theorem app2 {f r : MO} {L : List D} {X : D} {j : Hh} (h : L.length ≤ 100) : mutL fAppend (.ref 2) [X] (f :: r :: .lst L :: j) = .ok .non (f :: r :: .lst (L ++ [X]) :: j) := mut_at (n := 2) rfl rfl (by simp; omega)
theorem get_j (f r x y : MO) (j : Hh) : (f :: r :: x :: (j ++ [y]))[j.length + 3]? = some y := by simp
theorem set_j {f r x : MO} {j : Hh} {l : List D} {k : Nat} {v : D} {env : Env} (hk : k < l.length) : setL (.ref (j.length + 3)) (.int k) v env (f :: r :: x :: (j ++ [.lst l])) = .ok env (f :: r :: x :: (j ++ [.lst (l.set k v)])) := by
  unfold setL lstAt
  simp only [get_j, ixN_nat hk]
  simp
theorem ife_t {t : TΦ} {a b : SΦ} {env : Env} {h h1 : Hh} (ht : t env h = .ok true h1) : S.ife t a b env h = a env h1 := by
  unfold S.ife
  rw [ht]
  rfl
theorem ife_f {t : TΦ} {a b : SΦ} {env : Env} {h h1 : Hh} (ht : t env h = .ok false h1) : S.ife t a b env h = b env h1 := by
  unfold S.ife
  rw [ht]
  rfl
/-! ### unfolding -/
end DL

set_option Elab.async false
set_option linter.all false
/-! Bfs: what a search layer by layer finds: the shortlex least words. -/
namespace Bf
variable {α : Type} [DecidableEq α]
abbrev W := List Int
/-- 0 .. m-1 -/
def rg (m : Nat) : List Int := (List.range m).map fun (i : Nat) => (i : Int)
def llt : W → W → Prop
  | a :: u, b :: v => a < b ∨ (a = b ∧ llt u v)
  | _, _ => False
def lle (u v : W) : Prop := u = v ∨ llt u v
/-- shorter, or as long and not behind it -/
def sle (u v : W) : Prop := u.length < v.length ∨ (u.length = v.length ∧ lle u v)
theorem llt_irrefl : ∀ u : W, ¬ llt u u
  | [], h => h
  | a :: u, h => h.elim (fun h => by omega) fun h => llt_irrefl u h.2
theorem llt_trans : ∀ {u v w : W}, llt u v → llt v w → llt u w
  | a :: u, b :: v, c :: w, h, g => by
    rcases h with h | ⟨rfl, h⟩
    · rcases g with g | ⟨rfl, g⟩
      · exact .inl (by omega)
      · exact .inl h
    · rcases g with g | ⟨rfl, g⟩
      · exact .inl g
      · exact .inr ⟨rfl, llt_trans h g⟩
  | [], _, _, h, _ => h.elim
  | _ :: _, [], _, h, _ => h.elim
  | _ :: _, _ :: _, [], _, g => g.elim
theorem llt_app : ∀ {u v : W} (x y : W), llt u v → llt (u ++ x) (v ++ y)
  | a :: u, b :: v, x, y, h => h.imp id fun h => ⟨h.1, llt_app x y h.2⟩
  | [], _, _, _, h => h.elim
  | _ :: _, [], _, _, h => h.elim
theorem llt_pre : ∀ (u : W) {x y : W}, llt x y → llt (u ++ x) (u ++ y)
  | [], _, _, h => h
  | a :: u, _, _, h => .inr ⟨rfl, llt_pre u h⟩
theorem llt_one {p q : Int} (h : p < q) : llt [p] [q] := .inl h
theorem lle_refl (u : W) : lle u u := .inl rfl
theorem lle_trans {u v w : W} (h : lle u v) (g : lle v w) : lle u w := by
  rcases h with rfl | h
  · exact g
  · rcases g with rfl | g
    · exact .inr h
    · exact .inr (llt_trans h g)
theorem lle_app {u v : W} (x : W) (h : lle u v) : lle (u ++ x) (v ++ x) := by
  rcases h with rfl | h
  · exact .inl rfl
  · exact .inr (llt_app x x h)
theorem lle_antisymm {u v : W} (h : lle u v) (g : lle v u) : u = v := by
  rcases h with h | h
  · exact h
  · rcases g with g | g
    · exact g.symm
    · exact (llt_irrefl _ (llt_trans h g)).elim
theorem sle_refl (u : W) : sle u u := .inr ⟨rfl, lle_refl u⟩
theorem sle_trans {u v w : W} (h : sle u v) (g : sle v w) : sle u w := by
  rcases h with h | ⟨e, h⟩
  · rcases g with g | ⟨e2, g⟩
    · exact .inl (by omega)
    · exact .inl (by omega)
  · rcases g with g | ⟨e2, g⟩
    · exact .inl (by omega)
    · exact .inr ⟨by omega, lle_trans h g⟩
theorem sle_antisymm {u v : W} (h : sle u v) (g : sle v u) : u = v := by
  rcases h with h | ⟨e, h⟩
  · rcases g with g | ⟨e2, _⟩ <;> omega
  · rcases g with g | ⟨e2, g⟩
    · omega
    · exact lle_antisymm h g
theorem sle_len {u v : W} (h : sle u v) : u.length ≤ v.length := by rcases h with h | ⟨h, _⟩ <;> omega
theorem sle_app {u v : W} (x : W) (h : sle u v) : sle (u ++ x) (v ++ x) := by
  rcases h with h | ⟨e, h⟩
  · exact .inl (by simp; omega)
  · exact .inr ⟨by simp; omega, lle_app x h⟩

/-! ### the search -/
abbrev F (α : Type) := List (α × W)
def keys (f : F α) : List α := f.map (·.1)
def has (f : F α) (a : α) : Bool := f.any fun p => decide (p.1 = a)
def wd (f : F α) (a : α) : W := ((f.find? fun p => decide (p.1 = a)).map (·.2)).getD []
def step (nx : α → Int → α) (st : F α × List α) (c : α × Int) : F α × List α :=
  if has st.1 (nx c.1 c.2) then st else (st.1 ++ [(nx c.1 c.2, wd st.1 c.1 ++ [c.2])], st.2 ++ [nx c.1 c.2])
def cands (m : Nat) (l : List α) : List (α × Int) := l.flatMap fun a => (rg m).map fun p => (a, p)
def layer (nx : α → Int → α) (m : Nat) (f : F α) (l : List α) : F α × List α := (cands m l).foldl (step nx) (f, [])
def go (nx : α → Int → α) (m : Nat) : Nat → F α → List α → F α
  | 0, f, _ => f
  | n + 1, f, l => if l = [] then f else go nx m n (layer nx m f l).1 (layer nx m f l).2
def ev (nx : α → Int → α) (a : α) (w : W) : α := w.foldl nx a
abbrev Lt (m : Nat) (w : W) : Prop := ∀ p ∈ w, 0 ≤ p ∧ p < (m : Int)

theorem mem_rg {m : Nat} {x : Int} : x ∈ rg m ↔ 0 ≤ x ∧ x < m := by
  simp only [rg, List.mem_map, List.mem_range]
  constructor
  · rintro ⟨i, hi, rfl⟩; omega
  · rintro ⟨h1, h2⟩; exact ⟨x.toNat, by omega, by omega⟩
theorem rg_sorted (m : Nat) : (rg m).Pairwise (· < ·) := by
  unfold rg
  exact List.pairwise_map.mpr (List.Pairwise.imp (fun h => by omega) (List.pairwise_lt_range (n := m)))
theorem has_iff {f : F α} {a : α} : has f a = true ↔ a ∈ keys f := by
  simp only [has, List.any_eq_true, decide_eq_true_eq, keys, List.mem_map]
theorem wd_of {f : F α} {a : α} {w : W} (hn : (keys f).Nodup) (h : (a, w) ∈ f) : wd f a = w := by
  induction f with
  | nil => cases h
  | cons p f ih =>
    rw [keys, List.map_cons, List.nodup_cons] at hn
    rcases List.mem_cons.mp h with e | h
    · subst e
      simp [wd]
    · have ne : p.1 ≠ a := fun e => hn.1 (by rw [e]; exact List.mem_map.mpr ⟨_, h, rfl⟩)
      have := ih hn.2 h
      simpa [wd, List.find?_cons, ne] using this
theorem wd_mem {f : F α} {a : α} (h : a ∈ keys f) : (a, wd f a) ∈ f := by
  induction f with
  | nil => cases h
  | cons p f ih =>
    by_cases e : p.1 = a
    · subst e
      simp [wd]
    · have h' : a ∈ keys f := by
        rw [keys, List.map_cons] at h
        exact (List.mem_cons.mp h).resolve_left fun z => e z.symm
      have := ih h'
      rw [List.mem_cons]
      right
      simpa [wd, List.find?_cons, e] using this
theorem wd_app {f g : F α} {a : α} (h : a ∈ keys f) : wd (f ++ g) a = wd f a := by
  unfold wd
  have : (f.find? fun p => decide (p.1 = a)).isSome := by
    rw [List.find?_isSome]
    obtain ⟨p, hp, e⟩ := List.mem_map.mp h
    exact ⟨p, hp, by simpa using e⟩
  rw [List.find?_append]
  cases q : f.find? fun p => decide (p.1 = a) with
  | none => rw [q] at this; cases this
  | some p => rfl
theorem ev_snoc (nx : α → Int → α) (a : α) (w : W) (p : Int) : ev nx a (w ++ [p]) = nx (ev nx a w) p := by simp [ev]
theorem ev_app (nx : α → Int → α) (a : α) (u v : W) : ev nx a (u ++ v) = ev nx (ev nx a u) v := by simp [ev]

/-- what stands behind some candidates -/
structure Mid (nx : α → Int → α) (f0 : F α) (done : List (α × Int)) (f : F α) (later : List α) (g : F α) : Prop where
  eq : f = f0 ++ g
  lat : later = keys g
  nd : (keys f).Nodup
  src : ∀ x ∈ g, ∃ c ∈ done, x.1 = nx c.1 c.2 ∧ x.2 = wd f0 c.1 ++ [c.2] ∧ x.1 ∉ keys f0
  all : ∀ c ∈ done, nx c.1 c.2 ∈ keys f0 ∨ ∃ x ∈ g, x.1 = nx c.1 c.2 ∧ lle x.2 (wd f0 c.1 ++ [c.2])
  srt : g.Pairwise fun x y => llt x.2 y.2
theorem mid_step {nx : α → Int → α} {f0 : F α} {done : List (α × Int)} {f : F α} {later : List α} {g : F α} (h : Mid nx f0 done f later g) (c : α × Int) (hc : c.1 ∈ keys f0) (hs : ∀ c' ∈ done, llt (wd f0 c'.1 ++ [c'.2]) (wd f0 c.1 ++ [c.2])) :
    ∃ g', Mid nx f0 (done ++ [c]) (step nx (f, later) c).1 (step nx (f, later) c).2 g' := by
  obtain ⟨e1, e2, nd, src, all, srt⟩ := h
  unfold step
  by_cases hh : has f (nx c.1 c.2) = true
  · rw [if_pos hh]
    refine ⟨g, e1, e2, nd, fun x hx => ?_, fun c' hc' => ?_, srt⟩
    · obtain ⟨c0, h0, r⟩ := src x hx
      exact ⟨c0, List.mem_append_left _ h0, r⟩
    · rcases List.mem_append.mp hc' with hc' | hc'
      · exact all c' hc'
      · simp only [List.mem_singleton] at hc'
        subst hc'
        rw [has_iff, e1, keys, List.map_append, List.mem_append] at hh
        rcases hh with hh | hh
        · exact .inl hh
        · obtain ⟨x, hx, ex⟩ := List.mem_map.mp hh
          obtain ⟨c0, h0, r1, r2, r3⟩ := src x hx
          exact .inr ⟨x, hx, ex, .inr (by rw [r2]; exact hs c0 h0)⟩
  · rw [if_neg hh]
    have hnk : nx c.1 c.2 ∉ keys f := fun z => hh (has_iff.mpr z)
    have hw : wd f c.1 = wd f0 c.1 := by rw [e1]; exact wd_app hc
    refine ⟨g ++ [(nx c.1 c.2, wd f0 c.1 ++ [c.2])], ?_, ?_, ?_, fun x hx => ?_, fun c' hc' => ?_, ?_⟩
    · show f ++ [(nx c.1 c.2, wd f c.1 ++ [c.2])] = _
      rw [hw, e1, List.append_assoc]
    · show later ++ [nx c.1 c.2] = _
      rw [e2]
      simp [keys]
    · show (keys (f ++ [(nx c.1 c.2, wd f c.1 ++ [c.2])])).Nodup
      rw [keys, List.map_append, List.nodup_append]
      refine ⟨nd, by simp, fun a ha b hb => ?_⟩
      simp only [List.map_cons, List.map_nil, List.mem_singleton] at hb
      subst hb
      exact fun e => hnk (by rw [← e]; exact ha)
    · rcases List.mem_append.mp hx with hx | hx
      · obtain ⟨c0, h0, r⟩ := src x hx
        exact ⟨c0, List.mem_append_left _ h0, r⟩
      · simp only [List.mem_singleton] at hx
        subst hx
        exact ⟨c, by simp, rfl, rfl, fun z => hnk (by rw [e1, keys, List.map_append]; exact List.mem_append_left _ z)⟩
    · rcases List.mem_append.mp hc' with hc' | hc'
      · rcases all c' hc' with h | ⟨x, hx, r⟩
        · exact .inl h
        · exact .inr ⟨x, List.mem_append_left _ hx, r⟩
      · simp only [List.mem_singleton] at hc'
        subst hc'
        exact .inr ⟨_, List.mem_append_right _ (List.mem_singleton.mpr rfl), rfl, lle_refl _⟩
    · rw [List.pairwise_append]
      refine ⟨srt, by simp, fun x hx y hy => ?_⟩
      simp only [List.mem_singleton] at hy
      subst hy
      obtain ⟨c0, h0, r1, r2, r3⟩ := src x hx
      rw [r2]
      exact hs c0 h0
theorem mid_all {nx : α → Int → α} {f0 : F α} : ∀ (cs done : List (α × Int)) (f : F α) (later : List α) (g : F α), Mid nx f0 done f later g → (∀ c ∈ cs, c.1 ∈ keys f0) → ((done ++ cs).Pairwise fun c c' => llt (wd f0 c.1 ++ [c.2]) (wd f0 c'.1 ++ [c'.2])) →
    ∃ g', Mid nx f0 (done ++ cs) (cs.foldl (step nx) (f, later)).1 (cs.foldl (step nx) (f, later)).2 g'
  | [], done, f, later, g, h, _, _ => ⟨g, by simpa using h⟩
  | c :: cs, done, f, later, g, h, hk, hp => by
    have hp' : ((done ++ [c]) ++ cs).Pairwise fun c c' => llt (wd f0 c.1 ++ [c.2]) (wd f0 c'.1 ++ [c'.2]) := by simpa using hp
    obtain ⟨g1, h1⟩ := mid_step h c (hk c List.mem_cons_self) fun c' hc' => (List.pairwise_append.mp (List.pairwise_append.mp hp').1).2.2 c' hc' c (by simp)
    have h1' : Mid nx f0 (done ++ [c]) (step nx (f, later) c).1 (step nx (f, later) c).2 g1 := h1
    obtain ⟨g2, h2⟩ := mid_all cs (done ++ [c]) _ _ g1 h1' (fun x hx => hk x (List.mem_cons_of_mem _ hx)) hp'
    exact ⟨g2, by simpa using h2⟩
theorem cands_sorted {m : Nat} {f0 : F α} : ∀ {l : List α}, (l.Pairwise fun a b => llt (wd f0 a) (wd f0 b)) → (cands m l).Pairwise fun c c' => llt (wd f0 c.1 ++ [c.2]) (wd f0 c'.1 ++ [c'.2])
  | [], _ => by simp [cands]
  | a :: l, h => by
    rw [List.pairwise_cons] at h
    have ih := cands_sorted (m := m) h.2
    show ((rg m).map (fun p => (a, p)) ++ cands m l).Pairwise _
    rw [List.pairwise_append]
    refine ⟨?_, ih, fun x hx y hy => ?_⟩
    · rw [List.pairwise_map]
      exact (rg_sorted m).imp fun hpq => llt_pre _ (llt_one hpq)
    · obtain ⟨p, _, rfl⟩ := List.mem_map.mp hx
      obtain ⟨b, hb, hy⟩ := List.mem_flatMap.mp hy
      obtain ⟨q, _, rfl⟩ := List.mem_map.mp hy
      exact llt_app _ _ (h.1 b hb)
theorem mem_cands {m : Nat} {l : List α} {c : α × Int} : c ∈ cands m l ↔ c.1 ∈ l ∧ 0 ≤ c.2 ∧ c.2 < m := by
  simp only [cands, List.mem_flatMap, List.mem_map, mem_rg]
  constructor
  · rintro ⟨a, ha, p, hp, rfl⟩; exact ⟨ha, hp⟩
  · rintro ⟨h1, h2⟩; exact ⟨c.1, h1, c.2, h2, rfl⟩

/-- behind n layers -/
structure Inv (nx : α → Int → α) (m : Nat) (s : α) (n : Nat) (f : F α) (l : List α) : Prop where
  nd : (keys f).Nodup
  ok : ∀ x ∈ f, ev nx s x.2 = x.1 ∧ Lt m x.2 ∧ x.2.length ≤ n
  lst : ∀ a, a ∈ l ↔ a ∈ keys f ∧ (wd f a).length = n
  srt : l.Pairwise fun a b => llt (wd f a) (wd f b)
  all : ∀ v : W, Lt m v → v.length ≤ n → ∃ w, (ev nx s v, w) ∈ f ∧ sle w v
theorem inv0 (nx : α → Int → α) (m : Nat) (s : α) : Inv nx m s 0 [(s, [])] [s] where
  nd := by simp [keys]
  ok := fun x hx => by simp at hx; subst hx; exact ⟨rfl, fun _ h => by simp at h, by simp⟩
  lst := fun a => by simp [keys, wd]; intro e; subst e; simp
  srt := by simp
  all := fun v hv hl => by
    have : v = [] := List.length_eq_zero_iff.mp (by omega)
    subst this
    exact ⟨[], by simp [ev], sle_refl _⟩
theorem inv_layer {nx : α → Int → α} {m : Nat} {s : α} {n : Nat} {f : F α} {l : List α} (h : Inv nx m s n f l) : Inv nx m s (n + 1) (layer nx m f l).1 (layer nx m f l).2 := by
  have hk : ∀ c ∈ cands m l, c.1 ∈ keys f := fun c hc => ((h.lst c.1).mp (mem_cands.mp hc).1).1
  obtain ⟨g, M⟩ := mid_all (nx := nx) (f0 := f) (cands m l) [] f [] [] ⟨by simp, rfl, h.nd, fun _ hx => by simp at hx, fun _ hx => by simp at hx, by simp⟩ hk (by simpa using cands_sorted h.srt)
  have e : layer nx m f l = (cands m l).foldl (step nx) (f, []) := rfl
  rw [← e] at M
  simp only [List.nil_append] at M
  generalize (layer nx m f l).1 = f' at M ⊢
  generalize (layer nx m f l).2 = l' at M ⊢
  have hlen : ∀ x ∈ g, x.2.length = n + 1 := fun x hx => by
    obtain ⟨c, hc, r1, r2, r3⟩ := M.src x hx
    have := ((h.lst c.1).mp (mem_cands.mp hc).1).2
    rw [r2, List.length_append, this]
    rfl
  have hwf : ∀ a ∈ keys f, wd f' a = wd f a := fun a ha => by rw [M.eq]; exact wd_app ha
  have hwg : ∀ x ∈ g, wd f' x.1 = x.2 := fun x hx => wd_of M.nd (by rw [M.eq]; exact List.mem_append_right _ hx)
  refine ⟨M.nd, fun x hx => ?_, fun a => ?_, ?_, fun v hv hl => ?_⟩
  · rw [M.eq] at hx
    rcases List.mem_append.mp hx with hx | hx
    · obtain ⟨a1, a2, a3⟩ := h.ok x hx
      exact ⟨a1, a2, by omega⟩
    · obtain ⟨c, hc, r1, r2, r3⟩ := M.src x hx
      have hcl := mem_cands.mp hc
      have hck := (h.lst c.1).mp hcl.1
      obtain ⟨a1, a2, a3⟩ := h.ok _ (wd_mem hck.1)
      refine ⟨?_, ?_, by rw [hlen x hx]; exact Nat.le_refl _⟩
      · rw [r2, ev_snoc, r1]
        exact congrArg (fun z => nx z c.2) a1
      · rw [r2]
        intro p hp
        rcases List.mem_append.mp hp with hp | hp
        · exact a2 p hp
        · simp at hp; subst hp; exact hcl.2
  · rw [M.lat]
    constructor
    · intro ha
      obtain ⟨x, hx, rfl⟩ := List.mem_map.mp ha
      refine ⟨by rw [M.eq, keys, List.map_append]; exact List.mem_append_right _ ha, ?_⟩
      rw [hwg x hx]
      exact hlen x hx
    · rintro ⟨ha, hl⟩
      rw [M.eq, keys, List.map_append, List.mem_append] at ha
      rcases ha with ha | ha
      · have ha : a ∈ keys f := ha
        rw [hwf a ha] at hl
        have := (h.ok _ (wd_mem ha)).2.2
        simp only at this
        omega
      · exact ha
  · rw [M.lat, keys, List.pairwise_map]
    refine List.Pairwise.imp_of_mem ?_ M.srt
    intro x y hx hy hxy
    rw [hwg x hx, hwg y hy]
    exact hxy
  · by_cases hn : v.length ≤ n
    · obtain ⟨w, h1, h2⟩ := h.all v hv hn
      exact ⟨w, by rw [M.eq]; exact List.mem_append_left _ h1, h2⟩
    · have hv0 : v ≠ [] := fun e => by subst e; simp at hn
      obtain ⟨u, p, rfl⟩ : ∃ u p, v = u ++ [p] := ⟨v.dropLast, v.getLast hv0, (List.dropLast_concat_getLast hv0).symm⟩
      have hul : u.length = n := by simp at hl hn; omega
      have hu : Lt m u := fun q hq => hv q (List.mem_append_left _ hq)
      have hp : 0 ≤ p ∧ p < (m : Int) := hv p (List.mem_append_right _ (by simp))
      obtain ⟨w1, h1, h2⟩ := h.all u hu (by omega)
      have hw1 := h.ok _ h1
      by_cases hlt : w1.length < n
      · -- a shorter word
        obtain ⟨w, g1, g2⟩ := h.all (w1 ++ [p]) (fun q hq => (List.mem_append.mp hq).elim (fun hq => hw1.2.1 q hq) fun hq => by simp at hq; subst hq; exact hp) (by simp; omega)
        refine ⟨w, ?_, ?_⟩
        · rw [M.eq]
          refine List.mem_append_left _ ?_
          rw [ev_snoc] at g1 ⊢
          have : ev nx s w1 = ev nx s u := hw1.1
          rw [← this]; exact g1
        · refine .inl ?_
          have := sle_len g2
          simp at this ⊢
          omega
      · have hw1n : w1.length = n := by have := hw1.2.2; simp only at this; omega
        have hkey : ev nx s u ∈ keys f := List.mem_map.mpr ⟨_, h1, rfl⟩
        have hwd : wd f (ev nx s u) = w1 := wd_of h.nd h1
        have hin : ev nx s u ∈ l := (h.lst _).mpr ⟨hkey, by rw [hwd]; exact hw1n⟩
        have hlle : lle w1 u := by
          rcases h2 with h2 | h2
          · omega
          · exact h2.2
        rcases M.all (ev nx s u, p) (mem_cands.mpr ⟨hin, hp⟩) with hz | ⟨x, hx, r1, r2⟩
        · refine ⟨wd f (nx (ev nx s u) p), ?_, ?_⟩
          · rw [M.eq, ev_snoc]
            exact List.mem_append_left _ (wd_mem hz)
          · refine .inl ?_
            have := (h.ok _ (wd_mem hz)).2.2
            simp at this ⊢
            omega
        · refine ⟨x.2, ?_, ?_⟩
          · rw [M.eq, ev_snoc]
            refine List.mem_append_right _ ?_
            rw [← show x.1 = nx (ev nx s u) p from r1]
            exact hx
          · refine .inr ⟨by rw [hlen x hx]; simp; omega, ?_⟩
            rw [show wd f (ev nx s u) = w1 from hwd] at r2
            exact lle_trans r2 (lle_app _ hlle)
/-- what the whole search finds -/
structure Fin (nx : α → Int → α) (m : Nat) (s : α) (f : F α) : Prop where
  nd : (keys f).Nodup
  ok : ∀ x ∈ f, ev nx s x.2 = x.1 ∧ Lt m x.2
  all : ∀ v : W, Lt m v → ∃ w, (ev nx s v, w) ∈ f ∧ sle w v
theorem fin_of {nx : α → Int → α} {m : Nat} {s : α} {n : Nat} {f : F α} (h : Inv nx m s n f []) : Fin nx m s f := by
  refine ⟨h.nd, fun x hx => ⟨(h.ok x hx).1, (h.ok x hx).2.1⟩, ?_⟩
  have key : ∀ (k : Nat) (v : W), v.length ≤ k → Lt m v → ∃ w, (ev nx s v, w) ∈ f ∧ sle w v := by
    intro k
    induction k with
    | zero => intro v hl hv; exact h.all v hv (by omega)
    | succ k ih =>
      intro v hl hv
      by_cases hn : v.length ≤ n
      · exact h.all v hv hn
      · have h1 : Lt m (v.take n) := fun p hp => hv p (List.mem_of_mem_take hp)
        obtain ⟨w1, g1, g2⟩ := h.all (v.take n) h1 (by simp; omega)
        have hw := h.ok _ g1
        have hne : w1.length ≠ n := fun e => by
          have hk : ev nx s (v.take n) ∈ keys f := List.mem_map.mpr ⟨_, g1, rfl⟩
          have := (h.lst _).mpr ⟨hk, by rw [wd_of h.nd g1]; exact e⟩
          cases this
        have hlt : w1.length < n := by have := hw.2.2; simp only at this; omega
        obtain ⟨w, r1, r2⟩ := ih (w1 ++ v.drop n) (by simp; omega) fun p hp => (List.mem_append.mp hp).elim (fun hp => hw.2.1 p hp) fun hp => hv p (List.mem_of_mem_drop hp)
        refine ⟨w, ?_, ?_⟩
        · have e : ev nx s v = ev nx s (w1 ++ v.drop n) := by
            rw [ev_app, show ev nx s w1 = ev nx s (v.take n) from hw.1, ← ev_app, List.take_append_drop]
          rw [e]; exact r1
        · refine .inl ?_
          have := sle_len r2
          simp at this
          omega
  exact fun v hv => key v.length v (Nat.le_refl _) hv
/-- the layers grow: as long as a layer isn't empty, the next has one more key at least, or is empty -/
theorem layer_len {nx : α → Int → α} {m : Nat} {s : α} {n : Nat} {f : F α} {l : List α} (h : Inv nx m s n f l) : (layer nx m f l).1.length = f.length + (layer nx m f l).2.length := by
  have hk : ∀ c ∈ cands m l, c.1 ∈ keys f := fun c hc => ((h.lst c.1).mp (mem_cands.mp hc).1).1
  obtain ⟨g, M⟩ := mid_all (nx := nx) (f0 := f) (cands m l) [] f [] [] ⟨by simp, rfl, h.nd, fun _ hx => by simp at hx, fun _ hx => by simp at hx, by simp⟩ hk (by simpa using cands_sorted h.srt)
  have e : layer nx m f l = (cands m l).foldl (step nx) (f, []) := rfl
  rw [← e] at M
  rw [M.eq, M.lat]
  simp [keys]
theorem go_fin {nx : α → Int → α} {m : Nat} {s : α} {B : Nat} (hB : ∀ n f l, Inv nx m s n f l → f.length ≤ B) : ∀ (k n : Nat) (f : F α) (l : List α), Inv nx m s n f l → B + 1 < k + f.length → Fin nx m s (go nx m k f l)
  | 0, n, f, l, h, hk => by have := hB n f l h; omega
  | k + 1, n, f, l, h, hk => by
    unfold go
    by_cases e : l = []
    · rw [if_pos e]
      subst e
      exact fin_of h
    · rw [if_neg e]
      have h1 := inv_layer h
      have hl := layer_len h
      by_cases e2 : (layer nx m f l).2 = []
      · rw [e2] at h1
        have : go nx m k (layer nx m f l).1 (layer nx m f l).2 = (layer nx m f l).1 := by
          rw [e2]
          cases k <;> simp [go]
        rw [this]
        exact fin_of h1
      · have : 0 < (layer nx m f l).2.length := List.length_pos_iff.mpr e2
        exact go_fin hB k (n + 1) _ _ h1 (by omega)
theorem Fin.least {nx : α → Int → α} {m : Nat} {s : α} {f : F α} (h : Fin nx m s f) {v : W} (hv : Lt m v) : sle (wd f (ev nx s v)) v := by
  obtain ⟨w, h1, h2⟩ := h.all v hv
  rw [wd_of h.nd h1]; exact h2
theorem Fin.key_iff {nx : α → Int → α} {m : Nat} {s : α} {f : F α} (h : Fin nx m s f) {a : α} : a ∈ keys f ↔ ∃ v, Lt m v ∧ ev nx s v = a := by
  constructor
  · intro ha
    obtain ⟨h1, h2⟩ := h.ok _ (wd_mem ha)
    exact ⟨_, h2, h1⟩
  · rintro ⟨v, hv, rfl⟩
    obtain ⟨w, h1, _⟩ := h.all v hv
    exact List.mem_map.mpr ⟨_, h1, rfl⟩
end Bf

set_option Elab.async false
set_option linter.all false
set_option maxRecDepth 100000
set_option maxHeartbeats 1000000
/-! LW: the second level: rules for runs, statements, loops. -/
namespace DL
open PySem
theorem runF_eq {bd : Bd} {i n : Nat} {b : Calls → SΦ} (h : bd i = some (n, b)) (d : Nat) (ds : List D) (hh : Hh) : runF bd (d + 1) i ds hh = trunc hh (runB n (b (runF bd d)) ds hh) := by
  show (match bd i with
    | some (n, ψ) => trunc hh (runB n (ψ (runF bd d)) ds hh)
    | none => .bad) = _
  rw [h]
/-! ### what a statement's result satisfies -/
def RS.sat (r : RS) (N : Env → Hh → Prop) (T : D → Hh → Prop) : Prop := match r with
  | .nx e h => N e h
  | .rt d h => T d h
  | _ => False
/-- in a loop: break and continue, too -/
def RS.satL (r : RS) (N B : Env → Hh → Prop) (T : D → Hh → Prop) : Prop := match r with
  | .nx e h => N e h
  | .ct e h => N e h
  | .bk e h => B e h
  | .rt d h => T d h
  | _ => False
@[simp] theorem RS.sat_nx (e : Env) (h : Hh) (N : Env → Hh → Prop) (T : D → Hh → Prop) : (RS.nx e h).sat N T = N e h := rfl
@[simp] theorem RS.sat_rt (d : D) (h : Hh) (N : Env → Hh → Prop) (T : D → Hh → Prop) : (RS.rt d h).sat N T = T d h := rfl
theorem RS.satL_of {r : RS} {N B : Env → Hh → Prop} {T : D → Hh → Prop} (h : r.sat N T) : r.satL N B T := by
  cases r <;> first | exact h | exact h.elim
theorem RS.sat_mono {r : RS} {N N' : Env → Hh → Prop} {T T' : D → Hh → Prop} (h : r.sat N T) (n : ∀ e g, N e g → N' e g) (t : ∀ d g, T d g → T' d g) : r.sat N' T' := by
  cases r <;> first | exact n _ _ h | exact t _ _ h | exact h.elim
theorem RS.sat_inv {r : RS} {N : Env → Hh → Prop} (h : r.sat N fun _ _ => False) : ∃ e g, r = .nx e g ∧ N e g := by
  cases r <;> first | exact ⟨_, _, rfl, h⟩ | exact h.elim
theorem seq_sat {a b : SΦ} {env : Env} {h : Hh} {N : Env → Hh → Prop} {T : D → Hh → Prop} (q : (a env h).sat (fun e g => (b e g).sat N T) T) : (S.seq a b env h).sat N T := by
  unfold S.seq
  cases r : a env h <;> rw [r] at q <;> first | exact q | exact q.elim
theorem seq_satL {a b : SΦ} {env : Env} {h : Hh} {N B : Env → Hh → Prop} {T : D → Hh → Prop} (q : (a env h).sat (fun e g => (b e g).satL N B T) T) : (S.seq a b env h).satL N B T := by
  unfold S.seq
  cases r : a env h <;> rw [r] at q <;> first | exact q | exact q.elim
theorem ife_sat {t : TΦ} {a b : SΦ} {env : Env} {h h1 : Hh} {c : Bool} {N : Env → Hh → Prop} {T : D → Hh → Prop} (ht : t env h = .ok c h1) (q1 : c = true → (a env h1).sat N T) (q2 : c = false → (b env h1).sat N T) : (S.ife t a b env h).sat N T := by
  unfold S.ife
  rw [ht]
  cases c
  · exact q2 rfl
  · exact q1 rfl
theorem set_sat {i : Nat} {a : EΦ} {env : Env} {h h1 : Hh} {d : D} {N : Env → Hh → Prop} {T : D → Hh → Prop} (e : a env h = .ok d h1) (q : N (env.set i (some d)) h1) : (S.set i a env h).sat N T := by
  unfold S.set
  rw [e]
  exact q
theorem par_sat {i j : Nat} {a b : EΦ} {env : Env} {h h1 h2 : Hh} {d d2 : D} {N : Env → Hh → Prop} {T : D → Hh → Prop} (e : a env h = .ok d h1) (e2 : b env h1 = .ok d2 h2) (q : N ((env.set i (some d)).set j (some d2)) h2) : (S.par i j a b env h).sat N T := by
  unfold S.par
  rw [e]
  simp only [R.toS_ok]
  rw [e2]
  exact q
theorem expr_sat {a : EΦ} {env : Env} {h h1 : Hh} {d : D} {N : Env → Hh → Prop} {T : D → Hh → Prop} (e : a env h = .ok d h1) (q : N env h1) : (S.expr a env h).sat N T := by
  unfold S.expr
  rw [e]
  exact q
theorem asg_sat {a : EΦ} {g : GΦ} {env env1 : Env} {h h1 h2 : Hh} {d : D} {N : Env → Hh → Prop} {T : D → Hh → Prop} (e : a env h = .ok d h1) (e2 : g d env h1 = .ok env1 h2) (q : N env1 h2) : (S.asg a g env h).sat N T := by
  unfold S.asg
  rw [e]
  simp only [R.toS_ok]
  rw [e2]
  exact q
theorem ret_sat {a : EΦ} {env : Env} {h h1 : Hh} {d : D} {N : Env → Hh → Prop} {T : D → Hh → Prop} (e : a env h = .ok d h1) (q : T d h1) : (S.ret a env h).sat N T := by
  unfold S.ret
  rw [e]
  exact q
/-- a walk, with what holds behind some items -/
theorem forGo_sat {α : Type} {enc : α → D} {s : Src} {g : GΦ} {b : SΦ} {N : Env → Hh → Prop} {T : D → Hh → Prop} (P : List α → Env → Hh → Prop) (l : List α)
    (hok : ∀ pre env h, pre <+: l → P pre env h → s.ok h = true)
    (step : ∀ pre x post env h, l = pre ++ x :: post → P pre env h → ∃ env1 h1, g (enc x) env h = .ok env1 h1 ∧ (b env1 h1).satL (P (pre ++ [x])) N T)
    (fin : ∀ env h, P l env h → N env h) : ∀ (rest done : List α) (env : Env) (h : Hh), l = done ++ rest → P done env h → (S.forGo s g b (rest.map enc) env h).sat N T
  | [], done, env, h, e, p => by
    have e' : l = done := by simpa using e
    subst e'
    rw [List.map_nil, S.forGo, if_pos (hok l env h (List.prefix_refl _) p)]
    exact fin _ _ p
  | x :: rest, done, env, h, e, p => by
    obtain ⟨env1, h1, e1, q⟩ := step done x rest env h e p
    rw [List.map_cons, S.forGo, if_pos (hok done env h (by rw [e]; exact List.prefix_append _ _) p), e1]
    simp only [R.toG_ok]
    cases r : b env1 h1 <;> rw [r] at q
    · exact forGo_sat P l hok step fin rest (done ++ [x]) _ _ (by simpa using e) q
    · exact q
    · exact q
    · exact forGo_sat P l hok step fin rest (done ++ [x]) _ _ (by simpa using e) q
    · exact q.elim
    · exact q.elim
theorem for_sat {α : Type} {enc : α → D} {i : IΦ} {g : GΦ} {b : SΦ} {env : Env} {h h1 : Hh} {s : Src} {N : Env → Hh → Prop} {T : D → Hh → Prop} (P : List α → Env → Hh → Prop) (l : List α) (e : i env h = .ok s h1) (hi : s.items = l.map enc)
    (p0 : P [] env h1)
    (hok : ∀ pre env h, pre <+: l → P pre env h → s.ok h = true)
    (step : ∀ pre x post env h, l = pre ++ x :: post → P pre env h → ∃ env1 h1, g (enc x) env h = .ok env1 h1 ∧ (b env1 h1).satL (P (pre ++ [x])) N T)
    (fin : ∀ env h, P l env h → N env h) : (S.for i g b env h).sat N T := by
  unfold S.for
  rw [e]
  simp only [R.toS_ok]
  rw [hi]
  exact forGo_sat P l hok step fin l [] env h1 rfl p0
/-- a loop, with what holds at each look at the test, and a measure -/
theorem whl_sat {t : TΦ} {b : SΦ} {N : Env → Hh → Prop} {T : D → Hh → Prop} (P : Nat → Env → Hh → Prop)
    (step : ∀ m env h, P m env h → ∃ c h1, t env h = .ok c h1 ∧ (c = false → N env h1) ∧ (c = true → (b env h1).satL (fun e g => ∃ m', m' < m ∧ P m' e g) N T)) : ∀ (n m : Nat) (env : Env) (h : Hh), m < n → P m env h → (S.whl t b n env h).sat N T
  | 0, m, env, h, hm, p => by omega
  | n + 1, m, env, h, hm, p => by
    obtain ⟨c, h1, e, q1, q2⟩ := step m env h p
    rw [S.whl, e]
    simp only [R.toS_ok]
    cases c with
    | false => exact q1 rfl
    | true =>
      have q := q2 rfl
      simp only [if_true]
      cases r : b env h1 <;> rw [r] at q
      · obtain ⟨m', hm', p'⟩ := q
        exact whl_sat P step n m' _ _ (by omega) p'
      · exact q
      · exact q
      · obtain ⟨m', hm', p'⟩ := q
        exact whl_sat P step n m' _ _ (by omega) p'
      · exact q.elim
      · exact q.elim
/-! ### a run -/
theorem run_sat {bd : Bd} {i n : Nat} {b : Calls → SΦ} (hb : bd i = some (n, b)) {d : Nat} {ds : List D} {hh : Hh} {P : D → Hh → Prop} (q : (b (runF bd d) (ds.map some ++ List.replicate (n - ds.length) none) hh).sat (fun _ h => P .non h) P) : ∃ v h, P v h ∧ runF bd (d + 1) i ds hh = trunc hh (.ok v h) := by
  rw [runF_eq hb]
  unfold runB
  cases r : b (runF bd d) (ds.map some ++ List.replicate (n - ds.length) none) hh <;> rw [r] at q
  · exact ⟨_, _, q, rfl⟩
  · exact ⟨_, _, q, rfl⟩
  · exact q.elim
  · exact q.elim
  · exact q.elim
  · exact q.elim
/-- a value without references, the old heap as it was -/
theorem run_pure {bd : Bd} {i n : Nat} {b : Calls → SΦ} (hb : bd i = some (n, b)) {d : Nat} {ds : List D} {hh : Hh} {v : D} (hv : v.under hh.length = true) (q : (b (runF bd d) (ds.map some ++ List.replicate (n - ds.length) none) hh).sat (fun _ h => D.non = v ∧ ∃ g, h = hh ++ g) (fun x h => x = v ∧ ∃ g, h = hh ++ g)) : runF bd (d + 1) i ds hh = .ok v hh := by
  obtain ⟨x, h, ⟨rfl, g, rfl⟩, e⟩ := run_sat (P := fun x h => x = v ∧ ∃ g, h = hh ++ g) hb q
  rw [e]
  exact trunc_drop hv
/-- .. the old heap changed at its places -/
theorem run_mut {bd : Bd} {i n : Nat} {b : Calls → SΦ} (hb : bd i = some (n, b)) {d : Nat} {ds : List D} {hh : Hh} {P : D → Hh → Prop} (q : (b (runF bd d) (ds.map some ++ List.replicate (n - ds.length) none) hh).sat (fun _ h => ∃ h1 g, h = h1 ++ g ∧ h1.length = hh.length ∧ agree hh.length hh h = true ∧ P .non h1) (fun x h => ∃ h1 g, h = h1 ++ g ∧ h1.length = hh.length ∧ x.under hh.length = true ∧ agree hh.length hh h = true ∧ P x h1)) : ∃ v h1, P v h1 ∧ h1.length = hh.length ∧ runF bd (d + 1) i ds hh = .ok v h1 := by
  obtain ⟨x, h, ⟨h1, g, rfl, hl, hu, ha, hp⟩, e⟩ := run_sat (P := fun x h => ∃ h1 g, h = h1 ++ g ∧ h1.length = hh.length ∧ x.under hh.length = true ∧ agree hh.length hh h = true ∧ P x h1) hb (RS.sat_mono q (fun e g ⟨h1, g', a, b, c, d⟩ => ⟨h1, g', a, b, rfl, c, d⟩) fun _ _ z => z)
  exact ⟨x, h1, hp, hl, by rw [e]; exact trunc_drop' hu hl ha⟩
/-! ### the heap's end -/
theorem app_get (h l : Hh) (k : Nat) : (h ++ l)[h.length + k]? = l[k]? := by rw [List.getElem?_append_right (by omega)]; congr 1; omega
theorem app_get0 (h l : Hh) : (h ++ l)[h.length]? = l[0]? := app_get h l 0
theorem app_set (h l : Hh) (k : Nat) (v : MO) : (h ++ l).set (h.length + k) v = h ++ l.set k v := by rw [List.set_append_right _ _ (by omega)]; congr 2; omega
theorem app_set0 (h l : Hh) (v : MO) : (h ++ l).set h.length v = h ++ l.set 0 v := app_set h l 0 v
theorem app_len (h l : Hh) : (h ++ l).length = h.length + l.length := List.length_append
end DL

set_option Elab.async false
set_option linter.all false
set_option maxRecDepth 100000
set_option maxHeartbeats 4000000
namespace PF
open PySem PySem.Spec PyProof.Rows L2 GX GxR DL
--@ is_number 0 : 
def b_is_number (c : Calls) : SΦ := (S.ret (E.and (E.isi ["int"] (E.var 0)) (E.and (E.ofT (T.not (T.val (E.isi ["bool"] (E.var 0))))) (E.chain D.leA D.leA (E.var 1) (E.var 0) (E.var 2)))))
class H_is_number (bd : Bd) : Prop where
  e_is_number : bd 0 = some (3, b_is_number)
--@ need_number 1 : is_number
def b_need_number (c : Calls) : SΦ := (S.ife (T.not (T.val (E.call 3 (c 0) (L.cons (E.var 0) (L.cons (E.var 1) (L.cons (E.var 2) L.nil)))))) S.bad S.nil)
class H_need_number (bd : Bd) : Prop extends H_is_number bd where
  e_need_number : bd 1 = some (3, b_need_number)
--@ is_permutation 2 : is_number
def b_is_permutation (c : Calls) : SΦ := (S.seq (S.ife (T.or (T.not (T.val (E.isi ["tuple"] (E.var 0)))) (T.val (E.op2 D.ne (E.app lenC (L.cons (E.var 0) L.nil)) (E.var 1)))) (S.ret (E.con (.bl false))) S.nil) (S.ret (E.and (E.gen false (I.ofK (E.var 0)) [2] (.one 2) T.yes (E.call 3 (c 0) (L.cons (E.var 2) (L.cons (E.con (.int 0)) (L.cons (E.op2 D.sub (E.var 1) (E.con (.int 1))) L.nil))))) (E.op2 D.eq (E.lenSet (Q.of (E.var 0))) (E.var 1)))))
class H_is_permutation (bd : Bd) : Prop extends H_is_number bd where
  e_is_permutation : bd 2 = some (3, b_is_permutation)
--@ need_habit 3 : is_permutation
def b_need_habit (c : Calls) : SΦ := (S.seq (S.ife (T.or (T.not (T.val (E.isi ["tuple"] (E.var 0)))) (T.not (T.val (E.chain D.leA D.leA (E.con (.int 2)) (E.app lenC (L.cons (E.var 0) L.nil)) (E.con (.int 5)))))) S.bad S.nil) (S.for (I.enum (E.var 0)) (Tg.tup (Tg.cons (Tg.name 1) (Tg.cons (Tg.name 2) Tg.nil))) (S.ife (T.not (T.val (E.call 2 (c 2) (L.cons (E.var 2) (L.cons (E.app lenC (L.cons (E.var 0) L.nil)) L.nil))))) S.bad S.nil)))
class H_need_habit (bd : Bd) : Prop extends H_is_permutation bd where
  e_need_habit : bd 3 = some (3, b_need_habit)
--@ need_layout 4 : is_permutation
def b_need_layout (c : Calls) : SΦ := (S.ife (T.not (T.val (E.call 2 (c 2) (L.cons (E.var 1) (L.cons (E.app lenC (L.cons (E.var 0) L.nil)) L.nil))))) S.bad S.nil)
class H_need_layout (bd : Bd) : Prop extends H_is_permutation bd where
  e_need_layout : bd 4 = some (2, b_need_layout)
--@ need_shelf 5 : need_habit need_layout
def b_need_shelf (c : Calls) : SΦ := (S.seq (S.expr (E.call 1 (c 3) (L.cons (E.var 0) L.nil))) (S.expr (E.call 2 (c 4) (L.cons (E.var 0) (L.cons (E.var 1) L.nil)))))
class H_need_shelf (bd : Bd) : Prop extends H_need_habit bd, H_need_layout bd where
  e_need_shelf : bd 5 = some (2, b_need_shelf)
--@ need_place 6 : is_number
def b_need_place (c : Calls) : SΦ := (S.ife (T.not (T.val (E.call 3 (c 0) (L.cons (E.var 1) (L.cons (E.con (.int 0)) (L.cons (E.op2 D.sub (E.app lenC (L.cons (E.var 0) L.nil)) (E.con (.int 1))) L.nil)))))) S.bad S.nil)
class H_need_place (bd : Bd) : Prop extends H_is_number bd where
  e_need_place : bd 6 = some (2, b_need_place)
--@ behind_touch 7 : 
def b_behind_touch (c : Calls) : SΦ := (S.ret (E.tuple (L.comp (I.ofK (E.var 1)) [3] (.one 3) T.yes (E.op2 D.ixK (E.op2 D.ixK (E.var 0) (E.var 2)) (E.var 3)))))
class H_behind_touch (bd : Bd) : Prop where
  e_behind_touch : bd 7 = some (4, b_behind_touch)
--@ touched 8 : behind_touch need_place need_shelf
def b_touched (c : Calls) : SΦ := (S.seq (S.expr (E.call 2 (c 5) (L.cons (E.var 0) (L.cons (E.var 1) L.nil)))) (S.seq (S.expr (E.call 2 (c 6) (L.cons (E.var 0) (L.cons (E.var 2) L.nil)))) (S.ret (E.call 3 (c 7) (L.cons (E.var 0) (L.cons (E.var 1) (L.cons (E.var 2) L.nil)))))))
class H_touched (bd : Bd) : Prop extends H_behind_touch bd, H_need_place bd, H_need_shelf bd where
  e_touched : bd 8 = some (3, b_touched)
--@ words_from 9 : behind_touch
def b_words_from (c : Calls) : SΦ := (S.seq (S.par 2 3 (E.dict (P.cons (E.var 1) (E.tup L.nil) P.nil)) (E.ofL (L.disp (L.cons (E.var 1) L.nil)))) (S.seq (S.whl (T.tru (E.var 3)) (S.seq (S.set 4 (E.ofL (L.disp L.nil))) (S.seq (S.for (I.ofK (E.var 3)) (Tg.name 5) (S.for (I.rng1 (E.app lenC (L.cons (E.var 0) L.nil))) (Tg.name 6) (S.seq (S.set 7 (E.call 3 (c 7) (L.cons (E.var 0) (L.cons (E.var 5) (L.cons (E.var 6) L.nil))))) (S.ife (T.val (E.op2 (D.inA true) (E.var 7) (E.var 2))) (S.seq (S.asg (E.op2 D.add (E.op2 D.ixK (E.var 2) (E.var 5)) (E.tup (L.cons (E.var 6) L.nil))) (Tg.subK (E.var 2) (E.var 7))) (S.expr (E.met isL (mutL fAppend) (E.var 4) (L.cons (E.var 7) L.nil)))) S.nil)))) (S.set 3 (E.var 4)))) fuel) (S.ret (E.var 2))))
class H_words_from (bd : Bd) : Prop extends H_behind_touch bd where
  e_words_from : bd 9 = some (8, b_words_from)
--@ word_between 10 : need_layout need_shelf words_from
def b_word_between (c : Calls) : SΦ := (S.seq (S.expr (E.call 2 (c 5) (L.cons (E.var 0) (L.cons (E.var 1) L.nil)))) (S.seq (S.expr (E.call 2 (c 4) (L.cons (E.var 0) (L.cons (E.var 2) L.nil)))) (S.ret (E.met isDc D.dget (E.call 2 (c 9) (L.cons (E.var 0) (L.cons (E.var 1) L.nil))) (L.cons (E.var 2) L.nil)))))
class H_word_between (bd : Bd) : Prop extends H_need_layout bd, H_need_shelf bd, H_words_from bd where
  e_word_between : bd 10 = some (3, b_word_between)
--@ distance 11 : word_between
def b_distance (c : Calls) : SΦ := (S.seq (S.set 3 (E.call 3 (c 10) (L.cons (E.var 0) (L.cons (E.var 1) (L.cons (E.var 2) L.nil))))) (S.ret (E.ifx (T.isN (E.var 3)) (E.con .non) (E.app lenC (L.cons (E.var 3) L.nil)))))
class H_distance (bd : Bd) : Prop extends H_word_between bd where
  e_distance : bd 11 = some (4, b_distance)
--@ farthest 12 : need_shelf words_from
def b_farthest (c : Calls) : SΦ := (S.seq (S.expr (E.call 2 (c 5) (L.cons (E.var 0) (L.cons (E.var 1) L.nil)))) (S.ret (E.best true (L.comp (I.vals (E.call 2 (c 9) (L.cons (E.var 0) (L.cons (E.var 1) L.nil)))) [2] (.one 2) T.yes (E.app lenC (L.cons (E.var 2) L.nil))))))
class H_farthest (bd : Bd) : Prop extends H_need_shelf bd, H_words_from bd where
  e_farthest : bd 12 = some (3, b_farthest)
--@ order 13 : need_habit words_from
def b_order (c : Calls) : SΦ := (S.seq (S.expr (E.call 1 (c 3) (L.cons (E.var 0) L.nil))) (S.ret (E.app lenC (L.cons (E.call 2 (c 9) (L.cons (E.var 0) (L.cons (E.tuple (L.rng1 (E.app lenC (L.cons (E.var 0) L.nil)))) L.nil))) L.nil))))
class H_order (bd : Bd) : Prop extends H_need_habit bd, H_words_from bd where
  e_order : bd 13 = some (1, b_order)
--@ front_habit 14 : need_number
def b_front_habit (c : Calls) : SΦ := (S.seq (S.expr (E.call 3 (c 1) (L.cons (E.var 0) (L.cons (E.con (.int 2)) (L.cons (E.con (.int 5)) L.nil))))) (S.seq (S.set 1 (E.ofL (L.disp L.nil))) (S.seq (S.for (I.rng1 (E.var 0)) (Tg.name 2) (S.expr (E.met isL (mutL fAppend) (E.var 1) (L.cons (E.tuple (L.cat (L.cat (L.rng2 (E.con (.int 1)) (E.op2 D.add (E.var 2) (E.con (.int 1)))) (L.disp (L.cons (E.con (.int 0)) L.nil))) (L.rng2 (E.op2 D.add (E.var 2) (E.con (.int 1))) (E.var 0)))) L.nil)))) (S.ret (E.tuple (R.of (E.var 1)))))))
class H_front_habit (bd : Bd) : Prop extends H_need_number bd where
  e_front_habit : bd 14 = some (3, b_front_habit)
--@ neighbour_habit 15 : need_number
def b_neighbour_habit (c : Calls) : SΦ := (S.seq (S.expr (E.call 3 (c 1) (L.cons (E.var 0) (L.cons (E.con (.int 2)) (L.cons (E.con (.int 5)) L.nil))))) (S.seq (S.set 1 (E.ofL (L.disp (L.cons (E.tuple (L.rng1 (E.var 0))) L.nil)))) (S.seq (S.for (I.rng2 (E.con (.int 1)) (E.var 0)) (Tg.name 2) (S.expr (E.met isL (mutL fAppend) (E.var 1) (L.cons (E.tuple (L.cat (L.cat (L.rng1 (E.op2 D.sub (E.var 2) (E.con (.int 1)))) (L.disp (L.cons (E.var 2) (L.cons (E.op2 D.sub (E.var 2) (E.con (.int 1))) L.nil)))) (L.rng2 (E.op2 D.add (E.var 2) (E.con (.int 1))) (E.var 0)))) L.nil)))) (S.ret (E.tuple (R.of (E.var 1)))))))
class H_neighbour_habit (bd : Bd) : Prop extends H_need_number bd where
  e_neighbour_habit : bd 15 = some (3, b_neighbour_habit)
--@ turning_habit 16 : need_number
def b_turning_habit (c : Calls) : SΦ := (S.seq (S.expr (E.call 3 (c 1) (L.cons (E.var 0) (L.cons (E.con (.int 2)) (L.cons (E.con (.int 5)) L.nil))))) (S.ret (E.tuple (L.comp (I.rng1 (E.var 0)) [1] (.one 1) T.yes (E.tuple (L.comp (I.rng1 (E.var 0)) [2] (.one 2) T.yes (E.op2 D.mod (E.op2 D.add (E.var 2) (E.var 1)) (E.var 0))))))))
class H_turning_habit (bd : Bd) : Prop extends H_need_number bd where
  e_turning_habit : bd 16 = some (3, b_turning_habit)
--@ lw_taken 17 : 
def b_lw_taken (c : Calls) : SΦ := (S.seq (S.ife (T.val (E.op2 D.gtA (E.op2 D.ixK (E.var 0) (E.con (.int 3))) (E.con (.int 0)))) (S.seq (S.set 3 (E.op2 D.mod (E.app D.toInt (L.cons (E.op2 D.ixK (E.var 0) (E.con (.int 3))) L.nil)) (E.var 1))) (S.seq (S.asg (E.op2 D.fdiv (E.op2 D.ixK (E.var 0) (E.con (.int 3))) (E.var 1)) (Tg.subK (E.var 0) (E.con (.int 3)))) (S.ret (E.var 3)))) S.nil) (S.seq (S.asg (E.op2 D.add (E.op2 D.ixK (E.var 0) (E.con (.int 1))) (E.con (.int 1))) (Tg.subK (E.var 0) (E.con (.int 1)))) (S.seq (S.ife (T.val (E.op2 D.gtA (E.op2 D.ixK (E.var 0) (E.con (.int 1))) (E.app lenC (L.cons (E.op2 D.ixK (E.var 0) (E.con (.int 0))) L.nil)))) (S.seq (S.asg (E.op2 D.mod (E.app D.toInt (L.cons (E.op2 D.add (E.op2 D.mul (E.op2 D.ixK (E.var 0) (E.con (.int 2))) (E.con (.int 48271))) (E.con (.int 11))) L.nil)) (E.con (.int 2147483647))) (Tg.subK (E.var 0) (E.con (.int 2)))) (S.ret (E.op2 D.mod (E.app D.toInt (L.cons (E.op2 D.fdiv (E.op2 D.ixK (E.var 0) (E.con (.int 2))) (E.con (.int 7))) L.nil)) (E.var 1)))) S.nil) (S.seq (S.set 2 (E.op2 D.ixK (E.op2 D.ixK (E.var 0) (E.con (.int 0))) (E.op2 D.sub (E.op2 D.ixK (E.var 0) (E.con (.int 1))) (E.con (.int 1))))) (S.seq (S.asg (E.op2 D.mod (E.app D.toInt (L.cons (E.op2 D.add (E.op2 D.add (E.op2 D.mul (E.op2 D.ixK (E.var 0) (E.con (.int 2))) (E.con (.int 48271))) (E.var 2)) (E.con (.int 11))) L.nil)) (E.con (.int 2147483647))) (Tg.subK (E.var 0) (E.con (.int 2)))) (S.seq (S.ife (T.val (E.op2 D.geA (E.var 2) (E.op2 D.pow (E.con (.int 10)) (E.con (.int 18))))) (S.asg (E.op2 D.fdiv (E.var 2) (E.var 1)) (Tg.subK (E.var 0) (E.con (.int 3)))) S.nil) (S.ret (E.op2 D.mod (E.app D.toInt (L.cons (E.var 2) L.nil)) (E.var 1)))))))))
class H_lw_taken (bd : Bd) : Prop where
  e_lw_taken : bd 17 = some (4, b_lw_taken)
--@ lw_order 18 : lw_taken
def b_lw_order (c : Calls) : SΦ := (S.seq (S.par 2 3 (E.ofL (L.rng1 (E.var 1))) (E.ofL (L.disp L.nil))) (S.seq (S.whl (T.eqX true (XX.of (E.var 2)) (XX.ofL (L.disp L.nil))) (S.expr (E.met isL (mutL fAppend) (E.var 3) (L.cons (E.met isL (mutL fPopAt) (E.var 2) (L.cons (E.call 2 (c 17) (L.cons (E.var 0) (L.cons (E.app lenC (L.cons (E.var 2) L.nil)) L.nil))) L.nil)) L.nil))) fuel) (S.ret (E.tuple (R.of (E.var 3))))))
class H_lw_order (bd : Bd) : Prop extends H_lw_taken bd where
  e_lw_order : bd 18 = some (4, b_lw_order)
--@ law_k03 19 : lw_order lw_taken distance farthest front_habit neighbour_habit order touched turning_habit
def b_law_k03 (c : Calls) : SΦ := (S.seq (S.set 1 (E.ofL (L.disp (L.cons (E.var 0) (L.cons (E.con (.int 0)) (L.cons (E.con (.int 5003)) (L.cons (E.con (.int 0)) L.nil))))))) (S.seq (S.set 2 (E.op2 D.add (E.con (.int 2)) (E.call 2 (c 17) (L.cons (E.var 1) (L.cons (E.con (.int 4)) L.nil))))) (S.seq (S.asg (E.tup (L.cons (E.call 1 (c 14) (L.cons (E.var 2) L.nil)) (L.cons (E.call 2 (c 18) (L.cons (E.var 1) (L.cons (E.var 2) L.nil))) (L.cons (E.call 2 (c 18) (L.cons (E.var 1) (L.cons (E.var 2) L.nil))) L.nil)))) (Tg.tup (Tg.cons (Tg.name 12) (Tg.cons (Tg.name 13) (Tg.cons (Tg.name 14) Tg.nil))))) (S.seq (S.set 3 (E.call 2 (c 17) (L.cons (E.var 1) (L.cons (E.var 2) L.nil)))) (S.seq (S.set 4 (E.ofL (L.comp (I.rng1 (E.var 2)) [18] (.one 18) T.yes (E.met isT D.tindex (E.var 13) (L.cons (E.var 18) L.nil))))) (S.seq (S.set 5 (E.ofL (L.cat (L.cat (L.disp (L.cons (E.op2 D.ixK (E.var 4) (E.var 3)) L.nil)) (L.slE (E.var 4) O.none (O.some (E.var 3)))) (L.slE (E.var 4) (O.some (E.op2 D.add (E.var 3) (E.con (.int 1)))) O.none)))) (S.seq (S.set 6 (E.call 3 (c 8) (L.cons (E.var 12) (L.cons (E.var 13) (L.cons (E.var 3) L.nil))))) (S.seq (S.ife (T.eqX true (XX.ofL (L.comp (I.rng1 (E.var 2)) [18] (.one 18) T.yes (E.met isT D.tindex (E.var 6) (L.cons (E.var 18) L.nil)))) (XX.of (E.var 5))) (S.ret (E.con (.bl false))) S.nil) (S.seq (S.par 15 16 (E.ofL (L.comp (I.rng1 (E.var 2)) [18] (.one 18) T.yes (E.met isT D.tindex (E.var 14) (L.cons (E.var 18) L.nil)))) (E.con (.int 0))) (S.seq (S.for (I.rng1 (E.op2 D.add (E.var 2) (E.con (.int 1)))) (Tg.name 7) (S.seq (S.set 17 (E.ofL (L.comp (I.ofL (L.slE (E.var 15) (O.some (E.op2 D.sub (E.var 2) (E.var 7))) O.none)) [19] (.one 19) T.yes (E.op2 D.ixK (E.var 13) (E.var 19))))) (S.ife (T.eqX false (XX.of (E.var 17)) (XX.ofL (L.sorted (Co.of (E.var 17))))) (S.set 16 (E.app D.max2 (L.cons (E.var 16) (L.cons (E.var 7) L.nil)))) S.nil))) (S.seq (S.ife (T.val (E.op2 D.ne (E.call 3 (c 11) (L.cons (E.var 12) (L.cons (E.var 13) (L.cons (E.var 14) L.nil)))) (E.op2 D.sub (E.var 2) (E.var 16)))) (S.ret (E.con (.bl false))) S.nil) (S.seq (S.set 8 (E.con (.int 1))) (S.seq (S.for (I.rng2 (E.con (.int 2)) (E.op2 D.add (E.var 2) (E.con (.int 1)))) (Tg.name 9) (S.set 8 (E.op2 D.mul (E.var 8) (E.var 9)))) (S.seq (S.ife (T.eqX true (XX.ofL (L.disp (L.cons (E.call 1 (c 13) (L.cons (E.var 12) L.nil)) (L.cons (E.call 1 (c 13) (L.cons (E.call 1 (c 15) (L.cons (E.var 2) L.nil)) L.nil)) (L.cons (E.call 1 (c 13) (L.cons (E.call 1 (c 16) (L.cons (E.var 2) L.nil)) L.nil)) L.nil))))) (XX.ofL (L.disp (L.cons (E.var 8) (L.cons (E.var 8) (L.cons (E.var 2) L.nil)))))) (S.ret (E.con (.bl false))) S.nil) (S.seq (S.ife (T.val (E.op2 D.ne (E.call 2 (c 12) (L.cons (E.var 12) (L.cons (E.var 13) L.nil))) (E.op2 D.sub (E.var 2) (E.con (.int 1))))) (S.ret (E.con (.bl false))) S.nil) (S.seq (S.set 10 (E.call 3 (c 8) (L.cons (E.call 1 (c 15) (L.cons (E.var 2) L.nil)) (L.cons (E.var 13) (L.cons (E.var 3) L.nil))))) (S.seq (S.set 4 (E.ofL (L.comp (I.rng1 (E.var 2)) [18] (.one 18) T.yes (E.met isT D.tindex (E.var 13) (L.cons (E.var 18) L.nil))))) (S.seq (S.ife (T.val (E.op2 D.gtA (E.var 3) (E.con (.int 0)))) (S.asg (E.tup (L.cons (E.op2 D.ixK (E.var 4) (E.op2 D.sub (E.var 3) (E.con (.int 1)))) (L.cons (E.op2 D.ixK (E.var 4) (E.var 3)) L.nil))) (Tg.tup (Tg.cons (Tg.subK (E.var 4) (E.var 3)) (Tg.cons (Tg.subK (E.var 4) (E.op2 D.sub (E.var 3) (E.con (.int 1)))) Tg.nil)))) S.nil) (S.seq (S.ife (T.eqX true (XX.ofL (L.comp (I.rng1 (E.var 2)) [18] (.one 18) T.yes (E.met isT D.tindex (E.var 10) (L.cons (E.var 18) L.nil)))) (XX.of (E.var 4))) (S.ret (E.con (.bl false))) S.nil) (S.seq (S.set 11 (E.call 3 (c 8) (L.cons (E.call 1 (c 16) (L.cons (E.var 2) L.nil)) (L.cons (E.var 13) (L.cons (E.var 3) L.nil))))) (S.ret (E.op2 D.eq (E.var 11) (E.tuple (L.comp (I.ofK (E.var 13)) [20] (.one 20) T.yes (E.op2 D.mod (E.app D.toInt (L.cons (E.op2 D.add (E.var 20) (E.var 3)) L.nil)) (E.var 2))))))))))))))))))))))))))
class H_law_k03 (bd : Bd) : Prop extends H_lw_order bd, H_lw_taken bd, H_distance bd, H_farthest bd, H_front_habit bd, H_neighbour_habit bd, H_order bd, H_touched bd, H_turning_habit bd where
  e_law_k03 : bd 19 = some (21, b_law_k03)
end PF

set_option Elab.async false
set_option linter.all false
set_option maxRecDepth 100000
set_option maxHeartbeats 4000000
namespace PF
open PySem PySem.Spec PyProof.Rows L2 GX GxR DL
--@ behind_word 20 : behind_touch
def b_behind_word (c : Calls) : SΦ := (S.seq (S.for (I.ofK (E.var 2)) (Tg.name 3) (S.set 1 (E.call 3 (c 7) (L.cons (E.var 0) (L.cons (E.var 1) (L.cons (E.var 3) L.nil)))))) (S.ret (E.var 1)))
class H_behind_word (bd : Bd) : Prop extends H_behind_touch bd where
  e_behind_word : bd 20 = some (4, b_behind_word)
--@ after 21 : behind_word is_number need_shelf
def b_after (c : Calls) : SΦ := (S.seq (S.expr (E.call 2 (c 5) (L.cons (E.var 0) (L.cons (E.var 1) L.nil)))) (S.seq (S.ife (T.or (T.not (T.val (E.isi ["tuple"] (E.var 2)))) (T.val (E.op2 D.gtA (E.app lenC (L.cons (E.var 2) L.nil)) (E.con (.int 400))))) S.bad S.nil) (S.seq (S.ife (T.not (T.val (E.gen false (I.ofK (E.var 2)) [3] (.one 3) T.yes (E.call 3 (c 0) (L.cons (E.var 3) (L.cons (E.con (.int 0)) (L.cons (E.op2 D.sub (E.app lenC (L.cons (E.var 0) L.nil)) (E.con (.int 1))) L.nil))))))) S.bad S.nil) (S.ret (E.call 3 (c 20) (L.cons (E.var 0) (L.cons (E.var 1) (L.cons (E.var 2) L.nil))))))))
class H_after (bd : Bd) : Prop extends H_behind_word bd, H_is_number bd, H_need_shelf bd where
  e_after : bd 21 = some (4, b_after)
--@ can_come 22 : need_shelf words_from
def b_can_come (c : Calls) : SΦ := (S.seq (S.expr (E.call 2 (c 5) (L.cons (E.var 0) (L.cons (E.var 1) L.nil)))) (S.ret (E.tuple (L.sorted (Co.of (E.call 2 (c 9) (L.cons (E.var 0) (L.cons (E.var 1) L.nil))))))))
class H_can_come (bd : Bd) : Prop extends H_need_shelf bd, H_words_from bd where
  e_can_come : bd 22 = some (2, b_can_come)
--@ lw_habit 23 : lw_order lw_taken
def b_lw_habit (c : Calls) : SΦ := (S.seq (S.par 3 4 (E.call 2 (c 17) (L.cons (E.var 0) (L.cons (E.con (.int 5)) L.nil))) (E.ofL (L.disp L.nil))) (S.seq (S.for (I.rng1 (E.var 1)) (Tg.name 2) (S.ife (T.val (E.op2 D.eq (E.var 3) (E.con (.int 0)))) (S.expr (E.met isL (mutL fAppend) (E.var 4) (L.cons (E.tuple (L.comp (I.rng1 (E.var 1)) [7] (.one 7) T.yes (E.op2 D.mod (E.op2 D.add (E.var 7) (E.var 2)) (E.var 1)))) L.nil))) (S.ife (T.val (E.op2 D.eq (E.var 3) (E.con (.int 1)))) (S.seq (S.set 5 (E.ofL (L.comp (I.rng1 (E.var 1)) [7] (.one 7) T.yes (E.op2 D.add (E.var 7) (E.app D.toInt (L.cons (E.op2 D.ltA (E.var 7) (E.var 2)) L.nil)))))) (S.expr (E.met isL (mutL fAppend) (E.var 4) (L.cons (E.tuple (L.cat (L.cat (L.slE (E.var 5) O.none (O.some (E.var 2))) (L.disp (L.cons (E.con (.int 0)) L.nil))) (L.slE (E.var 5) (O.some (E.op2 D.add (E.var 2) (E.con (.int 1)))) O.none))) L.nil)))) (S.ife (T.val (E.op2 D.eq (E.var 3) (E.con (.int 2)))) (S.seq (S.set 6 (E.app D.max2 (L.cons (E.con (.int 0)) (L.cons (E.op2 D.sub (E.var 2) (E.con (.int 1))) L.nil)))) (S.seq (S.set 5 (E.ofL (L.rng1 (E.var 1)))) (S.seq (S.asg (E.tup (L.cons (E.var 6) (L.cons (E.var 2) L.nil))) (Tg.tup (Tg.cons (Tg.subK (E.var 5) (E.var 2)) (Tg.cons (Tg.subK (E.var 5) (E.var 6)) Tg.nil)))) (S.expr (E.met isL (mutL fAppend) (E.var 4) (L.cons (E.tuple (R.of (E.var 5))) L.nil)))))) (S.ife (T.and (T.val (E.op2 D.eq (E.var 3) (E.con (.int 3)))) (T.val (E.op2 D.eq (E.call 2 (c 17) (L.cons (E.var 0) (L.cons (E.con (.int 2)) L.nil))) (E.con (.int 0))))) (S.expr (E.met isL (mutL fAppend) (E.var 4) (L.cons (E.tuple (L.rng1 (E.var 1))) L.nil))) (S.expr (E.met isL (mutL fAppend) (E.var 4) (L.cons (E.call 2 (c 18) (L.cons (E.var 0) (L.cons (E.var 1) L.nil))) L.nil)))))))) (S.ret (E.tuple (R.of (E.var 4))))))
class H_lw_habit (bd : Bd) : Prop extends H_lw_order bd, H_lw_taken bd where
  e_lw_habit : bd 23 = some (8, b_lw_habit)
--@ lw_alike 24 : 
def b_lw_alike (c : Calls) : SΦ := (S.seq (S.ife (T.val (E.isi ["tuple", "list"] (E.var 1))) (S.seq (S.ife (T.or (T.not (T.val (E.isi ["tuple", "list"] (E.var 0)))) (T.val (E.op2 D.ne (E.isi ["list"] (E.var 0)) (E.isi ["list"] (E.var 1))))) (S.ret (E.con (.bl false))) S.nil) (S.seq (S.ife (T.val (E.op2 D.ne (E.app lenC (L.cons (E.var 0) L.nil)) (E.app lenC (L.cons (E.var 1) L.nil)))) (S.ret (E.con (.bl false))) S.nil) (S.ret (E.ofT (T.eqX false (XX.ofL (L.comp (I.rng1 (E.app lenC (L.cons (E.var 1) L.nil))) [2] (.one 2) (T.not (T.val (E.call 2 (c 24) (L.cons (E.op2 D.ixK (E.var 0) (E.var 2)) (L.cons (E.op2 D.ixK (E.var 1) (E.var 2)) L.nil))))) (E.var 2))) (XX.ofL (L.disp L.nil))))))) S.nil) (S.seq (S.ife (T.or (T.isN (E.var 1)) (T.val (E.isi ["str"] (E.var 1)))) (S.ret (E.and (E.op2 D.eq (E.var 0) (E.var 1)) (E.op2 D.eq (E.isi ["str"] (E.var 0)) (E.isi ["str"] (E.var 1))))) S.nil) (S.ret (E.and (E.isi ["int"] (E.var 0)) (E.and (E.op2 D.eq (E.isi ["bool"] (E.var 0)) (E.isi ["bool"] (E.var 1))) (E.op2 D.eq (E.var 0) (E.var 1)))))))
class H_lw_alike (bd : Bd) : Prop where
  e_lw_alike : bd 24 = some (3, b_lw_alike)
--@ lw_touch 25 : 
def b_lw_touch (c : Calls) : SΦ := (S.ret (E.tuple (L.comp (I.ofK (E.var 1)) [3] (.one 3) T.yes (E.op2 D.ixK (E.op2 D.ixK (E.var 0) (E.var 2)) (E.var 3)))))
class H_lw_touch (bd : Bd) : Prop where
  e_lw_touch : bd 25 = some (4, b_lw_touch)
--@ lw_near 26 : lw_touch
def b_lw_near (c : Calls) : SΦ := (S.seq (S.asg (E.tup (L.cons (E.dict (P.cons (E.var 1) (E.con (.int 0)) P.nil)) (L.cons (E.con (.int 0)) (L.cons (E.con (.bl true)) L.nil)))) (Tg.tup (Tg.cons (Tg.name 2) (Tg.cons (Tg.name 3) (Tg.cons (Tg.name 4) Tg.nil))))) (S.seq (S.whl (T.tru (E.var 4)) (S.seq (S.set 4 (E.con (.bl false))) (S.seq (S.for (I.ofL (L.comp (I.ofL (Co.of (E.var 2))) [7] (.one 7) (T.val (E.op2 D.eq (E.op2 D.ixK (E.var 2) (E.var 7)) (E.var 3))) (E.var 7))) (Tg.name 7) (S.for (I.rng1 (E.app lenC (L.cons (E.var 0) L.nil))) (Tg.name 5) (S.seq (S.set 6 (E.call 3 (c 25) (L.cons (E.var 0) (L.cons (E.var 7) (L.cons (E.var 5) L.nil))))) (S.ife (T.val (E.op2 (D.inA true) (E.var 6) (E.var 2))) (S.asg (E.tup (L.cons (E.op2 D.add (E.var 3) (E.con (.int 1))) (L.cons (E.con (.bl true)) L.nil))) (Tg.tup (Tg.cons (Tg.subK (E.var 2) (E.var 6)) (Tg.cons (Tg.name 4) Tg.nil)))) S.nil)))) (S.set 3 (E.op2 D.add (E.var 3) (E.con (.int 1)))))) fuel) (S.ret (E.var 2))))
class H_lw_near (bd : Bd) : Prop extends H_lw_touch bd where
  e_lw_near : bd 26 = some (8, b_lw_near)
--@ lw_pick 27 : lw_taken
def b_lw_pick (c : Calls) : SΦ := (S.ret (E.op2 D.ixK (E.var 1) (E.call 2 (c 17) (L.cons (E.var 0) (L.cons (E.app lenC (L.cons (E.var 1) L.nil)) L.nil)))))
class H_lw_pick (bd : Bd) : Prop extends H_lw_taken bd where
  e_lw_pick : bd 27 = some (2, b_lw_pick)
--@ lw_least_word 28 : lw_touch
def b_lw_least_word (c : Calls) : SΦ := (S.seq (S.set 4 (E.ofL (L.disp (L.cons (E.tup (L.cons (E.var 1) (L.cons (E.tup L.nil) L.nil))) L.nil)))) (S.seq (S.for (I.rng1 (E.var 3)) (Tg.name 5) (S.seq (S.par 6 7 (E.ofL (L.disp L.nil)) E.dict0) (S.seq (S.for (I.ofK (E.var 4)) (Tg.tup (Tg.cons (Tg.name 10) (Tg.cons (Tg.name 11) Tg.nil))) (S.for (I.rng1 (E.app lenC (L.cons (E.var 0) L.nil))) (Tg.name 8) (S.seq (S.set 9 (E.call 3 (c 25) (L.cons (E.var 0) (L.cons (E.var 10) (L.cons (E.var 8) L.nil))))) (S.ife (T.val (E.op2 (D.inA true) (E.var 9) (E.var 7))) (S.seq (S.asg (E.con (.bl true)) (Tg.subK (E.var 7) (E.var 9))) (S.expr (E.met isL (mutL fAppend) (E.var 6) (L.cons (E.tup (L.cons (E.var 9) (L.cons (E.op2 D.add (E.var 11) (E.tup (L.cons (E.var 8) L.nil))) L.nil))) L.nil)))) S.nil)))) (S.set 4 (E.var 6))))) (S.ret (E.op2 D.ixK (E.ofL (L.comp (I.ofK (E.var 4)) [10, 11] (.many [10, 11]) (T.val (E.op2 D.eq (E.var 10) (E.var 2))) (E.var 11))) (E.con (.int 0))))))
class H_lw_least_word (bd : Bd) : Prop extends H_lw_touch bd where
  e_lw_least_word : bd 28 = some (12, b_lw_least_word)
--@ law_k01 29 : lw_alike lw_habit lw_least_word lw_near lw_order lw_pick lw_taken lw_touch after can_come distance farthest order touched word_between
def b_law_k01 (c : Calls) : SΦ := (S.seq (S.set 1 (E.ofL (L.disp (L.cons (E.var 0) (L.cons (E.con (.int 0)) (L.cons (E.con (.int 5001)) (L.cons (E.con (.int 0)) L.nil))))))) (S.seq (S.set 2 (E.op2 D.add (E.con (.int 2)) (E.call 2 (c 17) (L.cons (E.var 1) (L.cons (E.op2 D.ixK (E.ofL (L.disp (L.cons (E.con (.int 3)) (L.cons (E.con (.int 4)) L.nil)))) (E.call 2 (c 17) (L.cons (E.var 1) (L.cons (E.con (.int 2)) L.nil)))) L.nil))))) (S.seq (S.par 6 7 (E.call 2 (c 23) (L.cons (E.var 1) (L.cons (E.var 2) L.nil))) (E.call 2 (c 18) (L.cons (E.var 1) (L.cons (E.var 2) L.nil)))) (S.seq (S.par 8 9 (E.tuple (L.comp (I.rng1 (E.call 2 (c 17) (L.cons (E.var 1) (L.cons (E.con (.int 12)) L.nil)))) [12] (.one 12) T.yes (E.call 2 (c 17) (L.cons (E.var 1) (L.cons (E.var 2) L.nil))))) (E.var 7)) (S.seq (S.for (I.ofK (E.var 8)) (Tg.name 3) (S.seq (S.ife (T.not (T.val (E.call 2 (c 24) (L.cons (E.call 3 (c 8) (L.cons (E.var 6) (L.cons (E.var 9) (L.cons (E.var 3) L.nil)))) (L.cons (E.call 3 (c 25) (L.cons (E.var 6) (L.cons (E.var 9) (L.cons (E.var 3) L.nil)))) L.nil))))) (S.ret (E.con (.bl false))) S.nil) (S.set 9 (E.call 3 (c 25) (L.cons (E.var 6) (L.cons (E.var 9) (L.cons (E.var 3) L.nil))))))) (S.seq (S.ife (T.not (T.val (E.call 2 (c 24) (L.cons (E.call 3 (c 21) (L.cons (E.var 6) (L.cons (E.var 7) (L.cons (E.var 8) L.nil)))) (L.cons (E.var 9) L.nil))))) (S.ret (E.con (.bl false))) S.nil) (S.seq (S.set 4 (E.call 2 (c 26) (L.cons (E.var 6) (L.cons (E.var 7) L.nil)))) (S.seq (S.ife (T.not (T.val (E.call 2 (c 24) (L.cons (E.call 2 (c 22) (L.cons (E.var 6) (L.cons (E.var 7) L.nil))) (L.cons (E.tuple (L.sorted (Co.of (E.var 4)))) L.nil))))) (S.ret (E.con (.bl false))) S.nil) (S.seq (S.for (I.rng1 (E.con (.int 3))) (Tg.name 12) (S.seq (S.set 10 (E.call 2 (c 27) (L.cons (E.var 1) (L.cons (E.ofL (L.disp (L.cons (E.call 2 (c 18) (L.cons (E.var 1) (L.cons (E.var 2) L.nil))) (L.cons (E.var 9) L.nil)))) L.nil)))) (S.seq (S.set 11 (E.call 3 (c 10) (L.cons (E.var 6) (L.cons (E.var 7) (L.cons (E.var 10) L.nil))))) (S.seq (S.ife (T.not (T.val (E.call 2 (c 24) (L.cons (E.call 3 (c 11) (L.cons (E.var 6) (L.cons (E.var 7) (L.cons (E.var 10) L.nil)))) (L.cons (E.met isDc D.dget (E.var 4) (L.cons (E.var 10) (L.cons (E.con .non) L.nil))) L.nil))))) (S.ret (E.con (.bl false))) S.nil) (S.ife (T.isN (E.var 11)) (S.ife (T.val (E.op2 (D.inA false) (E.var 10) (E.var 4))) (S.ret (E.con (.bl false))) S.nil) (S.ife (T.or (T.val (E.op2 (D.inA true) (E.var 10) (E.var 4))) (T.val (E.op2 D.ne (E.var 11) (E.call 4 (c 28) (L.cons (E.var 6) (L.cons (E.var 7) (L.cons (E.var 10) (L.cons (E.op2 D.ixK (E.var 4) (E.var 10)) L.nil)))))))) (S.ret (E.con (.bl false))) (S.ife (T.val (E.op2 (D.inA true) (E.var 7) (E.call 2 (c 26) (L.cons (E.var 6) (L.cons (E.var 10) L.nil))))) (S.ret (E.con (.bl false))) S.nil))))))) (S.seq (S.set 5 (E.call 2 (c 26) (L.cons (E.var 6) (L.cons (E.tuple (L.rng1 (E.var 2))) L.nil)))) (S.ret (E.call 2 (c 24) (L.cons (E.ofL (L.disp (L.cons (E.call 2 (c 12) (L.cons (E.var 6) (L.cons (E.var 7) L.nil))) (L.cons (E.call 1 (c 13) (L.cons (E.var 6) L.nil)) L.nil)))) (L.cons (E.ofL (L.disp (L.cons (E.best true (L.vals (E.var 4))) (L.cons (E.len (Co.of (E.var 5))) L.nil)))) L.nil))))))))))))))
class H_law_k01 (bd : Bd) : Prop extends H_lw_alike bd, H_lw_habit bd, H_lw_least_word bd, H_lw_near bd, H_lw_order bd, H_lw_pick bd, H_lw_taken bd, H_lw_touch bd, H_after bd, H_can_come bd, H_distance bd, H_farthest bd, H_order bd, H_touched bd, H_word_between bd where
  e_law_k01 : bd 29 = some (13, b_law_k01)
end PF

set_option Elab.async false
set_option linter.all false
set_option maxRecDepth 100000
set_option maxHeartbeats 1000000
namespace PF
open PySem DL
theorem ltA_int (i j : Int) (h : Hh) : D.ltA (.int i) (.int j) h = .ok (.bl (decide (i < j))) h := rfl
theorem leA_int (i j : Int) (h : Hh) : D.leA (.int i) (.int j) h = .ok (.bl (decide (i ≤ j))) h := rfl
theorem gtA_int (i j : Int) (h : Hh) : D.gtA (.int i) (.int j) h = .ok (.bl (decide (j < i))) h := rfl
theorem geA_int (i j : Int) (h : Hh) : D.geA (.int i) (.int j) h = .ok (.bl (decide (j ≤ i))) h := rfl
theorem rg_length (m : Nat) : (rg m).length = m := by simp [rg]
theorem mem_rg {m : Nat} {x : Int} : x ∈ rg m ↔ 0 ≤ x ∧ x < m := by
  simp only [rg, List.mem_map, List.mem_range]
  constructor
  · rintro ⟨i, hi, rfl⟩; omega
  · rintro ⟨h1, h2⟩; exact ⟨x.toNat, by omega, by omega⟩
theorem nodup_rg (m : Nat) : (rg m).Nodup := by
  unfold rg
  exact List.pairwise_map.mpr (List.Pairwise.imp (fun h e => h (by omega)) (List.nodup_range (n := m)))
/-- the order of m things -/
abbrev Prm (m : Nat) (l : List Int) : Prop := l.Perm (rg m)
theorem Prm.len {m : Nat} {l : List Int} (h : Prm m l) : l.length = m := by rw [h.length_eq, rg_length]
theorem Prm.mem {m : Nat} {l : List Int} (h : Prm m l) {x : Int} : x ∈ l ↔ 0 ≤ x ∧ x < m := by rw [h.mem_iff, mem_rg]
theorem Prm.nd {m : Nat} {l : List Int} (h : Prm m l) : l.Nodup := h.nodup_iff.mpr (nodup_rg m)

theorem is_number_ok (bd : Bd) [i : H_is_number bd] (d : Nat) (v lo hi : Int) (h : Hh) (h1 : lo ≤ v) (h2 : v ≤ hi) : runF bd (d + 1) 0 [.int v, .int lo, .int hi] h = .ok (.bl true) h := by
  rw [runF_eq i.e_is_number]
  unfold b_is_number
  simp [E.var, E.con, E.op2, E.op1, E.and, E.or, E.ofT, E.isi, isiD, tyNm, isiB, T.not, T.val, T.and, T.or, T.isN, T.notN, T.yes, T.tru, truthD, D.isN, E.chain, E.ifx, D.le, D.lt, D.ge, D.gt, D.add, D.sub, D.mul, D.mod, D.fdiv, D.pow, D.neg, D.eq, D.ne, D.flat, D.eqv, E.call, L.cons, L.nil, L.disp, E.tup, E.tuple, E.ofL, E.len, E.lenSet, Q.of, R.of, rdQ, rdL, E.app, D.toInt, D.max2, D.min2, R.toS, R.toG, R.bind, S.ret, S.retN, S.seq, S.ife, S.nil, S.expr, S.set, S.par, S.asg, S.bad, S.for, E.gen, I.of, I.enum, srcE, srcD, L.comp, D.ix, E.sl, O.none, O.some, slD, E.met, isT, isL, D.tindex, wipeE, setC, Tg.name, Tg.cons, Tg.nil, Tg.tup, fits, runB, -List.map_take, -List.map_drop, -List.map_set, D.ixK, dctAt, lenC, rdC, leA_int, ltA_int, gtA_int, geA_int, I.ofK, srcK, Tg.subK, setK, h1, h2, trunc_keep]
theorem lenSet_tl {l : List Int} (hp : l.Nodup) (hm : l.length ≤ 4000) (h : Hh) : lenSetI (l.map D.int) h = .ok (.int l.length) h := by
  unfold lenSetI
  rw [intsOf_map]
  simp only
  rw [if_pos hm, once_of_nodup hp]
theorem is_permutation_ok (bd : Bd) [i : H_is_permutation bd] (d : Nat) {m : Nat} {l : List Int} (hp : Prm m l) (hm : m ≤ 100) (h : Hh) : runF bd (d + 2) 2 [tl l, .int m] h = .ok (.bl true) h := by
  rw [runF_eq i.e_is_permutation]
  unfold b_is_permutation
  have hg : genGo false ⟨l.map .int, none⟩ (.one 2) T.yes (E.call 3 (runF bd (d + 1) 0) (L.cons (E.var 2) (L.cons (E.con (.int 0)) (L.cons (E.op2 D.sub (E.var 1) (E.con (.int 1))) L.nil)))) [some (.tup (l.map .int)), some (.int m), none] (l.map .int) h = .ok (.bl true) h := by
    refine genGo_all rfl fun x hx => ?_
    obtain ⟨v, hv, rfl⟩ := List.mem_map.mp hx
    have := hp.mem.mp hv
    refine ⟨_, rfl, rfl, ?_⟩
    have e := is_number_ok bd d v 0 (m - 1) h this.1 (by omega)
    simp [E.var, E.con, E.op2, E.op1, E.and, E.or, E.ofT, E.isi, isiD, tyNm, isiB, T.not, T.val, T.and, T.or, T.isN, T.notN, T.yes, T.tru, truthD, D.isN, E.chain, E.ifx, D.le, D.lt, D.ge, D.gt, D.add, D.sub, D.mul, D.mod, D.fdiv, D.pow, D.neg, D.eq, D.ne, D.flat, D.eqv, E.call, L.cons, L.nil, L.disp, E.tup, E.tuple, E.ofL, E.len, E.lenSet, Q.of, R.of, rdQ, rdL, E.app, D.toInt, D.max2, D.min2, R.toS, R.toG, R.bind, S.ret, S.retN, S.seq, S.ife, S.nil, S.expr, S.set, S.par, S.asg, S.bad, S.for, E.gen, I.of, I.enum, srcE, srcD, L.comp, D.ix, E.sl, O.none, O.some, slD, E.met, isT, isL, D.tindex, wipeE, setC, Tg.name, Tg.cons, Tg.nil, Tg.tup, fits, runB, -List.map_take, -List.map_drop, -List.map_set, D.ixK, dctAt, lenC, rdC, leA_int, ltA_int, gtA_int, geA_int, I.ofK, srcK, Tg.subK, setK, e]
  simp [E.var, E.con, E.op2, E.op1, E.and, E.or, E.ofT, E.isi, isiD, tyNm, isiB, T.not, T.val, T.and, T.or, T.isN, T.notN, T.yes, T.tru, truthD, D.isN, E.chain, E.ifx, D.le, D.lt, D.ge, D.gt, D.add, D.sub, D.mul, D.mod, D.fdiv, D.pow, D.neg, D.eq, D.ne, D.flat, D.eqv, E.call, L.cons, L.nil, L.disp, E.tup, E.tuple, E.ofL, E.len, E.lenSet, Q.of, R.of, rdQ, rdL, E.app, D.toInt, D.max2, D.min2, R.toS, R.toG, R.bind, S.ret, S.retN, S.seq, S.ife, S.nil, S.expr, S.set, S.par, S.asg, S.bad, S.for, E.gen, I.of, I.enum, srcE, srcD, L.comp, D.ix, E.sl, O.none, O.some, slD, E.met, isT, isL, D.tindex, wipeE, setC, Tg.name, Tg.cons, Tg.nil, Tg.tup, fits, runB, -List.map_take, -List.map_drop, -List.map_set, D.ixK, dctAt, lenC, rdC, leA_int, ltA_int, gtA_int, geA_int, I.ofK, srcK, Tg.subK, setK, hp.len, hg, lenSet_tl hp.nd (by rw [hp.len]; omega), trunc_keep]
/-- a habit: for each place an order -/
structure Hab (m : Nat) (hb : List (List Int)) : Prop where
  len : hb.length = m
  lo : 2 ≤ m
  hi : m ≤ 5
  row : ∀ r ∈ hb, Prm m r
abbrev H (hb : List (List Int)) : D := .tup (hb.map fun l => tl l)
theorem need_habit_ok (bd : Bd) [i : H_need_habit bd] (d : Nat) {m : Nat} {hb : List (List Int)} (hh : Hab m hb) (h : Hh) : runF bd (d + 3) 3 [H hb] h = .ok .non h := by
  rw [runF_eq i.e_need_habit]
  unfold b_need_habit
  have key : ∀ (l : List (List Int)) (k : Nat) (x y : Option D), (∀ r ∈ l, Prm m r) → ∃ e, S.forGo ⟨enumD 0 (hb.map fun l => tl l), none⟩ (Tg.tup (Tg.cons (Tg.name 1) (Tg.cons (Tg.name 2) Tg.nil))) (S.ife (T.not (T.val (E.call 2 (runF bd (d + 2) 2) (L.cons (E.var 2) (L.cons (E.app lenC (L.cons (E.var 0) L.nil)) L.nil))))) S.bad S.nil) (enumD k (l.map fun l => tl l)) [some (H hb), x, y] h = .nx e h := by
    intro l
    induction l with
    | nil => intro k x y _; exact ⟨_, forGo_nil rfl⟩
    | cons r l ih =>
      intro k x y hr
      have e := is_permutation_ok bd d (hr r List.mem_cons_self) (by have := hh.hi; omega) h
      obtain ⟨e', q⟩ := ih (k + 1) (some (.int k)) (some (tl r)) fun r hx => hr r (List.mem_cons_of_mem _ hx)
      refine ⟨e', ?_⟩
      rw [← q]
      simp only [List.map_cons, enumD]
      exact forGo_cons (env1 := [some (H hb), some (.int k), some (tl r)]) (h1 := h) rfl rfl (by simp [E.var, E.con, E.op2, E.op1, E.and, E.or, E.ofT, E.isi, isiD, tyNm, isiB, T.not, T.val, T.and, T.or, T.isN, T.notN, T.yes, T.tru, truthD, D.isN, E.chain, E.ifx, D.le, D.lt, D.ge, D.gt, D.add, D.sub, D.mul, D.mod, D.fdiv, D.pow, D.neg, D.eq, D.ne, D.flat, D.eqv, E.call, L.cons, L.nil, L.disp, E.tup, E.tuple, E.ofL, E.len, E.lenSet, Q.of, R.of, rdQ, rdL, E.app, D.toInt, D.max2, D.min2, R.toS, R.toG, R.bind, S.ret, S.retN, S.seq, S.ife, S.nil, S.expr, S.set, S.par, S.asg, S.bad, S.for, E.gen, I.of, I.enum, srcE, srcD, L.comp, D.ix, E.sl, O.none, O.some, slD, E.met, isT, isL, D.tindex, wipeE, setC, Tg.name, Tg.cons, Tg.nil, Tg.tup, fits, runB, -List.map_take, -List.map_drop, -List.map_set, D.ixK, dctAt, lenC, rdC, leA_int, ltA_int, gtA_int, geA_int, I.ofK, srcK, Tg.subK, setK, H, hh.len, e])
  obtain ⟨e, q⟩ := key hb 0 none none hh.row
  have a1 : (2 : Int) ≤ m := by have := hh.lo; omega
  have a2 : (m : Int) ≤ 5 := by have := hh.hi; omega
  simp [E.var, E.con, E.op2, E.op1, E.and, E.or, E.ofT, E.isi, isiD, tyNm, isiB, T.not, T.val, T.and, T.or, T.isN, T.notN, T.yes, T.tru, truthD, D.isN, E.chain, E.ifx, D.le, D.lt, D.ge, D.gt, D.add, D.sub, D.mul, D.mod, D.fdiv, D.pow, D.neg, D.eq, D.ne, D.flat, D.eqv, E.call, L.cons, L.nil, L.disp, E.tup, E.tuple, E.ofL, E.len, E.lenSet, Q.of, R.of, rdQ, rdL, E.app, D.toInt, D.max2, D.min2, R.toS, R.toG, R.bind, S.ret, S.retN, S.seq, S.ife, S.nil, S.expr, S.set, S.par, S.asg, S.bad, S.for, E.gen, I.of, I.enum, srcE, srcD, L.comp, D.ix, E.sl, O.none, O.some, slD, E.met, isT, isL, D.tindex, wipeE, setC, Tg.name, Tg.cons, Tg.nil, Tg.tup, fits, runB, -List.map_take, -List.map_drop, -List.map_set, D.ixK, dctAt, lenC, rdC, leA_int, ltA_int, gtA_int, geA_int, I.ofK, srcK, Tg.subK, setK, hh.len, q, a1, a2, trunc_keep]
theorem need_layout_ok (bd : Bd) [i : H_need_layout bd] (d : Nat) {m : Nat} {hb : List (List Int)} {lay : List Int} (hh : Hab m hb) (hp : Prm m lay) (h : Hh) : runF bd (d + 3) 4 [H hb, tl lay] h = .ok .non h := by
  rw [runF_eq i.e_need_layout]
  unfold b_need_layout
  have e := is_permutation_ok bd d hp (by have := hh.hi; omega) h
  simp [E.var, E.con, E.op2, E.op1, E.and, E.or, E.ofT, E.isi, isiD, tyNm, isiB, T.not, T.val, T.and, T.or, T.isN, T.notN, T.yes, T.tru, truthD, D.isN, E.chain, E.ifx, D.le, D.lt, D.ge, D.gt, D.add, D.sub, D.mul, D.mod, D.fdiv, D.pow, D.neg, D.eq, D.ne, D.flat, D.eqv, E.call, L.cons, L.nil, L.disp, E.tup, E.tuple, E.ofL, E.len, E.lenSet, Q.of, R.of, rdQ, rdL, E.app, D.toInt, D.max2, D.min2, R.toS, R.toG, R.bind, S.ret, S.retN, S.seq, S.ife, S.nil, S.expr, S.set, S.par, S.asg, S.bad, S.for, E.gen, I.of, I.enum, srcE, srcD, L.comp, D.ix, E.sl, O.none, O.some, slD, E.met, isT, isL, D.tindex, wipeE, setC, Tg.name, Tg.cons, Tg.nil, Tg.tup, fits, runB, -List.map_take, -List.map_drop, -List.map_set, D.ixK, dctAt, lenC, rdC, leA_int, ltA_int, gtA_int, geA_int, I.ofK, srcK, Tg.subK, setK, hh.len, e, trunc_keep]
theorem need_shelf_ok (bd : Bd) [i : H_need_shelf bd] (d : Nat) {m : Nat} {hb : List (List Int)} {lay : List Int} (hh : Hab m hb) (hp : Prm m lay) (h : Hh) : runF bd (d + 4) 5 [H hb, tl lay] h = .ok .non h := by
  rw [runF_eq i.e_need_shelf]
  unfold b_need_shelf
  simp [E.var, E.con, E.op2, E.op1, E.and, E.or, E.ofT, E.isi, isiD, tyNm, isiB, T.not, T.val, T.and, T.or, T.isN, T.notN, T.yes, T.tru, truthD, D.isN, E.chain, E.ifx, D.le, D.lt, D.ge, D.gt, D.add, D.sub, D.mul, D.mod, D.fdiv, D.pow, D.neg, D.eq, D.ne, D.flat, D.eqv, E.call, L.cons, L.nil, L.disp, E.tup, E.tuple, E.ofL, E.len, E.lenSet, Q.of, R.of, rdQ, rdL, E.app, D.toInt, D.max2, D.min2, R.toS, R.toG, R.bind, S.ret, S.retN, S.seq, S.ife, S.nil, S.expr, S.set, S.par, S.asg, S.bad, S.for, E.gen, I.of, I.enum, srcE, srcD, L.comp, D.ix, E.sl, O.none, O.some, slD, E.met, isT, isL, D.tindex, wipeE, setC, Tg.name, Tg.cons, Tg.nil, Tg.tup, fits, runB, -List.map_take, -List.map_drop, -List.map_set, D.ixK, dctAt, lenC, rdC, leA_int, ltA_int, gtA_int, geA_int, I.ofK, srcK, Tg.subK, setK, need_habit_ok bd d hh, need_layout_ok bd d hh hp, trunc_keep]
theorem need_place_ok (bd : Bd) [i : H_need_place bd] (d : Nat) {m : Nat} {hb : List (List Int)} {p : Int} (hh : Hab m hb) (h0 : 0 ≤ p) (h1 : p < m) (h : Hh) : runF bd (d + 2) 6 [H hb, .int p] h = .ok .non h := by
  rw [runF_eq i.e_need_place]
  unfold b_need_place
  have e := is_number_ok bd d p 0 (m - 1) h h0 (by omega)
  simp [E.var, E.con, E.op2, E.op1, E.and, E.or, E.ofT, E.isi, isiD, tyNm, isiB, T.not, T.val, T.and, T.or, T.isN, T.notN, T.yes, T.tru, truthD, D.isN, E.chain, E.ifx, D.le, D.lt, D.ge, D.gt, D.add, D.sub, D.mul, D.mod, D.fdiv, D.pow, D.neg, D.eq, D.ne, D.flat, D.eqv, E.call, L.cons, L.nil, L.disp, E.tup, E.tuple, E.ofL, E.len, E.lenSet, Q.of, R.of, rdQ, rdL, E.app, D.toInt, D.max2, D.min2, R.toS, R.toG, R.bind, S.ret, S.retN, S.seq, S.ife, S.nil, S.expr, S.set, S.par, S.asg, S.bad, S.for, E.gen, I.of, I.enum, srcE, srcD, L.comp, D.ix, E.sl, O.none, O.some, slD, E.met, isT, isL, D.tindex, wipeE, setC, Tg.name, Tg.cons, Tg.nil, Tg.tup, fits, runB, -List.map_take, -List.map_drop, -List.map_set, D.ixK, dctAt, lenC, rdC, leA_int, ltA_int, gtA_int, geA_int, I.ofK, srcK, Tg.subK, setK, hh.len, e, trunc_keep]
/-! ### touches -/
def rowOf (hb : List (List Int)) (p : Int) : List Int := hb.getD p.toNat []
def touch (hb : List (List Int)) (lay : List Int) (p : Int) : List Int := lay.map fun s => (rowOf hb p).getD s.toNat 0
theorem Hab.at' {m : Nat} {hb : List (List Int)} (hh : Hab m hb) {p : Int} (h0 : 0 ≤ p) (h1 : p < m) : Prm m (rowOf hb p) := by
  unfold rowOf
  have hl := hh.len
  have : p.toNat < hb.length := by omega
  rw [List.getD_eq_getElem?_getD, List.getElem?_eq_getElem this]
  exact hh.row _ (List.getElem_mem this)
theorem map_rg_self {m : Nat} {l : List Int} (h : l.length = m) : (rg m).map (fun s => l.getD s.toNat 0) = l := by
  refine List.ext_getElem (by simp [rg_length, h]) fun i h1 h2 => ?_
  simp [rg, List.getD_eq_getElem?_getD, h2]
theorem touch_prm {m : Nat} {hb : List (List Int)} {lay : List Int} (hh : Hab m hb) (hp : Prm m lay) {p : Int} (h0 : 0 ≤ p) (h1 : p < m) : Prm m (touch hb lay p) := by
  have hr := hh.at' h0 h1
  have e := hp.map (fun s => (rowOf hb p).getD s.toNat 0)
  rw [map_rg_self hr.len] at e
  exact e.trans hr
theorem touch_core (c : Calls) {m : Nat} {hb : List (List Int)} {lay : List Int} (hh : Hab m hb) (hp : Prm m lay) {p : Int} (h0 : 0 ≤ p) (h1 : p < m) (h : Hh) :
    compGo ⟨lay.map D.int, none⟩ (.one 3) T.yes (E.op2 D.ixK (E.op2 D.ixK (E.var 0) (E.var 2)) (E.var 3)) [some (H hb), some (tl lay), some (.int p), none] (lay.map D.int) h = .ok ((touch hb lay p).map D.int) h := by
  have e : (touch hb lay p).map D.int = (lay.map D.int).map fun d => match d with
      | .int s => D.int ((rowOf hb p).getD s.toNat 0)
      | d => d := by
    unfold touch
    rw [List.map_map, List.map_map]
    rfl
  rw [e]
  refine compGo_map rfl fun x hx => ?_
  obtain ⟨v, hv, rfl⟩ := List.mem_map.mp hx
  have hv' := hp.mem.mp hv
  refine ⟨_, rfl, rfl, ?_⟩
  have hl := hh.len
  have e1 := ixL_rows (l := hb) (i := p) h0 (by omega) h
  have e2 := ixL_ints (l := rowOf hb p) (i := v) hv'.1 (by rw [(hh.at' h0 h1).len]; omega) h
  unfold rowOf at e2 ⊢
  simp only [List.getD_eq_getElem?_getD] at e1 e2 ⊢
  simp [E.var, E.con, E.op2, E.op1, E.and, E.or, E.ofT, E.isi, isiD, tyNm, isiB, T.not, T.val, T.and, T.or, T.isN, T.notN, T.yes, T.tru, truthD, D.isN, E.chain, E.ifx, D.le, D.lt, D.ge, D.gt, D.add, D.sub, D.mul, D.mod, D.fdiv, D.pow, D.neg, D.eq, D.ne, D.flat, D.eqv, E.call, L.cons, L.nil, L.disp, E.tup, E.tuple, E.ofL, E.len, E.lenSet, Q.of, R.of, rdQ, rdL, E.app, D.toInt, D.max2, D.min2, R.toS, R.toG, R.bind, S.ret, S.retN, S.seq, S.ife, S.nil, S.expr, S.set, S.par, S.asg, S.bad, S.for, E.gen, I.of, I.enum, srcE, srcD, L.comp, D.ix, E.sl, O.none, O.some, slD, E.met, isT, isL, D.tindex, wipeE, setC, Tg.name, Tg.cons, Tg.nil, Tg.tup, fits, runB, -List.map_take, -List.map_drop, -List.map_set, D.ixK, dctAt, lenC, rdC, leA_int, ltA_int, gtA_int, geA_int, I.ofK, srcK, Tg.subK, setK, e1, e2]
theorem behind_touch_ok (bd : Bd) [i : H_behind_touch bd] (d : Nat) {m : Nat} {hb : List (List Int)} {lay : List Int} (hh : Hab m hb) (hp : Prm m lay) {p : Int} (h0 : 0 ≤ p) (h1 : p < m) (h : Hh) : runF bd (d + 1) 7 [H hb, tl lay, .int p] h = .ok (tl (touch hb lay p)) h := by
  rw [runF_eq i.e_behind_touch]
  unfold b_behind_touch
  have e := touch_core (runF bd d) hh hp h0 h1 h
  have hl := (touch_prm hh hp h0 h1).len
  have := hh.hi
  simp [E.var, E.con, E.op2, E.op1, E.and, E.or, E.ofT, E.isi, isiD, tyNm, isiB, T.not, T.val, T.and, T.or, T.isN, T.notN, T.yes, T.tru, truthD, D.isN, E.chain, E.ifx, D.le, D.lt, D.ge, D.gt, D.add, D.sub, D.mul, D.mod, D.fdiv, D.pow, D.neg, D.eq, D.ne, D.flat, D.eqv, E.call, L.cons, L.nil, L.disp, E.tup, E.tuple, E.ofL, E.len, E.lenSet, Q.of, R.of, rdQ, rdL, E.app, D.toInt, D.max2, D.min2, R.toS, R.toG, R.bind, S.ret, S.retN, S.seq, S.ife, S.nil, S.expr, S.set, S.par, S.asg, S.bad, S.for, E.gen, I.of, I.enum, srcE, srcD, L.comp, D.ix, E.sl, O.none, O.some, slD, E.met, isT, isL, D.tindex, wipeE, setC, Tg.name, Tg.cons, Tg.nil, Tg.tup, fits, runB, -List.map_take, -List.map_drop, -List.map_set, D.ixK, dctAt, lenC, rdC, leA_int, ltA_int, gtA_int, geA_int, I.ofK, srcK, Tg.subK, setK, e, hl, trunc_keep]
  rw [if_pos (by omega)]
  exact trunc_keep rfl
end PF

set_option Elab.async false
set_option linter.all false
set_option maxRecDepth 100000
set_option maxHeartbeats 1000000
namespace PF
open PySem DL
/-! ### the laws' draws -/
abbrev Fz (ns : List Int) : MO := .frz (ns.map D.int)
abbrev rw3 (a b c : Int) : MO := .lst [.ref 0, .int a, .int b, .int c]
theorem ix0 (x y z u : D) (h : Hh) : ixL [x, y, z, u] 0 h = .ok x h := rfl
theorem ix1 (x y z u : D) (h : Hh) : ixL [x, y, z, u] 1 h = .ok y h := rfl
theorem ix2 (x y z u : D) (h : Hh) : ixL [x, y, z, u] 2 h = .ok z h := rfl
theorem ix3 (x y z u : D) (h : Hh) : ixL [x, y, z, u] 3 h = .ok u h := rfl
theorem set1 (x y z u v : D) (env : DL.Env) (f : MO) (g : Hh) : setL (.ref 1) (.int 1) v env (f :: .lst [x, y, z, u] :: g) = .ok env (f :: .lst [x, v, z, u] :: g) := rfl
theorem set2 (x y z u v : D) (env : DL.Env) (f : MO) (g : Hh) : setL (.ref 1) (.int 2) v env (f :: .lst [x, y, z, u] :: g) = .ok env (f :: .lst [x, y, v, u] :: g) := rfl
theorem set3' (x y z u v : D) (env : DL.Env) (f : MO) (g : Hh) : setL (.ref 1) (.int 3) v env (f :: .lst [x, y, z, u] :: g) = .ok env (f :: .lst [x, y, z, v] :: g) := rfl
theorem taken_ok (bd : Bd) [i : H_lw_taken bd] (d : Nat) {ns : List Int} {a b c many : Int} (g : Hh) (ha : 0 ≤ a) (h0 : 0 < many) (h1 : many ≤ 1000) :
    ∃ v a' b' c', runF bd (d + 1) 17 [.ref 1, .int many] (Fz ns :: rw3 a b c :: g) = .ok (.int v) (Fz ns :: rw3 a' b' c' :: g) ∧ 0 ≤ v ∧ v < many ∧ 0 ≤ a' := by
  rw [runF_eq i.e_lw_taken]
  unfold b_lw_taken
  have hpos : posS many = true := posS_iff.mpr ⟨h0, by omega⟩
  have s1 : small 48271 = true := rfl
  have s2 : posS 7 = true := rfl
  have s3 : powOk 10 18 = true := rfl
  by_cases hc : 0 < c
  · refine ⟨c % many, a, b, c / many, ?_, Int.emod_nonneg _ (by omega), Int.emod_lt_of_pos _ h0, ha⟩
    simp [E.var, E.con, E.op2, E.op1, E.and, E.or, E.ofT, E.isi, isiD, tyNm, isiB, T.not, T.val, T.and, T.or, T.isN, T.notN, T.yes, T.tru, truthD, D.isN, E.chain, E.ifx, D.le, D.lt, D.ge, D.gt, D.add, D.sub, D.mul, D.mod, D.fdiv, D.pow, D.neg, D.eq, D.ne, D.flat, D.eqv, E.call, L.cons, L.nil, L.disp, E.tup, E.tuple, E.ofL, E.len, E.lenSet, Q.of, R.of, rdQ, rdL, E.app, D.toInt, D.max2, D.min2, R.toS, R.toG, R.bind, S.ret, S.retN, S.seq, S.ife, S.nil, S.expr, S.set, S.par, S.asg, S.bad, S.for, E.gen, I.of, I.enum, srcE, srcD, L.comp, D.ix, E.sl, O.none, O.some, slD, E.met, isT, isL, D.tindex, wipeE, setC, Tg.name, Tg.cons, Tg.nil, Tg.tup, fits, runB, -List.map_take, -List.map_drop, -List.map_set, D.ixK, dctAt, lenC, rdC, leA_int, ltA_int, gtA_int, geA_int, I.ofK, srcK, Tg.subK, setK, ix3, hc, h0, hpos, Tg.sub, set3', trunc_keep]
  · by_cases hl : (ns.length : Int) < a + 1
    · refine ⟨(b * 48271 + 11) % 2147483647 / 7 % many, a + 1, (b * 48271 + 11) % 2147483647, c, ?_, Int.emod_nonneg _ (by omega), Int.emod_lt_of_pos _ h0, by omega⟩
      simp [E.var, E.con, E.op2, E.op1, E.and, E.or, E.ofT, E.isi, isiD, tyNm, isiB, T.not, T.val, T.and, T.or, T.isN, T.notN, T.yes, T.tru, truthD, D.isN, E.chain, E.ifx, D.le, D.lt, D.ge, D.gt, D.add, D.sub, D.mul, D.mod, D.fdiv, D.pow, D.neg, D.eq, D.ne, D.flat, D.eqv, E.call, L.cons, L.nil, L.disp, E.tup, E.tuple, E.ofL, E.len, E.lenSet, Q.of, R.of, rdQ, rdL, E.app, D.toInt, D.max2, D.min2, R.toS, R.toG, R.bind, S.ret, S.retN, S.seq, S.ife, S.nil, S.expr, S.set, S.par, S.asg, S.bad, S.for, E.gen, I.of, I.enum, srcE, srcD, L.comp, D.ix, E.sl, O.none, O.some, slD, E.met, isT, isL, D.tindex, wipeE, setC, Tg.name, Tg.cons, Tg.nil, Tg.tup, fits, runB, -List.map_take, -List.map_drop, -List.map_set, D.ixK, dctAt, lenC, rdC, leA_int, ltA_int, gtA_int, geA_int, I.ofK, srcK, Tg.subK, setK, ix0, ix1, ix2, ix3, hc, h0, hl, s1, s2, Tg.sub, set1, set2, trunc_keep]
    · have ii := ixL_ints (l := ns) (i := a) ha (by omega)
      simp only [List.getD_eq_getElem?_getD] at ii
      by_cases hq : 1000000000000000000 ≤ ns[a.toNat]?.getD 0
      · refine ⟨ns[a.toNat]?.getD 0 % many, a + 1, (b * 48271 + ns[a.toNat]?.getD 0 + 11) % 2147483647, ns[a.toNat]?.getD 0 / many, ?_, Int.emod_nonneg _ (by omega), Int.emod_lt_of_pos _ h0, by omega⟩
        simp [E.var, E.con, E.op2, E.op1, E.and, E.or, E.ofT, E.isi, isiD, tyNm, isiB, T.not, T.val, T.and, T.or, T.isN, T.notN, T.yes, T.tru, truthD, D.isN, E.chain, E.ifx, D.le, D.lt, D.ge, D.gt, D.add, D.sub, D.mul, D.mod, D.fdiv, D.pow, D.neg, D.eq, D.ne, D.flat, D.eqv, E.call, L.cons, L.nil, L.disp, E.tup, E.tuple, E.ofL, E.len, E.lenSet, Q.of, R.of, rdQ, rdL, E.app, D.toInt, D.max2, D.min2, R.toS, R.toG, R.bind, S.ret, S.retN, S.seq, S.ife, S.nil, S.expr, S.set, S.par, S.asg, S.bad, S.for, E.gen, I.of, I.enum, srcE, srcD, L.comp, D.ix, E.sl, O.none, O.some, slD, E.met, isT, isL, D.tindex, wipeE, setC, Tg.name, Tg.cons, Tg.nil, Tg.tup, fits, runB, -List.map_take, -List.map_drop, -List.map_set, D.ixK, dctAt, lenC, rdC, leA_int, ltA_int, gtA_int, geA_int, I.ofK, srcK, Tg.subK, setK, ix0, ix1, ix2, ix3, hc, h0, hl, s1, s3, Tg.sub, set1, set2, set3', trunc_keep, ii, hq, hpos]
      · refine ⟨ns[a.toNat]?.getD 0 % many, a + 1, (b * 48271 + ns[a.toNat]?.getD 0 + 11) % 2147483647, c, ?_, Int.emod_nonneg _ (by omega), Int.emod_lt_of_pos _ h0, by omega⟩
        simp [E.var, E.con, E.op2, E.op1, E.and, E.or, E.ofT, E.isi, isiD, tyNm, isiB, T.not, T.val, T.and, T.or, T.isN, T.notN, T.yes, T.tru, truthD, D.isN, E.chain, E.ifx, D.le, D.lt, D.ge, D.gt, D.add, D.sub, D.mul, D.mod, D.fdiv, D.pow, D.neg, D.eq, D.ne, D.flat, D.eqv, E.call, L.cons, L.nil, L.disp, E.tup, E.tuple, E.ofL, E.len, E.lenSet, Q.of, R.of, rdQ, rdL, E.app, D.toInt, D.max2, D.min2, R.toS, R.toG, R.bind, S.ret, S.retN, S.seq, S.ife, S.nil, S.expr, S.set, S.par, S.asg, S.bad, S.for, E.gen, I.of, I.enum, srcE, srcD, L.comp, D.ix, E.sl, O.none, O.some, slD, E.met, isT, isL, D.tindex, wipeE, setC, Tg.name, Tg.cons, Tg.nil, Tg.tup, fits, runB, -List.map_take, -List.map_drop, -List.map_set, D.ixK, dctAt, lenC, rdC, leA_int, ltA_int, gtA_int, geA_int, I.ofK, srcK, Tg.subK, setK, ix0, ix1, ix2, ix3, hc, h0, hl, s1, s3, Tg.sub, set1, set2, set3', trunc_keep, ii, hq]
theorem order_body (c : Calls) {ns : List Int} {a b e a' b' e' v : Int} (g : Hh) (left found : List Int) (hl : left.length ≤ 60) (hf : found.length ≤ 60) (h0 : 0 ≤ v) (h1 : v < left.length) (X : D)
    (hc : c 17 [.ref 1, .int left.length] (Fz ns :: rw3 a b e :: (g ++ [.lst (left.map D.int), .lst (found.map D.int)])) = .ok (.int v) (Fz ns :: rw3 a' b' e' :: (g ++ [.lst (left.map D.int), .lst (found.map D.int)]))) :
    (S.expr (E.met isL (mutL fAppend) (E.var 3) (L.cons (E.met isL (mutL fPopAt) (E.var 2) (L.cons (E.call 2 (c 17) (L.cons (E.var 0) (L.cons (E.app lenC (L.cons (E.var 2) L.nil)) L.nil))) L.nil)) L.nil))) [some (.ref 1), some X, some (.ref (g.length + 2)), some (.ref (g.length + 3))] (Fz ns :: rw3 a b e :: (g ++ [.lst (left.map D.int), .lst (found.map D.int)])) =
      .nx [some (.ref 1), some X, some (.ref (g.length + 2)), some (.ref (g.length + 3))] (Fz ns :: rw3 a' b' e' :: (g ++ [.lst ((left.eraseIdx v.toNat).map D.int), .lst ((found ++ [left.getD v.toNat 0]).map D.int)])) := by
  have p := mut_at (get_a (Fz ns) (rw3 a' b' e') (.lst (left.map D.int)) (.lst (found.map D.int)) g) (pop_ints h0 h1) (by rw [List.length_map, List.length_eraseIdx]; split <;> omega)
  rw [set_a] at p
  have q := mut_at (get_b (Fz ns) (rw3 a' b' e') (.lst ((left.eraseIdx v.toNat).map D.int)) (.lst (found.map D.int)) g) (app_ints found (left.getD v.toNat 0)) (by simp; omega)
  rw [set_b] at q
  have r1 := get_a (Fz ns) (rw3 a b e) (.lst (left.map D.int)) (.lst (found.map D.int)) g
  have r2 := get_b (Fz ns) (rw3 a b e) (.lst (left.map D.int)) (.lst (found.map D.int)) g
  simp only [List.map_append, List.map_cons, List.map_nil] at q ⊢
  simp only [List.getD_eq_getElem?_getD] at p q ⊢
  simp [E.var, E.con, E.op2, E.op1, E.and, E.or, E.ofT, E.isi, isiD, tyNm, isiB, T.not, T.val, T.and, T.or, T.isN, T.notN, T.yes, T.tru, truthD, D.isN, E.chain, E.ifx, D.le, D.lt, D.ge, D.gt, D.add, D.sub, D.mul, D.mod, D.fdiv, D.pow, D.neg, D.eq, D.ne, D.flat, D.eqv, E.call, L.cons, L.nil, L.disp, E.tup, E.tuple, E.ofL, E.len, E.lenSet, Q.of, R.of, rdQ, rdL, E.app, D.toInt, D.max2, D.min2, R.toS, R.toG, R.bind, S.ret, S.retN, S.seq, S.ife, S.nil, S.expr, S.set, S.par, S.asg, S.bad, S.for, E.gen, I.of, I.enum, srcE, srcD, L.comp, D.ix, E.sl, O.none, O.some, slD, E.met, isT, isL, D.tindex, wipeE, setC, Tg.name, Tg.cons, Tg.nil, Tg.tup, fits, runB, -List.map_take, -List.map_drop, -List.map_set, D.ixK, dctAt, lenC, rdC, leA_int, ltA_int, gtA_int, geA_int, I.ofK, srcK, Tg.subK, setK, r1, r2, hc, p, q]
theorem order_loop (bd : Bd) [i : H_lw_taken bd] (d : Nat) {ns : List Int} (g : Hh) (X : D) : ∀ (k : Nat) (left found : List Int) (a b e : Int), left.length < k → left.length ≤ 10 → found.length + left.length ≤ 60 → 0 ≤ a → ∃ (fd : List Int) (a' b' e' : Int),
    S.whl (T.eqX true (XX.of (E.var 2)) (XX.ofL (L.disp L.nil))) (S.expr (E.met isL (mutL fAppend) (E.var 3) (L.cons (E.met isL (mutL fPopAt) (E.var 2) (L.cons (E.call 2 (runF bd (d + 1) 17) (L.cons (E.var 0) (L.cons (E.app lenC (L.cons (E.var 2) L.nil)) L.nil))) L.nil)) L.nil))) k [some (.ref 1), some X, some (.ref (g.length + 2)), some (.ref (g.length + 3))] (Fz ns :: rw3 a b e :: (g ++ [.lst (left.map D.int), .lst (found.map D.int)])) =
      .nx [some (.ref 1), some X, some (.ref (g.length + 2)), some (.ref (g.length + 3))] (Fz ns :: rw3 a' b' e' :: (g ++ [.lst [], .lst (fd.map D.int)])) ∧ 0 ≤ a' ∧ fd.Perm (found ++ left) := by
  intro k
  induction k with
  | zero => intro left found a b e h; omega
  | succ k ih =>
    intro left found a b e hk hl hf ha
    have r1 := get_a (Fz ns) (rw3 a b e) (.lst (left.map D.int)) (.lst (found.map D.int)) g
    have q := eqvs_ints left []
    simp only [List.map_nil] at q
    have test : T.eqX true (XX.of (E.var 2)) (XX.ofL (L.disp L.nil)) [some (.ref 1), some X, some (.ref (g.length + 2)), some (.ref (g.length + 3))] (Fz ns :: rw3 a b e :: (g ++ [.lst (left.map D.int), .lst (found.map D.int)])) = .ok (!decide (left = [])) (Fz ns :: rw3 a b e :: (g ++ [.lst (left.map D.int), .lst (found.map D.int)])) := by
      simp [E.var, E.con, E.op2, E.op1, E.and, E.or, E.ofT, E.isi, isiD, tyNm, isiB, T.not, T.val, T.and, T.or, T.isN, T.notN, T.yes, T.tru, truthD, D.isN, E.chain, E.ifx, D.le, D.lt, D.ge, D.gt, D.add, D.sub, D.mul, D.mod, D.fdiv, D.pow, D.neg, D.eq, D.ne, D.flat, D.eqv, E.call, L.cons, L.nil, L.disp, E.tup, E.tuple, E.ofL, E.len, E.lenSet, Q.of, R.of, rdQ, rdL, E.app, D.toInt, D.max2, D.min2, R.toS, R.toG, R.bind, S.ret, S.retN, S.seq, S.ife, S.nil, S.expr, S.set, S.par, S.asg, S.bad, S.for, E.gen, I.of, I.enum, srcE, srcD, L.comp, D.ix, E.sl, O.none, O.some, slD, E.met, isT, isL, D.tindex, wipeE, setC, Tg.name, Tg.cons, Tg.nil, Tg.tup, fits, runB, -List.map_take, -List.map_drop, -List.map_set, D.ixK, dctAt, lenC, rdC, leA_int, ltA_int, gtA_int, geA_int, I.ofK, srcK, Tg.subK, setK, T.eqX, XX.of, XX.ofL, dvOf, r1, flats_ints, D.flats, DV.eqv, q]
    by_cases hn : left = []
    · subst hn
      refine ⟨found, a, b, e, whl_stop ?_, ha, by simp⟩
      rw [test]
      rfl
    · have hpos : 0 < left.length := List.length_pos_iff.mpr hn
      obtain ⟨v, a1, b1, e1, hc, h0, h1, ha1⟩ := taken_ok bd d (ns := ns) (a := a) (b := b) (c := e) (many := left.length) (g ++ [.lst (left.map D.int), .lst (found.map D.int)]) ha (by omega) (by omega)
      have bd := order_body (runF bd (d + 1)) g left found (by omega) (by omega) h0 h1 X hc
      have hlt : v.toNat < left.length := by omega
      obtain ⟨fd, a', b', e', z, ha', pp⟩ := ih (left.eraseIdx v.toNat) (found ++ [left.getD v.toNat 0]) a1 b1 e1 (by rw [List.length_eraseIdx, if_pos hlt]; omega) (by rw [List.length_eraseIdx, if_pos hlt]; omega) (by rw [List.length_eraseIdx, if_pos hlt, List.length_append, List.length_singleton]; omega) ha1
      refine ⟨fd, a', b', e', ?_, ha', pp.trans ?_⟩
      · rw [← z]
        exact whl_step (by rw [test]; simp [hn]) bd
      · rw [List.append_assoc]
        exact List.Perm.append_left _ (perm_pop hlt)
theorem order_ok (bd : Bd) [i : H_lw_order bd] (d : Nat) {ns : List Int} {a b e : Int} {m : Nat} (g : Hh) (ha : 0 ≤ a) (hm : m ≤ 5) : ∃ (l : List Int) (a' b' e' : Int), runF bd (d + 2) 18 [.ref 1, .int m] (Fz ns :: rw3 a b e :: g) = .ok (tl l) (Fz ns :: rw3 a' b' e' :: g) ∧ 0 ≤ a' ∧ Prm m l := by
  obtain ⟨fd, a', b', e', z, ha', pp⟩ := order_loop bd d (ns := ns) g (.int m) fuel (rg m) [] a b e (by rw [rg_length]; unfold fuel; omega) (by rw [rg_length]; omega) (by rw [rg_length]; simp; omega) ha
  refine ⟨fd, a', b', e', ?_, ha', by simpa using pp⟩
  simp only [List.map_nil] at z
  rw [runF_eq i.e_lw_order]
  unfold b_lw_order
  have hr := lrng_rg (n := m) (by omega) (Fz ns :: rw3 a b e :: g)
  have r2 := get_b (Fz ns) (rw3 a' b' e') (.lst []) (.lst (fd.map D.int)) g
  have st : S.par 2 3 (E.ofL (L.rng1 (E.var 1))) (E.ofL (L.disp L.nil)) [some (.ref 1), some (.int m), none, none] (Fz ns :: rw3 a b e :: g) = .nx [some (.ref 1), some (.int m), some (.ref (g.length + 2)), some (.ref (g.length + 3))] (Fz ns :: rw3 a b e :: (g ++ [.lst ((rg m).map D.int), .lst []])) := by
    simp [E.var, E.con, E.op2, E.op1, E.and, E.or, E.ofT, E.isi, isiD, tyNm, isiB, T.not, T.val, T.and, T.or, T.isN, T.notN, T.yes, T.tru, truthD, D.isN, E.chain, E.ifx, D.le, D.lt, D.ge, D.gt, D.add, D.sub, D.mul, D.mod, D.fdiv, D.pow, D.neg, D.eq, D.ne, D.flat, D.eqv, E.call, L.cons, L.nil, L.disp, E.tup, E.tuple, E.ofL, E.len, E.lenSet, Q.of, R.of, rdQ, rdL, E.app, D.toInt, D.max2, D.min2, R.toS, R.toG, R.bind, S.ret, S.retN, S.seq, S.ife, S.nil, S.expr, S.set, S.par, S.asg, S.bad, S.for, E.gen, I.of, I.enum, srcE, srcD, L.comp, D.ix, E.sl, O.none, O.some, slD, E.met, isT, isL, D.tindex, wipeE, setC, Tg.name, Tg.cons, Tg.nil, Tg.tup, fits, runB, -List.map_take, -List.map_drop, -List.map_set, D.ixK, dctAt, lenC, rdC, leA_int, ltA_int, gtA_int, geA_int, I.ofK, srcK, Tg.subK, setK, L.rng1, hr]
  have rt : (S.ret (E.tuple (R.of (E.var 3)))) [some (.ref 1), some (.int m), some (.ref (g.length + 2)), some (.ref (g.length + 3))] (Fz ns :: rw3 a' b' e' :: (g ++ [.lst [], .lst (fd.map D.int)])) = .rt (tl fd) (Fz ns :: rw3 a' b' e' :: (g ++ [.lst [], .lst (fd.map D.int)])) := by
    simp [E.var, E.con, E.op2, E.op1, E.and, E.or, E.ofT, E.isi, isiD, tyNm, isiB, T.not, T.val, T.and, T.or, T.isN, T.notN, T.yes, T.tru, truthD, D.isN, E.chain, E.ifx, D.le, D.lt, D.ge, D.gt, D.add, D.sub, D.mul, D.mod, D.fdiv, D.pow, D.neg, D.eq, D.ne, D.flat, D.eqv, E.call, L.cons, L.nil, L.disp, E.tup, E.tuple, E.ofL, E.len, E.lenSet, Q.of, R.of, rdQ, rdL, E.app, D.toInt, D.max2, D.min2, R.toS, R.toG, R.bind, S.ret, S.retN, S.seq, S.ife, S.nil, S.expr, S.set, S.par, S.asg, S.bad, S.for, E.gen, I.of, I.enum, srcE, srcD, L.comp, D.ix, E.sl, O.none, O.some, slD, E.met, isT, isL, D.tindex, wipeE, setC, Tg.name, Tg.cons, Tg.nil, Tg.tup, fits, runB, -List.map_take, -List.map_drop, -List.map_set, D.ixK, dctAt, lenC, rdC, leA_int, ltA_int, gtA_int, geA_int, I.ofK, srcK, Tg.subK, setK, r2]
  refine (congrArg (trunc _) (runB_rt (d := tl fd) (h1 := (Fz ns :: rw3 a' b' e' :: g) ++ [.lst [], .lst (fd.map D.int)]) ?_)).trans (trunc_drop' (under_tl _ _) rfl ?_)
  · show S.seq _ _ [some (.ref 1), some (.int m), none, none] _ = _
    rw [seq_nx st, seq_nx z]
    exact rt
  · show agree (g.length + 2) (Fz ns :: rw3 a b e :: g) (Fz ns :: rw3 a' b' e' :: (g ++ _)) = true
    simp only [agree, MO.beq_refl, MO.under, D.unders, D.under, agree_app, Bool.true_or, Bool.and_self, Bool.or_true, Bool.true_and, Bool.and_true]
    simp
end PF

set_option Elab.async false
set_option linter.all false
set_option maxRecDepth 100000
set_option maxHeartbeats 1000000
namespace PF
open PySem DL
/-! ### all orders -/
def permsN : Nat → List Int → List (List Int)
  | 0, _ => [[]]
  | n + 1, s => s.flatMap fun a => (permsN n (s.erase a)).map fun r => a :: r
theorem mem_perms : ∀ (n : Nat) (s l : List Int), l.Perm s → s.length = n → l ∈ permsN n s
  | 0, s, l, h, e => by
    have : s = [] := List.length_eq_zero_iff.mp e
    subst this
    rw [h.eq_nil]
    simp [permsN]
  | n + 1, s, [], h, e => by rw [← h.length_eq] at e; simp at e
  | n + 1, s, a :: l, h, e => by
    have hm : a ∈ s := h.mem_iff.mp (List.mem_cons_self)
    have h2 := List.cons_perm_iff_perm_erase.mp h
    have e2 : (s.erase a).length = n := by rw [List.length_erase_of_mem hm]; omega
    rw [permsN, List.mem_flatMap]
    exact ⟨a, hm, List.mem_map.mpr ⟨l, mem_perms n _ l h2.2 e2, rfl⟩⟩
def perms (m : Nat) : List (List Int) := permsN m (rg m)
theorem prm_mem {m : Nat} {l : List Int} (h : Prm m l) : l ∈ perms m := mem_perms m _ l h (rg_length m)
theorem perms_len {m : Nat} (h2 : 2 ≤ m) (h5 : m ≤ 5) : (perms m).length ≤ 120 := by
  have : ∀ m ∈ [2, 3, 4, 5], (perms m).length ≤ 120 := by decide +kernel
  exact this m (by simp; omega)
theorem nodup_le {α : Type} [DecidableEq α] : ∀ {l s : List α}, l.Nodup → (∀ x ∈ l, x ∈ s) → l.length ≤ s.length
  | [], _, _, _ => Nat.zero_le _
  | a :: l, s, h, q => by
    rw [List.nodup_cons] at h
    have hm := q a List.mem_cons_self
    have ih := nodup_le (l := l) (s := s.erase a) h.2 fun x hx => (List.mem_erase_of_ne (fun (e : x = a) => h.1 (by rw [← e]; exact hx))).mpr (q x (List.mem_cons_of_mem _ hx))
    rw [List.length_erase_of_mem hm] at ih
    have : 0 < s.length := List.length_pos_of_mem hm
    simp only [List.length_cons]
    omega
/-! ### words behind touches -/
theorem ev_prm {m : Nat} {hb : List (List Int)} (hh : Hab m hb) : ∀ {w : List Int} {lay : List Int}, Bf.Lt m w → Prm m lay → Prm m (Bf.ev (touch hb) lay w)
  | [], _, _, hp => hp
  | p :: w, lay, hw, hp => by
    show Prm m (Bf.ev (touch hb) (touch hb lay p) w)
    exact ev_prm hh (fun q hq => hw q (List.mem_cons_of_mem _ hq)) (touch_prm hh hp (hw p List.mem_cons_self).1 (hw p List.mem_cons_self).2)
theorem inv_prm {m : Nat} {hb : List (List Int)} (hh : Hab m hb) {lay : List Int} (hp : Prm m lay) {n : Nat} {f : Bf.F (List Int)} {l : List (List Int)} (I : Bf.Inv (touch hb) m lay n f l) : ∀ a ∈ Bf.keys f, Prm m a := fun a ha => by
  obtain ⟨e, lt, _⟩ := I.ok _ (Bf.wd_mem ha)
  rw [show a = Bf.ev (touch hb) lay (Bf.wd f a) from e.symm]
  exact ev_prm hh lt hp
theorem inv_len {m : Nat} {hb : List (List Int)} (hh : Hab m hb) {lay : List Int} (hp : Prm m lay) {n : Nat} {f : Bf.F (List Int)} {l : List (List Int)} (I : Bf.Inv (touch hb) m lay n f l) : f.length ≤ 120 := by
  have h1 := nodup_le I.nd fun x hx => prm_mem (inv_prm hh hp I x hx)
  have h2 := perms_len hh.lo hh.hi
  rw [show (Bf.keys f).length = f.length from List.length_map ..] at h1
  omega
/-! ### the dict of words -/
def enc (f : Bf.F (List Int)) : List (D × D) := f.map fun p => (tl p.1, tl p.2)
theorem nks_ints : ∀ l : List Int, D.nks (l.map D.int) = l.map NestedKey.num
  | [] => rfl
  | a :: l => by simp only [List.map_cons, D.nks, D.nk, nks_ints l]
theorem map_inj {α β : Type} {f : α → β} (hf : ∀ x y, f x = f y → x = y) : ∀ {a b : List α}, a.map f = b.map f → a = b
  | [], [], _ => rfl
  | [], _ :: _, h => by simp at h
  | _ :: _, [], h => by simp at h
  | x :: a, y :: b, h => by
    simp only [List.map_cons, List.cons.injEq] at h
    rw [hf _ _ h.1, map_inj hf h.2]
theorem nk_tl {a b : List Int} : (tl a).nk = (tl b).nk ↔ a = b := by
  simp only [tl, D.nk, nks_ints, NestedKey.tup.injEq]
  exact ⟨fun h => map_inj (fun x y e => by cases e; rfl) h, fun h => h ▸ rfl⟩
theorem find_enc (a : List Int) : ∀ f : Bf.F (List Int), findD (enc f) (tl a).nk = (f.find? fun p => decide (p.1 = a)).map fun p => tl p.2
  | [] => rfl
  | p :: f => by
    have ih := find_enc a f
    unfold findD enc at ih ⊢
    rw [List.map_cons, List.find?_cons, List.find?_cons]
    by_cases h : p.1 = a
    · have h2 : (tl p.1).nk = (tl a).nk := nk_tl.mpr h
      simp only [h, h2, decide_true]
      rfl
    · have h2 : ¬ (tl p.1).nk = (tl a).nk := fun e => h (nk_tl.mp e)
      simp only [h, h2, decide_false]
      exact ih
theorem find_has (a : List Int) (f : Bf.F (List Int)) : (findD (enc f) (tl a).nk).isSome = Bf.has f a := by
  rw [find_enc, Option.isSome_map, Bf.has]
  cases q : f.any fun p => decide (p.1 = a) with
  | true =>
    rw [List.find?_isSome]
    simpa using q
  | false =>
    rw [Bool.eq_false_iff]
    intro h
    rw [List.find?_isSome] at h
    obtain ⟨x, hx, e⟩ := h
    rw [List.any_eq_false] at q
    exact q x hx e
theorem find_wd {a : List Int} {f : Bf.F (List Int)} (h : a ∈ Bf.keys f) : findD (enc f) (tl a).nk = some (tl (Bf.wd f a)) := by
  rw [find_enc, Bf.wd]
  cases q : f.find? fun p => decide (p.1 = a) with
  | some p => rfl
  | none =>
    rw [List.find?_eq_none] at q
    obtain ⟨p, hp, e⟩ := List.mem_map.mp h
    exact (q p hp (by simpa using e)).elim
theorem koks_ints (n : Nat) (l : List Int) : D.koks n (l.map D.int) = true := by
  induction l with
  | nil => simp [D.koks]
  | cons a l ih => simp [D.koks, D.kok, ih]
theorem kok_tl (l : List Int) : D.kok 8 (tl l) = true := by simp only [tl, D.kok, koks_ints]
abbrev Wp (h : Hh) (f : Bf.F (List Int)) (g : Hh) : Hh := h ++ (.dct (enc f) f.length :: g)
theorem dctAt_W (h : Hh) (f : Bf.F (List Int)) (g : Hh) : dctAt (Wp h f g) (.ref h.length) = some (h.length, enc f, f.length) := by
  unfold dctAt Wp
  simp only [app_get0, List.getElem?_cons_zero]
theorem W_get (h : Hh) (f : Bf.F (List Int)) (g : Hh) (k : Nat) : (Wp h f g)[h.length + 1 + k]? = g[k]? := by
  unfold Wp
  rw [Nat.add_assoc, app_get, Nat.add_comm 1 k, List.getElem?_cons_succ]
theorem W_set (h : Hh) (f : Bf.F (List Int)) (g : Hh) (k : Nat) (v : MO) : (Wp h f g).set (h.length + 1 + k) v = Wp h f (g.set k v) := by
  unfold Wp
  rw [Nat.add_assoc, app_set, Nat.add_comm 1 k, List.set_cons_succ]
theorem dctAt_Wl {h : Hh} {f : Bf.F (List Int)} {g : Hh} {k : Nat} {l : List D} (e : g[k]? = some (.lst l)) : dctAt (Wp h f g) (.ref (h.length + 1 + k)) = none := by
  unfold dctAt
  simp only [W_get, e]
theorem in_W (neg : Bool) (a : List Int) (h : Hh) (f : Bf.F (List Int)) (g : Hh) : D.inA neg (tl a) (.ref h.length) (Wp h f g) = .ok (.bl (if neg then !Bf.has f a else Bf.has f a)) (Wp h f g) := by
  unfold D.inA D.inK
  simp only [dctAt_W, kok_tl, find_has, if_true]
theorem ix_W {a : List Int} {h : Hh} {f : Bf.F (List Int)} {g : Hh} (ha : a ∈ Bf.keys f) : D.ixK (.ref h.length) (tl a) (Wp h f g) = .ok (tl (Bf.wd f a)) (Wp h f g) := by
  unfold D.ixK
  simp only [dctAt_W, kok_tl, find_wd ha, if_true]
theorem put_enc {a w : List Int} {f : Bf.F (List Int)} (ha : Bf.has f a = false) : putD (enc f) (tl a) (tl w) = enc (f ++ [(a, w)]) := by
  unfold putD
  rw [find_has, ha]
  simp [enc]
theorem set_W {a w : List Int} {h : Hh} {f : Bf.F (List Int)} {g : Hh} {env : DL.Env} (ha : Bf.has f a = false) (hl : f.length ≤ 10000) : setK (.ref h.length) (tl a) (tl w) env (Wp h f g) = .ok env (Wp h (f ++ [(a, w)]) g) := by
  unfold setK
  have e : (enc f).length = f.length := by simp [enc]
  have hb : Nat.ble (enc f).length 16000000 = true := by rw [e, Nat.ble_eq]; omega
  simp only [dctAt_W, kok_tl, hb, Bool.and_self, if_true, put_enc ha]
  congr 1
  unfold Wp epD
  rw [find_has, ha, app_set0, List.set_cons_zero]
  simp
theorem app_W {a : List Int} {h : Hh} {f : Bf.F (List Int)} {g : Hh} {l : List (List Int)} (hl : l.length ≤ 10000) : mutL fAppend (.ref (h.length + 1 + g.length)) [tl a] (Wp h f (g ++ [.lst (l.map fun x => tl x)])) = .ok .non (Wp h f (g ++ [.lst ((l ++ [a]).map fun x => tl x)])) := by
  have hg : (Wp h f (g ++ [.lst (l.map fun x => tl x)]))[h.length + 1 + g.length]? = some (.lst (l.map fun x => tl x)) := by rw [W_get]; simp
  rw [mut_at hg rfl (by simp; omega), W_set]
  simp
/-! ### the search -/
variable {m : Nat} {hb : List (List Int)}
abbrev hpW (h g : Hh) (st : Bf.F (List Int) × List (List Int)) : Hh := Wp h st.1 (g ++ [.lst (st.2.map fun x => tl x)])
abbrev inB (c : Calls) : SΦ := (S.seq (S.set 7 (E.call 3 (c 7) (L.cons (E.var 0) (L.cons (E.var 5) (L.cons (E.var 6) L.nil))))) (S.ife (T.val (E.op2 (D.inA true) (E.var 7) (E.var 2))) (S.seq (S.asg (E.op2 D.add (E.op2 D.ixK (E.var 2) (E.var 5)) (E.tup (L.cons (E.var 6) L.nil))) (Tg.subK (E.var 2) (E.var 7))) (S.expr (E.met isL (mutL fAppend) (E.var 4) (L.cons (E.var 7) L.nil)))) S.nil))
theorem add_tl (a b : List Int) (h : Hh) (hl : a.length + b.length ≤ 10000) : D.add (tl a) (tl b) h = .ok (tl (a ++ b)) h := by
  unfold tl D.add fits
  simp only [List.length_map]
  rw [if_pos (by omega), List.map_append]
theorem isL_W (h g : Hh) (st : Bf.F (List Int) × List (List Int)) : isL (.ref (h.length + 1 + g.length)) (hpW h g st) = true := by
  unfold isL
  simp only [hpW, W_get]
  simp
theorem inner (c : Calls) (h g : Hh) (st : Bf.F (List Int) × List (List Int)) (a : List Int) (p : Int) (x1 x3 x7 : Option D)
    (hc : c 7 [H hb, tl a, .int p] (hpW h g st) = .ok (tl (touch hb a p)) (hpW h g st)) (ha : a ∈ Bf.keys st.1) (hw : (Bf.wd st.1 a).length ≤ 1000) (h1 : st.1.length ≤ 1000) (h2 : st.2.length ≤ 1000) :
    inB c [some (H hb), x1, some (.ref h.length), x3, some (.ref (h.length + 1 + g.length)), some (tl a), some (.int p), x7] (hpW h g st) =
      .nx [some (H hb), x1, some (.ref h.length), x3, some (.ref (h.length + 1 + g.length)), some (tl a), some (.int p), some (tl (touch hb a p))] (hpW h g (Bf.step (touch hb) st (a, p))) := by
  have s1 : S.set 7 (E.call 3 (c 7) (L.cons (E.var 0) (L.cons (E.var 5) (L.cons (E.var 6) L.nil)))) [some (H hb), x1, some (.ref h.length), x3, some (.ref (h.length + 1 + g.length)), some (tl a), some (.int p), x7] (hpW h g st) = .nx [some (H hb), x1, some (.ref h.length), x3, some (.ref (h.length + 1 + g.length)), some (tl a), some (.int p), some (tl (touch hb a p))] (hpW h g st) := by
    generalize hpW h g st = q at *
    simp [E.var, E.con, E.op2, E.op1, E.and, E.or, E.ofT, E.isi, isiD, tyNm, isiB, T.not, T.val, T.and, T.or, T.isN, T.notN, T.yes, T.tru, truthD, D.isN, E.chain, E.ifx, D.le, D.lt, D.ge, D.gt, D.add, D.sub, D.mul, D.mod, D.fdiv, D.pow, D.neg, D.eq, D.ne, D.flat, D.eqv, E.call, L.cons, L.nil, L.disp, E.tup, E.tuple, E.ofL, E.len, E.lenSet, Q.of, R.of, rdQ, rdL, E.app, D.toInt, D.max2, D.min2, R.toS, R.toG, R.bind, S.ret, S.retN, S.seq, S.ife, S.nil, S.expr, S.set, S.par, S.asg, S.bad, S.for, E.gen, I.of, I.enum, srcE, srcD, L.comp, D.ix, E.sl, O.none, O.some, slD, E.met, isT, isL, D.tindex, wipeE, setC, Tg.name, Tg.cons, Tg.nil, Tg.tup, fits, runB, -List.map_take, -List.map_drop, -List.map_set, D.ixK, dctAt, lenC, rdC, leA_int, ltA_int, gtA_int, geA_int, I.ofK, srcK, Tg.subK, setK, hc]
  unfold inB
  rw [seq_nx s1]
  have t := in_W true (touch hb a p) h st.1 (g ++ [.lst (st.2.map fun x => tl x)])
  have tt : T.val (E.op2 (D.inA true) (E.var 7) (E.var 2)) [some (H hb), x1, some (.ref h.length), x3, some (.ref (h.length + 1 + g.length)), some (tl a), some (.int p), some (tl (touch hb a p))] (hpW h g st) = .ok (!Bf.has st.1 (touch hb a p)) (hpW h g st) := by
    simp only [hpW, T.val, E.op2, E.var, List.getElem?_cons_succ, List.getElem?_cons_zero, R.bind_ok, t, if_true]
  unfold Bf.step
  by_cases q : Bf.has st.1 (touch hb a p) = true
  · rw [q] at tt
    rw [ife_f tt, if_pos q]
    rfl
  · have q' : Bf.has st.1 (touch hb a p) = false := by simpa using q
    rw [q'] at tt
    rw [ife_t tt, if_neg q]
    have e1 : E.op2 D.add (E.op2 D.ixK (E.var 2) (E.var 5)) (E.tup (L.cons (E.var 6) L.nil)) [some (H hb), x1, some (.ref h.length), x3, some (.ref (h.length + 1 + g.length)), some (tl a), some (.int p), some (tl (touch hb a p))] (hpW h g st) = .ok (tl (Bf.wd st.1 a ++ [p])) (hpW h g st) := by
      have i := ix_W (h := h) (g := g ++ [.lst (st.2.map fun x => tl x)]) ha
      have ad := add_tl (Bf.wd st.1 a) [p] (hpW h g st) (by simp; omega)
      simp only [hpW, E.tup, L.cons, L.nil, E.op2, E.var, List.getElem?_cons_succ, List.getElem?_cons_zero, R.bind_ok, i]
      exact ad
    have e2 := set_W (h := h) (g := g ++ [.lst (st.2.map fun x => tl x)]) (w := Bf.wd st.1 a ++ [p]) (env := [some (H hb), x1, some (.ref h.length), x3, some (.ref (h.length + 1 + g.length)), some (tl a), some (.int p), some (tl (touch hb a p))]) q' (by omega)
    have s2 : S.asg (E.op2 D.add (E.op2 D.ixK (E.var 2) (E.var 5)) (E.tup (L.cons (E.var 6) L.nil))) (Tg.subK (E.var 2) (E.var 7)) [some (H hb), x1, some (.ref h.length), x3, some (.ref (h.length + 1 + g.length)), some (tl a), some (.int p), some (tl (touch hb a p))] (hpW h g st) = .nx [some (H hb), x1, some (.ref h.length), x3, some (.ref (h.length + 1 + g.length)), some (tl a), some (.int p), some (tl (touch hb a p))] (Wp h (st.1 ++ [(touch hb a p, Bf.wd st.1 a ++ [p])]) (g ++ [.lst (st.2.map fun x => tl x)])) := by
      unfold S.asg
      rw [e1]
      simp only [R.toS_ok, Tg.subK, E.var, List.getElem?_cons_succ, List.getElem?_cons_zero, R.bind_ok, hpW, e2]
      rfl
    rw [seq_nx s2]
    have e3 := app_W (h := h) (f := st.1 ++ [(touch hb a p, Bf.wd st.1 a ++ [p])]) (g := g) (a := touch hb a p) (l := st.2) (by omega)
    have il := isL_W h g (st.1 ++ [(touch hb a p, Bf.wd st.1 a ++ [p])], st.2)
    simp only [hpW] at il
    simp only [S.expr, E.met, E.var, List.getElem?_cons_succ, List.getElem?_cons_zero, R.bind_ok, L.cons, L.nil, il, if_true, e3, R.toS_ok]
end PF

set_option Elab.async false
set_option linter.all false
set_option maxRecDepth 100000
set_option maxHeartbeats 1000000
namespace PF
open PySem DL
/-! ### steps -/
variable {m : Nat} {hb : List (List Int)}
section
variable {α : Type} [DecidableEq α]
theorem steps_app (nx : α → Int → α) : ∀ (cs : List (α × Int)) (st : Bf.F α × List α), ∃ x, (cs.foldl (Bf.step nx) st).1 = st.1 ++ x
  | [], st => ⟨[], by simp⟩
  | c :: cs, st => by
    obtain ⟨x, e⟩ := steps_app nx cs (Bf.step nx st c)
    rw [List.foldl_cons, e]
    unfold Bf.step
    split
    · exact ⟨x, rfl⟩
    · exact ⟨_, by rw [List.append_assoc]⟩
theorem steps_len (nx : α → Int → α) : ∀ (cs : List (α × Int)) (st : Bf.F α × List α), (cs.foldl (Bf.step nx) st).1.length ≤ st.1.length + cs.length ∧ (cs.foldl (Bf.step nx) st).2.length ≤ st.2.length + cs.length
  | [], st => by simp
  | c :: cs, st => by
    obtain ⟨h1, h2⟩ := steps_len nx cs (Bf.step nx st c)
    rw [List.foldl_cons]
    have a : (Bf.step nx st c).1.length ≤ st.1.length + 1 ∧ (Bf.step nx st c).2.length ≤ st.2.length + 1 := by
      unfold Bf.step
      split
      · exact ⟨Nat.le_succ _, Nat.le_succ _⟩
      · simp
    simp only [List.length_cons]
    omega
theorem cands_app (m : Nat) (l : List α) (a : α) : Bf.cands m (l ++ [a]) = Bf.cands m l ++ (Bf.rg m).map fun p => (a, p) := by simp [Bf.cands]
theorem cands_len (m : Nat) : ∀ l : List α, (Bf.cands m l).length = l.length * m
  | [] => by simp [Bf.cands]
  | a :: l => by
    have ih := cands_len m l
    unfold Bf.cands at ih ⊢
    rw [List.flatMap_cons, List.length_append, ih, List.length_map, Bf.rg, List.length_map, List.length_range, List.length_cons, Nat.add_mul]
    omega
end
abbrev rowB (c : Calls) : SΦ := S.for (I.rng1 (E.app lenC (L.cons (E.var 0) L.nil))) (Tg.name 6) (inB c)
abbrev envW (hb : List (List Int)) (h g : Hh) (x1 x3 x5 x6 x7 : Option D) : DL.Env := [some (H hb), x1, some (.ref h.length), x3, some (.ref (h.length + 1 + g.length)), x5, x6, x7]
/-- what a walk over the places does -/
theorem row_ok (c : Calls) (hh : Hab m hb) (h g : Hh) (st : Bf.F (List Int) × List (List Int)) (a : List Int) (x1 x3 x6 x7 : Option D)
    (hc : ∀ p q, 0 ≤ p → p < (m : Int) → c 7 [H hb, tl a, .int p] q = .ok (tl (touch hb a p)) q) (ha : a ∈ Bf.keys st.1) (hw : (Bf.wd st.1 a).length ≤ 1000) (h1 : st.1.length ≤ 900) (h2 : st.2.length ≤ 900) :
    ((rowB c) (envW hb h g x1 x3 (some (tl a)) x6 x7) (hpW h g st)).sat (fun e q => ∃ y6 y7, e = envW hb h g x1 x3 (some (tl a)) y6 y7 ∧ q = hpW h g (((Bf.rg m).map fun p => (a, p)).foldl (Bf.step (touch hb)) st)) fun _ _ => False := by
  have hm := hh.hi
  have e1 : (I.rng1 (E.app lenC (L.cons (E.var 0) L.nil))) (envW hb h g x1 x3 (some (tl a)) x6 x7) (hpW h g st) = .ok ⟨(rg m).map D.int, none⟩ (hpW h g st) := by
    have hr := rngS_rg (n := m) (by omega) (hpW h g st)
    generalize hpW h g st = q at *
    simp [E.var, E.con, E.op2, E.op1, E.and, E.or, E.ofT, E.isi, isiD, tyNm, isiB, T.not, T.val, T.and, T.or, T.isN, T.notN, T.yes, T.tru, truthD, D.isN, E.chain, E.ifx, D.le, D.lt, D.ge, D.gt, D.add, D.sub, D.mul, D.mod, D.fdiv, D.pow, D.neg, D.eq, D.ne, D.flat, D.eqv, E.call, L.cons, L.nil, L.disp, E.tup, E.tuple, E.ofL, E.len, E.lenSet, Q.of, R.of, rdQ, rdL, E.app, D.toInt, D.max2, D.min2, R.toS, R.toG, R.bind, S.ret, S.retN, S.seq, S.ife, S.nil, S.expr, S.set, S.par, S.asg, S.bad, S.for, E.gen, I.of, I.enum, srcE, srcD, L.comp, D.ix, E.sl, O.none, O.some, slD, E.met, isT, isL, D.tindex, wipeE, setC, Tg.name, Tg.cons, Tg.nil, Tg.tup, fits, runB, -List.map_take, -List.map_drop, -List.map_set, D.ixK, dctAt, lenC, rdC, leA_int, ltA_int, gtA_int, geA_int, I.ofK, srcK, Tg.subK, setK, I.rng1, hr, hh.len]
  refine for_sat (enc := D.int) (fun pre e q => ∃ y6 y7, e = envW hb h g x1 x3 (some (tl a)) y6 y7 ∧ q = hpW h g ((pre.map fun p => (a, p)).foldl (Bf.step (touch hb)) st)) (rg m) e1 rfl ⟨x6, x7, rfl, rfl⟩ (fun _ _ _ _ _ => rfl) ?_ (fun e q h => h)
  rintro pre p post _ _ hl ⟨y6, y7, rfl, rfl⟩
  refine ⟨envW hb h g x1 x3 (some (tl a)) (some (.int p)) y7, _, rfl, ?_⟩
  have hp : p ∈ rg m := by rw [hl]; simp
  have hp := mem_rg.mp hp
  have hlen := steps_len (touch hb) (pre.map fun p => (a, p)) st
  have hpl : pre.length ≤ 5 := by
    have : (rg m).length = m := rg_length m
    rw [hl] at this
    simp at this
    omega
  rw [List.length_map] at hlen
  obtain ⟨x, hx⟩ := steps_app (touch hb) (pre.map fun p => (a, p)) st
  have ha' : a ∈ Bf.keys ((pre.map fun p => (a, p)).foldl (Bf.step (touch hb)) st).1 := by rw [hx, Bf.keys, List.map_append]; exact List.mem_append_left _ ha
  have hw' : Bf.wd ((pre.map fun p => (a, p)).foldl (Bf.step (touch hb)) st).1 a = Bf.wd st.1 a := by rw [hx]; exact Bf.wd_app ha
  have := inner (hb := hb) c h g ((pre.map fun p => (a, p)).foldl (Bf.step (touch hb)) st) a p x1 x3 y7 (hc p _ hp.1 hp.2) ha' (by rw [hw']; exact hw) (by omega) (by omega)
  rw [this]
  refine ⟨some (.int p), some (tl (touch hb a p)), rfl, ?_⟩
  rw [List.map_append, List.foldl_append]
  rfl
abbrev layB (c : Calls) : SΦ := S.for (I.ofK (E.var 3)) (Tg.name 5) (rowB c)
theorem lay_ok (c : Calls) (hh : Hab m hb) (h g : Hh) (f : Bf.F (List Int)) (l : List (List Int)) (k : Nat) (x1 x5 x6 x7 : Option D)
    (hc : ∀ a p q, a ∈ l → 0 ≤ p → p < (m : Int) → c 7 [H hb, tl a, .int p] q = .ok (tl (touch hb a p)) q) (ha : ∀ a ∈ l, a ∈ Bf.keys f ∧ (Bf.wd f a).length ≤ 1000) (h1 : f.length ≤ 120) (h2 : l.length ≤ 120) (hk : g[k]? = some (.lst (l.map fun x => tl x))) :
    ((layB c) (envW hb h g x1 (some (.ref (h.length + 1 + k))) x5 x6 x7) (hpW h g (f, []))).sat (fun e q => ∃ y5 y6 y7, e = envW hb h g x1 (some (.ref (h.length + 1 + k))) y5 y6 y7 ∧ q = hpW h g (Bf.layer (touch hb) m f l)) fun _ _ => False := by
  have hk' : ∀ st, (hpW h g st)[h.length + 1 + k]? = some (.lst (l.map fun x => tl x)) := fun st => by
    simp only [hpW]
    rw [W_get, List.getElem?_append_left (List.getElem?_eq_some_iff.mp hk).1]
    exact hk
  have e1 : I.ofK (E.var 3) (envW hb h g x1 (some (.ref (h.length + 1 + k))) x5 x6 x7) (hpW h g (f, [])) = .ok ⟨l.map fun x => tl x, some (h.length + 1 + k, .lst (l.map fun x => tl x))⟩ (hpW h g (f, [])) := by
    have := hk' (f, [])
    simp only [I.ofK, E.var, List.getElem?_cons_succ, List.getElem?_cons_zero, R.bind_ok, srcK, dctAt, srcD, this]
  refine for_sat (enc := fun x => tl x) (fun pre e q => ∃ y5 y6 y7, e = envW hb h g x1 (some (.ref (h.length + 1 + k))) y5 y6 y7 ∧ q = hpW h g ((Bf.cands m pre).foldl (Bf.step (touch hb)) (f, []))) l e1 rfl ⟨x5, x6, x7, rfl, rfl⟩ ?_ ?_ (fun e q h => h)
  · rintro pre _ _ _ ⟨y5, y6, y7, rfl, rfl⟩
    simp only [Src.ok, hk', MO.still, D.beqs_refl]
  · rintro pre a post _ _ hl ⟨y5, y6, y7, rfl, rfl⟩
    refine ⟨envW hb h g x1 (some (.ref (h.length + 1 + k))) (some (tl a)) y6 y7, _, rfl, ?_⟩
    have hal : a ∈ l := by rw [hl]; simp
    have hlen := steps_len (touch hb) (Bf.cands m pre) (f, [])
    have hcl := cands_len m pre
    have hpl : pre.length ≤ 120 := by
      have : pre.length ≤ l.length := by rw [hl]; simp
      omega
    have hm := hh.hi
    have hmul : pre.length * m ≤ 120 * 5 := Nat.mul_le_mul hpl hm
    obtain ⟨x, hx⟩ := steps_app (touch hb) (Bf.cands m pre) (f, [])
    have ha' : a ∈ Bf.keys ((Bf.cands m pre).foldl (Bf.step (touch hb)) (f, [])).1 := by rw [hx, Bf.keys, List.map_append]; exact List.mem_append_left _ (ha a hal).1
    have hw' : Bf.wd ((Bf.cands m pre).foldl (Bf.step (touch hb)) (f, [])).1 a = Bf.wd f a := by rw [hx]; exact Bf.wd_app (ha a hal).1
    simp only [List.length_nil] at hlen
    have := row_ok c hh h g ((Bf.cands m pre).foldl (Bf.step (touch hb)) (f, [])) a x1 (some (.ref (h.length + 1 + k))) y6 y7 (fun p q => hc a p q hal) ha' (by rw [hw']; exact (ha a hal).2) (by omega) (by omega)
    obtain ⟨e, q, er, z6, z7, rfl, rfl⟩ := RS.sat_inv this
    rw [er]
    refine ⟨_, _, _, rfl, ?_⟩
    rw [cands_app, List.foldl_append]
theorem words_from_ok (bd : Bd) [i : H_words_from bd] (d : Nat) {lay : List Int} (hh : Hab m hb) (hp : Prm m lay) (h : Hh) : ∃ f g, Bf.Fin (touch hb) m lay f ∧ f.length ≤ 120 ∧ runF bd (d + 2) 9 [H hb, tl lay] h = .ok (.ref h.length) (h ++ .dct (enc f) f.length :: g) := by
  have hc : ∀ a p q, Prm m a → 0 ≤ p → p < (m : Int) → runF bd (d + 1) 7 [H hb, tl a, .int p] q = .ok (tl (touch hb a p)) q := fun a p q ha h0 h1 => behind_touch_ok bd d hh ha h0 h1 q
  have key : ∃ v q, (v = D.ref h.length ∧ ∃ f g, Bf.Fin (touch hb) m lay f ∧ f.length ≤ 120 ∧ q = h ++ .dct (enc f) f.length :: g) ∧ runF bd (d + 1 + 1) 9 [H hb, tl lay] h = trunc h (.ok v q) := by
    refine run_sat (P := fun v q => v = D.ref h.length ∧ ∃ f g, Bf.Fin (touch hb) m lay f ∧ f.length ≤ 120 ∧ q = h ++ .dct (enc f) f.length :: g) i.e_words_from ?_
    generalize runF bd (d + 1) = c at hc
    unfold b_words_from
    refine seq_sat (par_sat (d := .ref h.length) (d2 := .ref (h.length + 1 + 0)) (h1 := Wp h [(lay, [])] []) (h2 := Wp h [(lay, [])] [.lst [tl lay]]) ?_ ?_ ?_)
    · have hk : koksP [(tl lay, tl [])] = true := by simp only [koksP, kok_tl, Bool.and_self]
      have h0 : putAllD [] 0 [(tl lay, tl [])] = (enc [(lay, [])], 1) := by
        simp only [putAllD, putD, epD, findD]
        simp [enc]
      have := h0
      simp only [tl, List.map_nil] at h0 hk
      simp only [E.dict, P.cons, P.nil, E.tup, L.nil, E.var, List.map_cons, List.map_nil, List.cons_append, List.getElem?_cons_succ, List.getElem?_cons_zero, R.bind_ok, tl, fits, List.length_nil, Nat.zero_le, hk, h0, if_true]
      rfl
    · simp only [E.ofL, L.disp, L.cons, L.nil, E.var, List.map_cons, List.map_nil, List.cons_append, List.getElem?_cons_succ, List.getElem?_cons_zero, R.bind_ok]
      simp [Wp, fits]
    · refine seq_sat (whl_sat (fun μ env q => ∃ n f l g k x4 x5 x6 x7, Bf.Inv (touch hb) m lay n f l ∧ g[k]? = some (.lst (l.map fun x => tl x)) ∧ env = [some (H hb), some (tl lay), some (.ref h.length), some (.ref (h.length + 1 + k)), x4, x5, x6, x7] ∧ q = Wp h f g ∧ (l ≠ [] → n + 1 ≤ f.length) ∧ l.length ≤ 120 ∧ μ = if l = [] then 0 else 1 + (120 - f.length)) ?_ fuel 120 _ _ (by unfold fuel; omega) ?_)
      · rintro μ _ _ ⟨n, f, l, g, k, x4, x5, x6, x7, J, hk, rfl, rfl, hn, hl, rfl⟩
        have hk' : (Wp h f g)[h.length + 1 + k]? = some (.lst (l.map fun x => tl x)) := by rw [W_get]; exact hk
        have hf := inv_len hh hp J
        refine ⟨!l.isEmpty, Wp h f g, ?_, fun e => ?_, fun e => ?_⟩
        · simp only [T.tru, E.var, List.getElem?_cons_succ, List.getElem?_cons_zero, R.bind_ok, truthD, rdL, hk']
          cases l <;> rfl
        · have : l = [] := by cases l <;> simp_all
          subst this
          refine ret_sat (d := .ref h.length) (h1 := Wp h f g) ?_ ⟨rfl, f, g, Bf.fin_of J, hf, rfl⟩
          simp only [E.var, List.getElem?_cons_succ, List.getElem?_cons_zero]
        · have hne : l ≠ [] := by rintro rfl; simp at e
          refine RS.satL_of (seq_sat (set_sat (d := .ref (h.length + 1 + g.length)) (h1 := hpW h g (f, [])) ?_ ?_))
          · simp only [E.ofL, L.disp, L.nil, R.bind_ok, hpW, Wp, fits, List.length_nil, Nat.zero_le, if_true]
            simp
            omega
          · have Lk := lay_ok (hb := hb) c hh h g f l k (some (tl lay)) x5 x6 x7 (fun a p q ha => hc a p q (inv_prm hh hp J a ((J.lst a).mp ha).1)) (fun a ha => ⟨((J.lst a).mp ha).1, by rw [((J.lst a).mp ha).2]; have := hn hne; omega⟩) hf hl hk
            obtain ⟨e', q', er, y5, y6, y7, rfl, rfl⟩ := RS.sat_inv Lk
            refine seq_sat ?_
            have er' : S.for (I.ofK (E.var 3)) (Tg.name 5) (S.for (I.rng1 (E.app lenC (L.cons (E.var 0) L.nil))) (Tg.name 6) (inB c)) (List.set [some (H hb), some (tl lay), some (.ref h.length), some (.ref (h.length + 1 + k)), x4, x5, x6, x7] 4 (some (.ref (h.length + 1 + g.length)))) (hpW h g (f, [])) = _ := er
            show (RS.sat (S.for (I.ofK (E.var 3)) (Tg.name 5) (S.for (I.rng1 (E.app lenC (L.cons (E.var 0) L.nil))) (Tg.name 6) (inB c)) _ _) _ _)
            rw [er', RS.sat_nx]
            have I2 := Bf.inv_layer J
            have hf2 := inv_len hh hp I2
            have hl2 := Bf.layer_len J
            refine set_sat (d := .ref (h.length + 1 + g.length)) (h1 := hpW h g (Bf.layer (touch hb) m f l)) (by rfl) ?_
            refine ⟨_, ?_, n + 1, (Bf.layer (touch hb) m f l).1, (Bf.layer (touch hb) m f l).2, g ++ [.lst ((Bf.layer (touch hb) m f l).2.map fun x => tl x)], g.length, _, y5, y6, y7, I2, by simp, rfl, rfl, fun q => ?_, by omega, rfl⟩
            · rw [if_neg hne]
              split
              · omega
              · rename_i q
                have : 0 < (Bf.layer (touch hb) m f l).2.length := List.length_pos_iff.mpr q
                omega
            · have : 0 < (Bf.layer (touch hb) m f l).2.length := List.length_pos_iff.mpr q
              have := hn hne
              omega
      · exact ⟨0, [(lay, [])], [lay], [.lst [tl lay]], 0, none, none, none, none, Bf.inv0 _ _ _, rfl, rfl, rfl, fun _ => by simp, by simp, by simp⟩
  obtain ⟨v, q, ⟨rfl, f, g, hF, hl, rfl⟩, e⟩ := key
  exact ⟨f, g, hF, hl, by rw [e]; exact trunc_ref (by simp [D.under])⟩
end PF

set_option Elab.async false
set_option linter.all false
set_option maxRecDepth 100000
set_option maxHeartbeats 1000000
namespace PF
open PySem DL
/-! ### ranges -/
def ri (a b : Int) : List Int := (List.range (b - a).toNat).map fun (k : Nat) => a + (k : Int)
theorem rngD_ri (a b : Int) : rngD a b = (ri a b).map D.int := by
  unfold rngD ri
  rw [List.map_map]
  rfl
theorem ri_len (a b : Int) : (ri a b).length = (b - a).toNat := by simp [ri]
theorem lrng_ri {a b : Int} (ha : a.natAbs ≤ 1000) (hb : b.natAbs ≤ 1000) (h : Hh) : lrng (.int a) (.int b) h = .ok ((ri a b).map D.int) h := by
  unfold lrng
  simp only
  rw [if_pos (by simp only [rngOk, Bool.and_eq_true, small_iff, Nat.ble_eq]; omega), rngD_ri]
theorem rngS_ri {a b : Int} (ha : a.natAbs ≤ 1000) (hb : b.natAbs ≤ 1000) (h : Hh) : rngS (.int a) (.int b) h = .ok ⟨(ri a b).map D.int, none⟩ h := by
  unfold rngS
  simp only
  rw [if_pos (by simp only [rngOk, Bool.and_eq_true, small_iff]; omega), rngD_ri]
theorem mem_ri {a b x : Int} : x ∈ ri a b ↔ a ≤ x ∧ x < b := by
  simp only [ri, List.mem_map, List.mem_range]
  constructor
  · rintro ⟨i, hi, rfl⟩; omega
  · rintro ⟨h1, h2⟩; exact ⟨(x - a).toNat, by omega, by omega⟩
variable {m : Nat} {hb : List (List Int)}
theorem need_number_ok (bd : Bd) [i : H_need_number bd] (d : Nat) (v lo hi : Int) (h : Hh) (h1 : lo ≤ v) (h2 : v ≤ hi) : runF bd (d + 2) 1 [.int v, .int lo, .int hi] h = .ok .non h := by
  rw [runF_eq i.e_need_number]
  unfold b_need_number
  simp [E.var, E.con, E.op2, E.op1, E.and, E.or, E.ofT, E.isi, isiD, tyNm, isiB, T.not, T.val, T.and, T.or, T.isN, T.notN, T.yes, T.tru, truthD, D.isN, E.chain, E.ifx, D.le, D.lt, D.ge, D.gt, D.add, D.sub, D.mul, D.mod, D.fdiv, D.pow, D.neg, D.eq, D.ne, D.flat, D.eqv, E.call, L.cons, L.nil, L.disp, E.tup, E.tuple, E.ofL, E.len, E.lenSet, Q.of, R.of, rdQ, rdL, E.app, D.toInt, D.max2, D.min2, R.toS, R.toG, R.bind, S.ret, S.retN, S.seq, S.ife, S.nil, S.expr, S.set, S.par, S.asg, S.bad, S.for, E.gen, I.of, I.enum, srcE, srcD, L.comp, D.ix, E.sl, O.none, O.some, slD, E.met, isT, isL, D.tindex, wipeE, setC, Tg.name, Tg.cons, Tg.nil, Tg.tup, fits, runB, -List.map_take, -List.map_drop, -List.map_set, D.ixK, dctAt, lenC, rdC, leA_int, ltA_int, gtA_int, geA_int, I.ofK, srcK, Tg.subK, setK, is_number_ok bd d v lo hi h h1 h2, trunc_keep]
theorem touched_ok (bd : Bd) [i : H_touched bd] (d : Nat) {lay : List Int} (hh : Hab m hb) (hp : Prm m lay) {p : Int} (h0 : 0 ≤ p) (h1 : p < m) (h : Hh) : runF bd (d + 5) 8 [H hb, tl lay, .int p] h = .ok (tl (touch hb lay p)) h := by
  rw [runF_eq i.e_touched]
  unfold b_touched
  simp [E.var, E.con, E.op2, E.op1, E.and, E.or, E.ofT, E.isi, isiD, tyNm, isiB, T.not, T.val, T.and, T.or, T.isN, T.notN, T.yes, T.tru, truthD, D.isN, E.chain, E.ifx, D.le, D.lt, D.ge, D.gt, D.add, D.sub, D.mul, D.mod, D.fdiv, D.pow, D.neg, D.eq, D.ne, D.flat, D.eqv, E.call, L.cons, L.nil, L.disp, E.tup, E.tuple, E.ofL, E.len, E.lenSet, Q.of, R.of, rdQ, rdL, E.app, D.toInt, D.max2, D.min2, R.toS, R.toG, R.bind, S.ret, S.retN, S.seq, S.ife, S.nil, S.expr, S.set, S.par, S.asg, S.bad, S.for, E.gen, I.of, I.enum, srcE, srcD, L.comp, D.ix, E.sl, O.none, O.some, slD, E.met, isT, isL, D.tindex, wipeE, setC, Tg.name, Tg.cons, Tg.nil, Tg.tup, fits, runB, -List.map_take, -List.map_drop, -List.map_set, D.ixK, dctAt, lenC, rdC, leA_int, ltA_int, gtA_int, geA_int, I.ofK, srcK, Tg.subK, setK, need_shelf_ok bd d hh hp h, need_place_ok bd (d + 2) hh h0 h1 h, behind_touch_ok bd (d + 3) hh hp h0 h1 h, trunc_keep]
def dW (f : Bf.F (List Int)) (a : List Int) : D := if Bf.has f a then tl (Bf.wd f a) else .non
theorem under_dW (n : Nat) (f : Bf.F (List Int)) (a : List Int) : (dW f a).under n = true := by
  unfold dW
  split
  · exact under_tl _ _
  · rfl
theorem word_between_ok (bd : Bd) [i : H_word_between bd] (d : Nat) {one other : List Int} (hh : Hab m hb) (hp : Prm m one) (ho : Prm m other) (h : Hh) : ∃ f, Bf.Fin (touch hb) m one f ∧ f.length ≤ 120 ∧ runF bd (d + 5) 10 [H hb, tl one, tl other] h = .ok (dW f other) h := by
  obtain ⟨f, g, hF, hl, e⟩ := words_from_ok bd (d + 2) hh hp h
  refine ⟨f, hF, hl, ?_⟩
  rw [runF_eq i.e_word_between]
  unfold b_word_between
  have hd := dctAt_W h f g
  have hk := kok_tl other
  have hi : isDc (.ref h.length) (Wp h f g) = true := by unfold isDc; simp only [Wp, app_get0, List.getElem?_cons_zero]
  have hf : (findD (enc f) (tl other).nk).getD .non = dW f other := by
    unfold dW
    split
    · rename_i q
      rw [find_wd (Bf.has_iff.mp q)]
      rfl
    · rename_i q
      have := find_has other f
      rw [Bool.not_eq_true] at q
      rw [q, Option.isSome_eq_false_iff, Option.isNone_iff_eq_none] at this
      rw [this]
      rfl
  have mm : E.met isDc D.dget (E.call 2 (runF bd (d + 4) 9) (L.cons (E.var 0) (L.cons (E.var 1) L.nil))) (L.cons (E.var 2) L.nil) [some (H hb), some (tl one), some (tl other)] h = .ok (dW f other) (Wp h f g) := by
    have e : runF bd (d + 4) 9 [H hb, tl one] h = .ok (.ref h.length) (Wp h f g) := e
    simp only [E.met, E.call, L.cons, L.nil, E.var, List.getElem?_cons_succ, List.getElem?_cons_zero, R.bind_ok, e]
    simp [e, hi, D.dget, hd, hk, hf]
  have n1 := need_shelf_ok bd d hh hp h
  have n2 := need_layout_ok bd (d + 1) hh ho h
  generalize runF bd (d + 4) = c at *
  have s1 : S.expr (E.call 2 (c 5) (L.cons (E.var 0) (L.cons (E.var 1) L.nil))) [some (H hb), some (tl one), some (tl other)] h = .nx [some (H hb), some (tl one), some (tl other)] h := by simp [E.var, E.con, E.op2, E.op1, E.and, E.or, E.ofT, E.isi, isiD, tyNm, isiB, T.not, T.val, T.and, T.or, T.isN, T.notN, T.yes, T.tru, truthD, D.isN, E.chain, E.ifx, D.le, D.lt, D.ge, D.gt, D.add, D.sub, D.mul, D.mod, D.fdiv, D.pow, D.neg, D.eq, D.ne, D.flat, D.eqv, E.call, L.cons, L.nil, L.disp, E.tup, E.tuple, E.ofL, E.len, E.lenSet, Q.of, R.of, rdQ, rdL, E.app, D.toInt, D.max2, D.min2, R.toS, R.toG, R.bind, S.ret, S.retN, S.seq, S.ife, S.nil, S.expr, S.set, S.par, S.asg, S.bad, S.for, E.gen, I.of, I.enum, srcE, srcD, L.comp, D.ix, E.sl, O.none, O.some, slD, E.met, isT, isL, D.tindex, wipeE, setC, Tg.name, Tg.cons, Tg.nil, Tg.tup, fits, runB, -List.map_take, -List.map_drop, -List.map_set, D.ixK, dctAt, lenC, rdC, leA_int, ltA_int, gtA_int, geA_int, I.ofK, srcK, Tg.subK, setK, n1]
  have s2 : S.expr (E.call 2 (c 4) (L.cons (E.var 0) (L.cons (E.var 2) L.nil))) [some (H hb), some (tl one), some (tl other)] h = .nx [some (H hb), some (tl one), some (tl other)] h := by simp [E.var, E.con, E.op2, E.op1, E.and, E.or, E.ofT, E.isi, isiD, tyNm, isiB, T.not, T.val, T.and, T.or, T.isN, T.notN, T.yes, T.tru, truthD, D.isN, E.chain, E.ifx, D.le, D.lt, D.ge, D.gt, D.add, D.sub, D.mul, D.mod, D.fdiv, D.pow, D.neg, D.eq, D.ne, D.flat, D.eqv, E.call, L.cons, L.nil, L.disp, E.tup, E.tuple, E.ofL, E.len, E.lenSet, Q.of, R.of, rdQ, rdL, E.app, D.toInt, D.max2, D.min2, R.toS, R.toG, R.bind, S.ret, S.retN, S.seq, S.ife, S.nil, S.expr, S.set, S.par, S.asg, S.bad, S.for, E.gen, I.of, I.enum, srcE, srcD, L.comp, D.ix, E.sl, O.none, O.some, slD, E.met, isT, isL, D.tindex, wipeE, setC, Tg.name, Tg.cons, Tg.nil, Tg.tup, fits, runB, -List.map_take, -List.map_drop, -List.map_set, D.ixK, dctAt, lenC, rdC, leA_int, ltA_int, gtA_int, geA_int, I.ofK, srcK, Tg.subK, setK, n2]
  refine (congrArg (trunc h) (runB_rt (d := dW f other) (h1 := Wp h f g) ?_)).trans (trunc_drop (under_dW _ _ _))
  show S.seq _ _ [some (H hb), some (tl one), some (tl other)] h = _
  rw [seq_nx s1, seq_nx s2]
  simp only [S.ret, mm, R.toS_ok]
def dL (f : Bf.F (List Int)) (a : List Int) : D := if Bf.has f a then .int ((Bf.wd f a).length : Nat) else .non
theorem distance_ok (bd : Bd) [i : H_distance bd] (d : Nat) {one other : List Int} (hh : Hab m hb) (hp : Prm m one) (ho : Prm m other) (h : Hh) : ∃ f, Bf.Fin (touch hb) m one f ∧ f.length ≤ 120 ∧ runF bd (d + 6) 11 [H hb, tl one, tl other] h = .ok (dL f other) h := by
  obtain ⟨f, hF, hl, e⟩ := word_between_ok bd d hh hp ho h
  refine ⟨f, hF, hl, ?_⟩
  rw [runF_eq i.e_distance]
  unfold b_distance
  by_cases q : Bf.has f other = true
  · unfold dW at e
    rw [if_pos q] at e
    unfold dL
    rw [if_pos q]
    simp [E.var, E.con, E.op2, E.op1, E.and, E.or, E.ofT, E.isi, isiD, tyNm, isiB, T.not, T.val, T.and, T.or, T.isN, T.notN, T.yes, T.tru, truthD, D.isN, E.chain, E.ifx, D.le, D.lt, D.ge, D.gt, D.add, D.sub, D.mul, D.mod, D.fdiv, D.pow, D.neg, D.eq, D.ne, D.flat, D.eqv, E.call, L.cons, L.nil, L.disp, E.tup, E.tuple, E.ofL, E.len, E.lenSet, Q.of, R.of, rdQ, rdL, E.app, D.toInt, D.max2, D.min2, R.toS, R.toG, R.bind, S.ret, S.retN, S.seq, S.ife, S.nil, S.expr, S.set, S.par, S.asg, S.bad, S.for, E.gen, I.of, I.enum, srcE, srcD, L.comp, D.ix, E.sl, O.none, O.some, slD, E.met, isT, isL, D.tindex, wipeE, setC, Tg.name, Tg.cons, Tg.nil, Tg.tup, fits, runB, -List.map_take, -List.map_drop, -List.map_set, D.ixK, dctAt, lenC, rdC, leA_int, ltA_int, gtA_int, geA_int, I.ofK, srcK, Tg.subK, setK, e, trunc_keep]
  · unfold dW at e
    rw [if_neg q] at e
    unfold dL
    rw [if_neg q]
    simp [E.var, E.con, E.op2, E.op1, E.and, E.or, E.ofT, E.isi, isiD, tyNm, isiB, T.not, T.val, T.and, T.or, T.isN, T.notN, T.yes, T.tru, truthD, D.isN, E.chain, E.ifx, D.le, D.lt, D.ge, D.gt, D.add, D.sub, D.mul, D.mod, D.fdiv, D.pow, D.neg, D.eq, D.ne, D.flat, D.eqv, E.call, L.cons, L.nil, L.disp, E.tup, E.tuple, E.ofL, E.len, E.lenSet, Q.of, R.of, rdQ, rdL, E.app, D.toInt, D.max2, D.min2, R.toS, R.toG, R.bind, S.ret, S.retN, S.seq, S.ife, S.nil, S.expr, S.set, S.par, S.asg, S.bad, S.for, E.gen, I.of, I.enum, srcE, srcD, L.comp, D.ix, E.sl, O.none, O.some, slD, E.met, isT, isL, D.tindex, wipeE, setC, Tg.name, Tg.cons, Tg.nil, Tg.tup, fits, runB, -List.map_take, -List.map_drop, -List.map_set, D.ixK, dctAt, lenC, rdC, leA_int, ltA_int, gtA_int, geA_int, I.ofK, srcK, Tg.subK, setK, e, trunc_keep]
theorem order_of_ok (bd : Bd) [i : H_order bd] (d : Nat) (hh : Hab m hb) (h : Hh) : ∃ f, Bf.Fin (touch hb) m (rg m) f ∧ f.length ≤ 120 ∧ runF bd (d + 4) 13 [H hb] h = .ok (.int f.length) h := by
  obtain ⟨f, g, hF, hl, e⟩ := words_from_ok bd (d + 1) hh (List.Perm.refl _) h
  refine ⟨f, hF, hl, ?_⟩
  rw [runF_eq i.e_order]
  unfold b_order
  have n1 := need_habit_ok bd d hh h
  have hr := lrng_rg (n := m) (by have := hh.hi; omega) h
  have e : runF bd (d + 3) 9 [H hb, tl (rg m)] h = .ok (.ref h.length) (Wp h f g) := e
  have hlc : lenC [.ref h.length] (Wp h f g) = .ok (.int f.length) (Wp h f g) := by
    simp only [lenC, rdC, dctAt_W, R.bind_ok, List.length_map]
    simp [enc]
  generalize runF bd (d + 3) = c at *
  have s1 : S.expr (E.call 1 (c 3) (L.cons (E.var 0) L.nil)) [some (H hb)] h = .nx [some (H hb)] h := by simp [E.var, E.con, E.op2, E.op1, E.and, E.or, E.ofT, E.isi, isiD, tyNm, isiB, T.not, T.val, T.and, T.or, T.isN, T.notN, T.yes, T.tru, truthD, D.isN, E.chain, E.ifx, D.le, D.lt, D.ge, D.gt, D.add, D.sub, D.mul, D.mod, D.fdiv, D.pow, D.neg, D.eq, D.ne, D.flat, D.eqv, E.call, L.cons, L.nil, L.disp, E.tup, E.tuple, E.ofL, E.len, E.lenSet, Q.of, R.of, rdQ, rdL, E.app, D.toInt, D.max2, D.min2, R.toS, R.toG, R.bind, S.ret, S.retN, S.seq, S.ife, S.nil, S.expr, S.set, S.par, S.asg, S.bad, S.for, E.gen, I.of, I.enum, srcE, srcD, L.comp, D.ix, E.sl, O.none, O.some, slD, E.met, isT, isL, D.tindex, wipeE, setC, Tg.name, Tg.cons, Tg.nil, Tg.tup, fits, runB, -List.map_take, -List.map_drop, -List.map_set, D.ixK, dctAt, lenC, rdC, leA_int, ltA_int, gtA_int, geA_int, I.ofK, srcK, Tg.subK, setK, n1]
  have s2 : S.ret (E.app lenC (L.cons (E.call 2 (c 9) (L.cons (E.var 0) (L.cons (E.tuple (L.rng1 (E.app lenC (L.cons (E.var 0) L.nil)))) L.nil))) L.nil)) [some (H hb)] h = .rt (.int f.length) (Wp h f g) := by
    have s3 : L.cons (E.call 2 (c 9) (L.cons (E.var 0) (L.cons (E.tuple (L.rng1 (E.app lenC (L.cons (E.var 0) L.nil)))) L.nil))) L.nil [some (H hb)] h = .ok [.ref h.length] (Wp h f g) := by
      simp [E.var, E.con, E.op2, E.op1, E.and, E.or, E.ofT, E.isi, isiD, tyNm, isiB, T.not, T.val, T.and, T.or, T.isN, T.notN, T.yes, T.tru, truthD, D.isN, E.chain, E.ifx, D.le, D.lt, D.ge, D.gt, D.add, D.sub, D.mul, D.mod, D.fdiv, D.pow, D.neg, D.eq, D.ne, D.flat, D.eqv, E.call, L.cons, L.nil, L.disp, E.tup, E.tuple, E.ofL, E.len, E.lenSet, Q.of, R.of, rdQ, rdL, E.app, D.toInt, D.max2, D.min2, R.toS, R.toG, R.bind, S.ret, S.retN, S.seq, S.ife, S.nil, S.expr, S.set, S.par, S.asg, S.bad, S.for, E.gen, I.of, I.enum, srcE, srcD, L.comp, D.ix, E.sl, O.none, O.some, slD, E.met, isT, isL, D.tindex, wipeE, setC, Tg.name, Tg.cons, Tg.nil, Tg.tup, fits, runB, -List.map_take, -List.map_drop, -List.map_set, L.rng1, lenC, rdC, dctAt, hh.len, hr, e]
    simp only [S.ret, E.app, s3, R.bind_ok, hlc, R.toS_ok]
  refine (congrArg (trunc h) (runB_rt (d := .int f.length) (h1 := Wp h f g) ?_)).trans (trunc_drop (d := .int f.length) rfl)
  show S.seq _ _ [some (H hb)] h = _
  rw [seq_nx s1, s2]
/-! ### the greatest -/
theorem ltD_int (a b : Int) : D.ltD (.int a) (.int b) = decide (a < b) := by
  unfold D.ltD
  simp only [D.py, PySem.W.dataLt_int]
theorem maxF_int : ∀ (l : List Int) (x : Int), maxF (.int x) (l.map D.int) = .int (l.foldl max x)
  | [], x => rfl
  | y :: l, x => by
    show maxF (if D.ltD (.int x) (.int y) then .int y else .int x) (l.map D.int) = _
    rw [ltD_int, List.foldl_cons, ← maxF_int l]
    congr 1
    by_cases h : x < y
    · rw [if_pos (by simpa using h), Int.max_eq_right (by omega)]
    · rw [if_neg (by simpa using h), Int.max_eq_left (by omega)]
theorem bestOk_ints (l : List Int) : bestOk (l.map D.int) = true := by
  unfold bestOk
  rw [flats_ints]
  simp [alikesD, D.isN, D.py, PySem.W.alike]
theorem bestL_ints {x : Int} {l : List Int} (h : Hh) : bestL true ((x :: l).map D.int) h = .ok (.int (l.foldl max x)) h := by
  unfold bestL maxL
  have := bestOk_ints (x :: l)
  rw [List.map_cons] at this ⊢
  simp only [this, if_true, maxF_int]
theorem foldl_max_is {M : Int} : ∀ (l : List Int) (x : Int), (∀ y ∈ x :: l, y ≤ M) → M ∈ x :: l → l.foldl max x = M
  | [], x, _, h => (List.mem_singleton.mp h).symm
  | y :: l, x, h1, h2 => by
    rw [List.foldl_cons]
    have hx := h1 x (by simp)
    have hy := h1 y (by simp)
    refine foldl_max_is l _ (fun z hz => ?_) ?_
    · rcases List.mem_cons.mp hz with rfl | hz
      · omega
      · exact h1 z (by simp [hz])
    · rcases List.mem_cons.mp h2 with rfl | h2
      · have : max M y = M := by omega
        rw [this]; simp
      · rcases List.mem_cons.mp h2 with rfl | h2
        · have : max x M = M := by omega
          rw [this]; simp
        · simp [h2]
theorem farthest_ok (bd : Bd) [i : H_farthest bd] (d : Nat) {lay : List Int} (hh : Hab m hb) (hp : Prm m lay) (h : Hh) {M : Nat} (h1 : ∀ f, Bf.Fin (touch hb) m lay f → (∀ x ∈ f, x.2.length ≤ M) ∧ ∃ x ∈ f, x.2.length = M) : runF bd (d + 5) 12 [H hb, tl lay] h = .ok (.int M) h := by
  obtain ⟨f, g, hF, hl, e⟩ := words_from_ok bd (d + 2) hh hp h
  obtain ⟨a1, x0, a2, a3⟩ := h1 f hF
  rw [runF_eq i.e_farthest]
  unfold b_farthest
  have n1 := need_shelf_ok bd d hh hp h
  have e : runF bd (d + 4) 9 [H hb, tl lay] h = .ok (.ref h.length) (Wp h f g) := e
  generalize runF bd (d + 4) = c at *
  have s1 : S.expr (E.call 2 (c 5) (L.cons (E.var 0) (L.cons (E.var 1) L.nil))) [some (H hb), some (tl lay), none] h = .nx [some (H hb), some (tl lay), none] h := by simp [E.var, E.con, E.op2, E.op1, E.and, E.or, E.ofT, E.isi, isiD, tyNm, isiB, T.not, T.val, T.and, T.or, T.isN, T.notN, T.yes, T.tru, truthD, D.isN, E.chain, E.ifx, D.le, D.lt, D.ge, D.gt, D.add, D.sub, D.mul, D.mod, D.fdiv, D.pow, D.neg, D.eq, D.ne, D.flat, D.eqv, E.call, L.cons, L.nil, L.disp, E.tup, E.tuple, E.ofL, E.len, E.lenSet, Q.of, R.of, rdQ, rdL, E.app, D.toInt, D.max2, D.min2, R.toS, R.toG, R.bind, S.ret, S.retN, S.seq, S.ife, S.nil, S.expr, S.set, S.par, S.asg, S.bad, S.for, E.gen, I.of, I.enum, srcE, srcD, L.comp, D.ix, E.sl, O.none, O.some, slD, E.met, isT, isL, D.tindex, wipeE, setC, Tg.name, Tg.cons, Tg.nil, Tg.tup, fits, runB, -List.map_take, -List.map_drop, -List.map_set, D.ixK, dctAt, lenC, rdC, leA_int, ltA_int, gtA_int, geA_int, I.ofK, srcK, Tg.subK, setK, n1]
  have hv : I.vals (E.call 2 (c 9) (L.cons (E.var 0) (L.cons (E.var 1) L.nil))) [some (H hb), some (tl lay), none] h = .ok ⟨f.map fun p => tl p.2, some (h.length, .dct (enc f) f.length)⟩ (Wp h f g) := by
    simp only [I.vals, E.call, L.cons, L.nil, E.var, List.getElem?_cons_succ, List.getElem?_cons_zero, R.bind_ok, e]
    simp [e, srcVals, dctAt_W, enc]
  have hok : (⟨f.map fun p => tl p.2, some (h.length, .dct (enc f) f.length)⟩ : Src).ok (Wp h f g) = true := by
    simp [Src.ok, MO.still]
  have hcg : compGo ⟨f.map fun p => tl p.2, some (h.length, .dct (enc f) f.length)⟩ (.one 2) T.yes (E.app lenC (L.cons (E.var 2) L.nil)) [some (H hb), some (tl lay), none] (f.map fun p => tl p.2) (Wp h f g) = .ok ((f.map fun p => ((p.2.length : Nat) : Int)).map D.int) (Wp h f g) := by
    have q := compGo_map (s := ⟨f.map fun p => tl p.2, some (h.length, .dct (enc f) f.length)⟩) (tg := .one 2) (t := T.yes) (e := E.app lenC (L.cons (E.var 2) L.nil)) (env := [some (H hb), some (tl lay), none]) (h := Wp h f g) (f := fun x => match x with
      | .tup l => D.int l.length
      | _ => .non) hok (l := f.map fun p => tl p.2) (fun x hx => by
        obtain ⟨p, hp, rfl⟩ := List.mem_map.mp hx
        refine ⟨_, rfl, rfl, ?_⟩
        generalize Wp h f g = q
        simp [E.var, E.con, E.op2, E.op1, E.and, E.or, E.ofT, E.isi, isiD, tyNm, isiB, T.not, T.val, T.and, T.or, T.isN, T.notN, T.yes, T.tru, truthD, D.isN, E.chain, E.ifx, D.le, D.lt, D.ge, D.gt, D.add, D.sub, D.mul, D.mod, D.fdiv, D.pow, D.neg, D.eq, D.ne, D.flat, D.eqv, E.call, L.cons, L.nil, L.disp, E.tup, E.tuple, E.ofL, E.len, E.lenSet, Q.of, R.of, rdQ, rdL, E.app, D.toInt, D.max2, D.min2, R.toS, R.toG, R.bind, S.ret, S.retN, S.seq, S.ife, S.nil, S.expr, S.set, S.par, S.asg, S.bad, S.for, E.gen, I.of, I.enum, srcE, srcD, L.comp, D.ix, E.sl, O.none, O.some, slD, E.met, isT, isL, D.tindex, wipeE, setC, Tg.name, Tg.cons, Tg.nil, Tg.tup, fits, runB, -List.map_take, -List.map_drop, -List.map_set, lenC, rdC, dctAt])
    rw [q, List.map_map, List.map_map]
    congr 1
    refine List.map_congr_left fun p _ => ?_
    simp
  have s2 : S.ret (E.best true (L.comp (I.vals (E.call 2 (c 9) (L.cons (E.var 0) (L.cons (E.var 1) L.nil)))) [2] (.one 2) T.yes (E.app lenC (L.cons (E.var 2) L.nil)))) [some (H hb), some (tl lay), none] h = .rt (.int M) (Wp h f g) := by
    have hlen : (f.map fun p => ((p.2.length : Nat) : Int)).length ≤ 16000000 := by rw [List.length_map]; omega
    have hcomp : L.comp (I.vals (E.call 2 (c 9) (L.cons (E.var 0) (L.cons (E.var 1) L.nil)))) [2] (.one 2) T.yes (E.app lenC (L.cons (E.var 2) L.nil)) [some (H hb), some (tl lay), none] h = .ok ((f.map fun p => ((p.2.length : Nat) : Int)).map D.int) (Wp h f g) := by
      unfold L.comp
      simp only [hv, R.bind_ok]
      have hw : wipeE [some (H hb), some (tl lay), none] [2] = [some (H hb), some (tl lay), none] := rfl
      rw [hw, hcg]
      simp only [R.bind_ok]
      exact fits_ok (by rw [List.length_map]; exact hlen)
    have hb2 : bestL true ((f.map fun p => ((p.2.length : Nat) : Int)).map D.int) (Wp h f g) = .ok (.int M) (Wp h f g) := by
      cases f with
      | nil => cases a2
      | cons y f =>
        rw [List.map_cons (f := fun p : List Int × Bf.W => ((p.2.length : Nat) : Int)), bestL_ints]
        congr 2
        refine foldl_max_is _ _ (fun z hz => ?_) ?_
        · rw [← List.map_cons (f := fun p : List Int × Bf.W => ((p.2.length : Nat) : Int))] at hz
          obtain ⟨p, hp, rfl⟩ := List.mem_map.mp hz
          have := a1 p hp
          omega
        · rw [← List.map_cons (f := fun p : List Int × Bf.W => ((p.2.length : Nat) : Int))]
          exact List.mem_map.mpr ⟨x0, a2, by rw [a3]⟩
    simp only [S.ret, E.best, hcomp, R.bind_ok, hb2, R.toS_ok]
  refine (congrArg (trunc h) (runB_rt (d := .int M) (h1 := Wp h f g) ?_)).trans (trunc_drop (d := .int M) rfl)
  show S.seq _ _ [some (H hb), some (tl lay), none] h = _
  rw [seq_nx s1, s2]
end PF

set_option Elab.async false
set_option linter.all false
set_option maxRecDepth 100000
set_option maxHeartbeats 1000000
namespace PF
open PySem DL
/-! ### known habits -/
def frontRow (n : Nat) (p : Int) : List Int := ri 1 (p + 1) ++ [0] ++ ri (p + 1) n
def nearRow (n : Nat) (p : Int) : List Int := ri 0 (p - 1) ++ [p, p - 1] ++ ri (p + 1) n
def turnRow (n : Nat) (p : Int) : List Int := (rg n).map fun s => (s + p) % n
def front (n : Nat) : List (List Int) := (rg n).map (frontRow n)
def near (n : Nat) : List (List Int) := rg n :: (ri 1 n).map (nearRow n)
def turning (n : Nat) : List (List Int) := (rg n).map (turnRow n)
theorem habs {n : Nat} (h2 : 2 ≤ n) (h5 : n ≤ 5) : Hab n (front n) ∧ Hab n (near n) ∧ Hab n (turning n) := by
  have key : ∀ n ∈ [2, 3, 4, 5], ∀ h ∈ [front n, near n, turning n], (h.length == n && h.all fun r => r.isPerm (rg n)) = true := by decide
  have go : ∀ h ∈ [front n, near n, turning n], Hab n h := fun h hh => by
    have := key n (by simp; omega) h hh
    rw [Bool.and_eq_true, List.all_eq_true] at this
    exact ⟨by simpa using this.1, h2, h5, fun r hr => List.isPerm_iff.mp (this.2 r hr)⟩
  exact ⟨go _ (by simp), go _ (by simp), go _ (by simp)⟩
theorem push_tl {h : Hh} {l : List (List Int)} {r : List Int} (hl : l.length ≤ 1000) : mutL fAppend (.ref h.length) [tl r] (h ++ [.lst (l.map fun x => tl x)]) = .ok .non (h ++ [.lst ((l ++ [r]).map fun x => tl x)]) := by
  exact mut_last (g := h) (l := l.map fun x => tl x) (l' := (l ++ [r]).map fun x => tl x) (ds := [tl r]) (y := .non) (by simp [fAppend]) (by simp; omega)
theorem rowsRd {h : Hh} {l : List (List Int)} : rdL (h ++ [.lst (l.map fun x => tl x)]) (.ref h.length) = .ok (l.map fun x => tl x) (h ++ [.lst (l.map fun x => tl x)]) := by
  unfold rdL
  simp
theorem isL_end {h : Hh} {l : List D} : isL (.ref h.length) (h ++ [.lst l]) = true := by unfold isL; simp
theorem push_expr {a : EΦ} {x0 x2 : Option D} {h : Hh} {l : List (List Int)} {r : List Int} (hl : l.length ≤ 1000) (e : a [x0, some (.ref h.length), x2] (h ++ [.lst (l.map fun x => tl x)]) = .ok (tl r) (h ++ [.lst (l.map fun x => tl x)])) :
    S.expr (E.met isL (mutL fAppend) (E.var 1) (L.cons a L.nil)) [x0, some (.ref h.length), x2] (h ++ [.lst (l.map fun x => tl x)]) = .nx [x0, some (.ref h.length), x2] (h ++ [.lst ((l ++ [r]).map fun x => tl x)]) := by
  have p := push_tl (h := h) (l := l) (r := r) hl
  simp only [S.expr, E.met, E.var, List.getElem?_cons_succ, List.getElem?_cons_zero, R.bind_ok, L.cons, L.nil, isL_end, if_true, e, p, R.toS_ok]
theorem front_row (n : Nat) (h5 : n ≤ 5) {p : Int} (h0 : 0 ≤ p) (h1 : p < n) (x1 : Option D) (q : Hh) : E.tuple (L.cat (L.cat (L.rng2 (E.con (.int 1)) (E.op2 D.add (E.var 2) (E.con (.int 1)))) (L.disp (L.cons (E.con (.int 0)) L.nil))) (L.rng2 (E.op2 D.add (E.var 2) (E.con (.int 1))) (E.var 0))) [some (.int n), x1, some (.int p)] q = .ok (tl (frontRow n p)) q := by
  have r1 := lrng_ri (a := 1) (b := p + 1) (by omega) (by omega) q
  have r2 := lrng_ri (a := p + 1) (b := n) (by omega) (by omega) q
  have l1 := ri_len 1 (p + 1)
  have l2 := ri_len (p + 1) n
  have b1 : p.toNat + 1 ≤ 16000000 := by omega
  have b2 : p.toNat + 1 + ((n : Int) - (p + 1)).toNat ≤ 16000000 := by omega
  have b3 : p.toNat + (((n : Int) - (p + 1)).toNat + 1) ≤ 16000000 := by omega
  unfold frontRow
  simp [E.var, E.con, E.op2, E.op1, E.and, E.or, E.ofT, E.isi, isiD, tyNm, isiB, T.not, T.val, T.and, T.or, T.isN, T.notN, T.yes, T.tru, truthD, D.isN, E.chain, E.ifx, D.le, D.lt, D.ge, D.gt, D.add, D.sub, D.mul, D.mod, D.fdiv, D.pow, D.neg, D.eq, D.ne, D.flat, D.eqv, E.call, L.cons, L.nil, L.disp, E.tup, E.tuple, E.ofL, E.len, E.lenSet, Q.of, R.of, rdQ, rdL, E.app, D.toInt, D.max2, D.min2, R.toS, R.toG, R.bind, S.ret, S.retN, S.seq, S.ife, S.nil, S.expr, S.set, S.par, S.asg, S.bad, S.for, E.gen, I.of, I.enum, srcE, srcD, L.comp, D.ix, E.sl, O.none, O.some, slD, E.met, isT, isL, D.tindex, wipeE, setC, Tg.name, Tg.cons, Tg.nil, Tg.tup, fits, runB, -List.map_take, -List.map_drop, -List.map_set, L.rng2, L.cat, r1, r2, l1, l2, b1, b2, b3]
theorem near_row (n : Nat) (h5 : n ≤ 5) {p : Int} (h0 : 1 ≤ p) (h1 : p < n) (x1 : Option D) (q : Hh) : E.tuple (L.cat (L.cat (L.rng1 (E.op2 D.sub (E.var 2) (E.con (.int 1)))) (L.disp (L.cons (E.var 2) (L.cons (E.op2 D.sub (E.var 2) (E.con (.int 1))) L.nil)))) (L.rng2 (E.op2 D.add (E.var 2) (E.con (.int 1))) (E.var 0))) [some (.int n), x1, some (.int p)] q = .ok (tl (nearRow n p)) q := by
  have r1 := lrng_ri (a := 0) (b := p - 1) (by omega) (by omega) q
  have r2 := lrng_ri (a := p + 1) (b := n) (by omega) (by omega) q
  have l1 := ri_len 0 (p - 1)
  have l2 := ri_len (p + 1) n
  have b1 : (p - 1).toNat + 2 ≤ 16000000 := by omega
  have b2 : (p - 1).toNat + 2 + ((n : Int) - (p + 1)).toNat ≤ 16000000 := by omega
  have b3 : (p - 1).toNat + (((n : Int) - (p + 1)).toNat + 2) ≤ 16000000 := by omega
  have b4 : (p - 1).toNat + (((n : Int) - (p + 1)).toNat + 1 + 1) ≤ 16000000 := by omega
  have b5 : p ≤ 15999999 := by omega
  have b6 : p.toNat - 1 + 2 + ((n : Int) - (p + 1)).toNat ≤ 16000000 := by omega
  unfold nearRow
  simp [E.var, E.con, E.op2, E.op1, E.and, E.or, E.ofT, E.isi, isiD, tyNm, isiB, T.not, T.val, T.and, T.or, T.isN, T.notN, T.yes, T.tru, truthD, D.isN, E.chain, E.ifx, D.le, D.lt, D.ge, D.gt, D.add, D.sub, D.mul, D.mod, D.fdiv, D.pow, D.neg, D.eq, D.ne, D.flat, D.eqv, E.call, L.cons, L.nil, L.disp, E.tup, E.tuple, E.ofL, E.len, E.lenSet, Q.of, R.of, rdQ, rdL, E.app, D.toInt, D.max2, D.min2, R.toS, R.toG, R.bind, S.ret, S.retN, S.seq, S.ife, S.nil, S.expr, S.set, S.par, S.asg, S.bad, S.for, E.gen, I.of, I.enum, srcE, srcD, L.comp, D.ix, E.sl, O.none, O.some, slD, E.met, isT, isL, D.tindex, wipeE, setC, Tg.name, Tg.cons, Tg.nil, Tg.tup, fits, runB, -List.map_take, -List.map_drop, -List.map_set, L.rng1, L.rng2, L.cat, r1, r2, l1, l2, b1, b2, b3, b4, b5, b6]
theorem front_habit_ok (bd : Bd) [i : H_front_habit bd] (d : Nat) {n : Nat} (h2 : 2 ≤ n) (h5 : n ≤ 5) (h : Hh) : runF bd (d + 3) 14 [.int n] h = .ok (H (front n)) h := by
  refine run_pure i.e_front_habit (v := H (front n)) (by simp only [D.under]; exact unders_tl _ _) ?_
  have n1 := need_number_ok bd d (n : Int) 2 5 h (by omega) (by omega)
  generalize runF bd (d + 2) = c at *
  unfold b_front_habit
  have s1 : S.expr (E.call 3 (c 1) (L.cons (E.var 0) (L.cons (E.con (.int 2)) (L.cons (E.con (.int 5)) L.nil)))) [some (.int n), none, none] h = .nx [some (.int n), none, none] h := by simp [E.var, E.con, E.op2, E.op1, E.and, E.or, E.ofT, E.isi, isiD, tyNm, isiB, T.not, T.val, T.and, T.or, T.isN, T.notN, T.yes, T.tru, truthD, D.isN, E.chain, E.ifx, D.le, D.lt, D.ge, D.gt, D.add, D.sub, D.mul, D.mod, D.fdiv, D.pow, D.neg, D.eq, D.ne, D.flat, D.eqv, E.call, L.cons, L.nil, L.disp, E.tup, E.tuple, E.ofL, E.len, E.lenSet, Q.of, R.of, rdQ, rdL, E.app, D.toInt, D.max2, D.min2, R.toS, R.toG, R.bind, S.ret, S.retN, S.seq, S.ife, S.nil, S.expr, S.set, S.par, S.asg, S.bad, S.for, E.gen, I.of, I.enum, srcE, srcD, L.comp, D.ix, E.sl, O.none, O.some, slD, E.met, isT, isL, D.tindex, wipeE, setC, Tg.name, Tg.cons, Tg.nil, Tg.tup, fits, runB, -List.map_take, -List.map_drop, -List.map_set, D.ixK, dctAt, lenC, rdC, leA_int, ltA_int, gtA_int, geA_int, I.ofK, srcK, Tg.subK, setK, n1]
  have s2 : S.set 1 (E.ofL (L.disp L.nil)) [some (.int n), none, none] h = .nx [some (.int n), some (.ref h.length), none] (h ++ [.lst []]) := by simp [E.var, E.con, E.op2, E.op1, E.and, E.or, E.ofT, E.isi, isiD, tyNm, isiB, T.not, T.val, T.and, T.or, T.isN, T.notN, T.yes, T.tru, truthD, D.isN, E.chain, E.ifx, D.le, D.lt, D.ge, D.gt, D.add, D.sub, D.mul, D.mod, D.fdiv, D.pow, D.neg, D.eq, D.ne, D.flat, D.eqv, E.call, L.cons, L.nil, L.disp, E.tup, E.tuple, E.ofL, E.len, E.lenSet, Q.of, R.of, rdQ, rdL, E.app, D.toInt, D.max2, D.min2, R.toS, R.toG, R.bind, S.ret, S.retN, S.seq, S.ife, S.nil, S.expr, S.set, S.par, S.asg, S.bad, S.for, E.gen, I.of, I.enum, srcE, srcD, L.comp, D.ix, E.sl, O.none, O.some, slD, E.met, isT, isL, D.tindex, wipeE, setC, Tg.name, Tg.cons, Tg.nil, Tg.tup, fits, runB, -List.map_take, -List.map_drop, -List.map_set, D.ixK, dctAt, lenC, rdC, leA_int, ltA_int, gtA_int, geA_int, I.ofK, srcK, Tg.subK, setK]
  show (S.seq _ _ [some (.int n), none, none] h).sat _ _
  rw [seq_nx s1, seq_nx s2]
  have e1 : I.rng1 (E.var 0) [some (.int n), some (.ref h.length), none] (h ++ [.lst []]) = .ok ⟨(rg n).map D.int, none⟩ (h ++ [.lst []]) := by
    have hr := rngS_rg (n := n) (by omega) (h ++ [.lst []])
    generalize h ++ [.lst []] = q at *
    simp [E.var, E.con, E.op2, E.op1, E.and, E.or, E.ofT, E.isi, isiD, tyNm, isiB, T.not, T.val, T.and, T.or, T.isN, T.notN, T.yes, T.tru, truthD, D.isN, E.chain, E.ifx, D.le, D.lt, D.ge, D.gt, D.add, D.sub, D.mul, D.mod, D.fdiv, D.pow, D.neg, D.eq, D.ne, D.flat, D.eqv, E.call, L.cons, L.nil, L.disp, E.tup, E.tuple, E.ofL, E.len, E.lenSet, Q.of, R.of, rdQ, rdL, E.app, D.toInt, D.max2, D.min2, R.toS, R.toG, R.bind, S.ret, S.retN, S.seq, S.ife, S.nil, S.expr, S.set, S.par, S.asg, S.bad, S.for, E.gen, I.of, I.enum, srcE, srcD, L.comp, D.ix, E.sl, O.none, O.some, slD, E.met, isT, isL, D.tindex, wipeE, setC, Tg.name, Tg.cons, Tg.nil, Tg.tup, fits, runB, -List.map_take, -List.map_drop, -List.map_set, I.rng1, hr]
  refine seq_sat (for_sat (enc := D.int) (fun pre e q => ∃ x2, e = [some (.int n), some (.ref h.length), x2] ∧ q = h ++ [.lst ((pre.map (frontRow n)).map fun x => tl x)]) (rg n) e1 rfl ⟨none, rfl, rfl⟩ (fun _ _ _ _ _ => rfl) ?_ ?_)
  · rintro pre p post _ _ hl ⟨x2, rfl, rfl⟩
    have hp : p ∈ rg n := by rw [hl]; simp
    have hp := mem_rg.mp hp
    have hpl : pre.length ≤ 5 := by
      have : (rg n).length = n := rg_length n
      rw [hl] at this
      simp at this
      omega
    refine ⟨[some (.int n), some (.ref h.length), some (.int p)], _, rfl, ?_⟩
    rw [push_expr (by simp; omega) (front_row n h5 hp.1 hp.2 _ _)]
    exact ⟨some (.int p), rfl, by simp⟩
  · rintro _ _ ⟨x2, rfl, rfl⟩
    refine ret_sat (d := H (front n)) (h1 := h ++ [.lst ((front n).map fun x => tl x)]) ?_ ⟨rfl, _, rfl⟩
    have := rowsRd (h := h) (l := front n)
    unfold front at this ⊢
    simp only [E.tuple, R.of, E.var, List.getElem?_cons_succ, List.getElem?_cons_zero, R.bind_ok, this]
theorem near_habit_ok (bd : Bd) [i : H_neighbour_habit bd] (d : Nat) {n : Nat} (h2 : 2 ≤ n) (h5 : n ≤ 5) (h : Hh) : runF bd (d + 3) 15 [.int n] h = .ok (H (near n)) h := by
  refine run_pure i.e_neighbour_habit (v := H (near n)) (by simp only [D.under]; exact unders_tl _ _) ?_
  have n1 := need_number_ok bd d (n : Int) 2 5 h (by omega) (by omega)
  generalize runF bd (d + 2) = c at *
  unfold b_neighbour_habit
  have s1 : S.expr (E.call 3 (c 1) (L.cons (E.var 0) (L.cons (E.con (.int 2)) (L.cons (E.con (.int 5)) L.nil)))) [some (.int n), none, none] h = .nx [some (.int n), none, none] h := by simp [E.var, E.con, E.op2, E.op1, E.and, E.or, E.ofT, E.isi, isiD, tyNm, isiB, T.not, T.val, T.and, T.or, T.isN, T.notN, T.yes, T.tru, truthD, D.isN, E.chain, E.ifx, D.le, D.lt, D.ge, D.gt, D.add, D.sub, D.mul, D.mod, D.fdiv, D.pow, D.neg, D.eq, D.ne, D.flat, D.eqv, E.call, L.cons, L.nil, L.disp, E.tup, E.tuple, E.ofL, E.len, E.lenSet, Q.of, R.of, rdQ, rdL, E.app, D.toInt, D.max2, D.min2, R.toS, R.toG, R.bind, S.ret, S.retN, S.seq, S.ife, S.nil, S.expr, S.set, S.par, S.asg, S.bad, S.for, E.gen, I.of, I.enum, srcE, srcD, L.comp, D.ix, E.sl, O.none, O.some, slD, E.met, isT, isL, D.tindex, wipeE, setC, Tg.name, Tg.cons, Tg.nil, Tg.tup, fits, runB, -List.map_take, -List.map_drop, -List.map_set, D.ixK, dctAt, lenC, rdC, leA_int, ltA_int, gtA_int, geA_int, I.ofK, srcK, Tg.subK, setK, n1]
  have s2 : S.set 1 (E.ofL (L.disp (L.cons (E.tuple (L.rng1 (E.var 0))) L.nil))) [some (.int n), none, none] h = .nx [some (.int n), some (.ref h.length), none] (h ++ [.lst [tl (rg n)]]) := by
    have hr := lrng_rg (n := n) (by omega) h
    simp [E.var, E.con, E.op2, E.op1, E.and, E.or, E.ofT, E.isi, isiD, tyNm, isiB, T.not, T.val, T.and, T.or, T.isN, T.notN, T.yes, T.tru, truthD, D.isN, E.chain, E.ifx, D.le, D.lt, D.ge, D.gt, D.add, D.sub, D.mul, D.mod, D.fdiv, D.pow, D.neg, D.eq, D.ne, D.flat, D.eqv, E.call, L.cons, L.nil, L.disp, E.tup, E.tuple, E.ofL, E.len, E.lenSet, Q.of, R.of, rdQ, rdL, E.app, D.toInt, D.max2, D.min2, R.toS, R.toG, R.bind, S.ret, S.retN, S.seq, S.ife, S.nil, S.expr, S.set, S.par, S.asg, S.bad, S.for, E.gen, I.of, I.enum, srcE, srcD, L.comp, D.ix, E.sl, O.none, O.some, slD, E.met, isT, isL, D.tindex, wipeE, setC, Tg.name, Tg.cons, Tg.nil, Tg.tup, fits, runB, -List.map_take, -List.map_drop, -List.map_set, D.ixK, dctAt, lenC, rdC, leA_int, ltA_int, gtA_int, geA_int, I.ofK, srcK, Tg.subK, setK, L.rng1, hr]
  show (S.seq _ _ [some (.int n), none, none] h).sat _ _
  rw [seq_nx s1, seq_nx s2]
  have e1 : I.rng2 (E.con (.int 1)) (E.var 0) [some (.int n), some (.ref h.length), none] (h ++ [.lst [tl (rg n)]]) = .ok ⟨(ri 1 n).map D.int, none⟩ (h ++ [.lst [tl (rg n)]]) := by
    have hr := rngS_ri (a := 1) (b := n) (by omega) (by omega) (h ++ [.lst [tl (rg n)]])
    generalize h ++ [.lst [tl (rg n)]] = q at *
    simp [E.var, E.con, E.op2, E.op1, E.and, E.or, E.ofT, E.isi, isiD, tyNm, isiB, T.not, T.val, T.and, T.or, T.isN, T.notN, T.yes, T.tru, truthD, D.isN, E.chain, E.ifx, D.le, D.lt, D.ge, D.gt, D.add, D.sub, D.mul, D.mod, D.fdiv, D.pow, D.neg, D.eq, D.ne, D.flat, D.eqv, E.call, L.cons, L.nil, L.disp, E.tup, E.tuple, E.ofL, E.len, E.lenSet, Q.of, R.of, rdQ, rdL, E.app, D.toInt, D.max2, D.min2, R.toS, R.toG, R.bind, S.ret, S.retN, S.seq, S.ife, S.nil, S.expr, S.set, S.par, S.asg, S.bad, S.for, E.gen, I.of, I.enum, srcE, srcD, L.comp, D.ix, E.sl, O.none, O.some, slD, E.met, isT, isL, D.tindex, wipeE, setC, Tg.name, Tg.cons, Tg.nil, Tg.tup, fits, runB, -List.map_take, -List.map_drop, -List.map_set, I.rng2, hr]
  refine seq_sat (for_sat (enc := D.int) (fun pre e q => ∃ x2, e = [some (.int n), some (.ref h.length), x2] ∧ q = h ++ [.lst ((rg n :: pre.map (nearRow n)).map fun x => tl x)]) (ri 1 n) e1 rfl ⟨none, rfl, rfl⟩ (fun _ _ _ _ _ => rfl) ?_ ?_)
  · rintro pre p post _ _ hl ⟨x2, rfl, rfl⟩
    have hp : p ∈ ri 1 n := by rw [hl]; simp
    have hp := mem_ri.mp hp
    have hpl : pre.length ≤ 5 := by
      have : (ri 1 n).length = _ := ri_len 1 n
      rw [hl] at this
      simp at this
      omega
    refine ⟨[some (.int n), some (.ref h.length), some (.int p)], _, rfl, ?_⟩
    rw [push_expr (by simp; omega) (near_row n h5 hp.1 hp.2 _ _)]
    exact ⟨some (.int p), rfl, by simp⟩
  · rintro _ _ ⟨x2, rfl, rfl⟩
    refine ret_sat (d := H (near n)) (h1 := h ++ [.lst ((near n).map fun x => tl x)]) ?_ ⟨rfl, _, rfl⟩
    have := rowsRd (h := h) (l := near n)
    unfold near at this ⊢
    simp only [E.tuple, R.of, E.var, List.getElem?_cons_succ, List.getElem?_cons_zero, R.bind_ok, this]
theorem turning_habit_ok (bd : Bd) [i : H_turning_habit bd] (d : Nat) {n : Nat} (h2 : 2 ≤ n) (h5 : n ≤ 5) (h : Hh) : runF bd (d + 3) 16 [.int n] h = .ok (H (turning n)) h := by
  rw [runF_eq i.e_turning_habit]
  unfold b_turning_habit
  have n1 := need_number_ok bd d (n : Int) 2 5 h (by omega) (by omega)
  generalize runF bd (d + 2) = c at *
  have hr := rngS_rg (n := n) (by omega) h
  have inner : ∀ (x : Int), E.tuple (L.comp (I.rng1 (E.var 0)) [2] (.one 2) T.yes (E.op2 D.mod (E.op2 D.add (E.var 2) (E.var 1)) (E.var 0))) [some (.int n), some (.int x), none] h = .ok (tl (turnRow n x)) h := fun x => by
    have hc : compGo ⟨(rg n).map D.int, none⟩ (.one 2) T.yes (E.op2 D.mod (E.op2 D.add (E.var 2) (E.var 1)) (E.var 0)) [some (.int n), some (.int x), none] ((rg n).map D.int) h = .ok ((turnRow n x).map D.int) h := by
      refine compGo_ints rfl fun s hs => ⟨_, rfl, rfl, ?_⟩
      have : 0 < n := by omega
      simp [E.var, E.con, E.op2, E.op1, E.and, E.or, E.ofT, E.isi, isiD, tyNm, isiB, T.not, T.val, T.and, T.or, T.isN, T.notN, T.yes, T.tru, truthD, D.isN, E.chain, E.ifx, D.le, D.lt, D.ge, D.gt, D.add, D.sub, D.mul, D.mod, D.fdiv, D.pow, D.neg, D.eq, D.ne, D.flat, D.eqv, E.call, L.cons, L.nil, L.disp, E.tup, E.tuple, E.ofL, E.len, E.lenSet, Q.of, R.of, rdQ, rdL, E.app, D.toInt, D.max2, D.min2, R.toS, R.toG, R.bind, S.ret, S.retN, S.seq, S.ife, S.nil, S.expr, S.set, S.par, S.asg, S.bad, S.for, E.gen, I.of, I.enum, srcE, srcD, L.comp, D.ix, E.sl, O.none, O.some, slD, E.met, isT, isL, D.tindex, wipeE, setC, Tg.name, Tg.cons, Tg.nil, Tg.tup, fits, runB, -List.map_take, -List.map_drop, -List.map_set, this]
    have hl : (turnRow n x).length = n := by simp [turnRow, rg_length]
    have hf : n ≤ 16000000 := by omega
    simp [E.var, E.con, E.op2, E.op1, E.and, E.or, E.ofT, E.isi, isiD, tyNm, isiB, T.not, T.val, T.and, T.or, T.isN, T.notN, T.yes, T.tru, truthD, D.isN, E.chain, E.ifx, D.le, D.lt, D.ge, D.gt, D.add, D.sub, D.mul, D.mod, D.fdiv, D.pow, D.neg, D.eq, D.ne, D.flat, D.eqv, E.call, L.cons, L.nil, L.disp, E.tup, E.tuple, E.ofL, E.len, E.lenSet, Q.of, R.of, rdQ, rdL, E.app, D.toInt, D.max2, D.min2, R.toS, R.toG, R.bind, S.ret, S.retN, S.seq, S.ife, S.nil, S.expr, S.set, S.par, S.asg, S.bad, S.for, E.gen, I.of, I.enum, srcE, srcD, L.comp, D.ix, E.sl, O.none, O.some, slD, E.met, isT, isL, D.tindex, wipeE, setC, Tg.name, Tg.cons, Tg.nil, Tg.tup, fits, runB, -List.map_take, -List.map_drop, -List.map_set, I.rng1, hr, hc, hl, hf]
  have outer : compGo ⟨(rg n).map D.int, none⟩ (.one 1) T.yes (E.tuple (L.comp (I.rng1 (E.var 0)) [2] (.one 2) T.yes (E.op2 D.mod (E.op2 D.add (E.var 2) (E.var 1)) (E.var 0)))) [some (.int n), none, none] ((rg n).map D.int) h = .ok (((rg n).map D.int).map fun x => match x with
      | .int x => tl (turnRow n x)
      | x => x) h := by
    refine compGo_map rfl fun x hx => ?_
    obtain ⟨v, hv, rfl⟩ := List.mem_map.mp hx
    exact ⟨[some (.int n), some (.int v), none], rfl, rfl, inner v⟩
  have s1 : S.expr (E.call 3 (c 1) (L.cons (E.var 0) (L.cons (E.con (.int 2)) (L.cons (E.con (.int 5)) L.nil)))) [some (.int n), none, none] h = .nx [some (.int n), none, none] h := by simp [E.var, E.con, E.op2, E.op1, E.and, E.or, E.ofT, E.isi, isiD, tyNm, isiB, T.not, T.val, T.and, T.or, T.isN, T.notN, T.yes, T.tru, truthD, D.isN, E.chain, E.ifx, D.le, D.lt, D.ge, D.gt, D.add, D.sub, D.mul, D.mod, D.fdiv, D.pow, D.neg, D.eq, D.ne, D.flat, D.eqv, E.call, L.cons, L.nil, L.disp, E.tup, E.tuple, E.ofL, E.len, E.lenSet, Q.of, R.of, rdQ, rdL, E.app, D.toInt, D.max2, D.min2, R.toS, R.toG, R.bind, S.ret, S.retN, S.seq, S.ife, S.nil, S.expr, S.set, S.par, S.asg, S.bad, S.for, E.gen, I.of, I.enum, srcE, srcD, L.comp, D.ix, E.sl, O.none, O.some, slD, E.met, isT, isL, D.tindex, wipeE, setC, Tg.name, Tg.cons, Tg.nil, Tg.tup, fits, runB, -List.map_take, -List.map_drop, -List.map_set, D.ixK, dctAt, lenC, rdC, leA_int, ltA_int, gtA_int, geA_int, I.ofK, srcK, Tg.subK, setK, n1]
  have e1 : I.rng1 (E.var 0) [some (.int n), none, none] h = .ok ⟨(rg n).map D.int, none⟩ h := by simp [E.var, E.con, E.op2, E.op1, E.and, E.or, E.ofT, E.isi, isiD, tyNm, isiB, T.not, T.val, T.and, T.or, T.isN, T.notN, T.yes, T.tru, truthD, D.isN, E.chain, E.ifx, D.le, D.lt, D.ge, D.gt, D.add, D.sub, D.mul, D.mod, D.fdiv, D.pow, D.neg, D.eq, D.ne, D.flat, D.eqv, E.call, L.cons, L.nil, L.disp, E.tup, E.tuple, E.ofL, E.len, E.lenSet, Q.of, R.of, rdQ, rdL, E.app, D.toInt, D.max2, D.min2, R.toS, R.toG, R.bind, S.ret, S.retN, S.seq, S.ife, S.nil, S.expr, S.set, S.par, S.asg, S.bad, S.for, E.gen, I.of, I.enum, srcE, srcD, L.comp, D.ix, E.sl, O.none, O.some, slD, E.met, isT, isL, D.tindex, wipeE, setC, Tg.name, Tg.cons, Tg.nil, Tg.tup, fits, runB, -List.map_take, -List.map_drop, -List.map_set, I.rng1, hr]
  have eH : H (turning n) = .tup (((rg n).map D.int).map fun x => match x with
      | .int x => tl (turnRow n x)
      | x => x) := by
    show D.tup ((List.map (turnRow n) (rg n)).map fun l => tl l) = _
    rw [List.map_map, List.map_map]
    rfl
  refine (congrArg (trunc h) (runB_rt (d := H (turning n)) (h1 := h) ?_)).trans (trunc_keep rfl)
  show S.seq _ _ [some (.int n), none, none] h = _
  rw [seq_nx s1, eH]
  have hw : wipeE [some (.int n), none, none] [1] = [some (.int n), none, none] := rfl
  have ht : E.tuple (L.comp (I.rng1 (E.var 0)) [1] (.one 1) T.yes (E.tuple (L.comp (I.rng1 (E.var 0)) [2] (.one 2) T.yes (E.op2 D.mod (E.op2 D.add (E.var 2) (E.var 1)) (E.var 0))))) [some (.int n), none, none] h = .ok (.tup (((rg n).map D.int).map fun x => match x with
      | .int x => tl (turnRow n x)
      | x => x)) h := by
    show ((((I.rng1 (E.var 0)) [some (.int n), none, none] h).bind fun s h => (compGo s (.one 1) T.yes _ _ s.items h).bind fun l h => fits l.length (.ok l h)).bind fun l h => R.ok (D.tup l) h) = _
    rw [e1]
    simp only [R.bind_ok, hw]
    rw [outer]
    simp only [R.bind_ok]
    rw [fits_ok (by simp [rg_length]; omega)]
    rfl
  unfold S.ret
  rw [ht]
  rfl
end PF

set_option Elab.async false
set_option linter.all false
set_option maxRecDepth 100000
set_option maxHeartbeats 1000000
namespace PF
open PySem DL
theorem appG {f r : MO} {L : List D} {X : D} {g j : Hh} (h : L.length ≤ 100) : mutL fAppend (.ref (g.length + 2)) [X] (f :: r :: (g ++ .lst L :: j)) = .ok .non (f :: r :: (g ++ .lst (L ++ [X]) :: j)) := by
  rw [mut_at (n := g.length + 2) (l := L) (by simp) rfl (by simp; omega)]
  simp
theorem get_jG (g : Hh) (f r x y : MO) (j : Hh) : (f :: r :: (g ++ x :: (j ++ [y])))[g.length + (j.length + 1) + 2]? = some y := by
  rw [show f :: r :: (g ++ x :: (j ++ [y])) = (f :: r :: (g ++ x :: j)) ++ [y] by simp, List.getElem?_append_right (by simp)]
  simp
theorem setjG {g : Hh} {f r x : MO} {j : Hh} {l : List D} {k : Nat} {v : D} {env : DL.Env} (hk : k < l.length) : setL (.ref (g.length + (j.length + 1) + 2)) (.int k) v env (f :: r :: (g ++ x :: (j ++ [.lst l]))) = .ok env (f :: r :: (g ++ x :: (j ++ [.lst (l.set k v)]))) := by
  unfold setL lstAt
  simp only [get_jG, ixN_nat hk]
  rw [show f :: r :: (g ++ x :: (j ++ [MO.lst l])) = (f :: r :: (g ++ x :: j)) ++ [MO.lst l] by simp, List.set_append_right _ _ (by simp)]
  simp
/-! ### habits -/
def row0 (m p : Nat) : List Int := (rg m).map fun s => (s + p) % m
def row1m (m p : Nat) : List Int := (rg m).map fun (s : Int) => s + (if s < (p : Int) then 1 else 0)
def row1 (m p : Nat) : List Int := (row1m m p).take p ++ [0] ++ (row1m m p).drop (p + 1)
def row2 (m p : Nat) : List Int := ((rg m).set p ((p - 1 : Nat) : Int)).set (p - 1) p
theorem rows_prm {m p : Nat} (h2 : 2 ≤ m) (h5 : m ≤ 5) (hp : p < m) : Prm m (row0 m p) ∧ Prm m (row1 m p) ∧ Prm m (row2 m p) := by
  have key : ∀ m ∈ [2, 3, 4, 5], ∀ p ∈ List.range m, (row0 m p).isPerm (rg m) = true ∧ (row1 m p).isPerm (rg m) = true ∧ (row2 m p).isPerm (rg m) = true := by decide
  have := key m (by simp; omega) p (List.mem_range.mpr hp)
  exact ⟨List.isPerm_iff.mp this.1, List.isPerm_iff.mp this.2.1, List.isPerm_iff.mp this.2.2⟩
theorem way0 (c : Calls) {m p : Nat} (hm : m ≤ 5) (h0 : 0 < m) (ns : List Int) (a b e : Int) (Rs : List D) (hL : Rs.length ≤ 100) (g j : Hh) (x y z : Option D) :
    (S.expr (E.met isL (mutL fAppend) (E.var 4) (L.cons (E.tuple (L.comp (I.rng1 (E.var 1)) [7] (.one 7) T.yes (E.op2 D.mod (E.op2 D.add (E.var 7) (E.var 2)) (E.var 1)))) L.nil))) [some (.ref 1), some (.int m), some (.int p), x, some (.ref (g.length + 2)), y, z, none] (Fz ns :: rw3 a b e :: (g ++ .lst Rs :: j)) =
      .nx [some (.ref 1), some (.int m), some (.int p), x, some (.ref (g.length + 2)), y, z, none] (Fz ns :: rw3 a b e :: (g ++ .lst (Rs ++ [tl (row0 m p)]) :: j)) := by
  have hr := rngS_rg (n := m) (by omega) (Fz ns :: rw3 a b e :: (g ++ .lst Rs :: j))
  have hc : compGo ⟨(rg m).map D.int, none⟩ (.one 7) T.yes (E.op2 D.mod (E.op2 D.add (E.var 7) (E.var 2)) (E.var 1)) [some (.ref 1), some (.int m), some (.int p), x, some (.ref (g.length + 2)), y, z, none] ((rg m).map D.int) (Fz ns :: rw3 a b e :: (g ++ .lst Rs :: j)) = .ok ((row0 m p).map D.int) (Fz ns :: rw3 a b e :: (g ++ .lst Rs :: j)) := by
    refine compGo_ints rfl fun s hs => ⟨_, rfl, rfl, ?_⟩
    have : (0 : Int) < m := by omega
    simp [E.var, E.con, E.op2, E.op1, E.and, E.or, E.ofT, E.isi, isiD, tyNm, isiB, T.not, T.val, T.and, T.or, T.isN, T.notN, T.yes, T.tru, truthD, D.isN, E.chain, E.ifx, D.le, D.lt, D.ge, D.gt, D.add, D.sub, D.mul, D.mod, D.fdiv, D.pow, D.neg, D.eq, D.ne, D.flat, D.eqv, E.call, L.cons, L.nil, L.disp, E.tup, E.tuple, E.ofL, E.len, E.lenSet, Q.of, R.of, rdQ, rdL, E.app, D.toInt, D.max2, D.min2, R.toS, R.toG, R.bind, S.ret, S.retN, S.seq, S.ife, S.nil, S.expr, S.set, S.par, S.asg, S.bad, S.for, E.gen, I.of, I.enum, srcE, srcD, L.comp, D.ix, E.sl, O.none, O.some, slD, E.met, isT, isL, D.tindex, wipeE, setC, Tg.name, Tg.cons, Tg.nil, Tg.tup, fits, runB, -List.map_take, -List.map_drop, -List.map_set, D.ixK, dctAt, lenC, rdC, leA_int, ltA_int, gtA_int, geA_int, I.ofK, srcK, Tg.subK, setK, h0]
  have hl : (row0 m p).length = m := by simp [row0, rg_length]
  have hf : m ≤ 16000000 := by omega
  have ap := appG (g := g) (f := Fz ns) (r := rw3 a b e) (X := tl (row0 m p)) (j := j) hL
  simp [E.var, E.con, E.op2, E.op1, E.and, E.or, E.ofT, E.isi, isiD, tyNm, isiB, T.not, T.val, T.and, T.or, T.isN, T.notN, T.yes, T.tru, truthD, D.isN, E.chain, E.ifx, D.le, D.lt, D.ge, D.gt, D.add, D.sub, D.mul, D.mod, D.fdiv, D.pow, D.neg, D.eq, D.ne, D.flat, D.eqv, E.call, L.cons, L.nil, L.disp, E.tup, E.tuple, E.ofL, E.len, E.lenSet, Q.of, R.of, rdQ, rdL, E.app, D.toInt, D.max2, D.min2, R.toS, R.toG, R.bind, S.ret, S.retN, S.seq, S.ife, S.nil, S.expr, S.set, S.par, S.asg, S.bad, S.for, E.gen, I.of, I.enum, srcE, srcD, L.comp, D.ix, E.sl, O.none, O.some, slD, E.met, isT, isL, D.tindex, wipeE, setC, Tg.name, Tg.cons, Tg.nil, Tg.tup, fits, runB, -List.map_take, -List.map_drop, -List.map_set, D.ixK, dctAt, lenC, rdC, leA_int, ltA_int, gtA_int, geA_int, I.ofK, srcK, Tg.subK, setK, I.rng1, hr, hc, hl, hf, ap]
theorem way1 (c : Calls) {m p : Nat} (hm : m ≤ 5) (hp : p < m) (ns : List Int) (a b e : Int) (Rs : List D) (hL : Rs.length ≤ 100) (g j : Hh) (x y z : Option D) :
    (S.seq (S.set 5 (E.ofL (L.comp (I.rng1 (E.var 1)) [7] (.one 7) T.yes (E.op2 D.add (E.var 7) (E.app D.toInt (L.cons (E.op2 D.ltA (E.var 7) (E.var 2)) L.nil)))))) (S.expr (E.met isL (mutL fAppend) (E.var 4) (L.cons (E.tuple (L.cat (L.cat (L.slE (E.var 5) O.none (O.some (E.var 2))) (L.disp (L.cons (E.con (.int 0)) L.nil))) (L.slE (E.var 5) (O.some (E.op2 D.add (E.var 2) (E.con (.int 1)))) O.none))) L.nil)))) [some (.ref 1), some (.int m), some (.int p), x, some (.ref (g.length + 2)), y, z, none] (Fz ns :: rw3 a b e :: (g ++ .lst Rs :: j)) =
      .nx [some (.ref 1), some (.int m), some (.int p), x, some (.ref (g.length + 2)), some (.ref (g.length + (j.length + 1) + 2)), z, none] (Fz ns :: rw3 a b e :: (g ++ .lst (Rs ++ [tl (row1 m p)]) :: (j ++ [.lst ((row1m m p).map D.int)]))) := by
  have hr := rngS_rg (n := m) (by omega) (Fz ns :: rw3 a b e :: (g ++ .lst Rs :: j))
  have hc : compGo ⟨(rg m).map D.int, none⟩ (.one 7) T.yes (E.op2 D.add (E.var 7) (E.app D.toInt (L.cons (E.op2 D.ltA (E.var 7) (E.var 2)) L.nil))) [some (.ref 1), some (.int m), some (.int p), x, some (.ref (g.length + 2)), y, z, none] ((rg m).map D.int) (Fz ns :: rw3 a b e :: (g ++ .lst Rs :: j)) = .ok ((row1m m p).map D.int) (Fz ns :: rw3 a b e :: (g ++ .lst Rs :: j)) := by
    refine compGo_ints rfl fun s hs => ⟨_, rfl, rfl, ?_⟩
    simp [E.var, E.con, E.op2, E.op1, E.and, E.or, E.ofT, E.isi, isiD, tyNm, isiB, T.not, T.val, T.and, T.or, T.isN, T.notN, T.yes, T.tru, truthD, D.isN, E.chain, E.ifx, D.le, D.lt, D.ge, D.gt, D.add, D.sub, D.mul, D.mod, D.fdiv, D.pow, D.neg, D.eq, D.ne, D.flat, D.eqv, E.call, L.cons, L.nil, L.disp, E.tup, E.tuple, E.ofL, E.len, E.lenSet, Q.of, R.of, rdQ, rdL, E.app, D.toInt, D.max2, D.min2, R.toS, R.toG, R.bind, S.ret, S.retN, S.seq, S.ife, S.nil, S.expr, S.set, S.par, S.asg, S.bad, S.for, E.gen, I.of, I.enum, srcE, srcD, L.comp, D.ix, E.sl, O.none, O.some, slD, E.met, isT, isL, D.tindex, wipeE, setC, Tg.name, Tg.cons, Tg.nil, Tg.tup, fits, runB, -List.map_take, -List.map_drop, -List.map_set, D.ixK, dctAt, lenC, rdC, leA_int, ltA_int, gtA_int, geA_int, I.ofK, srcK, Tg.subK, setK]
  have hl : (row1m m p).length = m := by simp [row1m, rg_length]
  have hf : m ≤ 16000000 := by omega
  have c1 := cut_takeI (l := row1m m p) (k := p) (by omega)
  have c2 := cut_dropI (l := row1m m p) (k := p) (by omega)
  have gj := get_jG g (Fz ns) (rw3 a b e) (.lst Rs) (.lst ((row1m m p).map D.int)) j
  have ap := appG (g := g) (f := Fz ns) (r := rw3 a b e) (X := tl (row1 m p)) (j := j ++ [.lst ((row1m m p).map D.int)]) hL
  have hf1 : p + 1 ≤ 16000000 := by omega
  have hf2 : p + 1 + (m - (p + 1)) ≤ 16000000 := by omega
  have hmin : min p m = p := by omega
  unfold row1 at ap ⊢
  simp only [tl, List.map_append, List.map_cons, List.map_nil, List.append_assoc, List.cons_append, List.nil_append] at ap ⊢
  have hf3 : p + (m - (p + 1) + 1) ≤ 16000000 := by omega
  simp [E.var, E.con, E.op2, E.op1, E.and, E.or, E.ofT, E.isi, isiD, tyNm, isiB, T.not, T.val, T.and, T.or, T.isN, T.notN, T.yes, T.tru, truthD, D.isN, E.chain, E.ifx, D.le, D.lt, D.ge, D.gt, D.add, D.sub, D.mul, D.mod, D.fdiv, D.pow, D.neg, D.eq, D.ne, D.flat, D.eqv, E.call, L.cons, L.nil, L.disp, E.tup, E.tuple, E.ofL, E.len, E.lenSet, Q.of, R.of, rdQ, rdL, E.app, D.toInt, D.max2, D.min2, R.toS, R.toG, R.bind, S.ret, S.retN, S.seq, S.ife, S.nil, S.expr, S.set, S.par, S.asg, S.bad, S.for, E.gen, I.of, I.enum, srcE, srcD, L.comp, D.ix, E.sl, O.none, O.some, slD, E.met, isT, isL, D.tindex, wipeE, setC, Tg.name, Tg.cons, Tg.nil, Tg.tup, fits, runB, -List.map_take, -List.map_drop, -List.map_set, D.ixK, dctAt, lenC, rdC, leA_int, ltA_int, gtA_int, geA_int, I.ofK, srcK, Tg.subK, setK, I.rng1, L.slE, L.cat, hr, hc, hl, hf, gj, c1, c2, hf1, hf2, hf3, hmin, ap]
theorem set_ints (l : List Int) (k : Nat) (v : Int) : (l.map D.int).set k (.int v) = (l.set k v).map D.int := by rw [List.map_set]
theorem way2 (c : Calls) {m p : Nat} (hm : m ≤ 5) (hp : p < m) (ns : List Int) (a b e : Int) (Rs : List D) (hL : Rs.length ≤ 100) (g j : Hh) (x y z : Option D) :
    (S.seq (S.set 6 (E.app D.max2 (L.cons (E.con (.int 0)) (L.cons (E.op2 D.sub (E.var 2) (E.con (.int 1))) L.nil)))) (S.seq (S.set 5 (E.ofL (L.rng1 (E.var 1)))) (S.seq (S.asg (E.tup (L.cons (E.var 6) (L.cons (E.var 2) L.nil))) (Tg.tup (Tg.cons (Tg.subK (E.var 5) (E.var 2)) (Tg.cons (Tg.subK (E.var 5) (E.var 6)) Tg.nil)))) (S.expr (E.met isL (mutL fAppend) (E.var 4) (L.cons (E.tuple (R.of (E.var 5))) L.nil)))))) [some (.ref 1), some (.int m), some (.int p), x, some (.ref (g.length + 2)), y, z, none] (Fz ns :: rw3 a b e :: (g ++ .lst Rs :: j)) =
      .nx [some (.ref 1), some (.int m), some (.int p), x, some (.ref (g.length + 2)), some (.ref (g.length + (j.length + 1) + 2)), some (.int ((p - 1 : Nat) : Int)), none] (Fz ns :: rw3 a b e :: (g ++ .lst (Rs ++ [tl (row2 m p)]) :: (j ++ [.lst ((row2 m p).map D.int)]))) := by
  have hr := lrng_rg (n := m) (by omega) (Fz ns :: rw3 a b e :: (g ++ .lst Rs :: j))
  have hmax : (if (p : Int) - 1 > 0 then (p : Int) - 1 else 0) = ((p - 1 : Nat) : Int) := by split <;> omega
  have q1 : S.set 6 (E.app D.max2 (L.cons (E.con (.int 0)) (L.cons (E.op2 D.sub (E.var 2) (E.con (.int 1))) L.nil))) [some (.ref 1), some (.int m), some (.int p), x, some (.ref (g.length + 2)), y, z, none] (Fz ns :: rw3 a b e :: (g ++ .lst Rs :: j)) = .nx [some (.ref 1), some (.int m), some (.int p), x, some (.ref (g.length + 2)), y, some (.int ((p - 1 : Nat) : Int)), none] (Fz ns :: rw3 a b e :: (g ++ .lst Rs :: j)) := by
    rw [← hmax]
    simp [E.var, E.con, E.op2, E.op1, E.and, E.or, E.ofT, E.isi, isiD, tyNm, isiB, T.not, T.val, T.and, T.or, T.isN, T.notN, T.yes, T.tru, truthD, D.isN, E.chain, E.ifx, D.le, D.lt, D.ge, D.gt, D.add, D.sub, D.mul, D.mod, D.fdiv, D.pow, D.neg, D.eq, D.ne, D.flat, D.eqv, E.call, L.cons, L.nil, L.disp, E.tup, E.tuple, E.ofL, E.len, E.lenSet, Q.of, R.of, rdQ, rdL, E.app, D.toInt, D.max2, D.min2, R.toS, R.toG, R.bind, S.ret, S.retN, S.seq, S.ife, S.nil, S.expr, S.set, S.par, S.asg, S.bad, S.for, E.gen, I.of, I.enum, srcE, srcD, L.comp, D.ix, E.sl, O.none, O.some, slD, E.met, isT, isL, D.tindex, wipeE, setC, Tg.name, Tg.cons, Tg.nil, Tg.tup, fits, runB, -List.map_take, -List.map_drop, -List.map_set, D.ixK, dctAt, lenC, rdC, leA_int, ltA_int, gtA_int, geA_int, I.ofK, srcK, Tg.subK, setK]
  have q2 : S.set 5 (E.ofL (L.rng1 (E.var 1))) [some (.ref 1), some (.int m), some (.int p), x, some (.ref (g.length + 2)), y, some (.int ((p - 1 : Nat) : Int)), none] (Fz ns :: rw3 a b e :: (g ++ .lst Rs :: j)) = .nx [some (.ref 1), some (.int m), some (.int p), x, some (.ref (g.length + 2)), some (.ref (g.length + (j.length + 1) + 2)), some (.int ((p - 1 : Nat) : Int)), none] (Fz ns :: rw3 a b e :: (g ++ .lst Rs :: (j ++ [.lst ((rg m).map D.int)]))) := by
    simp [E.var, E.con, E.op2, E.op1, E.and, E.or, E.ofT, E.isi, isiD, tyNm, isiB, T.not, T.val, T.and, T.or, T.isN, T.notN, T.yes, T.tru, truthD, D.isN, E.chain, E.ifx, D.le, D.lt, D.ge, D.gt, D.add, D.sub, D.mul, D.mod, D.fdiv, D.pow, D.neg, D.eq, D.ne, D.flat, D.eqv, E.call, L.cons, L.nil, L.disp, E.tup, E.tuple, E.ofL, E.len, E.lenSet, Q.of, R.of, rdQ, rdL, E.app, D.toInt, D.max2, D.min2, R.toS, R.toG, R.bind, S.ret, S.retN, S.seq, S.ife, S.nil, S.expr, S.set, S.par, S.asg, S.bad, S.for, E.gen, I.of, I.enum, srcE, srcD, L.comp, D.ix, E.sl, O.none, O.some, slD, E.met, isT, isL, D.tindex, wipeE, setC, Tg.name, Tg.cons, Tg.nil, Tg.tup, fits, runB, -List.map_take, -List.map_drop, -List.map_set, D.ixK, dctAt, lenC, rdC, leA_int, ltA_int, gtA_int, geA_int, I.ofK, srcK, Tg.subK, setK, L.rng1, hr]
  generalize hk : p - 1 = k at *
  have s1 := setjG (g := g) (f := Fz ns) (r := rw3 a b e) (x := .lst Rs) (j := j) (l := (rg m).map D.int) (k := p) (v := .int k) (env := [some (.ref 1), some (.int m), some (.int p), x, some (.ref (g.length + 2)), some (.ref (g.length + (j.length + 1) + 2)), some (.int k), none]) (by rw [List.length_map, rg_length]; omega)
  rw [set_ints] at s1
  have s2 := setjG (g := g) (f := Fz ns) (r := rw3 a b e) (x := .lst Rs) (j := j) (l := ((rg m).set p k).map D.int) (k := k) (v := .int p) (env := [some (.ref 1), some (.int m), some (.int p), x, some (.ref (g.length + 2)), some (.ref (g.length + (j.length + 1) + 2)), some (.int k), none]) (by rw [List.length_map, List.length_set, rg_length]; omega)
  rw [set_ints] at s2
  have gj := get_jG g (Fz ns) (rw3 a b e) (.lst Rs) (.lst ((((rg m).set p k).set k p).map D.int)) j
  have ap := appG (g := g) (f := Fz ns) (r := rw3 a b e) (X := tl (((rg m).set p k).set k p)) (j := j ++ [.lst ((((rg m).set p k).set k p).map D.int)]) hL
  have er : row2 m p = ((rg m).set p k).set k p := by unfold row2; rw [hk]
  rw [seq_nx q1, seq_nx q2, er]
  have q3 : S.asg (E.tup (L.cons (E.var 6) (L.cons (E.var 2) L.nil))) (Tg.tup (Tg.cons (Tg.subK (E.var 5) (E.var 2)) (Tg.cons (Tg.subK (E.var 5) (E.var 6)) Tg.nil))) [some (.ref 1), some (.int m), some (.int p), x, some (.ref (g.length + 2)), some (.ref (g.length + (j.length + 1) + 2)), some (.int k), none] (Fz ns :: rw3 a b e :: (g ++ .lst Rs :: (j ++ [.lst ((rg m).map D.int)]))) = .nx [some (.ref 1), some (.int m), some (.int p), x, some (.ref (g.length + 2)), some (.ref (g.length + (j.length + 1) + 2)), some (.int k), none] (Fz ns :: rw3 a b e :: (g ++ .lst Rs :: (j ++ [.lst ((((rg m).set p k).set k p).map D.int)]))) := by
    simp [E.var, E.con, E.op2, E.op1, E.and, E.or, E.ofT, E.isi, isiD, tyNm, isiB, T.not, T.val, T.and, T.or, T.isN, T.notN, T.yes, T.tru, truthD, D.isN, E.chain, E.ifx, D.le, D.lt, D.ge, D.gt, D.add, D.sub, D.mul, D.mod, D.fdiv, D.pow, D.neg, D.eq, D.ne, D.flat, D.eqv, E.call, L.cons, L.nil, L.disp, E.tup, E.tuple, E.ofL, E.len, E.lenSet, Q.of, R.of, rdQ, rdL, E.app, D.toInt, D.max2, D.min2, R.toS, R.toG, R.bind, S.ret, S.retN, S.seq, S.ife, S.nil, S.expr, S.set, S.par, S.asg, S.bad, S.for, E.gen, I.of, I.enum, srcE, srcD, L.comp, D.ix, E.sl, O.none, O.some, slD, E.met, isT, isL, D.tindex, wipeE, setC, Tg.name, Tg.cons, Tg.nil, Tg.tup, fits, runB, -List.map_take, -List.map_drop, -List.map_set, D.ixK, dctAt, lenC, rdC, leA_int, ltA_int, gtA_int, geA_int, I.ofK, srcK, Tg.subK, setK, Tg.subK, s1, s2]
  rw [seq_nx q3]
  simp [E.var, E.con, E.op2, E.op1, E.and, E.or, E.ofT, E.isi, isiD, tyNm, isiB, T.not, T.val, T.and, T.or, T.isN, T.notN, T.yes, T.tru, truthD, D.isN, E.chain, E.ifx, D.le, D.lt, D.ge, D.gt, D.add, D.sub, D.mul, D.mod, D.fdiv, D.pow, D.neg, D.eq, D.ne, D.flat, D.eqv, E.call, L.cons, L.nil, L.disp, E.tup, E.tuple, E.ofL, E.len, E.lenSet, Q.of, R.of, rdQ, rdL, E.app, D.toInt, D.max2, D.min2, R.toS, R.toG, R.bind, S.ret, S.retN, S.seq, S.ife, S.nil, S.expr, S.set, S.par, S.asg, S.bad, S.for, E.gen, I.of, I.enum, srcE, srcD, L.comp, D.ix, E.sl, O.none, O.some, slD, E.met, isT, isL, D.tindex, wipeE, setC, Tg.name, Tg.cons, Tg.nil, Tg.tup, fits, runB, -List.map_take, -List.map_drop, -List.map_set, D.ixK, dctAt, lenC, rdC, leA_int, ltA_int, gtA_int, geA_int, I.ofK, srcK, Tg.subK, setK, gj, ap]
theorem way3 (c : Calls) {m : Nat} (hm : m ≤ 5) (ns : List Int) (a b e : Int) (Rs : List D) (hL : Rs.length ≤ 100) (g j : Hh) (w x y z : Option D) :
    (S.expr (E.met isL (mutL fAppend) (E.var 4) (L.cons (E.tuple (L.rng1 (E.var 1))) L.nil))) [some (.ref 1), some (.int m), w, x, some (.ref (g.length + 2)), y, z, none] (Fz ns :: rw3 a b e :: (g ++ .lst Rs :: j)) = .nx [some (.ref 1), some (.int m), w, x, some (.ref (g.length + 2)), y, z, none] (Fz ns :: rw3 a b e :: (g ++ .lst (Rs ++ [tl (rg m)]) :: j)) := by
  have hr := lrng_rg (n := m) (by omega) (Fz ns :: rw3 a b e :: (g ++ .lst Rs :: j))
  have ap := appG (g := g) (f := Fz ns) (r := rw3 a b e) (X := tl (rg m)) (j := j) hL
  simp [E.var, E.con, E.op2, E.op1, E.and, E.or, E.ofT, E.isi, isiD, tyNm, isiB, T.not, T.val, T.and, T.or, T.isN, T.notN, T.yes, T.tru, truthD, D.isN, E.chain, E.ifx, D.le, D.lt, D.ge, D.gt, D.add, D.sub, D.mul, D.mod, D.fdiv, D.pow, D.neg, D.eq, D.ne, D.flat, D.eqv, E.call, L.cons, L.nil, L.disp, E.tup, E.tuple, E.ofL, E.len, E.lenSet, Q.of, R.of, rdQ, rdL, E.app, D.toInt, D.max2, D.min2, R.toS, R.toG, R.bind, S.ret, S.retN, S.seq, S.ife, S.nil, S.expr, S.set, S.par, S.asg, S.bad, S.for, E.gen, I.of, I.enum, srcE, srcD, L.comp, D.ix, E.sl, O.none, O.some, slD, E.met, isT, isL, D.tindex, wipeE, setC, Tg.name, Tg.cons, Tg.nil, Tg.tup, fits, runB, -List.map_take, -List.map_drop, -List.map_set, D.ixK, dctAt, lenC, rdC, leA_int, ltA_int, gtA_int, geA_int, I.ofK, srcK, Tg.subK, setK, L.rng1, hr, ap]
theorem way4 (c : Calls) {m : Nat} (ns : List Int) (a b e a' b' e' : Int) (Rs : List D) (hL : Rs.length ≤ 100) (g j : Hh) (w x y z : Option D) (l : List Int) (hc : c 18 [.ref 1, .int m] (Fz ns :: rw3 a b e :: (g ++ .lst Rs :: j)) = .ok (tl l) (Fz ns :: rw3 a' b' e' :: (g ++ .lst Rs :: j))) :
    (S.expr (E.met isL (mutL fAppend) (E.var 4) (L.cons (E.call 2 (c 18) (L.cons (E.var 0) (L.cons (E.var 1) L.nil))) L.nil))) [some (.ref 1), some (.int m), w, x, some (.ref (g.length + 2)), y, z, none] (Fz ns :: rw3 a b e :: (g ++ .lst Rs :: j)) = .nx [some (.ref 1), some (.int m), w, x, some (.ref (g.length + 2)), y, z, none] (Fz ns :: rw3 a' b' e' :: (g ++ .lst (Rs ++ [tl l]) :: j)) := by
  have ap := appG (g := g) (f := Fz ns) (r := rw3 a' b' e') (X := tl l) (j := j) hL
  simp [E.var, E.con, E.op2, E.op1, E.and, E.or, E.ofT, E.isi, isiD, tyNm, isiB, T.not, T.val, T.and, T.or, T.isN, T.notN, T.yes, T.tru, truthD, D.isN, E.chain, E.ifx, D.le, D.lt, D.ge, D.gt, D.add, D.sub, D.mul, D.mod, D.fdiv, D.pow, D.neg, D.eq, D.ne, D.flat, D.eqv, E.call, L.cons, L.nil, L.disp, E.tup, E.tuple, E.ofL, E.len, E.lenSet, Q.of, R.of, rdQ, rdL, E.app, D.toInt, D.max2, D.min2, R.toS, R.toG, R.bind, S.ret, S.retN, S.seq, S.ife, S.nil, S.expr, S.set, S.par, S.asg, S.bad, S.for, E.gen, I.of, I.enum, srcE, srcD, L.comp, D.ix, E.sl, O.none, O.some, slD, E.met, isT, isL, D.tindex, wipeE, setC, Tg.name, Tg.cons, Tg.nil, Tg.tup, fits, runB, -List.map_take, -List.map_drop, -List.map_set, D.ixK, dctAt, lenC, rdC, leA_int, ltA_int, gtA_int, geA_int, I.ofK, srcK, Tg.subK, setK, hc, ap]
abbrev habitB (c : Calls) : SΦ := (S.ife (T.val (E.op2 D.eq (E.var 3) (E.con (.int 0)))) (S.expr (E.met isL (mutL fAppend) (E.var 4) (L.cons (E.tuple (L.comp (I.rng1 (E.var 1)) [7] (.one 7) T.yes (E.op2 D.mod (E.op2 D.add (E.var 7) (E.var 2)) (E.var 1)))) L.nil))) (S.ife (T.val (E.op2 D.eq (E.var 3) (E.con (.int 1)))) (S.seq (S.set 5 (E.ofL (L.comp (I.rng1 (E.var 1)) [7] (.one 7) T.yes (E.op2 D.add (E.var 7) (E.app D.toInt (L.cons (E.op2 D.ltA (E.var 7) (E.var 2)) L.nil)))))) (S.expr (E.met isL (mutL fAppend) (E.var 4) (L.cons (E.tuple (L.cat (L.cat (L.slE (E.var 5) O.none (O.some (E.var 2))) (L.disp (L.cons (E.con (.int 0)) L.nil))) (L.slE (E.var 5) (O.some (E.op2 D.add (E.var 2) (E.con (.int 1)))) O.none))) L.nil)))) (S.ife (T.val (E.op2 D.eq (E.var 3) (E.con (.int 2)))) (S.seq (S.set 6 (E.app D.max2 (L.cons (E.con (.int 0)) (L.cons (E.op2 D.sub (E.var 2) (E.con (.int 1))) L.nil)))) (S.seq (S.set 5 (E.ofL (L.rng1 (E.var 1)))) (S.seq (S.asg (E.tup (L.cons (E.var 6) (L.cons (E.var 2) L.nil))) (Tg.tup (Tg.cons (Tg.subK (E.var 5) (E.var 2)) (Tg.cons (Tg.subK (E.var 5) (E.var 6)) Tg.nil)))) (S.expr (E.met isL (mutL fAppend) (E.var 4) (L.cons (E.tuple (R.of (E.var 5))) L.nil)))))) (S.ife (T.and (T.val (E.op2 D.eq (E.var 3) (E.con (.int 3)))) (T.val (E.op2 D.eq (E.call 2 (c 17) (L.cons (E.var 0) (L.cons (E.con (.int 2)) L.nil))) (E.con (.int 0))))) (S.expr (E.met isL (mutL fAppend) (E.var 4) (L.cons (E.tuple (L.rng1 (E.var 1))) L.nil))) (S.expr (E.met isL (mutL fAppend) (E.var 4) (L.cons (E.call 2 (c 18) (L.cons (E.var 0) (L.cons (E.var 1) L.nil))) L.nil)))))))
theorem test3 (v k : Int) (A B C : Option D) (r : List (Option D)) (h : Hh) : T.val (E.op2 D.eq (E.var 3) (E.con (.int k))) (A :: B :: C :: some (.int v) :: r) h = .ok (v == k) h := by
  simp [E.var, E.con, E.op2, E.op1, E.and, E.or, E.ofT, E.isi, isiD, tyNm, isiB, T.not, T.val, T.and, T.or, T.isN, T.notN, T.yes, T.tru, truthD, D.isN, E.chain, E.ifx, D.le, D.lt, D.ge, D.gt, D.add, D.sub, D.mul, D.mod, D.fdiv, D.pow, D.neg, D.eq, D.ne, D.flat, D.eqv, E.call, L.cons, L.nil, L.disp, E.tup, E.tuple, E.ofL, E.len, E.lenSet, Q.of, R.of, rdQ, rdL, E.app, D.toInt, D.max2, D.min2, R.toS, R.toG, R.bind, S.ret, S.retN, S.seq, S.ife, S.nil, S.expr, S.set, S.par, S.asg, S.bad, S.for, E.gen, I.of, I.enum, srcE, srcD, L.comp, D.ix, E.sl, O.none, O.some, slD, E.met, isT, isL, D.tindex, wipeE, setC, Tg.name, Tg.cons, Tg.nil, Tg.tup, fits, runB, -List.map_take, -List.map_drop, -List.map_set, D.ixK, dctAt, lenC, rdC, leA_int, ltA_int, gtA_int, geA_int, I.ofK, srcK, Tg.subK, setK]
theorem habit_body (bd : Bd) [i : H_lw_order bd] (d : Nat) {ns : List Int} {m p : Nat} (h2 : 2 ≤ m) (hm : m ≤ 5) (hp : p < m) {v a b e : Int} (h0 : 0 ≤ v) (h1 : v < 5) (ha : 0 ≤ a) (Rs : List D) (hL : Rs.length ≤ 100) (g j : Hh) (y z : Option D) :
    ∃ (r : List Int) (a' b' e' : Int) (y' z' : Option D) (j' : Hh), habitB (runF bd (d + 2)) [some (.ref 1), some (.int m), some (.int p), some (.int v), some (.ref (g.length + 2)), y, z, none] (Fz ns :: rw3 a b e :: (g ++ .lst Rs :: j)) =
      .nx [some (.ref 1), some (.int m), some (.int p), some (.int v), some (.ref (g.length + 2)), y', z', none] (Fz ns :: rw3 a' b' e' :: (g ++ .lst (Rs ++ [tl r]) :: j')) ∧ 0 ≤ a' ∧ Prm m r := by
  obtain ⟨p0, p1, p2⟩ := rows_prm h2 hm hp
  have hv : v = 0 ∨ v = 1 ∨ v = 2 ∨ v = 3 ∨ v = 4 := by omega
  rcases hv with rfl | rfl | rfl | rfl | rfl
  · exact ⟨row0 m p, a, b, e, y, z, j, by rw [habitB, ife_t (test3 ..)]; exact way0 (runF bd (d + 2)) hm (by omega) ns a b e Rs hL g j _ y z, ha, p0⟩
  · exact ⟨row1 m p, a, b, e, _, z, _, by rw [habitB, ife_f (test3 ..), ife_t (test3 ..)]; exact way1 (runF bd (d + 2)) hm hp ns a b e Rs hL g j _ y z, ha, p1⟩
  · exact ⟨row2 m p, a, b, e, _, _, _, by rw [habitB, ife_f (test3 ..), ife_f (test3 ..), ife_t (test3 ..)]; exact way2 (runF bd (d + 2)) hm hp ns a b e Rs hL g j _ y z, ha, p2⟩
  · obtain ⟨u, a1, b1, e1, hc, u0, u1, ha1⟩ := taken_ok bd (d + 1) (ns := ns) (a := a) (b := b) (c := e) (many := 2) (g ++ .lst Rs :: j) ha (by omega) (by omega)
    have hc : runF bd (d + 2) 17 [.ref 1, .int 2] (Fz ns :: rw3 a b e :: (g ++ .lst Rs :: j)) = .ok (.int u) (Fz ns :: rw3 a1 b1 e1 :: (g ++ .lst Rs :: j)) := hc
    obtain ⟨l, a2, b2, e2, hc2, ha2, pl⟩ := order_ok bd d (ns := ns) (a := a1) (b := b1) (e := e1) (m := m) (g ++ .lst Rs :: j) ha1 hm
    generalize runF bd (d + 2) = c at *
    have tt : T.and (T.val (E.op2 D.eq (E.var 3) (E.con (.int 3)))) (T.val (E.op2 D.eq (E.call 2 (c 17) (L.cons (E.var 0) (L.cons (E.con (.int 2)) L.nil))) (E.con (.int 0)))) [some (.ref 1), some (.int m), some (.int p), some (.int 3), some (.ref (g.length + 2)), y, z, none] (Fz ns :: rw3 a b e :: (g ++ .lst Rs :: j)) = .ok (u == 0) (Fz ns :: rw3 a1 b1 e1 :: (g ++ .lst Rs :: j)) := by
      simp [E.var, E.con, E.op2, E.op1, E.and, E.or, E.ofT, E.isi, isiD, tyNm, isiB, T.not, T.val, T.and, T.or, T.isN, T.notN, T.yes, T.tru, truthD, D.isN, E.chain, E.ifx, D.le, D.lt, D.ge, D.gt, D.add, D.sub, D.mul, D.mod, D.fdiv, D.pow, D.neg, D.eq, D.ne, D.flat, D.eqv, E.call, L.cons, L.nil, L.disp, E.tup, E.tuple, E.ofL, E.len, E.lenSet, Q.of, R.of, rdQ, rdL, E.app, D.toInt, D.max2, D.min2, R.toS, R.toG, R.bind, S.ret, S.retN, S.seq, S.ife, S.nil, S.expr, S.set, S.par, S.asg, S.bad, S.for, E.gen, I.of, I.enum, srcE, srcD, L.comp, D.ix, E.sl, O.none, O.some, slD, E.met, isT, isL, D.tindex, wipeE, setC, Tg.name, Tg.cons, Tg.nil, Tg.tup, fits, runB, -List.map_take, -List.map_drop, -List.map_set, D.ixK, dctAt, lenC, rdC, leA_int, ltA_int, gtA_int, geA_int, I.ofK, srcK, Tg.subK, setK, hc]
    by_cases hu : u = 0
    · subst hu
      exact ⟨rg m, a1, b1, e1, y, z, j, by rw [habitB, ife_f (test3 ..), ife_f (test3 ..), ife_f (test3 ..), ife_t tt]; exact way3 c hm ns a1 b1 e1 Rs hL g j _ _ y z, ha1, List.Perm.refl _⟩
    · have hu2 : (u == 0) = false := by simpa using hu
      rw [hu2] at tt
      exact ⟨l, a2, b2, e2, y, z, j, by rw [habitB, ife_f (test3 ..), ife_f (test3 ..), ife_f (test3 ..), ife_f tt]; exact way4 c ns a1 b1 e1 a2 b2 e2 Rs hL g j _ _ y z l hc2, ha2, pl⟩
  · obtain ⟨l, a2, b2, e2, hc2, ha2, pl⟩ := order_ok bd d (ns := ns) (a := a) (b := b) (e := e) (m := m) (g ++ .lst Rs :: j) ha hm
    generalize runF bd (d + 2) = c at *
    have tt : T.and (T.val (E.op2 D.eq (E.var 3) (E.con (.int 3)))) (T.val (E.op2 D.eq (E.call 2 (c 17) (L.cons (E.var 0) (L.cons (E.con (.int 2)) L.nil))) (E.con (.int 0)))) [some (.ref 1), some (.int m), some (.int p), some (.int 4), some (.ref (g.length + 2)), y, z, none] (Fz ns :: rw3 a b e :: (g ++ .lst Rs :: j)) = .ok false (Fz ns :: rw3 a b e :: (g ++ .lst Rs :: j)) := by
      simp [E.var, E.con, E.op2, E.op1, E.and, E.or, E.ofT, E.isi, isiD, tyNm, isiB, T.not, T.val, T.and, T.or, T.isN, T.notN, T.yes, T.tru, truthD, D.isN, E.chain, E.ifx, D.le, D.lt, D.ge, D.gt, D.add, D.sub, D.mul, D.mod, D.fdiv, D.pow, D.neg, D.eq, D.ne, D.flat, D.eqv, E.call, L.cons, L.nil, L.disp, E.tup, E.tuple, E.ofL, E.len, E.lenSet, Q.of, R.of, rdQ, rdL, E.app, D.toInt, D.max2, D.min2, R.toS, R.toG, R.bind, S.ret, S.retN, S.seq, S.ife, S.nil, S.expr, S.set, S.par, S.asg, S.bad, S.for, E.gen, I.of, I.enum, srcE, srcD, L.comp, D.ix, E.sl, O.none, O.some, slD, E.met, isT, isL, D.tindex, wipeE, setC, Tg.name, Tg.cons, Tg.nil, Tg.tup, fits, runB, -List.map_take, -List.map_drop, -List.map_set, D.ixK, dctAt, lenC, rdC, leA_int, ltA_int, gtA_int, geA_int, I.ofK, srcK, Tg.subK, setK]
    exact ⟨l, a2, b2, e2, y, z, j, by rw [habitB, ife_f (test3 ..), ife_f (test3 ..), ife_f (test3 ..), ife_f tt]; exact way4 c ns a b e a2 b2 e2 Rs hL g j _ _ y z l hc2, ha2, pl⟩
theorem habit_loop (bd : Bd) [i : H_lw_order bd] (d : Nat) {ns : List Int} {m : Nat} (g : Hh) (h2 : 2 ≤ m) (hm : m ≤ 5) {v : Int} (h0 : 0 ≤ v) (h1 : v < 5) : ∀ (ps : List Nat) (Rs : List (List Int)) (a b e : Int) (x y z : Option D) (j : Hh), (∀ p ∈ ps, p < m) → Rs.length + ps.length ≤ 100 → 0 ≤ a →
    ∃ (hb : List (List Int)) (a' b' e' : Int) (x' y' z' : Option D) (j' : Hh), S.forGo ⟨(rg m).map D.int, none⟩ (Tg.name 2) (habitB (runF bd (d + 2))) (ps.map fun (p : Nat) => D.int p) [some (.ref 1), some (.int m), x, some (.int v), some (.ref (g.length + 2)), y, z, none] (Fz ns :: rw3 a b e :: (g ++ .lst (Rs.map fun l => tl l) :: j)) =
      .nx [some (.ref 1), some (.int m), x', some (.int v), some (.ref (g.length + 2)), y', z', none] (Fz ns :: rw3 a' b' e' :: (g ++ .lst ((Rs ++ hb).map fun l => tl l) :: j')) ∧ 0 ≤ a' ∧ hb.length = ps.length ∧ ∀ r ∈ hb, Prm m r := by
  intro ps
  induction ps with
  | nil => intro Rs a b e x y z j _ _ ha; exact ⟨[], a, b, e, x, y, z, j, by rw [List.append_nil]; exact forGo_nil rfl, ha, rfl, fun r hr => by cases hr⟩
  | cons p ps ih =>
    intro Rs a b e x y z j hp hl ha
    obtain ⟨r, a1, b1, e1, y1, z1, j1, hb1, ha1, hr⟩ := habit_body bd d (ns := ns) h2 hm (hp p List.mem_cons_self) (v := v) (a := a) (b := b) (e := e) h0 h1 ha (Rs.map fun l => tl l) (by rw [List.length_map]; simp at hl; omega) g j y z
    obtain ⟨hb, a2, b2, e2, x2, y2, z2, j2, q, ha2, hlen, hprm⟩ := ih (Rs ++ [r]) a1 b1 e1 (some (.int p)) y1 z1 j1 (fun q hq => hp q (List.mem_cons_of_mem _ hq)) (by simp at hl ⊢; omega) ha1
    refine ⟨r :: hb, a2, b2, e2, x2, y2, z2, j2, ?_, ha2, by rw [List.length_cons, List.length_cons, hlen], fun q hq => (List.mem_cons.mp hq).elim (fun z => z ▸ hr) (hprm q)⟩
    rw [show Rs ++ r :: hb = Rs ++ [r] ++ hb by simp, ← q, List.map_cons]
    rw [show ((Rs ++ [r]).map fun l => tl l) = (Rs.map fun l => tl l) ++ [tl r] by simp]
    exact forGo_cons (s := ⟨(rg m).map D.int, none⟩) (g := Tg.name 2) (b := habitB (runF bd (d + 2))) (d := D.int (p : Nat)) (env1 := [some (.ref 1), some (.int m), some (.int p), some (.int v), some (.ref (g.length + 2)), y, z, none]) (ok_none _ _) rfl hb1
theorem habit_ok (bd : Bd) [i : H_lw_habit bd] (d : Nat) {ns : List Int} {m : Nat} (h2 : 2 ≤ m) (hm : m ≤ 5) {a b e : Int} (g : Hh) (ha : 0 ≤ a) : ∃ (hb : List (List Int)) (a' b' e' : Int), runF bd (d + 3) 23 [.ref 1, .int m] (Fz ns :: rw3 a b e :: g) = .ok (H hb) (Fz ns :: rw3 a' b' e' :: g) ∧ 0 ≤ a' ∧ Hab m hb := by
  obtain ⟨v, a1, b1, e1, hc, v0, v1, ha1⟩ := taken_ok bd (d + 1) (ns := ns) (a := a) (b := b) (c := e) (many := 5) g ha (by omega) (by omega)
  obtain ⟨hb, a2, b2, e2, x2, y2, z2, j2, q, ha2, hlen, hprm⟩ := habit_loop bd d (ns := ns) g h2 hm v0 v1 (List.range m) [] a1 b1 e1 none none none [] (fun p hp => List.mem_range.mp hp) (by simp; omega) ha1
  refine ⟨hb, a2, b2, e2, ?_, ha2, ⟨by rw [hlen, List.length_range], h2, hm, hprm⟩⟩
  rw [runF_eq i.e_lw_habit]
  unfold b_lw_habit
  have hc : runF bd (d + 2) 17 [.ref 1, .int 5] (Fz ns :: rw3 a b e :: g) = .ok (.int v) (Fz ns :: rw3 a1 b1 e1 :: g) := hc
  have er : ((List.range m).map fun (p : Nat) => D.int p) = (rg m).map D.int := by unfold rg; rw [List.map_map]; rfl
  rw [er, List.nil_append] at q
  generalize runF bd (d + 2) = c at *
  have hr := rngS_rg (n := m) (by omega) (Fz ns :: rw3 a1 b1 e1 :: (g ++ [.lst []]))
  have s1 : S.par 3 4 (E.call 2 (c 17) (L.cons (E.var 0) (L.cons (E.con (.int 5)) L.nil))) (E.ofL (L.disp L.nil)) [some (.ref 1), some (.int m), none, none, none, none, none, none] (Fz ns :: rw3 a b e :: g) = .nx [some (.ref 1), some (.int m), none, some (.int v), some (.ref (g.length + 2)), none, none, none] (Fz ns :: rw3 a1 b1 e1 :: (g ++ [.lst []])) := by
    simp [E.var, E.con, E.op2, E.op1, E.and, E.or, E.ofT, E.isi, isiD, tyNm, isiB, T.not, T.val, T.and, T.or, T.isN, T.notN, T.yes, T.tru, truthD, D.isN, E.chain, E.ifx, D.le, D.lt, D.ge, D.gt, D.add, D.sub, D.mul, D.mod, D.fdiv, D.pow, D.neg, D.eq, D.ne, D.flat, D.eqv, E.call, L.cons, L.nil, L.disp, E.tup, E.tuple, E.ofL, E.len, E.lenSet, Q.of, R.of, rdQ, rdL, E.app, D.toInt, D.max2, D.min2, R.toS, R.toG, R.bind, S.ret, S.retN, S.seq, S.ife, S.nil, S.expr, S.set, S.par, S.asg, S.bad, S.for, E.gen, I.of, I.enum, srcE, srcD, L.comp, D.ix, E.sl, O.none, O.some, slD, E.met, isT, isL, D.tindex, wipeE, setC, Tg.name, Tg.cons, Tg.nil, Tg.tup, fits, runB, -List.map_take, -List.map_drop, -List.map_set, D.ixK, dctAt, lenC, rdC, leA_int, ltA_int, gtA_int, geA_int, I.ofK, srcK, Tg.subK, setK, hc]
  have s2 : I.rng1 (E.var 1) [some (.ref 1), some (.int m), none, some (.int v), some (.ref (g.length + 2)), none, none, none] (Fz ns :: rw3 a1 b1 e1 :: (g ++ [.lst []])) = .ok ⟨(rg m).map D.int, none⟩ (Fz ns :: rw3 a1 b1 e1 :: (g ++ [.lst []])) := by
    simp [E.var, E.con, E.op2, E.op1, E.and, E.or, E.ofT, E.isi, isiD, tyNm, isiB, T.not, T.val, T.and, T.or, T.isN, T.notN, T.yes, T.tru, truthD, D.isN, E.chain, E.ifx, D.le, D.lt, D.ge, D.gt, D.add, D.sub, D.mul, D.mod, D.fdiv, D.pow, D.neg, D.eq, D.ne, D.flat, D.eqv, E.call, L.cons, L.nil, L.disp, E.tup, E.tuple, E.ofL, E.len, E.lenSet, Q.of, R.of, rdQ, rdL, E.app, D.toInt, D.max2, D.min2, R.toS, R.toG, R.bind, S.ret, S.retN, S.seq, S.ife, S.nil, S.expr, S.set, S.par, S.asg, S.bad, S.for, E.gen, I.of, I.enum, srcE, srcD, L.comp, D.ix, E.sl, O.none, O.some, slD, E.met, isT, isL, D.tindex, wipeE, setC, Tg.name, Tg.cons, Tg.nil, Tg.tup, fits, runB, -List.map_take, -List.map_drop, -List.map_set, D.ixK, dctAt, lenC, rdC, leA_int, ltA_int, gtA_int, geA_int, I.ofK, srcK, Tg.subK, setK, I.rng1, hr]
  refine (congrArg (trunc _) (runB_rt (d := H hb) (h1 := (Fz ns :: rw3 a2 b2 e2 :: g) ++ (.lst (hb.map fun l => tl l) :: j2)) ?_)).trans (trunc_drop' (by simp only [D.under]; exact unders_tl _ _) rfl ?_)
  · show S.seq _ _ [some (.ref 1), some (.int m), none, none, none, none, none, none] _ = _
    rw [seq_nx s1, seq_nx (for_of s2 q)]
    simp [E.var, E.con, E.op2, E.op1, E.and, E.or, E.ofT, E.isi, isiD, tyNm, isiB, T.not, T.val, T.and, T.or, T.isN, T.notN, T.yes, T.tru, truthD, D.isN, E.chain, E.ifx, D.le, D.lt, D.ge, D.gt, D.add, D.sub, D.mul, D.mod, D.fdiv, D.pow, D.neg, D.eq, D.ne, D.flat, D.eqv, E.call, L.cons, L.nil, L.disp, E.tup, E.tuple, E.ofL, E.len, E.lenSet, Q.of, R.of, rdQ, rdL, E.app, D.toInt, D.max2, D.min2, R.toS, R.toG, R.bind, S.ret, S.retN, S.seq, S.ife, S.nil, S.expr, S.set, S.par, S.asg, S.bad, S.for, E.gen, I.of, I.enum, srcE, srcD, L.comp, D.ix, E.sl, O.none, O.some, slD, E.met, isT, isL, D.tindex, wipeE, setC, Tg.name, Tg.cons, Tg.nil, Tg.tup, fits, runB, -List.map_take, -List.map_drop, -List.map_set, D.ixK, dctAt, lenC, rdC, leA_int, ltA_int, gtA_int, geA_int, I.ofK, srcK, Tg.subK, setK]
  · show agree (g.length + 2) (Fz ns :: rw3 a b e :: g) (Fz ns :: rw3 a2 b2 e2 :: (g ++ _)) = true
    simp only [agree, MO.beq_refl, MO.under, D.unders, D.under, agree_app, Bool.true_or, Bool.and_self, Bool.or_true, Bool.true_and, Bool.and_true]
    simp
end PF

set_option Elab.async false
set_option linter.all false
/-! Bfs2: searches of one kind from two starts. -/
namespace Bf
variable {α : Type} [DecidableEq α]
theorem ev_map {nx : α → Int → α} {m : Nat} {P : α → Prop} {φ : α → α} (hP : ∀ a p, P a → 0 ≤ p → p < (m : Int) → P (nx a p)) (hφ : ∀ a p, P a → 0 ≤ p → p < (m : Int) → φ (nx a p) = nx (φ a) p) : ∀ (w : W) (a : α), P a → Lt m w → P (ev nx a w) ∧ ev nx (φ a) w = φ (ev nx a w)
  | [], a, h, _ => ⟨h, rfl⟩
  | p :: w, a, h, hw => by
    have hp := hw p List.mem_cons_self
    obtain ⟨h1, h2⟩ := ev_map hP hφ w (nx a p) (hP a p h hp.1 hp.2) fun q hq => hw q (List.mem_cons_of_mem _ hq)
    refine ⟨h1, ?_⟩
    show ev nx (nx (φ a) p) w = _
    rw [← hφ a p h hp.1 hp.2, h2]
    rfl
theorem Fin.map {nx : α → Int → α} {m : Nat} {P : α → Prop} {φ : α → α} {s : α} {f f' : F α} (hP : ∀ a p, P a → 0 ≤ p → p < (m : Int) → P (nx a p)) (hφ : ∀ a p, P a → 0 ≤ p → p < (m : Int) → φ (nx a p) = nx (φ a) p) (inj : ∀ a b, P a → P b → φ a = φ b → a = b) (hs : P s) (F1 : Fin nx m s f) (F2 : Fin nx m (φ s) f') :
    (∀ a ∈ keys f, φ a ∈ keys f' ∧ wd f' (φ a) = wd f a) ∧ ∀ b ∈ keys f', ∃ a ∈ keys f, φ a = b := by
  refine ⟨fun a ha => ?_, fun b hb => ?_⟩
  · obtain ⟨h1, h2⟩ := F1.ok _ (wd_mem ha)
    obtain ⟨g1, g2⟩ := ev_map hP hφ (wd f a) s hs h2
    have h1 : ev nx s (wd f a) = a := h1
    rw [h1] at g1 g2
    have hk : φ a ∈ keys f' := F2.key_iff.mpr ⟨_, h2, g2⟩
    refine ⟨hk, ?_⟩
    have l1 : sle (wd f' (φ a)) (wd f a) := by
      have := F2.least h2
      rwa [g2] at this
    obtain ⟨k1, k2⟩ := F2.ok _ (wd_mem hk)
    obtain ⟨q1, q2⟩ := ev_map hP hφ (wd f' (φ a)) s hs k2
    have k1 : ev nx (φ s) (wd f' (φ a)) = φ a := k1
    rw [k1] at q2
    have e := inj _ _ g1 q1 q2
    have l2 : sle (wd f a) (wd f' (φ a)) := by
      have := F1.least k2
      rwa [← e] at this
    exact sle_antisymm l1 l2
  · obtain ⟨w, hw, e⟩ := F2.key_iff.mp hb
    obtain ⟨_, q2⟩ := ev_map hP hφ w s hs hw
    exact ⟨_, F1.key_iff.mpr ⟨w, hw, rfl⟩, by rw [← q2, e]⟩
theorem mem_wd {f : F α} (h : (keys f).Nodup) {x : α × W} (hx : x ∈ f) : x.1 ∈ keys f ∧ wd f x.1 = x.2 := ⟨List.mem_map.mpr ⟨x, hx, rfl⟩, wd_of h hx⟩
end Bf

set_option Elab.async false
set_option linter.all false
/-! Bfs3: more of searches: layers by length; the words of one length; the way back. -/
namespace Bf
variable {α : Type} [DecidableEq α]
theorem layer_ext {nx : α → Int → α} {m : Nat} {s : α} {n : Nat} {f : F α} {l : List α} (h : Inv nx m s n f l) : ∃ g, (layer nx m f l).1 = f ++ g ∧ (layer nx m f l).2 = keys g ∧ ∀ x ∈ g, x.2.length = n + 1 := by
  have hk : ∀ c ∈ cands m l, c.1 ∈ keys f := fun c hc => ((h.lst c.1).mp (mem_cands.mp hc).1).1
  obtain ⟨g, M⟩ := mid_all (nx := nx) (f0 := f) (cands m l) [] f [] [] ⟨by simp, rfl, h.nd, fun _ hx => by simp at hx, fun _ hx => by simp at hx, by simp⟩ hk (by simpa using cands_sorted h.srt)
  have e : layer nx m f l = (cands m l).foldl (step nx) (f, []) := rfl
  rw [← e] at M
  simp only [List.nil_append] at M
  refine ⟨g, M.eq, M.lat, fun x hx => ?_⟩
  obtain ⟨c, hc, r1, r2, r3⟩ := M.src x hx
  have := ((h.lst c.1).mp (mem_cands.mp hc).1).2
  rw [r2, List.length_append, this]
  rfl
/-- those of one length -/
def ofLen (n : Nat) (f : F α) : List α := (f.filter fun x => decide (x.2.length = n)).map (·.1)
theorem ofLen_layer {nx : α → Int → α} {m : Nat} {s : α} {n : Nat} {f : F α} {l : List α} (h : Inv nx m s n f l) : ofLen (n + 1) (layer nx m f l).1 = (layer nx m f l).2 := by
  obtain ⟨g, e1, e2, e3⟩ := layer_ext h
  rw [e1, e2]
  unfold ofLen keys
  rw [List.filter_append, List.map_append]
  have a : f.filter (fun x => decide (x.2.length = n + 1)) = [] := by
    rw [List.filter_eq_nil_iff]
    intro x hx
    have := (h.ok x hx).2.2
    simp
    omega
  have b : g.filter (fun x => decide (x.2.length = n + 1)) = g := by
    rw [List.filter_eq_self]
    intro x hx
    simpa using e3 x hx
  rw [a, b]
  rfl
theorem fin_mem {nx : α → Int → α} {m : Nat} {s : α} {f f' : F α} (F1 : Fin nx m s f) (F2 : Fin nx m s f') {x : α × W} (h : x ∈ f) : x ∈ f' := by
  obtain ⟨k1, k2⟩ := mem_wd F1.nd h
  obtain ⟨e1, e2⟩ := F1.ok x h
  have hk : x.1 ∈ keys f' := F2.key_iff.mpr (F1.key_iff.mp k1)
  have l1 : sle (wd f' x.1) x.2 := by
    have := F2.least e2
    rwa [e1] at this
  obtain ⟨g1, g2⟩ := F2.ok _ (wd_mem hk)
  have l2 : sle x.2 (wd f' x.1) := by
    have := F1.least g2
    rw [show ev nx s (wd f' x.1) = x.1 from g1, k2] at this
    exact this
  have := sle_antisymm l1 l2
  have h2 := wd_mem hk
  rw [this] at h2
  exact h2
theorem fin_keys {nx : α → Int → α} {m : Nat} {s : α} {f f' : F α} (F1 : Fin nx m s f) (F2 : Fin nx m s f') : (keys f).Perm (keys f') := by
  rw [List.perm_ext_iff_of_nodup F1.nd F2.nd]
  intro a
  rw [F1.key_iff, F2.key_iff]
theorem fin_has {nx : α → Int → α} {m : Nat} {s : α} {f f' : F α} (F1 : Fin nx m s f) (F2 : Fin nx m s f') (a : α) : has f a = has f' a := by
  rw [Bool.eq_iff_iff, has_iff, has_iff, F1.key_iff, F2.key_iff]
theorem fin_wd {nx : α → Int → α} {m : Nat} {s : α} {f f' : F α} (F1 : Fin nx m s f) (F2 : Fin nx m s f') {a : α} (h : a ∈ keys f) : wd f a = wd f' a := by
  have := fin_mem F1 F2 (wd_mem h)
  exact (wd_of F2.nd this).symm
/-! ### words of one length -/
def xstep (nx : α → Int → α) (g : F α) (c : (α × W) × Int) : F α := if has g (nx c.1.1 c.2) then g else g ++ [(nx c.1.1 c.2, c.1.2 ++ [c.2])]
def xcands (m : Nat) (L : F α) : List ((α × W) × Int) := L.flatMap fun x => (rg m).map fun p => (x, p)
def xlayer (nx : α → Int → α) (m : Nat) (L : F α) : F α := (xcands m L).foldl (xstep nx) []
structure XMid (nx : α → Int → α) (done : List ((α × W) × Int)) (g : F α) : Prop where
  nd : (keys g).Nodup
  src : ∀ x ∈ g, ∃ c ∈ done, x.1 = nx c.1.1 c.2 ∧ x.2 = c.1.2 ++ [c.2]
  all : ∀ c ∈ done, ∃ x ∈ g, x.1 = nx c.1.1 c.2 ∧ lle x.2 (c.1.2 ++ [c.2])
  srt : g.Pairwise fun x y => llt x.2 y.2
theorem xmid_step {nx : α → Int → α} {done : List ((α × W) × Int)} {g : F α} (h : XMid nx done g) (c : (α × W) × Int) (hs : ∀ c' ∈ done, llt (c'.1.2 ++ [c'.2]) (c.1.2 ++ [c.2])) : XMid nx (done ++ [c]) (xstep nx g c) := by
  obtain ⟨nd, src, all, srt⟩ := h
  unfold xstep
  by_cases hh : has g (nx c.1.1 c.2) = true
  · rw [if_pos hh]
    refine ⟨nd, fun x hx => ?_, fun c' hc' => ?_, srt⟩
    · obtain ⟨c0, h0, r⟩ := src x hx
      exact ⟨c0, List.mem_append_left _ h0, r⟩
    · rcases List.mem_append.mp hc' with hc' | hc'
      · exact all c' hc'
      · simp only [List.mem_singleton] at hc'
        subst hc'
        obtain ⟨x, hx, ex⟩ := List.mem_map.mp (has_iff.mp hh)
        obtain ⟨c0, h0, r1, r2⟩ := src x hx
        exact ⟨x, hx, ex, .inr (by rw [r2]; exact hs c0 h0)⟩
  · rw [if_neg hh]
    have hnk : nx c.1.1 c.2 ∉ keys g := fun z => hh (has_iff.mpr z)
    refine ⟨?_, fun x hx => ?_, fun c' hc' => ?_, ?_⟩
    · rw [keys, List.map_append, List.nodup_append]
      refine ⟨nd, by simp, fun a ha b hb => ?_⟩
      simp only [List.map_cons, List.map_nil, List.mem_singleton] at hb
      subst hb
      exact fun e => hnk (by rw [← e]; exact ha)
    · rcases List.mem_append.mp hx with hx | hx
      · obtain ⟨c0, h0, r⟩ := src x hx
        exact ⟨c0, List.mem_append_left _ h0, r⟩
      · simp only [List.mem_singleton] at hx
        subst hx
        exact ⟨c, by simp, rfl, rfl⟩
    · rcases List.mem_append.mp hc' with hc' | hc'
      · obtain ⟨x, hx, r⟩ := all c' hc'
        exact ⟨x, List.mem_append_left _ hx, r⟩
      · simp only [List.mem_singleton] at hc'
        subst hc'
        exact ⟨_, List.mem_append_right _ (List.mem_singleton.mpr rfl), rfl, lle_refl _⟩
    · rw [List.pairwise_append]
      refine ⟨srt, by simp, fun x hx y hy => ?_⟩
      simp only [List.mem_singleton] at hy
      subst hy
      obtain ⟨c0, h0, r1, r2⟩ := src x hx
      rw [r2]
      exact hs c0 h0
theorem xmid_all {nx : α → Int → α} : ∀ (cs done : List ((α × W) × Int)) (g : F α), XMid nx done g → ((done ++ cs).Pairwise fun c c' => llt (c.1.2 ++ [c.2]) (c'.1.2 ++ [c'.2])) → XMid nx (done ++ cs) (cs.foldl (xstep nx) g)
  | [], done, g, h, _ => by simpa using h
  | c :: cs, done, g, h, hp => by
    have hp' : ((done ++ [c]) ++ cs).Pairwise fun c c' => llt (c.1.2 ++ [c.2]) (c'.1.2 ++ [c'.2]) := by simpa using hp
    have h1 := xmid_step h c fun c' hc' => (List.pairwise_append.mp (List.pairwise_append.mp hp').1).2.2 c' hc' c (by simp)
    have h2 := xmid_all cs (done ++ [c]) _ h1 hp'
    simpa using h2
theorem xcands_sorted {m : Nat} : ∀ {L : F α}, (L.Pairwise fun a b => llt a.2 b.2) → (xcands m L).Pairwise fun c c' => llt (c.1.2 ++ [c.2]) (c'.1.2 ++ [c'.2])
  | [], _ => by simp [xcands]
  | a :: l, h => by
    rw [List.pairwise_cons] at h
    have ih := xcands_sorted (m := m) h.2
    show ((rg m).map (fun p => (a, p)) ++ xcands m l).Pairwise _
    rw [List.pairwise_append]
    refine ⟨?_, ih, fun x hx y hy => ?_⟩
    · rw [List.pairwise_map]
      exact (rg_sorted m).imp fun hpq => llt_pre _ (llt_one hpq)
    · obtain ⟨p, _, rfl⟩ := List.mem_map.mp hx
      obtain ⟨b, hb, hy⟩ := List.mem_flatMap.mp hy
      obtain ⟨q, _, rfl⟩ := List.mem_map.mp hy
      exact llt_app _ _ (h.1 b hb)
theorem mem_xcands {m : Nat} {L : F α} {c : (α × W) × Int} : c ∈ xcands m L ↔ c.1 ∈ L ∧ 0 ≤ c.2 ∧ c.2 < m := by
  simp only [xcands, List.mem_flatMap, List.mem_map, mem_rg]
  constructor
  · rintro ⟨a, ha, p, hp, rfl⟩; exact ⟨ha, hp⟩
  · rintro ⟨h1, h2⟩; exact ⟨c.1, h1, c.2, h2, rfl⟩
structure XInv (nx : α → Int → α) (m : Nat) (s : α) (k : Nat) (L : F α) : Prop where
  nd : (keys L).Nodup
  ok : ∀ x ∈ L, ev nx s x.2 = x.1 ∧ Lt m x.2 ∧ x.2.length = k
  srt : L.Pairwise fun x y => llt x.2 y.2
  all : ∀ v : W, Lt m v → v.length = k → ∃ w, (ev nx s v, w) ∈ L ∧ lle w v
theorem xinv0 (nx : α → Int → α) (m : Nat) (s : α) : XInv nx m s 0 [(s, [])] where
  nd := by simp [keys]
  ok := fun x hx => by simp at hx; subst hx; exact ⟨rfl, fun _ h => by simp at h, rfl⟩
  srt := by simp
  all := fun v hv hl => by
    have : v = [] := List.length_eq_zero_iff.mp hl
    subst this
    exact ⟨[], by simp [ev], lle_refl _⟩
theorem xinv_layer {nx : α → Int → α} {m : Nat} {s : α} {k : Nat} {L : F α} (h : XInv nx m s k L) : XInv nx m s (k + 1) (xlayer nx m L) := by
  have M := xmid_all (nx := nx) (xcands m L) [] [] ⟨by simp [keys], fun _ hx => by simp at hx, fun _ hx => by simp at hx, by simp⟩ (by simpa using xcands_sorted h.srt)
  simp only [List.nil_append] at M
  rw [show (xcands m L).foldl (xstep nx) [] = xlayer nx m L from rfl] at M
  refine ⟨M.nd, fun x hx => ?_, M.srt, fun v hv hl => ?_⟩
  · obtain ⟨c, hc, r1, r2⟩ := M.src x hx
    have hcl := mem_xcands.mp hc
    obtain ⟨a1, a2, a3⟩ := h.ok _ hcl.1
    refine ⟨?_, ?_, by rw [r2]; simp; exact a3⟩
    · rw [r2, ev_snoc, r1]
      exact congrArg (fun z => nx z c.2) a1
    · rw [r2]
      intro p hp
      rcases List.mem_append.mp hp with hp | hp
      · exact a2 p hp
      · simp at hp; subst hp; exact hcl.2
  · have hv0 : v ≠ [] := fun e => by subst e; simp at hl
    obtain ⟨u, p, rfl⟩ : ∃ u p, v = u ++ [p] := ⟨v.dropLast, v.getLast hv0, (List.dropLast_concat_getLast hv0).symm⟩
    have hu : Lt m u := fun q hq => hv q (List.mem_append_left _ hq)
    have hp : 0 ≤ p ∧ p < (m : Int) := hv p (List.mem_append_right _ (by simp))
    obtain ⟨w1, h1, h2⟩ := h.all u hu (by simpa using hl)
    obtain ⟨x, hx, r1, r2⟩ := M.all ((ev nx s u, w1), p) (mem_xcands.mpr ⟨h1, hp⟩)
    refine ⟨x.2, ?_, lle_trans r2 (lle_app _ h2)⟩
    rw [ev_snoc, ← show x.1 = nx (ev nx s u) p from r1]
    exact hx
def xgo (nx : α → Int → α) (m : Nat) (s : α) : Nat → F α
  | 0 => [(s, [])]
  | k + 1 => xlayer nx m (xgo nx m s k)
theorem xgo_inv (nx : α → Int → α) (m : Nat) (s : α) : ∀ k, XInv nx m s k (xgo nx m s k)
  | 0 => xinv0 nx m s
  | k + 1 => xinv_layer (xgo_inv nx m s k)
theorem lle_len {u v : W} (h : lle u v) (e : u.length = v.length) : sle u v := .inr ⟨e, h⟩
/-- the least word that the search found is the least of its length -/
theorem x_is {nx : α → Int → α} {m : Nat} {s : α} {f : F α} (F1 : Fin nx m s f) {a : α} (h : a ∈ keys f) : (a, wd f a) ∈ xgo nx m s (wd f a).length := by
  have X := xgo_inv nx m s (wd f a).length
  obtain ⟨e1, e2⟩ := F1.ok _ (wd_mem h)
  have e1 : ev nx s (wd f a) = a := e1
  obtain ⟨w, h1, h2⟩ := X.all (wd f a) e2 rfl
  rw [e1] at h1
  obtain ⟨g1, g2, g3⟩ := X.ok _ h1
  have l1 : sle w (wd f a) := lle_len h2 g3
  have l2 : sle (wd f a) w := by
    have := F1.least g2
    rwa [show ev nx s w = a from g1] at this
  rw [sle_antisymm l2 l1]
  rwa [sle_antisymm l2 l1] at h1
/-! ### the way back -/
theorem pw_inj {T : α → α} {P : α → Prop} (hP : ∀ a, P a → P (T a)) (inj : ∀ a b, P a → P b → T a = T b → a = b) : ∀ (i : Nat) (a b : α), P a → P b → Nat.repeat T i a = Nat.repeat T i b → a = b := by
  have hPi : ∀ i a, P a → P (Nat.repeat T i a) := by
    intro i
    induction i with
    | zero => intro a h; exact h
    | succ i ih => intro a h; exact hP _ (ih a h)
  intro i
  induction i with
  | zero => intro a b _ _ h; exact h
  | succ i ih => intro a b ha hb h; exact ih a b ha hb (inj _ _ (hPi i a ha) (hPi i b hb) h)
end Bf

set_option Elab.async false
set_option linter.all false
set_option maxRecDepth 100000
set_option maxHeartbeats 1000000
namespace PF
open PySem DL
/-! ### alike -/
def Al (bd : Bd) (n : Nat) (d : D) : Prop := ∀ k h, runF bd (k + n) 24 [d, d] h = .ok (.bl true) h
theorem ixL_at {l : List D} {i : Nat} (hi : i < l.length) (h : Hh) : ixL l (i : Int) h = .ok l[i] h := by
  unfold ixL L2.atI
  rw [ixN_nat hi]
  simp [hi]
theorem al_int (bd : Bd) [i : H_lw_alike bd] (n : Nat) (a : Int) : Al bd (n + 1) (.int a) := fun k h => by
  rw [← Nat.add_assoc, runF_eq i.e_lw_alike]
  unfold b_lw_alike
  simp [E.var, E.con, E.op2, E.op1, E.and, E.or, E.ofT, E.isi, isiD, tyNm, isiB, T.not, T.val, T.and, T.or, T.isN, T.notN, T.yes, T.tru, truthD, D.isN, E.chain, E.ifx, D.le, D.lt, D.ge, D.gt, D.add, D.sub, D.mul, D.mod, D.fdiv, D.pow, D.neg, D.eq, D.ne, D.flat, D.eqv, E.call, L.cons, L.nil, L.disp, E.tup, E.tuple, E.ofL, E.len, E.lenSet, Q.of, R.of, rdQ, rdL, E.app, D.toInt, D.max2, D.min2, R.toS, R.toG, R.bind, S.ret, S.retN, S.seq, S.ife, S.nil, S.expr, S.set, S.par, S.asg, S.bad, S.for, E.gen, I.of, I.enum, srcE, srcD, L.comp, D.ix, E.sl, O.none, O.some, slD, E.met, isT, isL, D.tindex, wipeE, setC, Tg.name, Tg.cons, Tg.nil, Tg.tup, fits, runB, -List.map_take, -List.map_drop, -List.map_set, D.ixK, dctAt, lenC, rdC, leA_int, ltA_int, gtA_int, geA_int, I.ofK, srcK, Tg.subK, setK, trunc_keep]
theorem al_non (bd : Bd) [i : H_lw_alike bd] (n : Nat) : Al bd (n + 1) .non := fun k h => by
  rw [← Nat.add_assoc, runF_eq i.e_lw_alike]
  unfold b_lw_alike
  simp [E.var, E.con, E.op2, E.op1, E.and, E.or, E.ofT, E.isi, isiD, tyNm, isiB, T.not, T.val, T.and, T.or, T.isN, T.notN, T.yes, T.tru, truthD, D.isN, E.chain, E.ifx, D.le, D.lt, D.ge, D.gt, D.add, D.sub, D.mul, D.mod, D.fdiv, D.pow, D.neg, D.eq, D.ne, D.flat, D.eqv, E.call, L.cons, L.nil, L.disp, E.tup, E.tuple, E.ofL, E.len, E.lenSet, Q.of, R.of, rdQ, rdL, E.app, D.toInt, D.max2, D.min2, R.toS, R.toG, R.bind, S.ret, S.retN, S.seq, S.ife, S.nil, S.expr, S.set, S.par, S.asg, S.bad, S.for, E.gen, I.of, I.enum, srcE, srcD, L.comp, D.ix, E.sl, O.none, O.some, slD, E.met, isT, isL, D.tindex, wipeE, setC, Tg.name, Tg.cons, Tg.nil, Tg.tup, fits, runB, -List.map_take, -List.map_drop, -List.map_set, D.ixK, dctAt, lenC, rdC, leA_int, ltA_int, gtA_int, geA_int, I.ofK, srcK, Tg.subK, setK, trunc_keep]
theorem al_comp (c : Calls) {l : List D} (hl : l.length ≤ 1000) (q : Hh) (X Y : D) (hX : ∀ i : Nat, (hi : i < l.length) → D.ixK X (.int i) q = .ok l[i] q) (hY : ∀ i : Nat, (hi : i < l.length) → D.ixK Y (.int i) q = .ok l[i] q) (hc : ∀ x ∈ l, c 24 [x, x] q = .ok (.bl true) q) :
    compGo ⟨(rg l.length).map D.int, none⟩ (.one 2) (T.not (T.val (E.call 2 (c 24) (L.cons (E.op2 D.ixK (E.var 0) (E.var 2)) (L.cons (E.op2 D.ixK (E.var 1) (E.var 2)) L.nil))))) (E.var 2) [some X, some Y, none] ((rg l.length).map D.int) q = .ok [] q := by
  have z := compGo_filter (s := ⟨(rg l.length).map D.int, none⟩) (tg := .one 2) (t := T.not (T.val (E.call 2 (c 24) (L.cons (E.op2 D.ixK (E.var 0) (E.var 2)) (L.cons (E.op2 D.ixK (E.var 1) (E.var 2)) L.nil))))) (e := E.var 2) (env := [some X, some Y, none]) (h := q) (p := fun _ => false) (f := id) rfl (l := (rg l.length).map D.int) (fun x hx => by
    obtain ⟨i, hi, rfl⟩ := List.mem_map.mp hx
    have hi := mem_rg.mp hi
    obtain ⟨j, rfl⟩ : ∃ j : Nat, i = j := ⟨i.toNat, by omega⟩
    have hj : j < l.length := by omega
    refine ⟨[some X, some Y, some (.int j)], rfl, ?_, fun z => by cases z⟩
    have e1 := hX j hj
    have e2 := hY j hj
    have e3 := hc _ (List.getElem_mem hj)
    generalize l[j] = v at *
    simp [T.not, T.val, E.call, L.cons, L.nil, E.op2, E.var, e1, e2, e3, R.bind])
  rw [z]
  simp
theorem al_tup (bd : Bd) [i : H_lw_alike bd] {n : Nat} {l : List D} (hl : l.length ≤ 1000) (ha : ∀ x ∈ l, Al bd n x) : Al bd (n + 1) (.tup l) := fun k h => by
  rw [← Nat.add_assoc, runF_eq i.e_lw_alike]
  unfold b_lw_alike
  have hr := rngS_rg (n := l.length) hl h
  have hx : ∀ i : Nat, (hi : i < l.length) → D.ixK (.tup l) (.int i) h = .ok l[i] h := fun i hi => by
    show D.ix (.tup l) (.int i) h = _
    exact ixL_at hi h
  have hc := al_comp (runF bd (k + n)) hl h (.tup l) (.tup l) hx hx fun x hx => ha x hx k h
  generalize runF bd (k + n) = c at *
  have hz : dvOf h (DX.l []) = some (.ls []) := by simp [dvOf, D.flats]
  simp [E.var, E.con, E.op2, E.op1, E.and, E.or, E.ofT, E.isi, isiD, tyNm, isiB, T.not, T.val, T.and, T.or, T.isN, T.notN, T.yes, T.tru, truthD, D.isN, E.chain, E.ifx, D.le, D.lt, D.ge, D.gt, D.add, D.sub, D.mul, D.mod, D.fdiv, D.pow, D.neg, D.eq, D.ne, D.flat, D.eqv, E.call, L.cons, L.nil, L.disp, E.tup, E.tuple, E.ofL, E.len, E.lenSet, Q.of, R.of, rdQ, rdL, E.app, D.toInt, D.max2, D.min2, R.toS, R.toG, R.bind, S.ret, S.retN, S.seq, S.ife, S.nil, S.expr, S.set, S.par, S.asg, S.bad, S.for, E.gen, I.of, I.enum, srcE, srcD, L.comp, D.ix, E.sl, O.none, O.some, slD, E.met, isT, isL, D.tindex, wipeE, setC, Tg.name, Tg.cons, Tg.nil, Tg.tup, fits, runB, -List.map_take, -List.map_drop, -List.map_set, D.ixK, dctAt, lenC, rdC, leA_int, ltA_int, gtA_int, geA_int, I.ofK, srcK, Tg.subK, setK, I.rng1, hr, hc, T.eqX, XX.ofL, hz, DV.eqv, D.eqvs, trunc_keep]
theorem al_tl (bd : Bd) [i : H_lw_alike bd] (n : Nat) {l : List Int} (hl : l.length ≤ 1000) : Al bd (n + 2) (tl l) := al_tup bd (by simpa using hl) fun x hx => by
  obtain ⟨v, _, rfl⟩ := List.mem_map.mp hx
  exact al_int bd n v
theorem al_rows (bd : Bd) [i : H_lw_alike bd] (n : Nat) {l : List (List Int)} (hl : l.length ≤ 1000) (hr : ∀ r ∈ l, r.length ≤ 1000) : Al bd (n + 3) (.tup (l.map fun r => tl r)) := al_tup bd (by simpa using hl) fun x hx => by
  obtain ⟨v, hv, rfl⟩ := List.mem_map.mp hx
  exact al_tl bd n (hr v hv)
theorem al_lists (bd : Bd) [i : H_lw_alike bd] (k : Nat) {l : List D} (hl : l.length ≤ 1000) {h : Hh} {r1 r2 : Nat} (e1 : h[r1]? = some (.lst l)) (e2 : h[r2]? = some (.lst l)) {n : Nat} (ha : ∀ x ∈ l, Al bd n x) : runF bd (k + n + 1) 24 [.ref r1, .ref r2] h = .ok (.bl true) h := by
  rw [runF_eq i.e_lw_alike]
  unfold b_lw_alike
  have hr := rngS_rg (n := l.length) hl h
  have hx : ∀ r : Nat, h[r]? = some (.lst l) → ∀ i : Nat, (hi : i < l.length) → D.ixK (.ref r) (.int i) h = .ok l[i] h := fun r e i hi => by
    unfold D.ixK dctAt
    simp only [e]
    unfold D.ix rdL
    simp only [e]
    exact ixL_at hi h
  have hc := al_comp (runF bd (k + n)) hl h (.ref r1) (.ref r2) (hx r1 e1) (hx r2 e2) fun x hx => ha x hx k h
  generalize runF bd (k + n) = c at *
  have hz : dvOf h (DX.l []) = some (.ls []) := by simp [dvOf, D.flats]
  simp [E.var, E.con, E.op2, E.op1, E.and, E.or, E.ofT, E.isi, isiD, tyNm, isiB, T.not, T.val, T.and, T.or, T.isN, T.notN, T.yes, T.tru, truthD, D.isN, E.chain, E.ifx, D.le, D.lt, D.ge, D.gt, D.add, D.sub, D.mul, D.mod, D.fdiv, D.pow, D.neg, D.eq, D.ne, D.flat, D.eqv, E.call, L.cons, L.nil, L.disp, E.tup, E.tuple, E.ofL, E.len, E.lenSet, Q.of, R.of, rdQ, rdL, E.app, D.toInt, D.max2, D.min2, R.toS, R.toG, R.bind, S.ret, S.retN, S.seq, S.ife, S.nil, S.expr, S.set, S.par, S.asg, S.bad, S.for, E.gen, I.of, I.enum, srcE, srcD, L.comp, D.ix, E.sl, O.none, O.some, slD, E.met, isT, isL, D.tindex, wipeE, setC, Tg.name, Tg.cons, Tg.nil, Tg.tup, fits, runB, -List.map_take, -List.map_drop, -List.map_set, D.ixK, dctAt, lenC, rdC, leA_int, ltA_int, gtA_int, geA_int, I.ofK, srcK, Tg.subK, setK, I.rng1, hr, hc, T.eqX, XX.ofL, hz, DV.eqv, D.eqvs, trunc_keep, e1, e2]
/-! ### touches, words -/
variable {m : Nat} {hb : List (List Int)}
theorem lw_touch_ok (bd : Bd) [i : H_lw_touch bd] (d : Nat) {lay : List Int} (hh : Hab m hb) (hp : Prm m lay) {p : Int} (h0 : 0 ≤ p) (h1 : p < m) (h : Hh) : runF bd (d + 1) 25 [H hb, tl lay, .int p] h = .ok (tl (touch hb lay p)) h := by
  rw [runF_eq i.e_lw_touch]
  unfold b_lw_touch
  have e := touch_core (runF bd d) hh hp h0 h1 h
  have hl := (touch_prm hh hp h0 h1).len
  have := hh.hi
  simp [E.var, E.con, E.op2, E.op1, E.and, E.or, E.ofT, E.isi, isiD, tyNm, isiB, T.not, T.val, T.and, T.or, T.isN, T.notN, T.yes, T.tru, truthD, D.isN, E.chain, E.ifx, D.le, D.lt, D.ge, D.gt, D.add, D.sub, D.mul, D.mod, D.fdiv, D.pow, D.neg, D.eq, D.ne, D.flat, D.eqv, E.call, L.cons, L.nil, L.disp, E.tup, E.tuple, E.ofL, E.len, E.lenSet, Q.of, R.of, rdQ, rdL, E.app, D.toInt, D.max2, D.min2, R.toS, R.toG, R.bind, S.ret, S.retN, S.seq, S.ife, S.nil, S.expr, S.set, S.par, S.asg, S.bad, S.for, E.gen, I.of, I.enum, srcE, srcD, L.comp, D.ix, E.sl, O.none, O.some, slD, E.met, isT, isL, D.tindex, wipeE, setC, Tg.name, Tg.cons, Tg.nil, Tg.tup, fits, runB, -List.map_take, -List.map_drop, -List.map_set, D.ixK, dctAt, lenC, rdC, leA_int, ltA_int, gtA_int, geA_int, I.ofK, srcK, Tg.subK, setK, e, hl, trunc_keep]
  rw [if_pos (by omega)]
  exact trunc_keep rfl
abbrev Wd (m : Nat) (w : List Int) : Prop := ∀ p ∈ w, 0 ≤ p ∧ p < (m : Int)
theorem behind_word_ok (bd : Bd) [i : H_behind_word bd] (d : Nat) {lay w : List Int} (hh : Hab m hb) (hp : Prm m lay) (hw : Wd m w) (h : Hh) : runF bd (d + 2) 20 [H hb, tl lay, tl w] h = .ok (tl (Bf.ev (touch hb) lay w)) h := by
  rw [runF_eq i.e_behind_word]
  unfold b_behind_word
  have key : ∀ (v lay : List Int) (x : Option D), Wd m v → Prm m lay → ∃ e, S.forGo ⟨w.map D.int, none⟩ (Tg.name 3) (S.set 1 (E.call 3 (runF bd (d + 1) 7) (L.cons (E.var 0) (L.cons (E.var 1) (L.cons (E.var 3) L.nil))))) (v.map D.int) [some (H hb), some (tl lay), some (tl w), x] h = .nx [some (H hb), some (tl (Bf.ev (touch hb) lay v)), some (tl w), e] h := by
    intro v
    induction v with
    | nil => intro lay x _ _; exact ⟨_, forGo_nil rfl⟩
    | cons p v ih =>
      intro lay x hv hp
      have hq := hv p List.mem_cons_self
      have e := behind_touch_ok bd d hh hp hq.1 hq.2 h
      obtain ⟨e', q⟩ := ih (touch hb lay p) (some (.int p)) (fun q hq => hv q (List.mem_cons_of_mem _ hq)) (touch_prm hh hp hq.1 hq.2)
      refine ⟨e', ?_⟩
      rw [show Bf.ev (touch hb) lay (p :: v) = Bf.ev (touch hb) (touch hb lay p) v from rfl, ← q]
      exact forGo_cons (env1 := [some (H hb), some (tl lay), some (tl w), some (.int p)]) (h1 := h) rfl rfl (by simp [E.var, E.con, E.op2, E.op1, E.and, E.or, E.ofT, E.isi, isiD, tyNm, isiB, T.not, T.val, T.and, T.or, T.isN, T.notN, T.yes, T.tru, truthD, D.isN, E.chain, E.ifx, D.le, D.lt, D.ge, D.gt, D.add, D.sub, D.mul, D.mod, D.fdiv, D.pow, D.neg, D.eq, D.ne, D.flat, D.eqv, E.call, L.cons, L.nil, L.disp, E.tup, E.tuple, E.ofL, E.len, E.lenSet, Q.of, R.of, rdQ, rdL, E.app, D.toInt, D.max2, D.min2, R.toS, R.toG, R.bind, S.ret, S.retN, S.seq, S.ife, S.nil, S.expr, S.set, S.par, S.asg, S.bad, S.for, E.gen, I.of, I.enum, srcE, srcD, L.comp, D.ix, E.sl, O.none, O.some, slD, E.met, isT, isL, D.tindex, wipeE, setC, Tg.name, Tg.cons, Tg.nil, Tg.tup, fits, runB, -List.map_take, -List.map_drop, -List.map_set, e])
  obtain ⟨e, q⟩ := key w lay none hw hp
  simp [E.var, E.con, E.op2, E.op1, E.and, E.or, E.ofT, E.isi, isiD, tyNm, isiB, T.not, T.val, T.and, T.or, T.isN, T.notN, T.yes, T.tru, truthD, D.isN, E.chain, E.ifx, D.le, D.lt, D.ge, D.gt, D.add, D.sub, D.mul, D.mod, D.fdiv, D.pow, D.neg, D.eq, D.ne, D.flat, D.eqv, E.call, L.cons, L.nil, L.disp, E.tup, E.tuple, E.ofL, E.len, E.lenSet, Q.of, R.of, rdQ, rdL, E.app, D.toInt, D.max2, D.min2, R.toS, R.toG, R.bind, S.ret, S.retN, S.seq, S.ife, S.nil, S.expr, S.set, S.par, S.asg, S.bad, S.for, E.gen, I.of, I.enum, srcE, srcD, L.comp, D.ix, E.sl, O.none, O.some, slD, E.met, isT, isL, D.tindex, wipeE, setC, Tg.name, Tg.cons, Tg.nil, Tg.tup, fits, runB, -List.map_take, -List.map_drop, -List.map_set, D.ixK, dctAt, lenC, rdC, leA_int, ltA_int, gtA_int, geA_int, I.ofK, srcK, Tg.subK, setK, q, trunc_keep]
theorem after_ok (bd : Bd) [i : H_after bd] (d : Nat) {lay w : List Int} (hh : Hab m hb) (hp : Prm m lay) (hw : Wd m w) (hl : w.length ≤ 400) (h : Hh) : runF bd (d + 5) 21 [H hb, tl lay, tl w] h = .ok (tl (Bf.ev (touch hb) lay w)) h := by
  rw [runF_eq i.e_after]
  unfold b_after
  have e1 := need_shelf_ok bd d hh hp h
  have e3 := behind_word_ok bd (d + 2) hh hp hw h
  have e2 : ∀ v : Int, 0 ≤ v → v ≤ m - 1 → runF bd (d + 4) 0 [.int v, .int 0, .int (m - 1)] h = .ok (.bl true) h := fun v h0 h1 => is_number_ok bd (d + 3) v 0 (m - 1) h h0 h1
  generalize runF bd (d + 4) = c at *
  have hg : genGo false ⟨w.map .int, none⟩ (.one 3) T.yes (E.call 3 (c 0) (L.cons (E.var 3) (L.cons (E.con (.int 0)) (L.cons (E.op2 D.sub (E.app lenC (L.cons (E.var 0) L.nil)) (E.con (.int 1))) L.nil)))) [some (H hb), some (tl lay), some (tl w), none] (w.map .int) h = .ok (.bl true) h := by
    refine genGo_all rfl fun x hx => ?_
    obtain ⟨v, hv, rfl⟩ := List.mem_map.mp hx
    have := hw v hv
    refine ⟨_, rfl, rfl, ?_⟩
    have e := e2 v this.1 (by omega)
    simp [E.var, E.con, E.op2, E.op1, E.and, E.or, E.ofT, E.isi, isiD, tyNm, isiB, T.not, T.val, T.and, T.or, T.isN, T.notN, T.yes, T.tru, truthD, D.isN, E.chain, E.ifx, D.le, D.lt, D.ge, D.gt, D.add, D.sub, D.mul, D.mod, D.fdiv, D.pow, D.neg, D.eq, D.ne, D.flat, D.eqv, E.call, L.cons, L.nil, L.disp, E.tup, E.tuple, E.ofL, E.len, E.lenSet, Q.of, R.of, rdQ, rdL, E.app, D.toInt, D.max2, D.min2, R.toS, R.toG, R.bind, S.ret, S.retN, S.seq, S.ife, S.nil, S.expr, S.set, S.par, S.asg, S.bad, S.for, E.gen, I.of, I.enum, srcE, srcD, L.comp, D.ix, E.sl, O.none, O.some, slD, E.met, isT, isL, D.tindex, wipeE, setC, Tg.name, Tg.cons, Tg.nil, Tg.tup, fits, runB, -List.map_take, -List.map_drop, -List.map_set, D.ixK, dctAt, lenC, rdC, leA_int, ltA_int, gtA_int, geA_int, I.ofK, srcK, Tg.subK, setK, e, hh.len]
  have a : ¬ (400 < (w.length : Int)) := by omega
  simp [E.var, E.con, E.op2, E.op1, E.and, E.or, E.ofT, E.isi, isiD, tyNm, isiB, T.not, T.val, T.and, T.or, T.isN, T.notN, T.yes, T.tru, truthD, D.isN, E.chain, E.ifx, D.le, D.lt, D.ge, D.gt, D.add, D.sub, D.mul, D.mod, D.fdiv, D.pow, D.neg, D.eq, D.ne, D.flat, D.eqv, E.call, L.cons, L.nil, L.disp, E.tup, E.tuple, E.ofL, E.len, E.lenSet, Q.of, R.of, rdQ, rdL, E.app, D.toInt, D.max2, D.min2, R.toS, R.toG, R.bind, S.ret, S.retN, S.seq, S.ife, S.nil, S.expr, S.set, S.par, S.asg, S.bad, S.for, E.gen, I.of, I.enum, srcE, srcD, L.comp, D.ix, E.sl, O.none, O.some, slD, E.met, isT, isL, D.tindex, wipeE, setC, Tg.name, Tg.cons, Tg.nil, Tg.tup, fits, runB, -List.map_take, -List.map_drop, -List.map_set, D.ixK, dctAt, lenC, rdC, leA_int, ltA_int, gtA_int, geA_int, I.ofK, srcK, Tg.subK, setK, e1, hg, a, e3, trunc_keep]
end PF

set_option Elab.async false
set_option linter.all false
set_option maxRecDepth 100000
set_option maxHeartbeats 1000000
namespace PF
open PySem DL
/-! ### dicts by layouts, of any values -/
def encV (v : List Int → D) (f : Bf.F (List Int)) : List (D × D) := f.map fun p => (tl p.1, v p.2)
theorem find_encV (v : List Int → D) (a : List Int) : ∀ f : Bf.F (List Int), findD (encV v f) (tl a).nk = (f.find? fun p => decide (p.1 = a)).map fun p => v p.2
  | [] => rfl
  | p :: f => by
    have ih := find_encV v a f
    unfold findD encV at ih ⊢
    rw [List.map_cons, List.find?_cons, List.find?_cons]
    by_cases h : p.1 = a
    · have h2 : (tl p.1).nk = (tl a).nk := nk_tl.mpr h
      simp only [h, h2, decide_true]
      rfl
    · have h2 : ¬ (tl p.1).nk = (tl a).nk := fun e => h (nk_tl.mp e)
      simp only [h, h2, decide_false]
      exact ih
theorem find_hasV (v : List Int → D) (a : List Int) (f : Bf.F (List Int)) : (findD (encV v f) (tl a).nk).isSome = Bf.has f a := by
  rw [find_encV, ← find_has, find_enc, Option.isSome_map, Option.isSome_map]
theorem find_wdV {v : List Int → D} {a : List Int} {f : Bf.F (List Int)} (h : a ∈ Bf.keys f) : findD (encV v f) (tl a).nk = some (v (Bf.wd f a)) := by
  rw [find_encV, Bf.wd]
  cases q : f.find? fun p => decide (p.1 = a) with
  | some p => rfl
  | none =>
    rw [List.find?_eq_none] at q
    obtain ⟨p, hp, e⟩ := List.mem_map.mp h
    exact (q p hp (by simpa using e)).elim
theorem find_noV {v : List Int → D} {a : List Int} {f : Bf.F (List Int)} (h : Bf.has f a = false) : findD (encV v f) (tl a).nk = none := by
  have := find_hasV v a f
  rw [h, Option.isSome_eq_false_iff, Option.isNone_iff_eq_none] at this
  exact this
theorem put_encV {v : List Int → D} {a w : List Int} {f : Bf.F (List Int)} {d : D} (ha : Bf.has f a = false) (hd : d = v w) : putD (encV v f) (tl a) d = encV v (f ++ [(a, w)]) := by
  unfold putD
  rw [find_hasV, ha, hd]
  simp [encV]
theorem dctAt_of {h : Hh} {n : Nat} {l : List (D × D)} {ep : Nat} (e : h[n]? = some (.dct l ep)) : dctAt h (.ref n) = some (n, l, ep) := by
  unfold dctAt
  simp only [e]
theorem in_V {v : List Int → D} {h : Hh} {n : Nat} {f : Bf.F (List Int)} (e : h[n]? = some (.dct (encV v f) f.length)) (neg : Bool) (a : List Int) : D.inA neg (tl a) (.ref n) h = .ok (.bl (if neg then !Bf.has f a else Bf.has f a)) h := by
  unfold D.inA D.inK
  simp only [dctAt_of e, kok_tl, find_hasV, if_true]
theorem ix_V {v : List Int → D} {h : Hh} {n : Nat} {f : Bf.F (List Int)} (e : h[n]? = some (.dct (encV v f) f.length)) {a : List Int} (ha : a ∈ Bf.keys f) : D.ixK (.ref n) (tl a) h = .ok (v (Bf.wd f a)) h := by
  unfold D.ixK
  simp only [dctAt_of e, kok_tl, find_wdV ha, if_true]
theorem set_V {v : List Int → D} {h : Hh} {n : Nat} {f : Bf.F (List Int)} (e : h[n]? = some (.dct (encV v f) f.length)) {a w : List Int} {d : D} {env : DL.Env} (ha : Bf.has f a = false) (hd : d = v w) (hl : f.length ≤ 10000) : setK (.ref n) (tl a) d env h = .ok env (h.set n (.dct (encV v (f ++ [(a, w)])) (f ++ [(a, w)]).length)) := by
  unfold setK
  have e1 : (encV v f).length = f.length := by simp [encV]
  have hb : Nat.ble (encV v f).length 16000000 = true := by rw [e1, Nat.ble_eq]; omega
  simp only [dctAt_of e, kok_tl, hb, Bool.and_self, if_true, put_encV ha hd]
  congr 2
  unfold epD
  rw [find_hasV, ha]
  simp
/-! ### the law's own search -/
variable {m : Nat} {hb : List (List Int)}
abbrev lenV : List Int → D := fun w => .int (w.length : Nat)
abbrev hpN (h : Hh) (f : Bf.F (List Int)) : Hh := h ++ [.dct (encV lenV f) f.length]
theorem hpN_get (h : Hh) (f : Bf.F (List Int)) : (hpN h f)[h.length]? = some (.dct (encV lenV f) f.length) := by simp [hpN]
abbrev nearB (c : Calls) : SΦ := (S.seq (S.set 6 (E.call 3 (c 25) (L.cons (E.var 0) (L.cons (E.var 7) (L.cons (E.var 5) L.nil))))) (S.ife (T.val (E.op2 (D.inA true) (E.var 6) (E.var 2))) (S.asg (E.tup (L.cons (E.op2 D.add (E.var 3) (E.con (.int 1))) (L.cons (E.con (.bl true)) L.nil))) (Tg.tup (Tg.cons (Tg.subK (E.var 2) (E.var 6)) (Tg.cons (Tg.name 4) Tg.nil)))) S.nil))
abbrev nEnv (hb : List (List Int)) (h : Hh) (x1 : Option D) (n : Nat) (g : Bool) (x5 x6 x7 : Option D) : DL.Env := [some (H hb), x1, some (.ref h.length), some (.int n), some (.bl g), x5, x6, x7]
theorem near_step (c : Calls) (h : Hh) (st : Bf.F (List Int) × List (List Int)) (a : List Int) (p : Int) (n : Nat) (x1 x6 : Option D)
    (hc : ∀ q, c 25 [H hb, tl a, .int p] q = .ok (tl (touch hb a p)) q) (hw : (Bf.wd st.1 a).length = n) (h1 : st.1.length ≤ 1000) :
    ∃ y6, nearB c (nEnv hb h x1 n (!st.2.isEmpty) (some (.int p)) x6 (some (tl a))) (hpN h st.1) = .nx (nEnv hb h x1 n (!(Bf.step (touch hb) st (a, p)).2.isEmpty) (some (.int p)) y6 (some (tl a))) (hpN h (Bf.step (touch hb) st (a, p)).1) := by
  refine ⟨some (tl (touch hb a p)), ?_⟩
  have hg := hpN_get h st.1
  have s1 : S.set 6 (E.call 3 (c 25) (L.cons (E.var 0) (L.cons (E.var 7) (L.cons (E.var 5) L.nil)))) (nEnv hb h x1 n (!st.2.isEmpty) (some (.int p)) x6 (some (tl a))) (hpN h st.1) = .nx (nEnv hb h x1 n (!st.2.isEmpty) (some (.int p)) (some (tl (touch hb a p))) (some (tl a))) (hpN h st.1) := by
    generalize hpN h st.1 = q at *
    simp [E.var, E.con, E.op2, E.op1, E.and, E.or, E.ofT, E.isi, isiD, tyNm, isiB, T.not, T.val, T.and, T.or, T.isN, T.notN, T.yes, T.tru, truthD, D.isN, E.chain, E.ifx, D.le, D.lt, D.ge, D.gt, D.add, D.sub, D.mul, D.mod, D.fdiv, D.pow, D.neg, D.eq, D.ne, D.flat, D.eqv, E.call, L.cons, L.nil, L.disp, E.tup, E.tuple, E.ofL, E.len, E.lenSet, Q.of, R.of, rdQ, rdL, E.app, D.toInt, D.max2, D.min2, R.toS, R.toG, R.bind, S.ret, S.retN, S.seq, S.ife, S.nil, S.expr, S.set, S.par, S.asg, S.bad, S.for, E.gen, I.of, I.enum, srcE, srcD, L.comp, D.ix, E.sl, O.none, O.some, slD, E.met, isT, isL, D.tindex, wipeE, setC, Tg.name, Tg.cons, Tg.nil, Tg.tup, fits, runB, -List.map_take, -List.map_drop, -List.map_set, D.ixK, dctAt, lenC, rdC, leA_int, ltA_int, gtA_int, geA_int, I.ofK, srcK, Tg.subK, setK, hc]
  unfold nearB
  rw [seq_nx s1]
  have t := in_V hg true (touch hb a p)
  have tt : T.val (E.op2 (D.inA true) (E.var 6) (E.var 2)) (nEnv hb h x1 n (!st.2.isEmpty) (some (.int p)) (some (tl (touch hb a p))) (some (tl a))) (hpN h st.1) = .ok (!Bf.has st.1 (touch hb a p)) (hpN h st.1) := by
    simp only [T.val, E.op2, E.var, List.getElem?_cons_succ, List.getElem?_cons_zero, R.bind_ok, t, if_true]
  unfold Bf.step
  by_cases q : Bf.has st.1 (touch hb a p) = true
  · rw [q] at tt
    rw [ife_f tt, if_pos q]
    rfl
  · have q' : Bf.has st.1 (touch hb a p) = false := by simpa using q
    rw [q'] at tt
    rw [ife_t tt, if_neg q]
    have e2 := fun env => set_V (env := env) hg (w := Bf.wd st.1 a ++ [p]) (d := .int ((n : Int) + 1)) q' (by simp [lenV, hw]) (by omega)
    have e3 : (hpN h st.1).set h.length (.dct (encV lenV (st.1 ++ [(touch hb a p, Bf.wd st.1 a ++ [p])])) (st.1 ++ [(touch hb a p, Bf.wd st.1 a ++ [p])]).length) = hpN h (st.1 ++ [(touch hb a p, Bf.wd st.1 a ++ [p])]) := by
      simp [hpN]
    rw [e3] at e2
    have eT : E.tup (L.cons (E.op2 D.add (E.var 3) (E.con (.int 1))) (L.cons (E.con (.bl true)) L.nil)) (nEnv hb h x1 n (!st.2.isEmpty) (some (.int p)) (some (tl (touch hb a p))) (some (tl a))) (hpN h st.1) = .ok (.tup [.int ((n : Int) + 1), .bl true]) (hpN h st.1) := by
      generalize hpN h st.1 = q at *
      simp [E.var, E.con, E.op2, E.op1, E.and, E.or, E.ofT, E.isi, isiD, tyNm, isiB, T.not, T.val, T.and, T.or, T.isN, T.notN, T.yes, T.tru, truthD, D.isN, E.chain, E.ifx, D.le, D.lt, D.ge, D.gt, D.add, D.sub, D.mul, D.mod, D.fdiv, D.pow, D.neg, D.eq, D.ne, D.flat, D.eqv, E.call, L.cons, L.nil, L.disp, E.tup, E.tuple, E.ofL, E.len, E.lenSet, Q.of, R.of, rdQ, rdL, E.app, D.toInt, D.max2, D.min2, R.toS, R.toG, R.bind, S.ret, S.retN, S.seq, S.ife, S.nil, S.expr, S.set, S.par, S.asg, S.bad, S.for, E.gen, I.of, I.enum, srcE, srcD, L.comp, D.ix, E.sl, O.none, O.some, slD, E.met, isT, isL, D.tindex, wipeE, setC, Tg.name, Tg.cons, Tg.nil, Tg.tup, fits, runB, -List.map_take, -List.map_drop, -List.map_set]
    unfold S.asg
    rw [eT]
    simp only [R.toS_ok, Tg.tup, Tg.cons, Tg.nil, Tg.subK, Tg.name, E.var, List.getElem?_cons_succ, List.getElem?_cons_zero, R.bind_ok, e2]
    simp
abbrev nearR (c : Calls) : SΦ := S.for (I.rng1 (E.app lenC (L.cons (E.var 0) L.nil))) (Tg.name 5) (nearB c)
theorem near_row_ok (c : Calls) (hh : Hab m hb) (h : Hh) (st : Bf.F (List Int) × List (List Int)) (a : List Int) (n : Nat) (x1 x5 x6 : Option D)
    (hc : ∀ p q, 0 ≤ p → p < (m : Int) → c 25 [H hb, tl a, .int p] q = .ok (tl (touch hb a p)) q) (ha : a ∈ Bf.keys st.1) (hw : (Bf.wd st.1 a).length = n) (h1 : st.1.length ≤ 900) :
    ((nearR c) (nEnv hb h x1 n (!st.2.isEmpty) x5 x6 (some (tl a))) (hpN h st.1)).sat (fun e q => ∃ y5 y6, e = nEnv hb h x1 n (!(((Bf.rg m).map fun p => (a, p)).foldl (Bf.step (touch hb)) st).2.isEmpty) y5 y6 (some (tl a)) ∧ q = hpN h (((Bf.rg m).map fun p => (a, p)).foldl (Bf.step (touch hb)) st).1) fun _ _ => False := by
  have hm := hh.hi
  have e1 : (I.rng1 (E.app lenC (L.cons (E.var 0) L.nil))) (nEnv hb h x1 n (!st.2.isEmpty) x5 x6 (some (tl a))) (hpN h st.1) = .ok ⟨(rg m).map D.int, none⟩ (hpN h st.1) := by
    have hr := rngS_rg (n := m) (by omega) (hpN h st.1)
    generalize hpN h st.1 = q at *
    simp [E.var, E.con, E.op2, E.op1, E.and, E.or, E.ofT, E.isi, isiD, tyNm, isiB, T.not, T.val, T.and, T.or, T.isN, T.notN, T.yes, T.tru, truthD, D.isN, E.chain, E.ifx, D.le, D.lt, D.ge, D.gt, D.add, D.sub, D.mul, D.mod, D.fdiv, D.pow, D.neg, D.eq, D.ne, D.flat, D.eqv, E.call, L.cons, L.nil, L.disp, E.tup, E.tuple, E.ofL, E.len, E.lenSet, Q.of, R.of, rdQ, rdL, E.app, D.toInt, D.max2, D.min2, R.toS, R.toG, R.bind, S.ret, S.retN, S.seq, S.ife, S.nil, S.expr, S.set, S.par, S.asg, S.bad, S.for, E.gen, I.of, I.enum, srcE, srcD, L.comp, D.ix, E.sl, O.none, O.some, slD, E.met, isT, isL, D.tindex, wipeE, setC, Tg.name, Tg.cons, Tg.nil, Tg.tup, fits, runB, -List.map_take, -List.map_drop, -List.map_set, D.ixK, dctAt, lenC, rdC, leA_int, ltA_int, gtA_int, geA_int, I.ofK, srcK, Tg.subK, setK, I.rng1, hr, hh.len]
  refine for_sat (enc := D.int) (fun pre e q => ∃ y5 y6, e = nEnv hb h x1 n (!((pre.map fun p => (a, p)).foldl (Bf.step (touch hb)) st).2.isEmpty) y5 y6 (some (tl a)) ∧ q = hpN h ((pre.map fun p => (a, p)).foldl (Bf.step (touch hb)) st).1) (rg m) e1 rfl ⟨x5, x6, rfl, rfl⟩ (fun _ _ _ _ _ => rfl) ?_ (fun e q h => h)
  rintro pre p post _ _ hl ⟨y5, y6, rfl, rfl⟩
  have hp : p ∈ rg m := by rw [hl]; simp
  have hp := mem_rg.mp hp
  have hlen := steps_len (touch hb) (pre.map fun p => (a, p)) st
  have hpl : pre.length ≤ 5 := by
    have : (rg m).length = m := rg_length m
    rw [hl] at this
    simp at this
    omega
  rw [List.length_map] at hlen
  obtain ⟨x, hx⟩ := steps_app (touch hb) (pre.map fun p => (a, p)) st
  have hw' : Bf.wd ((pre.map fun p => (a, p)).foldl (Bf.step (touch hb)) st).1 a = Bf.wd st.1 a := by rw [hx]; exact Bf.wd_app ha
  obtain ⟨z6, e⟩ := near_step (hb := hb) c h ((pre.map fun p => (a, p)).foldl (Bf.step (touch hb)) st) a p n x1 y6 (fun q => hc p q hp.1 hp.2) (by rw [hw']; exact hw) (by omega)
  refine ⟨_, _, rfl, ?_⟩
  unfold nearB at e
  show RS.satL ((S.seq _ _) _ _) _ _ _
  rw [show (List.set (nEnv hb h x1 n (!((pre.map fun p => (a, p)).foldl (Bf.step (touch hb)) st).2.isEmpty) y5 y6 (some (tl a))) 5 (some (.int p))) = nEnv hb h x1 n (!((pre.map fun p => (a, p)).foldl (Bf.step (touch hb)) st).2.isEmpty) (some (.int p)) y6 (some (tl a)) from rfl, e]
  refine ⟨some (.int p), z6, ?_, ?_⟩
  · rw [List.map_append, List.foldl_append]
    rfl
  · rw [List.map_append, List.foldl_append]
    rfl
end PF

set_option Elab.async false
set_option linter.all false
set_option maxRecDepth 100000
set_option maxHeartbeats 1000000
namespace PF
open PySem DL
variable {m : Nat} {hb : List (List Int)}
theorem near_lay_ok (c : Calls) (hh : Hab m hb) (h : Hh) (f : Bf.F (List Int)) (l : List (List Int)) (n : Nat) (x1 x5 x6 x7 : Option D)
    (hc : ∀ a p q, a ∈ l → 0 ≤ p → p < (m : Int) → c 25 [H hb, tl a, .int p] q = .ok (tl (touch hb a p)) q) (ha : ∀ a ∈ l, a ∈ Bf.keys f ∧ (Bf.wd f a).length = n) (h1 : f.length ≤ 120) (h2 : l.length ≤ 120) (i : IΦ)
    (hi : i (nEnv hb h x1 n false x5 x6 x7) (hpN h f) = .ok ⟨l.map fun x => tl x, none⟩ (hpN h f)) :
    ((S.for i (Tg.name 7) (nearR c)) (nEnv hb h x1 n false x5 x6 x7) (hpN h f)).sat (fun e q => ∃ y5 y6 y7, e = nEnv hb h x1 n (!(Bf.layer (touch hb) m f l).2.isEmpty) y5 y6 y7 ∧ q = hpN h (Bf.layer (touch hb) m f l).1) fun _ _ => False := by
  refine for_sat (enc := fun x => tl x) (fun pre e q => ∃ y5 y6 y7, e = nEnv hb h x1 n (!((Bf.cands m pre).foldl (Bf.step (touch hb)) (f, [])).2.isEmpty) y5 y6 y7 ∧ q = hpN h ((Bf.cands m pre).foldl (Bf.step (touch hb)) (f, [])).1) l hi rfl ⟨x5, x6, x7, rfl, rfl⟩ (fun _ _ _ _ _ => rfl) ?_ (fun e q h => h)
  rintro pre a post _ _ hl ⟨y5, y6, y7, rfl, rfl⟩
  have hal : a ∈ l := by rw [hl]; simp
  have hlen := steps_len (touch hb) (Bf.cands m pre) (f, [])
  have hcl := cands_len m pre
  have hpl : pre.length ≤ 120 := by
    have : pre.length ≤ l.length := by rw [hl]; simp
    omega
  have hm := hh.hi
  have hmul : pre.length * m ≤ 120 * 5 := Nat.mul_le_mul hpl hm
  obtain ⟨x, hx⟩ := steps_app (touch hb) (Bf.cands m pre) (f, [])
  have ha' : a ∈ Bf.keys ((Bf.cands m pre).foldl (Bf.step (touch hb)) (f, [])).1 := by rw [hx, Bf.keys, List.map_append]; exact List.mem_append_left _ (ha a hal).1
  have hw' : Bf.wd ((Bf.cands m pre).foldl (Bf.step (touch hb)) (f, [])).1 a = Bf.wd f a := by rw [hx]; exact Bf.wd_app (ha a hal).1
  simp only [List.length_nil] at hlen
  have := near_row_ok c hh h ((Bf.cands m pre).foldl (Bf.step (touch hb)) (f, [])) a n x1 y5 y6 (fun p q => hc a p q hal) ha' (by rw [hw']; exact (ha a hal).2) (by omega)
  obtain ⟨e, q, er, z5, z6, rfl, rfl⟩ := RS.sat_inv this
  refine ⟨nEnv hb h x1 n (!((Bf.cands m pre).foldl (Bf.step (touch hb)) (f, [])).2.isEmpty) y5 y6 (some (tl a)), _, rfl, ?_⟩
  rw [er]
  refine ⟨z5, z6, some (tl a), ?_, ?_⟩
  · rw [cands_app, List.foldl_append]
  · rw [cands_app, List.foldl_append]
theorem keys_filter {f : Bf.F (List Int)} (nd : (Bf.keys f).Nodup) (n : Nat) : (Bf.keys f).filter (fun a => decide ((Bf.wd f a).length = n)) = Bf.ofLen n f := by
  unfold Bf.ofLen
  have key : ∀ g : Bf.F (List Int), (∀ x ∈ g, x ∈ f) → (Bf.keys g).filter (fun a => decide ((Bf.wd f a).length = n)) = (g.filter fun x => decide (x.2.length = n)).map (·.1) := by
    intro g
    induction g with
    | nil => intro _; rfl
    | cons x g ih =>
      intro hg
      have h1 := ih fun y hy => hg y (by simp [hy])
      have h2 := (Bf.mem_wd nd (hg x (by simp))).2
      unfold Bf.keys at h1 ⊢
      rw [List.map_cons, List.filter_cons, List.filter_cons, h1, h2]
      split <;> rfl
  exact key f fun _ h => h
theorem near_src {h : Hh} {f : Bf.F (List Int)} (nd : (Bf.keys f).Nodup) (hl : f.length ≤ 1000) (n : Nat) (x1 x5 x6 x7 : Option D) (g : Bool) :
    I.ofL (L.comp (I.ofL (Co.of (E.var 2))) [7] (.one 7) (T.val (E.op2 D.eq (E.op2 D.ixK (E.var 2) (E.var 7)) (E.var 3))) (E.var 7)) (nEnv hb h x1 n g x5 x6 x7) (hpN h f) = .ok ⟨(Bf.ofLen n f).map fun x => tl x, none⟩ (hpN h f) := by
  have hg := hpN_get h f
  have e1 : I.ofL (Co.of (E.var 2)) (nEnv hb h x1 n g x5 x6 x7) (hpN h f) = .ok ⟨(Bf.keys f).map fun x => tl x, none⟩ (hpN h f) := by
    simp only [I.ofL, Co.of, E.var, List.getElem?_cons_succ, List.getElem?_cons_zero, R.bind_ok, rdC, dctAt_of hg]
    congr 2
    unfold encV Bf.keys
    rw [List.map_map, List.map_map]
    rfl
  have z := compGo_filter (s := ⟨(Bf.keys f).map fun x => tl x, none⟩) (tg := .one 7) (t := T.val (E.op2 D.eq (E.op2 D.ixK (E.var 2) (E.var 7)) (E.var 3))) (e := E.var 7) (env := nEnv hb h x1 n g x5 x6 none) (h := hpN h f) (p := fun d => match findD (encV lenV f) d.nk with
    | some (.int k) => k == (n : Int)
    | _ => false) (f := id) rfl (l := (Bf.keys f).map fun x => tl x) (fun x hx => by
      obtain ⟨a, ha, rfl⟩ := List.mem_map.mp hx
      refine ⟨nEnv hb h x1 n g x5 x6 (some (tl a)), rfl, ?_, fun _ => rfl⟩
      have i := ix_V hg ha
      have f1 := find_wdV (v := lenV) ha
      simp only [T.val, E.op2, E.var, List.getElem?_cons_succ, List.getElem?_cons_zero, R.bind_ok, i, f1]
      simp [D.eq, D.flat, D.eqv])
  have hw : wipeE (nEnv hb h x1 n g x5 x6 x7) [7] = nEnv hb h x1 n g x5 x6 none := rfl
  have hfin : (((Bf.keys f).map fun x => tl x).filter (fun d => match findD (encV lenV f) d.nk with
    | some (.int k) => k == (n : Int)
    | _ => false)).map id = (Bf.ofLen n f).map fun x => tl x := by
    rw [List.map_id, List.filter_map, ← keys_filter nd n]
    congr 1
    refine List.filter_congr fun a ha => ?_
    have f1 := find_wdV (v := lenV) ha
    simp only [Function.comp_def, f1]
    rw [Bool.eq_iff_iff, decide_eq_true_eq]
    simp
    omega
  have hlen : ((Bf.ofLen n f).map fun x => tl x).length ≤ 16000000 := by
    have : (Bf.ofLen n f).length ≤ f.length := by
      unfold Bf.ofLen
      rw [List.length_map]
      exact List.length_filter_le _ _
    rw [List.length_map]
    omega
  show (L.comp (I.ofL (Co.of (E.var 2))) [7] (.one 7) (T.val (E.op2 D.eq (E.op2 D.ixK (E.var 2) (E.var 7)) (E.var 3))) (E.var 7) (nEnv hb h x1 n g x5 x6 x7) (hpN h f)).bind _ = _
  unfold L.comp
  rw [e1]
  simp only [R.bind_ok]
  rw [hw, z, hfin]
  simp only [R.bind_ok]
  rw [fits_ok hlen]
  rfl
theorem lw_near_ok (bd : Bd) [i : H_lw_near bd] (d : Nat) {lay : List Int} (hh : Hab m hb) (hp : Prm m lay) (h : Hh) : ∃ f, Bf.Fin (touch hb) m lay f ∧ f.length ≤ 120 ∧ runF bd (d + 2) 26 [H hb, tl lay] h = .ok (.ref h.length) (h ++ [.dct (encV lenV f) f.length]) := by
  have hc : ∀ a p q, Prm m a → 0 ≤ p → p < (m : Int) → runF bd (d + 1) 25 [H hb, tl a, .int p] q = .ok (tl (touch hb a p)) q := fun a p q ha h0 h1 => lw_touch_ok bd d hh ha h0 h1 q
  have key : ∃ v q, (v = D.ref h.length ∧ ∃ f, Bf.Fin (touch hb) m lay f ∧ f.length ≤ 120 ∧ q = hpN h f) ∧ runF bd (d + 1 + 1) 26 [H hb, tl lay] h = trunc h (.ok v q) := by
    refine run_sat (P := fun v q => v = D.ref h.length ∧ ∃ f, Bf.Fin (touch hb) m lay f ∧ f.length ≤ 120 ∧ q = hpN h f) i.e_lw_near ?_
    generalize runF bd (d + 1) = c at hc
    unfold b_lw_near
    refine seq_sat (asg_sat (d := .tup [.ref h.length, .int 0, .bl true]) (env1 := nEnv hb h (some (tl lay)) 0 true none none none) (h1 := hpN h [(lay, [])]) (h2 := hpN h [(lay, [])]) ?_ rfl ?_)
    · have hk : koksP [(tl lay, .int 0)] = true := by simp only [koksP, kok_tl, Bool.and_self]
      have h0 : putAllD [] 0 [(tl lay, .int 0)] = (encV lenV [(lay, [])], 1) := by
        simp only [putAllD, putD, epD, findD]
        simp [encV, lenV]
      simp only [tl] at h0 hk
      simp only [E.dict, P.cons, P.nil, E.tup, L.cons, L.nil, E.var, E.con, List.map_cons, List.map_nil, List.cons_append, List.getElem?_cons_succ, List.getElem?_cons_zero, R.bind_ok, tl, hk, h0, if_true, fits, List.length_cons, List.length_nil]
      rfl
    · refine seq_sat (whl_sat (fun μ env q => ∃ n f l x5 x6 x7, Bf.Inv (touch hb) m lay n f l ∧ Bf.ofLen n f = l ∧ env = nEnv hb h (some (tl lay)) n (!l.isEmpty) x5 x6 x7 ∧ q = hpN h f ∧ (l ≠ [] → n + 1 ≤ f.length) ∧ l.length ≤ 120 ∧ μ = if l = [] then 0 else 1 + (120 - f.length)) ?_ fuel 120 _ _ (by unfold fuel; omega) ?_)
      · rintro μ _ _ ⟨n, f, l, x5, x6, x7, J, ho, rfl, rfl, hn, hl, rfl⟩
        have hf := inv_len hh hp J
        refine ⟨!l.isEmpty, hpN h f, rfl, fun e => ?_, fun e => ?_⟩
        · have : l = [] := by cases l <;> simp_all
          subst this
          exact ret_sat (d := .ref h.length) (h1 := hpN h f) rfl ⟨rfl, f, Bf.fin_of J, hf, rfl⟩
        · have hne : l ≠ [] := by rintro rfl; simp at e
          refine RS.satL_of (seq_sat (set_sat (d := .bl false) (h1 := hpN h f) rfl ?_))
          have hs := near_src (hb := hb) (h := h) J.nd (by omega) n (some (tl lay)) x5 x6 x7 false
          rw [ho] at hs
          have Lk := near_lay_ok (hb := hb) c hh h f l n (some (tl lay)) x5 x6 x7 (fun a p q ha => hc a p q (inv_prm hh hp J a ((J.lst a).mp ha).1)) (fun a ha => (J.lst a).mp ha) hf hl _ hs
          obtain ⟨e', q', er, y5, y6, y7, rfl, rfl⟩ := RS.sat_inv Lk
          refine seq_sat ?_
          show (RS.sat (S.for _ (Tg.name 7) (nearR c) (nEnv hb h (some (tl lay)) n false x5 x6 x7) _) _ _)
          rw [er, RS.sat_nx]
          have I2 := Bf.inv_layer J
          have hf2 := inv_len hh hp I2
          have hl2 := Bf.layer_len J
          refine set_sat (d := .int ((n + 1 : Nat) : Int)) (h1 := hpN h (Bf.layer (touch hb) m f l).1) rfl ?_
          refine ⟨_, ?_, n + 1, (Bf.layer (touch hb) m f l).1, (Bf.layer (touch hb) m f l).2, y5, y6, y7, I2, Bf.ofLen_layer J, rfl, rfl, fun q => ?_, by omega, rfl⟩
          · rw [if_neg hne]
            split
            · omega
            · rename_i q
              have : 0 < (Bf.layer (touch hb) m f l).2.length := List.length_pos_iff.mpr q
              omega
          · have : 0 < (Bf.layer (touch hb) m f l).2.length := List.length_pos_iff.mpr q
            have := hn hne
            omega
      · exact ⟨0, [(lay, [])], [lay], none, none, none, Bf.inv0 _ _ _, rfl, rfl, rfl, fun _ => by simp, by simp, by simp⟩
  obtain ⟨v, q, ⟨rfl, f, hF, hl, rfl⟩, e⟩ := key
  exact ⟨f, hF, hl, by rw [e]; exact trunc_ref (by simp [D.under])⟩
end PF

set_option Elab.async false
set_option linter.all false
set_option maxRecDepth 100000
set_option maxHeartbeats 1000000
namespace PF
open PySem DL
/-! ### the order of layouts -/
def ltI : List Int → List Int → Bool
  | [], [] => false
  | [], _ :: _ => true
  | _ :: _, [] => false
  | x :: xs, y :: ys => if x = y then ltI xs ys else decide (x < y)
theorem pys_ints (l : List Int) : D.pys (l.map D.int) = l.map PySem.W.Datum.toD := by
  induction l with
  | nil => rfl
  | cons a l ih => simp only [List.map_cons, D.pys, ih, D.py]; rfl
theorem listLt_ltI : ∀ a b : List Int, PySem.W.listLt a b = ltI a b
  | [], [] => rfl
  | [], _ :: _ => rfl
  | _ :: _, [] => rfl
  | x :: xs, y :: ys => by
    rw [PySem.W.listLt, ltI, listLt_ltI xs ys]
    rfl
theorem ltD_tl (a b : List Int) : D.ltD (tl a) (tl b) = ltI a b := by
  unfold D.ltD
  simp only [tl, D.py, pys_ints]
  rw [PySem.W.dataLt_tuple, PySem.W.lexAll_map, listLt_ltI]
theorem ltI_irr : ∀ a, ltI a a = false
  | [] => rfl
  | x :: xs => by rw [ltI, if_pos rfl, ltI_irr xs]
theorem ltI_tri : ∀ a b, ltI a b = true ∨ a = b ∨ ltI b a = true
  | [], [] => .inr (.inl rfl)
  | [], _ :: _ => .inl rfl
  | _ :: _, [] => .inr (.inr rfl)
  | x :: xs, y :: ys => by
    rw [ltI, ltI]
    by_cases h : x = y
    · subst h
      rw [if_pos rfl, if_pos rfl]
      rcases ltI_tri xs ys with h | h | h
      · exact .inl h
      · exact .inr (.inl (by rw [h]))
      · exact .inr (.inr h)
    · rw [if_neg h, if_neg (Ne.symm h)]
      by_cases q : x < y
      · exact .inl (by simpa using q)
      · exact .inr (.inr (by simp; omega))
theorem ltI_trans : ∀ a b c, ltI a b = true → ltI b c = true → ltI a c = true
  | [], _, [], h, g => by
    rename_i b
    cases b <;> simp [ltI] at h g
  | [], _, _ :: _, _, _ => rfl
  | _ :: _, [], _, h, _ => by simp [ltI] at h
  | _ :: _, _ :: _, [], _, g => by simp [ltI] at g
  | x :: xs, y :: ys, z :: zs, h, g => by
    rw [ltI] at h g ⊢
    by_cases e1 : x = y
    · subst e1
      rw [if_pos rfl] at h
      by_cases e2 : x = z
      · subst e2
        rw [if_pos rfl] at g ⊢
        exact ltI_trans xs ys zs h g
      · rw [if_neg e2] at g ⊢
        exact g
    · rw [if_neg e1] at h
      have h : x < y := by simpa using h
      by_cases e2 : y = z
      · subst e2
        rw [if_neg e1]
        simpa using h
      · rw [if_neg e2] at g
        have g : y < z := by simpa using g
        rw [if_neg (by omega)]
        simp
        omega
def leI (a b : List Int) : Bool := !ltI b a
theorem leI_trans (a b c : List Int) (h : leI a b = true) (g : leI b c = true) : leI a c = true := by
  unfold leI at *
  cases q : ltI c a with
  | false => rfl
  | true =>
    exfalso
    rcases ltI_tri a b with h1 | h1 | h1
    · have := ltI_trans c a b q h1
      rw [this] at g; cases g
    · subst h1
      rw [q] at g; cases g
    · rw [h1] at h; cases h
theorem leI_total (a b : List Int) : (leI a b || leI b a) = true := by
  unfold leI
  cases h : ltI b a with
  | false => rfl
  | true =>
    cases g : ltI a b with
    | false => rfl
    | true => have := ltI_trans a b a g h; rw [ltI_irr] at this; cases this
theorem leI_anti (a b : List Int) (h : leI a b = true) (g : leI b a = true) : a = b := by
  unfold leI at *
  rcases ltI_tri a b with q | q | q
  · rw [q] at g; cases g
  · exact q
  · rw [q] at h; cases h
theorem sortD_tl (K : List (List Int)) : sortD (K.map fun x => tl x) = (K.mergeSort leI).map fun x => tl x := by
  unfold sortD
  exact (List.map_mergeSort (r := leI) (s := fun x y : D => !D.ltD y x) (f := fun x => tl x) (l := K) (fun a _ b _ => by rw [ltD_tl]; rfl)).symm
theorem sort_perm {K1 K2 : List (List Int)} (h : K1.Perm K2) : K1.mergeSort leI = K2.mergeSort leI :=
  List.Perm.eq_of_pairwise (le := fun a b => leI a b = true) (fun a b _ _ h g => leI_anti a b h g) (List.pairwise_mergeSort leI_trans leI_total _) (List.pairwise_mergeSort leI_trans leI_total _)
    ((List.mergeSort_perm _ _).trans (h.trans (List.mergeSort_perm _ _).symm))
theorem flats_rows (K : List (List Int)) : D.flats 31 (K.map fun x => tl x) = true := by
  induction K with
  | nil => rfl
  | cons a K ih => simp only [List.map_cons, D.flats, ih, flat_tl 30 a, Bool.and_self]
theorem sortOk_rows {K : List (List Int)} (h : ∀ x ∈ K, x ≠ []) (hl : K.length ≤ 16000000) : sortOk (K.map fun x => tl x) = true := by
  unfold sortOk
  have h1 := flats_rows K
  have h2 : alikesD (K.map fun x => tl x) = true := by
    unfold alikesD
    rw [List.all_eq_true]
    intro x hx
    rw [List.all_eq_true]
    intro y hy
    obtain ⟨a, _, rfl⟩ := List.mem_map.mp hx
    obtain ⟨b, _, rfl⟩ := List.mem_map.mp hy
    simp only [tl, D.py, PySem.W.alike, pys_ints]
    exact PySem.W.alikeAll_map a b
  have h3 : sortable (K.map fun x => tl x) = true := by
    unfold sortable
    rw [Bool.or_eq_true]
    left
    rw [List.all_eq_true]
    intro x hx
    obtain ⟨a, ha, rfl⟩ := List.mem_map.mp hx
    cases a with
    | nil => exact (h _ ha rfl).elim
    | cons y a => rfl
  have h4 : Nat.ble (K.map fun x => tl x).length 16000000 = true := by rw [Nat.ble_eq, List.length_map]; exact hl
  rw [h1, h2, h3, h4]
  rfl
def srtK (f : Bf.F (List Int)) : List (List Int) := (Bf.keys f).mergeSort leI
theorem srtK_mem {f : Bf.F (List Int)} {x : List Int} : x ∈ srtK f ↔ x ∈ Bf.keys f := (List.mergeSort_perm _ _).mem_iff
theorem srtK_len (f : Bf.F (List Int)) : (srtK f).length = f.length := by rw [srtK, List.length_mergeSort, Bf.keys, List.length_map]
variable {m : Nat} {hb : List (List Int)}
theorem fin_prm (hh : Hab m hb) {lay : List Int} (hp : Prm m lay) {f : Bf.F (List Int)} (F : Bf.Fin (touch hb) m lay f) : ∀ a ∈ Bf.keys f, Prm m a := fun a ha => by
  obtain ⟨w, hw, e⟩ := F.key_iff.mp ha
  rw [← e]
  exact ev_prm hh hw hp
theorem fin_srt (hh : Hab m hb) {lay : List Int} (hp : Prm m lay) {f : Bf.F (List Int)} (F : Bf.Fin (touch hb) m lay f) (hl : f.length ≤ 120) : sortOk ((Bf.keys f).map fun x => tl x) = true ∧ sortD ((Bf.keys f).map fun x => tl x) = (srtK f).map fun x => tl x := by
  refine ⟨sortOk_rows (fun x hx e => ?_) (by rw [Bf.keys, List.length_map]; omega), sortD_tl _⟩
  have := (fin_prm hh hp F x hx).len
  rw [e] at this
  have := hh.lo
  simp at *
  omega
theorem can_come_ok (bd : Bd) [i : H_can_come bd] (d : Nat) {lay : List Int} (hh : Hab m hb) (hp : Prm m lay) (h : Hh) : ∃ f, Bf.Fin (touch hb) m lay f ∧ f.length ≤ 120 ∧ runF bd (d + 5) 22 [H hb, tl lay] h = .ok (.tup ((srtK f).map fun x => tl x)) h := by
  obtain ⟨f, g, hF, hl, e⟩ := words_from_ok bd (d + 2) hh hp h
  refine ⟨f, hF, hl, ?_⟩
  obtain ⟨s1, s2⟩ := fin_srt hh hp hF hl
  rw [runF_eq i.e_can_come]
  unfold b_can_come
  have n1 := need_shelf_ok bd d hh hp h
  have e : runF bd (d + 4) 9 [H hb, tl lay] h = .ok (.ref h.length) (Wp h f g) := e
  generalize runF bd (d + 4) = c at *
  have q1 : S.expr (E.call 2 (c 5) (L.cons (E.var 0) (L.cons (E.var 1) L.nil))) [some (H hb), some (tl lay)] h = .nx [some (H hb), some (tl lay)] h := by simp [E.var, E.con, E.op2, E.op1, E.and, E.or, E.ofT, E.isi, isiD, tyNm, isiB, T.not, T.val, T.and, T.or, T.isN, T.notN, T.yes, T.tru, truthD, D.isN, E.chain, E.ifx, D.le, D.lt, D.ge, D.gt, D.add, D.sub, D.mul, D.mod, D.fdiv, D.pow, D.neg, D.eq, D.ne, D.flat, D.eqv, E.call, L.cons, L.nil, L.disp, E.tup, E.tuple, E.ofL, E.len, E.lenSet, Q.of, R.of, rdQ, rdL, E.app, D.toInt, D.max2, D.min2, R.toS, R.toG, R.bind, S.ret, S.retN, S.seq, S.ife, S.nil, S.expr, S.set, S.par, S.asg, S.bad, S.for, E.gen, I.of, I.enum, srcE, srcD, L.comp, D.ix, E.sl, O.none, O.some, slD, E.met, isT, isL, D.tindex, wipeE, setC, Tg.name, Tg.cons, Tg.nil, Tg.tup, fits, runB, -List.map_take, -List.map_drop, -List.map_set, D.ixK, dctAt, lenC, rdC, leA_int, ltA_int, gtA_int, geA_int, I.ofK, srcK, Tg.subK, setK, n1]
  have ek : (enc f).map (·.1) = (Bf.keys f).map fun x => tl x := by
    unfold enc Bf.keys
    rw [List.map_map, List.map_map]
    rfl
  have q2 : Co.of (E.call 2 (c 9) (L.cons (E.var 0) (L.cons (E.var 1) L.nil))) [some (H hb), some (tl lay)] h = .ok ((Bf.keys f).map fun x => tl x) (Wp h f g) := by
    simp only [Co.of, E.call, L.cons, L.nil, E.var, List.getElem?_cons_succ, List.getElem?_cons_zero, R.bind_ok, e]
    simp [e, rdC, dctAt_W, ek]
  have q3 : S.ret (E.tuple (L.sorted (Co.of (E.call 2 (c 9) (L.cons (E.var 0) (L.cons (E.var 1) L.nil)))))) [some (H hb), some (tl lay)] h = .rt (.tup ((srtK f).map fun x => tl x)) (Wp h f g) := by
    simp only [S.ret, E.tuple, L.sorted, q2, R.bind_ok, s1, s2, if_true, R.toS_ok]
  refine (congrArg (trunc h) (runB_rt (d := .tup ((srtK f).map fun x => tl x)) (h1 := Wp h f g) ?_)).trans (trunc_drop (by simp only [D.under]; exact unders_tl _ _))
  show S.seq _ _ [some (H hb), some (tl lay)] h = _
  rw [seq_nx q1, q3]
/-! ### a pick -/
theorem pick_ok (bd : Bd) [i : H_lw_pick bd] (d : Nat) {ns : List Int} {a b e : Int} {l : List D} {r : Nat} (g : Hh) (ha : 0 ≤ a) (hl : 0 < l.length) (hl2 : l.length ≤ 1000) (hr : g[r]? = some (.lst l)) :
    ∃ v a' b' e', v ∈ l ∧ runF bd (d + 2) 27 [.ref 1, .ref (r + 2)] (Fz ns :: rw3 a b e :: g) = trunc (Fz ns :: rw3 a b e :: g) (.ok v (Fz ns :: rw3 a' b' e' :: g)) ∧ 0 ≤ a' := by
  obtain ⟨v, a1, b1, e1, t, v0, v1, ha1⟩ := taken_ok bd d (ns := ns) (a := a) (b := b) (c := e) (many := l.length) g ha (by omega) (by omega)
  obtain ⟨k, rfl⟩ : ∃ k : Nat, v = k := ⟨v.toNat, by omega⟩
  have hk : k < l.length := by omega
  refine ⟨l[k], a1, b1, e1, List.getElem_mem hk, ?_, ha1⟩
  rw [runF_eq i.e_lw_pick]
  congr 1
  unfold b_lw_pick
  have g1 : ∀ x y : MO, (x :: y :: g)[r + 2]? = some (.lst l) := fun x y => by simpa using hr
  have ii := ixL_at hk (Fz ns :: rw3 a1 b1 e1 :: g)
  generalize runF bd (d + 1) = c at *
  generalize hv : l[k] = x at *
  simp [E.var, E.con, E.op2, E.op1, E.and, E.or, E.ofT, E.isi, isiD, tyNm, isiB, T.not, T.val, T.and, T.or, T.isN, T.notN, T.yes, T.tru, truthD, D.isN, E.chain, E.ifx, D.le, D.lt, D.ge, D.gt, D.add, D.sub, D.mul, D.mod, D.fdiv, D.pow, D.neg, D.eq, D.ne, D.flat, D.eqv, E.call, L.cons, L.nil, L.disp, E.tup, E.tuple, E.ofL, E.len, E.lenSet, Q.of, R.of, rdQ, rdL, E.app, D.toInt, D.max2, D.min2, R.toS, R.toG, R.bind, S.ret, S.retN, S.seq, S.ife, S.nil, S.expr, S.set, S.par, S.asg, S.bad, S.for, E.gen, I.of, I.enum, srcE, srcD, L.comp, D.ix, E.sl, O.none, O.some, slD, E.met, isT, isL, D.tindex, wipeE, setC, Tg.name, Tg.cons, Tg.nil, Tg.tup, fits, runB, -List.map_take, -List.map_drop, -List.map_set, D.ixK, dctAt, lenC, rdC, leA_int, ltA_int, gtA_int, geA_int, I.ofK, srcK, Tg.subK, setK, t, g1, D.ix, rdL, ii, hr]
end PF

set_option Elab.async false
set_option linter.all false
set_option maxRecDepth 100000
set_option maxHeartbeats 1000000
namespace PF
open PySem DL
variable {m : Nat} {hb : List (List Int)}
abbrev pr (p : List Int × List Int) : D := .tup [tl p.1, tl p.2]
abbrev oneV : List Int → D := fun _ => .bl true
abbrev hpX (h G : Hh) (g : Bf.F (List Int)) : Hh := h ++ (G ++ [.lst (g.map pr), .dct (encV oneV g) g.length])
theorem hpX_dct (h G : Hh) (g : Bf.F (List Int)) : (hpX h G g)[h.length + G.length + 1]? = some (.dct (encV oneV g) g.length) := by
  unfold hpX
  rw [Nat.add_assoc, app_get, app_get]
  rfl
theorem hpX_lst (h G : Hh) (g : Bf.F (List Int)) : (hpX h G g)[h.length + G.length]? = some (.lst (g.map pr)) := by
  unfold hpX
  rw [app_get, app_get0]
  rfl
theorem hpX_setd (h G : Hh) (g g' : Bf.F (List Int)) : (hpX h G g).set (h.length + G.length + 1) (.dct (encV oneV g') g'.length) = h ++ (G ++ [.lst (g.map pr), .dct (encV oneV g') g'.length]) := by
  unfold hpX
  rw [Nat.add_assoc, app_set, app_set]
  rfl
abbrev lwEnv (hb : List (List Int)) (h G : Hh) (x1 x2 x3 x4 x5 x8 x9 x10 x11 : Option D) : DL.Env := [some (H hb), x1, x2, x3, x4, x5, some (.ref (h.length + G.length)), some (.ref (h.length + G.length + 1)), x8, x9, x10, x11]
abbrev lwB (c : Calls) : SΦ := (S.seq (S.set 9 (E.call 3 (c 25) (L.cons (E.var 0) (L.cons (E.var 10) (L.cons (E.var 8) L.nil))))) (S.ife (T.val (E.op2 (D.inA true) (E.var 9) (E.var 7))) (S.seq (S.asg (E.con (.bl true)) (Tg.subK (E.var 7) (E.var 9))) (S.expr (E.met isL (mutL fAppend) (E.var 6) (L.cons (E.tup (L.cons (E.var 9) (L.cons (E.op2 D.add (E.var 11) (E.tup (L.cons (E.var 8) L.nil))) L.nil))) L.nil)))) S.nil))
theorem lw_step (c : Calls) (h G : Hh) (g : Bf.F (List Int)) (x : List Int × List Int) (p : Int) (x1 x2 x3 x4 x5 x9 : Option D)
    (hc : ∀ q, c 25 [H hb, tl x.1, .int p] q = .ok (tl (touch hb x.1 p)) q) (hw : x.2.length ≤ 1000) (h1 : g.length ≤ 1000) :
    ∃ y9, lwB c (lwEnv hb h G x1 x2 x3 x4 x5 (some (.int p)) x9 (some (tl x.1)) (some (tl x.2))) (hpX h G g) = .nx (lwEnv hb h G x1 x2 x3 x4 x5 (some (.int p)) y9 (some (tl x.1)) (some (tl x.2))) (hpX h G (Bf.xstep (touch hb) g (x, p))) := by
  refine ⟨some (tl (touch hb x.1 p)), ?_⟩
  have hg := hpX_dct h G g
  have s1 : S.set 9 (E.call 3 (c 25) (L.cons (E.var 0) (L.cons (E.var 10) (L.cons (E.var 8) L.nil)))) (lwEnv hb h G x1 x2 x3 x4 x5 (some (.int p)) x9 (some (tl x.1)) (some (tl x.2))) (hpX h G g) = .nx (lwEnv hb h G x1 x2 x3 x4 x5 (some (.int p)) (some (tl (touch hb x.1 p))) (some (tl x.1)) (some (tl x.2))) (hpX h G g) := by
    generalize hpX h G g = q at *
    simp [E.var, E.con, E.op2, E.op1, E.and, E.or, E.ofT, E.isi, isiD, tyNm, isiB, T.not, T.val, T.and, T.or, T.isN, T.notN, T.yes, T.tru, truthD, D.isN, E.chain, E.ifx, D.le, D.lt, D.ge, D.gt, D.add, D.sub, D.mul, D.mod, D.fdiv, D.pow, D.neg, D.eq, D.ne, D.flat, D.eqv, E.call, L.cons, L.nil, L.disp, E.tup, E.tuple, E.ofL, E.len, E.lenSet, Q.of, R.of, rdQ, rdL, E.app, D.toInt, D.max2, D.min2, R.toS, R.toG, R.bind, S.ret, S.retN, S.seq, S.ife, S.nil, S.expr, S.set, S.par, S.asg, S.bad, S.for, E.gen, I.of, I.enum, srcE, srcD, L.comp, D.ix, E.sl, O.none, O.some, slD, E.met, isT, isL, D.tindex, wipeE, setC, Tg.name, Tg.cons, Tg.nil, Tg.tup, fits, runB, -List.map_take, -List.map_drop, -List.map_set, D.ixK, dctAt, lenC, rdC, leA_int, ltA_int, gtA_int, geA_int, I.ofK, srcK, Tg.subK, setK, hc]
  unfold lwB
  rw [seq_nx s1]
  have t := in_V hg true (touch hb x.1 p)
  have tt : T.val (E.op2 (D.inA true) (E.var 9) (E.var 7)) (lwEnv hb h G x1 x2 x3 x4 x5 (some (.int p)) (some (tl (touch hb x.1 p))) (some (tl x.1)) (some (tl x.2))) (hpX h G g) = .ok (!Bf.has g (touch hb x.1 p)) (hpX h G g) := by
    simp only [T.val, E.op2, E.var, List.getElem?_cons_succ, List.getElem?_cons_zero, R.bind_ok, t, if_true]
  unfold Bf.xstep
  by_cases q : Bf.has g (touch hb x.1 p) = true
  · rw [q] at tt
    rw [ife_f tt, if_pos q]
    rfl
  · have q' : Bf.has g (touch hb x.1 p) = false := by simpa using q
    rw [q'] at tt
    rw [ife_t tt, if_neg q]
    have e2 := fun env => set_V (env := env) hg (w := x.2 ++ [p]) (d := .bl true) q' rfl (by omega)
    rw [hpX_setd] at e2
    have s2 : S.asg (E.con (.bl true)) (Tg.subK (E.var 7) (E.var 9)) (lwEnv hb h G x1 x2 x3 x4 x5 (some (.int p)) (some (tl (touch hb x.1 p))) (some (tl x.1)) (some (tl x.2))) (hpX h G g) = .nx (lwEnv hb h G x1 x2 x3 x4 x5 (some (.int p)) (some (tl (touch hb x.1 p))) (some (tl x.1)) (some (tl x.2))) (h ++ (G ++ [.lst (g.map pr), .dct (encV oneV (g ++ [(touch hb x.1 p, x.2 ++ [p])])) (g ++ [(touch hb x.1 p, x.2 ++ [p])]).length])) := by
      simp only [S.asg, E.con, R.toS_ok, Tg.subK, E.var, List.getElem?_cons_succ, List.getElem?_cons_zero, R.bind_ok, e2]
      rfl
    rw [seq_nx s2]
    generalize hq : h ++ (G ++ [.lst (g.map pr), .dct (encV oneV (g ++ [(touch hb x.1 p, x.2 ++ [p])])) (g ++ [(touch hb x.1 p, x.2 ++ [p])]).length]) = q2
    have hl : q2[h.length + G.length]? = some (.lst (g.map pr)) := by rw [← hq, app_get, app_get0]; rfl
    have ad := add_tl x.2 [p] q2 (by simp; omega)
    have mu := mut_at hl (show fAppend (g.map pr) [pr (touch hb x.1 p, x.2 ++ [p])] = some (.non, (g ++ [(touch hb x.1 p, x.2 ++ [p])]).map pr) by simp [fAppend]) (by simp; omega)
    have st : q2.set (h.length + G.length) (.lst ((g ++ [(touch hb x.1 p, x.2 ++ [p])]).map pr)) = hpX h G (g ++ [(touch hb x.1 p, x.2 ++ [p])]) := by
      rw [← hq, app_set, app_set0]
      rfl
    rw [st] at mu
    have ea : L.cons (E.tup (L.cons (E.var 9) (L.cons (E.op2 D.add (E.var 11) (E.tup (L.cons (E.var 8) L.nil))) L.nil))) L.nil (lwEnv hb h G x1 x2 x3 x4 x5 (some (.int p)) (some (tl (touch hb x.1 p))) (some (tl x.1)) (some (tl x.2))) q2 = .ok [pr (touch hb x.1 p, x.2 ++ [p])] q2 := by
      have e0 : E.op2 D.add (E.var 11) (E.tup (L.cons (E.var 8) L.nil)) (lwEnv hb h G x1 x2 x3 x4 x5 (some (.int p)) (some (tl (touch hb x.1 p))) (some (tl x.1)) (some (tl x.2))) q2 = .ok (tl (x.2 ++ [p])) q2 := ad
      generalize E.op2 D.add (E.var 11) (E.tup (L.cons (E.var 8) L.nil)) = ψ at e0 ⊢
      simp only [L.cons, E.tup, L.nil, E.var, List.getElem?_cons_succ, List.getElem?_cons_zero, R.bind_ok, e0, fits, List.length_cons, List.length_nil]
      rfl
    have il : isL (.ref (h.length + G.length)) q2 = true := by unfold isL; simp only [hl]
    show (E.met isL (mutL fAppend) (E.var 6) _ _ q2).toS _ _ = _
    unfold E.met
    simp only [E.var, List.getElem?_cons_succ, List.getElem?_cons_zero, R.bind_ok, il, if_true, ea, mu, R.toS_ok]
theorem xsteps_len (nx : List Int → Int → List Int) : ∀ (cs : List ((List Int × Bf.W) × Int)) (g : Bf.F (List Int)), (cs.foldl (Bf.xstep nx) g).length ≤ g.length + cs.length
  | [], g => by simp
  | c :: cs, g => by
    have h1 := xsteps_len nx cs (Bf.xstep nx g c)
    rw [List.foldl_cons]
    have a : (Bf.xstep nx g c).length ≤ g.length + 1 := by
      unfold Bf.xstep
      split
      · exact Nat.le_succ _
      · simp
    simp only [List.length_cons]
    omega
abbrev lwR (c : Calls) : SΦ := S.for (I.rng1 (E.app lenC (L.cons (E.var 0) L.nil))) (Tg.name 8) (lwB c)
theorem lw_row_ok (c : Calls) (hh : Hab m hb) (h G : Hh) (g : Bf.F (List Int)) (x : List Int × List Int) (x1 x2 x3 x4 x5 x8 x9 : Option D)
    (hc : ∀ p q, 0 ≤ p → p < (m : Int) → c 25 [H hb, tl x.1, .int p] q = .ok (tl (touch hb x.1 p)) q) (hw : x.2.length ≤ 1000) (h1 : g.length ≤ 900) :
    ((lwR c) (lwEnv hb h G x1 x2 x3 x4 x5 x8 x9 (some (tl x.1)) (some (tl x.2))) (hpX h G g)).sat (fun e q => ∃ y8 y9, e = lwEnv hb h G x1 x2 x3 x4 x5 y8 y9 (some (tl x.1)) (some (tl x.2)) ∧ q = hpX h G (((Bf.rg m).map fun p => (x, p)).foldl (Bf.xstep (touch hb)) g)) fun _ _ => False := by
  have hm := hh.hi
  have e1 : (I.rng1 (E.app lenC (L.cons (E.var 0) L.nil))) (lwEnv hb h G x1 x2 x3 x4 x5 x8 x9 (some (tl x.1)) (some (tl x.2))) (hpX h G g) = .ok ⟨(rg m).map D.int, none⟩ (hpX h G g) := by
    have hr := rngS_rg (n := m) (by omega) (hpX h G g)
    generalize hpX h G g = q at *
    simp [E.var, E.con, E.op2, E.op1, E.and, E.or, E.ofT, E.isi, isiD, tyNm, isiB, T.not, T.val, T.and, T.or, T.isN, T.notN, T.yes, T.tru, truthD, D.isN, E.chain, E.ifx, D.le, D.lt, D.ge, D.gt, D.add, D.sub, D.mul, D.mod, D.fdiv, D.pow, D.neg, D.eq, D.ne, D.flat, D.eqv, E.call, L.cons, L.nil, L.disp, E.tup, E.tuple, E.ofL, E.len, E.lenSet, Q.of, R.of, rdQ, rdL, E.app, D.toInt, D.max2, D.min2, R.toS, R.toG, R.bind, S.ret, S.retN, S.seq, S.ife, S.nil, S.expr, S.set, S.par, S.asg, S.bad, S.for, E.gen, I.of, I.enum, srcE, srcD, L.comp, D.ix, E.sl, O.none, O.some, slD, E.met, isT, isL, D.tindex, wipeE, setC, Tg.name, Tg.cons, Tg.nil, Tg.tup, fits, runB, -List.map_take, -List.map_drop, -List.map_set, D.ixK, dctAt, lenC, rdC, leA_int, ltA_int, gtA_int, geA_int, I.ofK, srcK, Tg.subK, setK, I.rng1, hr, hh.len]
  refine for_sat (enc := D.int) (fun pre e q => ∃ y8 y9, e = lwEnv hb h G x1 x2 x3 x4 x5 y8 y9 (some (tl x.1)) (some (tl x.2)) ∧ q = hpX h G ((pre.map fun p => (x, p)).foldl (Bf.xstep (touch hb)) g)) (rg m) e1 rfl ⟨x8, x9, rfl, rfl⟩ (fun _ _ _ _ _ => rfl) ?_ (fun e q h => h)
  rintro pre p post _ _ hl ⟨y8, y9, rfl, rfl⟩
  have hp : p ∈ rg m := by rw [hl]; simp
  have hp := mem_rg.mp hp
  have hlen := xsteps_len (touch hb) (pre.map fun p => (x, p)) g
  have hpl : pre.length ≤ 5 := by
    have : (rg m).length = m := rg_length m
    rw [hl] at this
    simp at this
    omega
  rw [List.length_map] at hlen
  obtain ⟨z9, e⟩ := lw_step (hb := hb) c h G ((pre.map fun p => (x, p)).foldl (Bf.xstep (touch hb)) g) x p x1 x2 x3 x4 x5 y9 (fun q => hc p q hp.1 hp.2) hw (by omega)
  refine ⟨lwEnv hb h G x1 x2 x3 x4 x5 (some (.int p)) y9 (some (tl x.1)) (some (tl x.2)), _, rfl, ?_⟩
  rw [e]
  refine ⟨some (.int p), z9, rfl, ?_⟩
  rw [List.map_append, List.foldl_append]
  rfl
theorem xcands_app (m : Nat) (L : Bf.F (List Int)) (x : List Int × List Int) : Bf.xcands m (L ++ [x]) = Bf.xcands m L ++ (Bf.rg m).map fun p => (x, p) := by simp [Bf.xcands]
theorem xcands_len (m : Nat) : ∀ l : Bf.F (List Int), (Bf.xcands m l).length = l.length * m
  | [] => by simp [Bf.xcands]
  | a :: l => by
    have ih := xcands_len m l
    unfold Bf.xcands at ih ⊢
    rw [List.flatMap_cons, List.length_append, ih, List.length_map, Bf.rg, List.length_map, List.length_range, List.length_cons, Nat.add_mul]
    omega
abbrev lwL (c : Calls) : SΦ := S.for (I.ofK (E.var 4)) (Tg.tup (Tg.cons (Tg.name 10) (Tg.cons (Tg.name 11) Tg.nil))) (lwR c)
theorem lw_lay_ok (c : Calls) (hh : Hab m hb) (h G : Hh) (L : Bf.F (List Int)) (k : Nat) (x1 x2 x3 x5 x8 x9 x10 x11 : Option D)
    (hc : ∀ x p q, x ∈ L → 0 ≤ p → p < (m : Int) → c 25 [H hb, tl x.1, .int p] q = .ok (tl (touch hb x.1 p)) q) (hw : ∀ x ∈ L, x.2.length ≤ 1000) (h2 : L.length ≤ 120) (hk : G[k]? = some (.lst (L.map pr))) :
    ((lwL c) (lwEnv hb h G x1 x2 x3 (some (.ref (h.length + k))) x5 x8 x9 x10 x11) (hpX h G [])).sat (fun e q => ∃ y8 y9 y10 y11, e = lwEnv hb h G x1 x2 x3 (some (.ref (h.length + k))) x5 y8 y9 y10 y11 ∧ q = hpX h G (Bf.xlayer (touch hb) m L)) fun _ _ => False := by
  have hk' : ∀ g, (hpX h G g)[h.length + k]? = some (.lst (L.map pr)) := fun g => by
    simp only [hpX]
    rw [app_get, List.getElem?_append_left (List.getElem?_eq_some_iff.mp hk).1]
    exact hk
  have e1 : I.ofK (E.var 4) (lwEnv hb h G x1 x2 x3 (some (.ref (h.length + k))) x5 x8 x9 x10 x11) (hpX h G []) = .ok ⟨L.map pr, some (h.length + k, .lst (L.map pr))⟩ (hpX h G []) := by
    have := hk' []
    simp only [I.ofK, E.var, List.getElem?_cons_succ, List.getElem?_cons_zero, R.bind_ok, srcK, dctAt, srcD, this]
  refine for_sat (enc := pr) (fun pre e q => ∃ y8 y9 y10 y11, e = lwEnv hb h G x1 x2 x3 (some (.ref (h.length + k))) x5 y8 y9 y10 y11 ∧ q = hpX h G ((Bf.xcands m pre).foldl (Bf.xstep (touch hb)) [])) L e1 rfl ⟨x8, x9, x10, x11, rfl, rfl⟩ ?_ ?_ (fun e q h => h)
  · rintro pre _ _ _ ⟨y8, y9, y10, y11, rfl, rfl⟩
    simp only [Src.ok, hk', MO.still, D.beqs_refl]
  · rintro pre x post _ _ hl ⟨y8, y9, y10, y11, rfl, rfl⟩
    have hxl : x ∈ L := by rw [hl]; simp
    have hlen := xsteps_len (touch hb) (Bf.xcands m pre) []
    have hcl := xcands_len m pre
    have hpl : pre.length ≤ 120 := by
      have : pre.length ≤ L.length := by rw [hl]; simp
      omega
    have hm := hh.hi
    have hmul : pre.length * m ≤ 120 * 5 := Nat.mul_le_mul hpl hm
    simp only [List.length_nil] at hlen
    have := lw_row_ok c hh h G ((Bf.xcands m pre).foldl (Bf.xstep (touch hb)) []) x x1 x2 x3 (some (.ref (h.length + k))) x5 y8 y9 (fun p q => hc x p q hxl) (hw x hxl) (by omega)
    obtain ⟨e, q, er, z8, z9, rfl, rfl⟩ := RS.sat_inv this
    refine ⟨lwEnv hb h G x1 x2 x3 (some (.ref (h.length + k))) x5 y8 y9 (some (tl x.1)) (some (tl x.2)), _, rfl, ?_⟩
    rw [er]
    refine ⟨z8, z9, _, _, rfl, ?_⟩
    rw [xcands_app, List.foldl_append]
theorem x_len (hh : Hab m hb) {lay : List Int} (hp : Prm m lay) {k : Nat} {L : Bf.F (List Int)} (X : Bf.XInv (touch hb) m lay k L) : (∀ x ∈ L, Prm m x.1) ∧ L.length ≤ 120 := by
  have h1 : ∀ x ∈ L, Prm m x.1 := fun x hx => by
    obtain ⟨e, lt, _⟩ := X.ok x hx
    rw [← e]
    exact ev_prm hh lt hp
  refine ⟨h1, ?_⟩
  have h2 := nodup_le X.nd fun x hx => by
    obtain ⟨y, hy, rfl⟩ := List.mem_map.mp hx
    exact prm_mem (h1 y hy)
  have h3 := perms_len hh.lo hh.hi
  rw [show (Bf.keys L).length = L.length from List.length_map ..] at h2
  omega
end PF

set_option Elab.async false
set_option linter.all false
set_option maxRecDepth 100000
set_option maxHeartbeats 1000000
namespace PF
open PySem DL
variable {m : Nat} {hb : List (List Int)}
theorem filter_one : ∀ {L : Bf.F (List Int)} {a : List Int} {w : Bf.W}, (Bf.keys L).Nodup → (a, w) ∈ L → L.filter (fun x => decide (x.1 = a)) = [(a, w)]
  | [], _, _, _, h => by cases h
  | x :: L, a, w, nd, h => by
    rw [Bf.keys, List.map_cons, List.nodup_cons] at nd
    rcases List.mem_cons.mp h with e | h
    · subst e
      rw [List.filter_cons]
      simp only [decide_true, if_true]
      congr 1
      rw [List.filter_eq_nil_iff]
      intro y hy e
      exact nd.1 (List.mem_map.mpr ⟨y, hy, by simpa using e⟩)
    · have ne : x.1 ≠ a := fun e => nd.1 (by rw [e]; exact List.mem_map.mpr ⟨_, h, rfl⟩)
      rw [List.filter_cons]
      simp only [decide_eq_false ne, Bool.false_eq_true, if_false]
      exact filter_one nd.2 h
theorem least_ok (bd : Bd) [i : H_lw_least_word bd] (d : Nat) {lay other w : List Int} {k : Nat} (hh : Hab m hb) (hp : Prm m lay) (hk : k ≤ 130) (hw : (other, w) ∈ Bf.xgo (touch hb) m lay k) (h : Hh) : runF bd (d + 2) 28 [H hb, tl lay, tl other, .int k] h = .ok (tl w) h := by
  have hc : ∀ a p q, Prm m a → 0 ≤ p → p < (m : Int) → runF bd (d + 1) 25 [H hb, tl a, .int p] q = .ok (tl (touch hb a p)) q := fun a p q ha h0 h1 => lw_touch_ok bd d hh ha h0 h1 q
  refine run_pure (d := d + 1) i.e_lw_least_word (v := tl w) (under_tl _ _) ?_
  generalize runF bd (d + 1) = c at hc
  unfold b_lw_least_word
  show (S.seq _ _ [some (H hb), some (tl lay), some (tl other), some (.int k), none, none, none, none, none, none, none, none] h).sat _ _
  refine seq_sat (set_sat (d := .ref (h.length + 0)) (h1 := h ++ [.lst [pr (lay, [])]]) rfl ?_)
  refine seq_sat (for_sat (enc := D.int) (fun pre e q => ∃ G r x5 x6 x7 x8 x9 x10 x11, e = [some (H hb), some (tl lay), some (tl other), some (.int k), some (.ref (h.length + r)), x5, x6, x7, x8, x9, x10, x11] ∧ q = h ++ G ∧ G[r]? = some (.lst ((Bf.xgo (touch hb) m lay pre.length).map pr))) (rg k) (h1 := h ++ [.lst [pr (lay, [])]]) (s := ⟨(rg k).map D.int, none⟩) ?_ rfl ⟨[.lst [pr (lay, [])]], 0, none, none, none, none, none, none, none, rfl, rfl, rfl⟩ (fun _ _ _ _ _ => rfl) ?_ ?_)
  · have hr := rngS_rg (n := k) (by omega) (h ++ [.lst [pr (lay, [])]])
    show rngS (.int 0) (.int k) _ = _
    exact hr
  · rintro pre x post _ _ hl ⟨G, r, x5, x6, x7, x8, x9, x10, x11, rfl, rfl, hG⟩
    have X := Bf.xgo_inv (touch hb) m lay pre.length
    obtain ⟨xp, xl⟩ := x_len hh hp X
    have hpl : pre.length ≤ 130 := by
      have : (rg k).length = k := rg_length k
      rw [hl] at this
      simp at this
      omega
    refine ⟨_, _, rfl, RS.satL_of (seq_sat (par_sat (d := .ref (h.length + G.length)) (d2 := .ref (h.length + G.length + 1)) (h1 := h ++ (G ++ [.lst []])) (h2 := hpX h G []) ?_ ?_ ?_))⟩
    · simp only [E.ofL, L.disp, L.nil, R.bind_ok, fits, List.length_nil, Nat.zero_le, if_true, List.length_append, List.append_assoc]
    · show R.ok (D.ref (h ++ (G ++ [MO.lst []])).length) (h ++ (G ++ [MO.lst []]) ++ [MO.dct [] 0]) = _
      simp [hpX, encV, Nat.add_assoc]
    · have Lk := lw_lay_ok c hh h G (Bf.xgo (touch hb) m lay pre.length) r (some (tl lay)) (some (tl other)) (some (.int k)) (some (.int x)) x8 x9 x10 x11 (fun y p q hy => hc y.1 p q (xp y hy)) (fun y hy => by rw [(X.ok y hy).2.2]; omega) xl hG
      obtain ⟨e', q', er, y8, y9, y10, y11, rfl, rfl⟩ := RS.sat_inv Lk
      refine seq_sat ?_
      show (RS.sat (lwL c (lwEnv hb h G (some (tl lay)) (some (tl other)) (some (.int k)) (some (.ref (h.length + r))) (some (.int x)) x8 x9 x10 x11) _) _ _)
      rw [er, RS.sat_nx]
      refine set_sat (d := .ref (h.length + G.length)) (h1 := hpX h G (Bf.xlayer (touch hb) m (Bf.xgo (touch hb) m lay pre.length))) rfl ?_
      refine ⟨G ++ [.lst ((Bf.xlayer (touch hb) m (Bf.xgo (touch hb) m lay pre.length)).map pr), .dct (encV oneV (Bf.xlayer (touch hb) m (Bf.xgo (touch hb) m lay pre.length))) (Bf.xlayer (touch hb) m (Bf.xgo (touch hb) m lay pre.length)).length], G.length, _, _, _, _, _, _, _, rfl, rfl, ?_⟩
      rw [List.length_append, List.length_singleton]
      simp [Bf.xgo]
  · rintro _ _ ⟨G, r, x5, x6, x7, x8, x9, x10, x11, rfl, rfl, hG⟩
    rw [rg_length] at hG
    have X := Bf.xgo_inv (touch hb) m lay k
    have hxl := (x_len hh hp X).2
    generalize Bf.xgo (touch hb) m lay k = LL at *
    have hg : (h ++ G)[h.length + r]? = some (.lst (LL.map pr)) := by rw [app_get]; exact hG
    have e1 : I.ofK (E.var 4) [some (H hb), some (tl lay), some (tl other), some (.int k), some (.ref (h.length + r)), x5, x6, x7, x8, x9, x10, x11] (h ++ G) = .ok ⟨LL.map pr, some (h.length + r, .lst (LL.map pr))⟩ (h ++ G) := by
      simp only [I.ofK, E.var, List.getElem?_cons_succ, List.getElem?_cons_zero, R.bind_ok, srcK, dctAt, srcD, hg]
    have hok : (⟨LL.map pr, some (h.length + r, .lst (LL.map pr))⟩ : Src).ok (h ++ G) = true := by simp only [Src.ok, hg, MO.still, D.beqs_refl]
    have z := compGo_filter (s := ⟨LL.map pr, some (h.length + r, .lst (LL.map pr))⟩) (tg := .many [10, 11]) (t := T.val (E.op2 D.eq (E.var 10) (E.var 2))) (e := E.var 11) (env := [some (H hb), some (tl lay), some (tl other), some (.int k), some (.ref (h.length + r)), x5, x6, x7, x8, x9, none, none]) (h := h ++ G) (p := fun x => match x with
      | .tup [a, _] => D.eqv a (tl other)
      | _ => false) (f := fun x => match x with
      | .tup [_, b] => b
      | _ => .non) hok (l := LL.map pr) (fun x hx => by
        obtain ⟨y, hy, rfl⟩ := List.mem_map.mp hx
        refine ⟨[some (H hb), some (tl lay), some (tl other), some (.int k), some (.ref (h.length + r)), x5, x6, x7, x8, x9, some (tl y.1), some (tl y.2)], rfl, ?_, fun _ => rfl⟩
        generalize h ++ G = q
        have f1 := flat_tl 31 y.1
        have f2 := flat_tl 31 other
        simp only [T.val, E.op2, E.var, List.getElem?_cons_succ, List.getElem?_cons_zero, R.bind_ok, D.eq, f1, f2, Bool.and_self, if_true])
    have hfin : ((LL.map pr).filter (fun x => match x with
      | .tup [a, _] => D.eqv a (tl other)
      | _ => false)).map (fun x => match x with
      | .tup [_, b] => b
      | _ => .non) = [tl w] := by
      rw [List.filter_map]
      have : LL.filter ((fun x => match x with
        | .tup [a, _] => D.eqv a (tl other)
        | _ => false) ∘ pr) = LL.filter fun x => decide (x.1 = other) := by
        refine List.filter_congr fun x _ => ?_
        show D.eqv (tl x.1) (tl other) = _
        simp only [tl, D.eqv]
        exact eqvs_ints _ _
      rw [this, filter_one X.nd hw]
      rfl
    have hcomp : L.comp (I.ofK (E.var 4)) [10, 11] (.many [10, 11]) (T.val (E.op2 D.eq (E.var 10) (E.var 2))) (E.var 11) [some (H hb), some (tl lay), some (tl other), some (.int k), some (.ref (h.length + r)), x5, x6, x7, x8, x9, x10, x11] (h ++ G) = .ok [tl w] (h ++ G) := by
      unfold L.comp
      rw [e1]
      simp only [R.bind_ok]
      rw [show wipeE [some (H hb), some (tl lay), some (tl other), some (.int k), some (.ref (h.length + r)), x5, x6, x7, x8, x9, x10, x11] [10, 11] = [some (H hb), some (tl lay), some (tl other), some (.int k), some (.ref (h.length + r)), x5, x6, x7, x8, x9, none, none] from rfl, z, hfin]
      rfl
    refine ret_sat (d := tl w) (h1 := h ++ (G ++ [.lst [tl w]])) ?_ ⟨rfl, _, rfl⟩
    have gl : (h ++ G ++ [MO.lst [tl w]])[(h ++ G).length]? = some (.lst [tl w]) := by simp
    simp only [E.op2, E.ofL, hcomp, R.bind_ok, E.con, D.ixK, dctAt, gl, D.ix, rdL]
    simp [ixL, L2.atI, L2.ixN]
end PF

set_option Elab.async false
set_option linter.all false
set_option maxRecDepth 100000
set_option maxHeartbeats 1000000
namespace PF
open PySem DL
variable {m : Nat} {hb : List (List Int)}
theorem touch_inj (hh : Hab m hb) {a b : List Int} (ha : Prm m a) (hbp : Prm m b) {p : Int} (h0 : 0 ≤ p) (h1 : p < m) (e : touch hb a p = touch hb b p) : a = b := by
  have hr := hh.at' h0 h1
  have key : ∀ x y : Int, 0 ≤ x → x < m → 0 ≤ y → y < m → (rowOf hb p).getD x.toNat 0 = (rowOf hb p).getD y.toNat 0 → x = y := fun x y x0 x1 y0 y1 e => by
    have h2 : x.toNat < (rowOf hb p).length := by rw [hr.len]; omega
    have h3 : y.toNat < (rowOf hb p).length := by rw [hr.len]; omega
    rw [List.getD_eq_getElem?_getD, List.getD_eq_getElem?_getD, List.getElem?_eq_getElem h2, List.getElem?_eq_getElem h3] at e
    have := (List.getElem_inj (h₀ := h2) (h₁ := h3) hr.nd).mp e
    omega
  unfold touch at e
  refine List.ext_getElem (by rw [ha.len, hbp.len]) fun i g1 g2 => ?_
  have e1 := congrArg (fun l => l[i]?) e
  simp only [List.getElem?_map, List.getElem?_eq_getElem g1, List.getElem?_eq_getElem g2, Option.map_some, Option.some.injEq] at e1
  have m1 := ha.mem.mp (List.getElem_mem g1)
  have m2 := hbp.mem.mp (List.getElem_mem g2)
  exact key _ _ m1.1 m1.2 m2.1 m2.2 e1
theorem ev_inj (hh : Hab m hb) : ∀ (w : List Int) (a b : List Int), Bf.Lt m w → Prm m a → Prm m b → Bf.ev (touch hb) a w = Bf.ev (touch hb) b w → a = b
  | [], _, _, _, _, _, e => e
  | p :: w, a, b, hw, ha, hbp, e => by
    have hp := hw p List.mem_cons_self
    have := ev_inj hh w (touch hb a p) (touch hb b p) (fun q hq => hw q (List.mem_cons_of_mem _ hq)) (touch_prm hh ha hp.1 hp.2) (touch_prm hh hbp hp.1 hp.2) e
    exact touch_inj hh ha hbp hp.1 hp.2 this
theorem rep_add {α : Type} (T : α → α) : ∀ (i k : Nat) (a : α), Nat.repeat T (i + k) a = Nat.repeat T i (Nat.repeat T k a)
  | 0, k, a => by rw [Nat.zero_add]; rfl
  | i + 1, k, a => by
    rw [Nat.add_right_comm]
    show T (Nat.repeat T (i + k) a) = T (Nat.repeat T i (Nat.repeat T k a))
    rw [rep_add T i k a]
theorem rep_ev (w : List Int) : ∀ (k : Nat) (a : List Int), Nat.repeat (fun x => Bf.ev (touch hb) x w) k a = Bf.ev (touch hb) a (List.replicate k w).flatten
  | 0, a => rfl
  | k + 1, a => by
    show Bf.ev (touch hb) (Nat.repeat (fun x => Bf.ev (touch hb) x w) k a) w = _
    rw [rep_ev w k a, ← Bf.ev_app, List.replicate_succ', List.flatten_append]
    simp
theorem lt_rep {w : List Int} (hw : Bf.Lt m w) (k : Nat) : Bf.Lt m (List.replicate k w).flatten := fun p hp => by
  obtain ⟨l, hl, h⟩ := List.mem_flatten.mp hp
  rw [List.mem_replicate] at hl
  rw [hl.2] at h
  exact hw p h
theorem ev_back (hh : Hab m hb) {lay w : List Int} (hp : Prm m lay) (hw : Bf.Lt m w) : ∃ v, Bf.Lt m v ∧ Bf.ev (touch hb) (Bf.ev (touch hb) lay w) v = lay := by
  have hP : ∀ k, Prm m (Nat.repeat (fun x => Bf.ev (touch hb) x w) k lay) := fun k => by
    rw [rep_ev]
    exact ev_prm hh (lt_rep hw k) hp
  have ex : ∃ i j, i < j ∧ Nat.repeat (fun x => Bf.ev (touch hb) x w) i lay = Nat.repeat (fun x => Bf.ev (touch hb) x w) j lay := by
    apply Classical.byContradiction
    intro no
    have nd : ((List.range 121).map fun i => Nat.repeat (fun x => Bf.ev (touch hb) x w) i lay).Nodup := by
      refine List.pairwise_map.mpr (List.Pairwise.imp (fun {i j} h e => no ⟨i, j, h, e⟩) (List.pairwise_lt_range (n := 121)))
    have := nodup_le nd fun x hx => by
      obtain ⟨i, _, rfl⟩ := List.mem_map.mp hx
      exact prm_mem (hP i)
    rw [List.length_map, List.length_range] at this
    have := perms_len hh.lo hh.hi
    omega
  obtain ⟨i, j, hij, e⟩ := ex
  obtain ⟨k, rfl⟩ : ∃ k, j = i + (k + 1) := ⟨j - i - 1, by omega⟩
  rw [rep_add] at e
  have e2 := Bf.pw_inj (T := fun x => Bf.ev (touch hb) x w) (P := Prm m) (fun a ha => ev_prm hh hw ha) (fun a b ha hbp e => ev_inj hh w a b hw ha hbp e) i lay _ hp (hP (k + 1)) e
  refine ⟨(List.replicate k w).flatten, lt_rep hw k, ?_⟩
  rw [rep_ev, List.replicate_succ, List.flatten_cons, Bf.ev_app] at e2
  exact e2.symm
theorem back_has (hh : Hab m hb) {lay other : List Int} (hp : Prm m lay) {f f' : Bf.F (List Int)} (F1 : Bf.Fin (touch hb) m lay f) (F2 : Bf.Fin (touch hb) m other f') (h : Bf.has f other = true) : Bf.has f' lay = true := by
  obtain ⟨w, hw, e⟩ := F1.key_iff.mp (Bf.has_iff.mp h)
  obtain ⟨v, hv, e2⟩ := ev_back hh hp hw
  rw [e] at e2
  exact Bf.has_iff.mpr (F2.key_iff.mpr ⟨v, hv, e2⟩)
/-- the greatest length -/
def maxLen (f : Bf.F (List Int)) : Nat := (f.map fun x => x.2.length).foldl max 0
theorem foldl_max_ge : ∀ (l : List Nat) (x : Nat), x ≤ l.foldl max x ∧ (∀ y ∈ l, y ≤ l.foldl max x) ∧ (l.foldl max x = x ∨ l.foldl max x ∈ l)
  | [], x => ⟨Nat.le_refl _, fun _ h => (by cases h), .inl rfl⟩
  | y :: l, x => by
    obtain ⟨h1, h2, h3⟩ := foldl_max_ge l (max x y)
    rw [List.foldl_cons]
    refine ⟨by omega, fun z hz => ?_, ?_⟩
    · rcases List.mem_cons.mp hz with rfl | hz
      · omega
      · exact h2 z hz
    · rcases h3 with h3 | h3
      · rw [h3]
        by_cases q : x ≤ y
        · right; rw [Nat.max_eq_right q]; simp
        · left; omega
      · right; simp [h3]
theorem maxLen_is {f : Bf.F (List Int)} (h : f ≠ []) : (∀ x ∈ f, x.2.length ≤ maxLen f) ∧ ∃ x ∈ f, x.2.length = maxLen f := by
  obtain ⟨h1, h2, h3⟩ := foldl_max_ge (f.map fun x => x.2.length) 0
  refine ⟨fun x hx => h2 _ (List.mem_map.mpr ⟨x, hx, rfl⟩), ?_⟩
  unfold maxLen
  rcases h3 with h3 | h3
  · cases f with
    | nil => exact (h rfl).elim
    | cons x f =>
      refine ⟨x, by simp, ?_⟩
      have := h2 x.2.length (by simp)
      omega
  · obtain ⟨x, hx, e⟩ := List.mem_map.mp h3
    exact ⟨x, hx, e⟩
theorem fin_ne {lay : List Int} {f : Bf.F (List Int)} (F : Bf.Fin (touch hb) m lay f) : f ≠ [] := by
  obtain ⟨w, h, _⟩ := F.all [] (fun _ h => (by cases h))
  rintro rfl
  cases h
theorem far_any {lay : List Int} {f0 : Bf.F (List Int)} (F0 : Bf.Fin (touch hb) m lay f0) : ∀ f, Bf.Fin (touch hb) m lay f → (∀ x ∈ f, x.2.length ≤ maxLen f0) ∧ ∃ x ∈ f, x.2.length = maxLen f0 := fun f F => by
  obtain ⟨h1, x, h2, h3⟩ := maxLen_is (fin_ne F0)
  exact ⟨fun y hy => h1 y (Bf.fin_mem F F0 hy), x, Bf.fin_mem F0 F h2, h3⟩
end PF

set_option Elab.async false
set_option linter.all false
set_option maxRecDepth 100000
set_option maxHeartbeats 2000000
namespace PF
open PySem DL
theorem trunc_exx (hh q : Hh) (d : D) : ∃ q', trunc hh (.ok d q) = .ok d q' := by
  unfold trunc
  simp only
  split
  · exact ⟨_, rfl⟩
  · exact ⟨_, rfl⟩
theorem compGo_cons {s : Src} {tg : TgC} {t : TΦ} {e : EΦ} {env env1 : DL.Env} {h h1 h2 : Hh} {d v : D} {r l : List D} (hok : s.ok h = true) (q1 : setC tg d env = some env1) (q2 : t env1 h = .ok true h) (q3 : e env1 h = .ok v h1) (q4 : compGo s tg t e env r h1 = .ok l h2) : compGo s tg t e env (d :: r) h = .ok (v :: l) h2 := by
  rw [compGo, if_pos hok, q1]
  simp only [q2, q3, q4, R.bind_ok]
/-- a word drawn -/
theorem word_comp (c : Calls) {ns : List Int} {m : Nat} (g : Hh) (hc : ∀ a b e, 0 ≤ a → ∃ v a' b' e', c 17 [.ref 1, .int m] (Fz ns :: rw3 a b e :: g) = .ok (.int v) (Fz ns :: rw3 a' b' e' :: g) ∧ 0 ≤ v ∧ v < m ∧ 0 ≤ a') (Ls : List D) (k : Nat) (env : DL.Env) (hk : 1 ≠ k ∧ 2 ≠ k) (h1 : env[1]? = some (some (.ref 1))) (h2 : env[2]? = some (some (.int m))) :
    ∀ (l : List Int) (a b e : Int), 0 ≤ a → ∃ w a' b' e', compGo ⟨Ls, none⟩ (.one k) T.yes (E.call 2 (c 17) (L.cons (E.var 1) (L.cons (E.var 2) L.nil))) env (l.map D.int) (Fz ns :: rw3 a b e :: g) = .ok (w.map D.int) (Fz ns :: rw3 a' b' e' :: g) ∧ w.length = l.length ∧ Wd m w ∧ 0 ≤ a' := by
  intro l
  induction l with
  | nil => intro a b e ha; exact ⟨[], a, b, e, rfl, rfl, fun p hp => (by cases hp), ha⟩
  | cons x l ih =>
    intro a b e ha
    obtain ⟨v, a1, b1, e1, hv, v0, v1, ha1⟩ := hc a b e ha
    obtain ⟨w, a2, b2, e2, q, hl, hw, ha2⟩ := ih a1 b1 e1 ha1
    refine ⟨v :: w, a2, b2, e2, ?_, by simp [hl], fun p hp => (List.mem_cons.mp hp).elim (fun z => z ▸ ⟨v0, v1⟩) (hw p), ha2⟩
    have g1 : (env.set k (some (.int x)))[1]? = some (some (.ref 1)) := by rw [List.getElem?_set_ne (Ne.symm hk.1)]; exact h1
    have g2 : (env.set k (some (.int x)))[2]? = some (some (.int m)) := by rw [List.getElem?_set_ne (Ne.symm hk.2)]; exact h2
    have el : E.call 2 (c 17) (L.cons (E.var 1) (L.cons (E.var 2) L.nil)) (env.set k (some (.int x))) (Fz ns :: rw3 a b e :: g) = .ok (.int v) (Fz ns :: rw3 a1 b1 e1 :: g) := by
      simp [E.call, L.cons, L.nil, E.var, g1, g2, hv, R.bind]
    exact compGo_cons rfl rfl rfl el q
variable {m : Nat} {hb : List (List Int)}
/-! ### what the calls answer -/
structure K1 (c : Calls) (m : Nat) (hb : List (List Int)) (lay : List Int) (f0 : Bf.F (List Int)) : Prop where
  fin : Bf.Fin (touch hb) m lay f0
  len : f0.length ≤ 120
  f8 : ∀ a p q, Prm m a → 0 ≤ p → p < (m : Int) → c 8 [H hb, tl a, .int p] q = .ok (tl (touch hb a p)) q
  f25 : ∀ a p q, Prm m a → 0 ≤ p → p < (m : Int) → c 25 [H hb, tl a, .int p] q = .ok (tl (touch hb a p)) q
  f24 : ∀ a q, Prm m a → c 24 [tl a, tl a] q = .ok (.bl true) q
  f21 : ∀ w q, Wd m w → w.length ≤ 400 → c 21 [H hb, tl lay, tl w] q = .ok (tl (Bf.ev (touch hb) lay w)) q
  f26 : ∀ a q, Prm m a → ∃ f, Bf.Fin (touch hb) m a f ∧ f.length ≤ 120 ∧ c 26 [H hb, tl a] q = .ok (.ref q.length) (q ++ [.dct (encV lenV f) f.length])
  f22 : ∀ q, c 22 [H hb, tl lay] q = .ok (.tup ((srtK f0).map fun x => tl x)) q
  f24r : ∀ q, c 24 [.tup ((srtK f0).map fun x => tl x), .tup ((srtK f0).map fun x => tl x)] q = .ok (.bl true) q
  f10 : ∀ o q, Prm m o → c 10 [H hb, tl lay, tl o] q = .ok (dW f0 o) q
  f11 : ∀ o q, Prm m o → c 11 [H hb, tl lay, tl o] q = .ok (dL f0 o) q
  f24d : ∀ o q, c 24 [dL f0 o, dL f0 o] q = .ok (.bl true) q
  f28 : ∀ o q, Bf.has f0 o = true → c 28 [H hb, tl lay, tl o, .int ((Bf.wd f0 o).length : Nat)] q = .ok (tl (Bf.wd f0 o)) q
  f12 : ∀ q, c 12 [H hb, tl lay] q = .ok (.int (maxLen f0 : Nat)) q
  f13 : ∀ f q, Bf.Fin (touch hb) m (rg m) f → c 13 [H hb] q = .ok (.int f.length) q
  f24l : ∀ (x y : Int) (r1 r2 : Nat) (q : Hh), q[r1]? = some (.lst [.int x, .int y]) → q[r2]? = some (.lst [.int x, .int y]) → ∃ q', c 24 [.ref r1, .ref r2] q = .ok (.bl true) q'
theorem dW_same {s : List Int} {f f' : Bf.F (List Int)} (F1 : Bf.Fin (touch hb) m s f) (F2 : Bf.Fin (touch hb) m s f') (o : List Int) : dW f o = dW f' o ∧ dL f o = dL f' o := by
  unfold dW dL
  rw [Bf.fin_has F1 F2 o]
  by_cases h : Bf.has f' o = true
  · have hk : o ∈ Bf.keys f := Bf.has_iff.mp (by rw [Bf.fin_has F1 F2]; exact h)
    rw [if_pos h, if_pos h, if_pos h, if_pos h, Bf.fin_wd F1 F2 hk]
    exact ⟨rfl, rfl⟩
  · rw [if_neg h, if_neg h, if_neg h, if_neg h]
    exact ⟨rfl, rfl⟩
theorem wd_len (hh : Hab m hb) {s : List Int} {n : Nat} {f : Bf.F (List Int)} {l : List (List Int)} (J : Bf.Inv (touch hb) m s n f l) : ∀ x ∈ f, x.2.length ≤ n := fun x hx => (J.ok x hx).2.2
theorem wd_lt (hh : Hab m hb) {lay : List Int} (hp : Prm m lay) {f0 : Bf.F (List Int)} (F : Bf.Fin (touch hb) m lay f0) {o : List Int} (ho : Bf.has f0 o = true) : (Bf.wd f0 o).length ≤ 120 := by
  -- prefixes of a least word are all apart
  have hk := Bf.has_iff.mp ho
  obtain ⟨e1, e2⟩ := F.ok _ (Bf.wd_mem hk)
  have e1 : Bf.ev (touch hb) lay (Bf.wd f0 o) = o := e1
  generalize hw : Bf.wd f0 o = w at *
  have ltk : ∀ i, Bf.Lt m (w.take i) := fun i p hp => e2 p (List.mem_of_mem_take hp)
  have nd : ((List.range (w.length + 1)).map fun i => Bf.ev (touch hb) lay (w.take i)).Nodup := by
    refine List.pairwise_map.mpr ?_
    refine List.Pairwise.imp_of_mem (R := fun i j => i < j) (fun {i j} hi hj h e => ?_) (List.pairwise_lt_range (n := w.length + 1))
    have hj : j ≤ w.length := by have := List.mem_range.mp hj; omega
    have lt2 : Bf.Lt m (w.take i ++ w.drop j) := fun p hp => (List.mem_append.mp hp).elim (fun h => ltk i p h) fun h => e2 p (List.mem_of_mem_drop h)
    have e3 : Bf.ev (touch hb) lay (w.take i ++ w.drop j) = o := by
      rw [Bf.ev_app, e, ← Bf.ev_app, List.take_append_drop, e1]
    have := Bf.sle_len (F.least lt2)
    rw [e3, hw] at this
    simp at this
    omega
  have := nodup_le nd fun x hx => by
    obtain ⟨i, _, rfl⟩ := List.mem_map.mp hx
    exact prm_mem (ev_prm hh (ltk i) hp)
  rw [List.length_map, List.length_range] at this
  have := perms_len hh.lo hh.hi
  omega
theorem k1_of (bd : Bd) [i : H_law_k01 bd] (hh : Hab m hb) {lay : List Int} (hp : Prm m lay) : ∃ f0, K1 (runF bd 11) m hb lay f0 := by
  obtain ⟨f0, _, F0, hl, _⟩ := words_from_ok bd 0 hh hp []
  have hm := hh.hi
  refine ⟨f0, F0, hl, fun a p q ha h0 h1 => touched_ok bd 6 hh ha h0 h1 q, fun a p q ha h0 h1 => lw_touch_ok bd 10 hh ha h0 h1 q, fun a q ha => al_tl bd 0 (by rw [ha.len]; omega) 9 q, fun w q hw hl => after_ok bd 6 hh hp hw hl q, fun a q ha => lw_near_ok bd 9 hh ha q, fun q => ?_, fun q => ?_, fun o q ho => ?_, fun o q ho => ?_, fun o q => ?_, fun o q ho => ?_, fun q => ?_, fun f q hf => ?_, fun x y r1 r2 q e1 e2 => ⟨q, ?_⟩⟩
  · obtain ⟨f, F, _, e⟩ := can_come_ok bd 6 hh hp q
    have : srtK f = srtK f0 := sort_perm (Bf.fin_keys F F0)
    rw [this] at e
    exact e
  · refine al_rows bd 0 (by rw [srtK_len]; omega) (fun r hr => ?_) 8 q
    have := (fin_prm hh hp F0 r (srtK_mem.mp hr)).len
    omega
  · obtain ⟨f, F, _, e⟩ := word_between_ok bd 6 hh hp ho q
    rw [(dW_same F F0 o).1] at e
    exact e
  · obtain ⟨f, F, _, e⟩ := distance_ok bd 5 hh hp ho q
    rw [(dW_same F F0 o).2] at e
    exact e
  · unfold dL
    split
    · exact al_int bd 0 _ 10 q
    · exact al_non bd 0 10 q
  · exact least_ok bd 9 hh hp (by have := wd_lt hh hp F0 ho; omega) (Bf.x_is F0 (Bf.has_iff.mp ho)) q
  · exact farthest_ok bd 6 hh hp q (far_any F0)
  · obtain ⟨f', F, _, e⟩ := order_of_ok bd 7 hh q
    rw [show f'.length = f.length from by have := (Bf.fin_keys F hf).length_eq; simpa [Bf.keys] using this] at e
    exact e
  · exact al_lists bd 9 (l := [.int x, .int y]) (by simp) e1 e2 (n := 1) fun z hz => by
      simp only [List.mem_cons, List.not_mem_nil, or_false] at hz
      rcases hz with rfl | rfl
      · exact al_int bd 0 x
      · exact al_int bd 0 y
end PF

set_option Elab.async false
set_option linter.all false
set_option maxRecDepth 100000
set_option maxHeartbeats 4000000
namespace PF
open PySem DL
abbrev turnB (c : Calls) : SΦ := (S.seq (S.set 10 (E.call 2 (c 27) (L.cons (E.var 1) (L.cons (E.ofL (L.disp (L.cons (E.call 2 (c 18) (L.cons (E.var 1) (L.cons (E.var 2) L.nil))) (L.cons (E.var 9) L.nil)))) L.nil)))) (S.seq (S.set 11 (E.call 3 (c 10) (L.cons (E.var 6) (L.cons (E.var 7) (L.cons (E.var 10) L.nil))))) (S.seq (S.ife (T.not (T.val (E.call 2 (c 24) (L.cons (E.call 3 (c 11) (L.cons (E.var 6) (L.cons (E.var 7) (L.cons (E.var 10) L.nil)))) (L.cons (E.met isDc D.dget (E.var 4) (L.cons (E.var 10) (L.cons (E.con .non) L.nil))) L.nil))))) (S.ret (E.con (.bl false))) S.nil) (S.ife (T.isN (E.var 11)) (S.ife (T.val (E.op2 (D.inA false) (E.var 10) (E.var 4))) (S.ret (E.con (.bl false))) S.nil) (S.ife (T.or (T.val (E.op2 (D.inA true) (E.var 10) (E.var 4))) (T.val (E.op2 D.ne (E.var 11) (E.call 4 (c 28) (L.cons (E.var 6) (L.cons (E.var 7) (L.cons (E.var 10) (L.cons (E.op2 D.ixK (E.var 4) (E.var 10)) L.nil)))))))) (S.ret (E.con (.bl false))) (S.ife (T.val (E.op2 (D.inA true) (E.var 7) (E.call 2 (c 26) (L.cons (E.var 6) (L.cons (E.var 10) L.nil))))) (S.ret (E.con (.bl false))) S.nil))))))
abbrev restK1 (c : Calls) : SΦ := (S.seq (S.for (I.ofK (E.var 8)) (Tg.name 3) (S.seq (S.ife (T.not (T.val (E.call 2 (c 24) (L.cons (E.call 3 (c 8) (L.cons (E.var 6) (L.cons (E.var 9) (L.cons (E.var 3) L.nil)))) (L.cons (E.call 3 (c 25) (L.cons (E.var 6) (L.cons (E.var 9) (L.cons (E.var 3) L.nil)))) L.nil))))) (S.ret (E.con (.bl false))) S.nil) (S.set 9 (E.call 3 (c 25) (L.cons (E.var 6) (L.cons (E.var 9) (L.cons (E.var 3) L.nil))))))) (S.seq (S.ife (T.not (T.val (E.call 2 (c 24) (L.cons (E.call 3 (c 21) (L.cons (E.var 6) (L.cons (E.var 7) (L.cons (E.var 8) L.nil)))) (L.cons (E.var 9) L.nil))))) (S.ret (E.con (.bl false))) S.nil) (S.seq (S.set 4 (E.call 2 (c 26) (L.cons (E.var 6) (L.cons (E.var 7) L.nil)))) (S.seq (S.ife (T.not (T.val (E.call 2 (c 24) (L.cons (E.call 2 (c 22) (L.cons (E.var 6) (L.cons (E.var 7) L.nil))) (L.cons (E.tuple (L.sorted (Co.of (E.var 4)))) L.nil))))) (S.ret (E.con (.bl false))) S.nil) (S.seq (S.for (I.rng1 (E.con (.int 3))) (Tg.name 12) (turnB c)) (S.seq (S.set 5 (E.call 2 (c 26) (L.cons (E.var 6) (L.cons (E.tuple (L.rng1 (E.var 2))) L.nil)))) (S.ret (E.call 2 (c 24) (L.cons (E.ofL (L.disp (L.cons (E.call 2 (c 12) (L.cons (E.var 6) (L.cons (E.var 7) L.nil))) (L.cons (E.call 1 (c 13) (L.cons (E.var 6) L.nil)) L.nil)))) (L.cons (E.ofL (L.disp (L.cons (E.best true (L.vals (E.var 4))) (L.cons (E.len (Co.of (E.var 5))) L.nil)))) L.nil))))))))))
variable {m : Nat} {hb : List (List Int)}
structure Dr (c : Calls) (ns : List Int) (m : Nat) : Prop where
  f18 : ∀ a b e g, 0 ≤ a → ∃ (l : List Int) (a' b' e' : Int), c 18 [.ref 1, .int m] (Fz ns :: rw3 a b e :: g) = .ok (tl l) (Fz ns :: rw3 a' b' e' :: g) ∧ 0 ≤ a' ∧ Prm m l
  f27 : ∀ (a b e : Int) (l : List D) (r : Nat) (g : Hh), 0 ≤ a → 0 < l.length → l.length ≤ 1000 → g[r]? = some (.lst l) → (∀ x ∈ l, x.under 0 = true) → ∃ v a' b' e', v ∈ l ∧ c 27 [.ref 1, .ref (r + 2)] (Fz ns :: rw3 a b e :: g) = .ok v (Fz ns :: rw3 a' b' e' :: g) ∧ 0 ≤ a'
abbrev kE (x0 x3 x5 : Option D) (m : Nat) (hb : List (List Int)) (lay w here : List Int) (r : Nat) (x10 x11 x12 : Option D) : DL.Env := [x0, some (.ref 1), some (.int m), x3, some (.ref (r + 2)), x5, some (H hb), some (tl lay), some (tl w), some (tl here), x10, x11, x12]
theorem turn_ok (c : Calls) {ns : List Int} (hh : Hab m hb) {lay here w : List Int} (hp : Prm m lay) (hr : Prm m here) {f0 f1 : Bf.F (List Int)} (K : K1 c m hb lay f0) (F1 : Bf.Fin (touch hb) m lay f1) (Dw : Dr c ns m) (a b e : Int) (g : Hh) (k : Nat) (ha : 0 ≤ a) (hg : g[k]? = some (.dct (encV lenV f1) f1.length)) (x0 x3 x5 x10 x11 x12 : Option D) :
    ∃ y10 y11 a' b' e' g', turnB c (kE x0 x3 x5 m hb lay w here k x10 x11 x12) (Fz ns :: rw3 a b e :: g) = .nx (kE x0 x3 x5 m hb lay w here k y10 y11 x12) (Fz ns :: rw3 a' b' e' :: g') ∧ 0 ≤ a' ∧ g'[k]? = some (.dct (encV lenV f1) f1.length) := by
  obtain ⟨o, a1, b1, e1, h18, ha1, ho⟩ := Dw.f18 a b e g ha
  obtain ⟨v, a2, b2, e2, hv, h27, ha2⟩ := Dw.f27 a1 b1 e1 [tl o, tl here] g.length (g ++ [.lst [tl o, tl here]]) ha1 (by simp) (by simp) (by simp) (fun x hx => by
    simp only [List.mem_cons, List.not_mem_nil, or_false] at hx
    rcases hx with rfl | rfl <;> exact under_tl _ _)
  obtain ⟨ot, rfl, hot⟩ : ∃ ot, v = tl ot ∧ Prm m ot := by
    simp only [List.mem_cons, List.not_mem_nil, or_false] at hv
    rcases hv with rfl | rfl
    · exact ⟨o, rfl, ho⟩
    · exact ⟨here, rfl, hr⟩
  have hk : k < g.length := (List.getElem?_eq_some_iff.mp hg).1
  have hg2 : (g ++ [MO.lst [tl o, tl here]])[k]? = some (.dct (encV lenV f1) f1.length) := by rw [List.getElem?_append_left hk]; exact hg
  have s1 : S.set 10 (E.call 2 (c 27) (L.cons (E.var 1) (L.cons (E.ofL (L.disp (L.cons (E.call 2 (c 18) (L.cons (E.var 1) (L.cons (E.var 2) L.nil))) (L.cons (E.var 9) L.nil)))) L.nil))) (kE x0 x3 x5 m hb lay w here k x10 x11 x12) (Fz ns :: rw3 a b e :: g) = .nx (kE x0 x3 x5 m hb lay w here k (some (tl ot)) x11 x12) (Fz ns :: rw3 a2 b2 e2 :: (g ++ [.lst [tl o, tl here]])) := by
    have h27' : c 27 [.ref 1, .ref (g.length + 2)] (Fz ns :: rw3 a1 b1 e1 :: (g ++ [.lst [tl o, tl here]])) = _ := h27
    simp [E.var, E.con, E.op2, E.op1, E.and, E.or, E.ofT, E.isi, isiD, tyNm, isiB, T.not, T.val, T.and, T.or, T.isN, T.notN, T.yes, T.tru, truthD, D.isN, E.chain, E.ifx, D.le, D.lt, D.ge, D.gt, D.add, D.sub, D.mul, D.mod, D.fdiv, D.pow, D.neg, D.eq, D.ne, D.flat, D.eqv, E.call, L.cons, L.nil, L.disp, E.tup, E.tuple, E.ofL, E.len, E.lenSet, Q.of, R.of, rdQ, rdL, E.app, D.toInt, D.max2, D.min2, R.toS, R.toG, R.bind, S.ret, S.retN, S.seq, S.ife, S.nil, S.expr, S.set, S.par, S.asg, S.bad, S.for, E.gen, I.of, I.enum, srcE, srcD, L.comp, D.ix, E.sl, O.none, O.some, slD, E.met, isT, isL, D.tindex, wipeE, setC, Tg.name, Tg.cons, Tg.nil, Tg.tup, fits, runB, -List.map_take, -List.map_drop, -List.map_set, D.ixK, dctAt, lenC, rdC, leA_int, ltA_int, gtA_int, geA_int, I.ofK, srcK, Tg.subK, setK, h18, h27']
  generalize hG : g ++ [MO.lst [tl o, tl here]] = G at *
  have hq : (Fz ns :: rw3 a2 b2 e2 :: G)[k + 2]? = some (.dct (encV lenV f1) f1.length) := by simpa using hg2
  generalize hQ : Fz ns :: rw3 a2 b2 e2 :: G = q at *
  have f10 := K.f10 ot q hot
  have f11 := K.f11 ot q hot
  have f24 := K.f24d ot q
  have hd : E.met isDc D.dget (E.var 4) (L.cons (E.var 10) (L.cons (E.con .non) L.nil)) (kE x0 x3 x5 m hb lay w here k (some (tl ot)) (some (dW f0 ot)) x12) q = .ok (dL f0 ot) q := by
    have h1 : isDc (.ref (k + 2)) q = true := by unfold isDc; simp only [hq]
    have h2 : (findD (encV lenV f1) (tl ot).nk).getD .non = dL f0 ot := by
      rw [(dW_same K.fin F1 ot).2]
      unfold dL
      by_cases z : Bf.has f1 ot = true
      · rw [if_pos z, find_wdV (Bf.has_iff.mp z)]
        rfl
      · rw [if_neg z, find_noV (by simpa using z)]
        rfl
    simp only [E.met, E.var, E.con, L.cons, L.nil, List.getElem?_cons_succ, List.getElem?_cons_zero, R.bind_ok, h1, if_true, D.dget, dctAt_of hq, kok_tl, h2]
  have s2 : S.set 11 (E.call 3 (c 10) (L.cons (E.var 6) (L.cons (E.var 7) (L.cons (E.var 10) L.nil)))) (kE x0 x3 x5 m hb lay w here k (some (tl ot)) x11 x12) q = .nx (kE x0 x3 x5 m hb lay w here k (some (tl ot)) (some (dW f0 ot)) x12) q := by simp [E.var, E.con, E.op2, E.op1, E.and, E.or, E.ofT, E.isi, isiD, tyNm, isiB, T.not, T.val, T.and, T.or, T.isN, T.notN, T.yes, T.tru, truthD, D.isN, E.chain, E.ifx, D.le, D.lt, D.ge, D.gt, D.add, D.sub, D.mul, D.mod, D.fdiv, D.pow, D.neg, D.eq, D.ne, D.flat, D.eqv, E.call, L.cons, L.nil, L.disp, E.tup, E.tuple, E.ofL, E.len, E.lenSet, Q.of, R.of, rdQ, rdL, E.app, D.toInt, D.max2, D.min2, R.toS, R.toG, R.bind, S.ret, S.retN, S.seq, S.ife, S.nil, S.expr, S.set, S.par, S.asg, S.bad, S.for, E.gen, I.of, I.enum, srcE, srcD, L.comp, D.ix, E.sl, O.none, O.some, slD, E.met, isT, isL, D.tindex, wipeE, setC, Tg.name, Tg.cons, Tg.nil, Tg.tup, fits, runB, -List.map_take, -List.map_drop, -List.map_set, D.ixK, dctAt, lenC, rdC, leA_int, ltA_int, gtA_int, geA_int, I.ofK, srcK, Tg.subK, setK, f10]
  have s3 : S.ife (T.not (T.val (E.call 2 (c 24) (L.cons (E.call 3 (c 11) (L.cons (E.var 6) (L.cons (E.var 7) (L.cons (E.var 10) L.nil)))) (L.cons (E.met isDc D.dget (E.var 4) (L.cons (E.var 10) (L.cons (E.con .non) L.nil))) L.nil))))) (S.ret (E.con (.bl false))) S.nil (kE x0 x3 x5 m hb lay w here k (some (tl ot)) (some (dW f0 ot)) x12) q = .nx (kE x0 x3 x5 m hb lay w here k (some (tl ot)) (some (dW f0 ot)) x12) q := by
    generalize E.met isDc D.dget (E.var 4) (L.cons (E.var 10) (L.cons (E.con .non) L.nil)) = ψ at *
    simp [E.var, E.con, E.op2, E.op1, E.and, E.or, E.ofT, E.isi, isiD, tyNm, isiB, T.not, T.val, T.and, T.or, T.isN, T.notN, T.yes, T.tru, truthD, D.isN, E.chain, E.ifx, D.le, D.lt, D.ge, D.gt, D.add, D.sub, D.mul, D.mod, D.fdiv, D.pow, D.neg, D.eq, D.ne, D.flat, D.eqv, E.call, L.cons, L.nil, L.disp, E.tup, E.tuple, E.ofL, E.len, E.lenSet, Q.of, R.of, rdQ, rdL, E.app, D.toInt, D.max2, D.min2, R.toS, R.toG, R.bind, S.ret, S.retN, S.seq, S.ife, S.nil, S.expr, S.set, S.par, S.asg, S.bad, S.for, E.gen, I.of, I.enum, srcE, srcD, L.comp, D.ix, E.sl, O.none, O.some, slD, E.met, isT, isL, D.tindex, wipeE, setC, Tg.name, Tg.cons, Tg.nil, Tg.tup, fits, runB, -List.map_take, -List.map_drop, -List.map_set, D.ixK, dctAt, lenC, rdC, leA_int, ltA_int, gtA_int, geA_int, I.ofK, srcK, Tg.subK, setK, f11, hd, f24]
  have hin := fun neg => in_V hq neg ot
  by_cases z : Bf.has f0 ot = true
  · have z1 : Bf.has f1 ot = true := by rw [← Bf.fin_has K.fin F1]; exact z
    have hw : dW f0 ot = tl (Bf.wd f0 ot) := by unfold dW; rw [if_pos z]
    have hix := ix_V hq (Bf.has_iff.mp z1)
    rw [← Bf.fin_wd K.fin F1 (Bf.has_iff.mp z)] at hix
    have f28 := K.f28 ot q z
    obtain ⟨f2, F2, hl2, e26⟩ := K.f26 ot q hot
    have hb2 := back_has hh hp K.fin F2 z
    have hin2 := in_V (h := q ++ [.dct (encV lenV f2) f2.length]) (n := q.length) (v := lenV) (f := f2) (by simp) true lay
    rw [hb2] at hin2
    rw [z1] at hin
    refine ⟨some (tl ot), some (dW f0 ot), a2, b2, e2, G ++ [.dct (encV lenV f2) f2.length], ?_, ha2, by rw [List.getElem?_append_left (List.getElem?_eq_some_iff.mp hg2).1]; exact hg2⟩
    unfold turnB
    rw [seq_nx s1, seq_nx s2, seq_nx s3, hw]
    rw [show Fz ns :: rw3 a2 b2 e2 :: (G ++ [MO.dct (encV lenV f2) f2.length]) = q ++ [.dct (encV lenV f2) f2.length] by rw [← hQ]; rfl]
    have t1 : T.isN (E.var 11) (kE x0 x3 x5 m hb lay w here k (some (tl ot)) (some (tl (Bf.wd f0 ot))) x12) q = .ok false q := by simp [E.var, E.con, E.op2, E.op1, E.and, E.or, E.ofT, E.isi, isiD, tyNm, isiB, T.not, T.val, T.and, T.or, T.isN, T.notN, T.yes, T.tru, truthD, D.isN, E.chain, E.ifx, D.le, D.lt, D.ge, D.gt, D.add, D.sub, D.mul, D.mod, D.fdiv, D.pow, D.neg, D.eq, D.ne, D.flat, D.eqv, E.call, L.cons, L.nil, L.disp, E.tup, E.tuple, E.ofL, E.len, E.lenSet, Q.of, R.of, rdQ, rdL, E.app, D.toInt, D.max2, D.min2, R.toS, R.toG, R.bind, S.ret, S.retN, S.seq, S.ife, S.nil, S.expr, S.set, S.par, S.asg, S.bad, S.for, E.gen, I.of, I.enum, srcE, srcD, L.comp, D.ix, E.sl, O.none, O.some, slD, E.met, isT, isL, D.tindex, wipeE, setC, Tg.name, Tg.cons, Tg.nil, Tg.tup, fits, runB, -List.map_take, -List.map_drop, -List.map_set]
    have t2 : T.or (T.val (E.op2 (D.inA true) (E.var 10) (E.var 4))) (T.val (E.op2 D.ne (E.var 11) (E.call 4 (c 28) (L.cons (E.var 6) (L.cons (E.var 7) (L.cons (E.var 10) (L.cons (E.op2 D.ixK (E.var 4) (E.var 10)) L.nil))))))) (kE x0 x3 x5 m hb lay w here k (some (tl ot)) (some (tl (Bf.wd f0 ot))) x12) q = .ok false q := by
      have u1 : T.val (E.op2 (D.inA true) (E.var 10) (E.var 4)) (kE x0 x3 x5 m hb lay w here k (some (tl ot)) (some (tl (Bf.wd f0 ot))) x12) q = .ok false q := by
        simp only [T.val, E.op2, E.var, List.getElem?_cons_succ, List.getElem?_cons_zero, R.bind_ok, hin true]
        rfl
      have u2 : E.op2 D.ixK (E.var 4) (E.var 10) (kE x0 x3 x5 m hb lay w here k (some (tl ot)) (some (tl (Bf.wd f0 ot))) x12) q = .ok (lenV (Bf.wd f0 ot)) q := by
        simp only [E.op2, E.var, List.getElem?_cons_succ, List.getElem?_cons_zero, R.bind_ok, hix]
      have ff := flat_tl 31 (Bf.wd f0 ot)
      have fe := eqvs_ints (Bf.wd f0 ot) (Bf.wd f0 ot)
      generalize E.op2 D.ixK (E.var 4) (E.var 10) = ψ at *
      generalize T.val (E.op2 (D.inA true) (E.var 10) (E.var 4)) = τ at *
      simp only [lenV] at u2
      simp [E.var, E.con, E.op2, E.op1, E.and, E.or, E.ofT, E.isi, isiD, tyNm, isiB, T.not, T.val, T.and, T.or, T.isN, T.notN, T.yes, T.tru, truthD, D.isN, E.chain, E.ifx, D.le, D.lt, D.ge, D.gt, D.add, D.sub, D.mul, D.mod, D.fdiv, D.pow, D.neg, D.eq, D.ne, D.flat, D.eqv, E.call, L.cons, L.nil, L.disp, E.tup, E.tuple, E.ofL, E.len, E.lenSet, Q.of, R.of, rdQ, rdL, E.app, D.toInt, D.max2, D.min2, R.toS, R.toG, R.bind, S.ret, S.retN, S.seq, S.ife, S.nil, S.expr, S.set, S.par, S.asg, S.bad, S.for, E.gen, I.of, I.enum, srcE, srcD, L.comp, D.ix, E.sl, O.none, O.some, slD, E.met, isT, isL, D.tindex, wipeE, setC, Tg.name, Tg.cons, Tg.nil, Tg.tup, fits, runB, -List.map_take, -List.map_drop, -List.map_set, D.ixK, dctAt, lenC, rdC, leA_int, ltA_int, gtA_int, geA_int, I.ofK, srcK, Tg.subK, setK, u1, u2, f28, flats_ints, fe]
    have t3 : T.val (E.op2 (D.inA true) (E.var 7) (E.call 2 (c 26) (L.cons (E.var 6) (L.cons (E.var 10) L.nil)))) (kE x0 x3 x5 m hb lay w here k (some (tl ot)) (some (tl (Bf.wd f0 ot))) x12) q = .ok false (q ++ [.dct (encV lenV f2) f2.length]) := by
      have u : E.call 2 (c 26) (L.cons (E.var 6) (L.cons (E.var 10) L.nil)) (kE x0 x3 x5 m hb lay w here k (some (tl ot)) (some (tl (Bf.wd f0 ot))) x12) q = .ok (.ref q.length) (q ++ [.dct (encV lenV f2) f2.length]) := by
        simp only [E.call, E.var, L.cons, L.nil, List.getElem?_cons_succ, List.getElem?_cons_zero, R.bind_ok]
        simp [e26]
      simp only [T.val, E.op2, u, E.var, List.getElem?_cons_succ, List.getElem?_cons_zero, R.bind_ok, hin2]
      rfl
    rw [ife_f t1, ife_f t2, ife_f t3]
    rfl
  · have z1 : Bf.has f1 ot = false := by rw [← Bf.fin_has K.fin F1]; simpa using z
    have hw : dW f0 ot = .non := by unfold dW; rw [if_neg z]
    rw [z1] at hin
    refine ⟨some (tl ot), some (dW f0 ot), a2, b2, e2, G, ?_, ha2, hg2⟩
    unfold turnB
    rw [seq_nx s1, seq_nx s2, seq_nx s3, hw, hQ]
    have t1 : T.isN (E.var 11) (kE x0 x3 x5 m hb lay w here k (some (tl ot)) (some .non) x12) q = .ok true q := by simp [E.var, E.con, E.op2, E.op1, E.and, E.or, E.ofT, E.isi, isiD, tyNm, isiB, T.not, T.val, T.and, T.or, T.isN, T.notN, T.yes, T.tru, truthD, D.isN, E.chain, E.ifx, D.le, D.lt, D.ge, D.gt, D.add, D.sub, D.mul, D.mod, D.fdiv, D.pow, D.neg, D.eq, D.ne, D.flat, D.eqv, E.call, L.cons, L.nil, L.disp, E.tup, E.tuple, E.ofL, E.len, E.lenSet, Q.of, R.of, rdQ, rdL, E.app, D.toInt, D.max2, D.min2, R.toS, R.toG, R.bind, S.ret, S.retN, S.seq, S.ife, S.nil, S.expr, S.set, S.par, S.asg, S.bad, S.for, E.gen, I.of, I.enum, srcE, srcD, L.comp, D.ix, E.sl, O.none, O.some, slD, E.met, isT, isL, D.tindex, wipeE, setC, Tg.name, Tg.cons, Tg.nil, Tg.tup, fits, runB, -List.map_take, -List.map_drop, -List.map_set]
    have t2 : T.val (E.op2 (D.inA false) (E.var 10) (E.var 4)) (kE x0 x3 x5 m hb lay w here k (some (tl ot)) (some .non) x12) q = .ok false q := by
      simp only [T.val, E.op2, E.var, List.getElem?_cons_succ, List.getElem?_cons_zero, R.bind_ok, hin false]
      rfl
    rw [ife_t t1, ife_f t2]
    rfl
end PF

set_option Elab.async false
set_option linter.all false
set_option maxRecDepth 100000
set_option maxHeartbeats 4000000
namespace PF
open PySem DL
variable {m : Nat} {hb : List (List Int)}
theorem restK1_ok (c : Calls) {ns : List Int} (hh : Hab m hb) {lay w : List Int} (hp : Prm m lay) (hw : Wd m w) (hwl : w.length ≤ 400) {f0 : Bf.F (List Int)} (K : K1 c m hb lay f0) (Dw : Dr c ns m) (a b e : Int) (g : Hh) (ha : 0 ≤ a) (x0 x3 : Option D) :
    ((restK1 c) [x0, some (.ref 1), some (.int m), x3, none, none, some (H hb), some (tl lay), some (tl w), some (tl lay), none, none, none] (Fz ns :: rw3 a b e :: g)).sat (fun _ _ => False) (fun d _ => d = .bl true) := by
  have evp : ∀ v, Wd m v → Prm m (Bf.ev (touch hb) lay v) := fun v hv => ev_prm hh hv hp
  generalize hq : Fz ns :: rw3 a b e :: g = q
  refine seq_sat (for_sat (enc := D.int) (fun pre en r => ∃ y3, en = [x0, some (.ref 1), some (.int m), y3, none, none, some (H hb), some (tl lay), some (tl w), some (tl (Bf.ev (touch hb) lay pre)), none, none, none] ∧ r = q) w (h1 := q) (s := ⟨w.map D.int, none⟩) rfl rfl ⟨x3, rfl, rfl⟩ (fun _ _ _ _ _ => rfl) ?_ ?_)
  · rintro pre p post _ r hl ⟨y3, rfl, rr⟩
    rw [rr]
    have hp1 := hw p (by rw [hl]; simp)
    have hpre : Wd m pre := fun z hz => hw z (by rw [hl]; simp [hz])
    have e8 := K.f8 _ p q (evp pre hpre) hp1.1 hp1.2
    have e25 := K.f25 _ p q (evp pre hpre) hp1.1 hp1.2
    have e24 := K.f24 _ q (touch_prm hh (evp pre hpre) hp1.1 hp1.2)
    refine ⟨_, _, rfl, RS.satL_of (seq_sat (ife_sat (c := false) (h1 := q) ?_ (fun z => by cases z) fun _ => ?_))⟩
    · simp [E.var, E.con, E.op2, E.op1, E.and, E.or, E.ofT, E.isi, isiD, tyNm, isiB, T.not, T.val, T.and, T.or, T.isN, T.notN, T.yes, T.tru, truthD, D.isN, E.chain, E.ifx, D.le, D.lt, D.ge, D.gt, D.add, D.sub, D.mul, D.mod, D.fdiv, D.pow, D.neg, D.eq, D.ne, D.flat, D.eqv, E.call, L.cons, L.nil, L.disp, E.tup, E.tuple, E.ofL, E.len, E.lenSet, Q.of, R.of, rdQ, rdL, E.app, D.toInt, D.max2, D.min2, R.toS, R.toG, R.bind, S.ret, S.retN, S.seq, S.ife, S.nil, S.expr, S.set, S.par, S.asg, S.bad, S.for, E.gen, I.of, I.enum, srcE, srcD, L.comp, D.ix, E.sl, O.none, O.some, slD, E.met, isT, isL, D.tindex, wipeE, setC, Tg.name, Tg.cons, Tg.nil, Tg.tup, fits, runB, -List.map_take, -List.map_drop, -List.map_set, D.ixK, dctAt, lenC, rdC, leA_int, ltA_int, gtA_int, geA_int, I.ofK, srcK, Tg.subK, setK, e8, e25, e24]
    · show RS.sat (S.set 9 _ _ q) _ _
      refine set_sat (d := tl (touch hb (Bf.ev (touch hb) lay pre) p)) (h1 := q) (by simp [E.var, E.con, E.op2, E.op1, E.and, E.or, E.ofT, E.isi, isiD, tyNm, isiB, T.not, T.val, T.and, T.or, T.isN, T.notN, T.yes, T.tru, truthD, D.isN, E.chain, E.ifx, D.le, D.lt, D.ge, D.gt, D.add, D.sub, D.mul, D.mod, D.fdiv, D.pow, D.neg, D.eq, D.ne, D.flat, D.eqv, E.call, L.cons, L.nil, L.disp, E.tup, E.tuple, E.ofL, E.len, E.lenSet, Q.of, R.of, rdQ, rdL, E.app, D.toInt, D.max2, D.min2, R.toS, R.toG, R.bind, S.ret, S.retN, S.seq, S.ife, S.nil, S.expr, S.set, S.par, S.asg, S.bad, S.for, E.gen, I.of, I.enum, srcE, srcD, L.comp, D.ix, E.sl, O.none, O.some, slD, E.met, isT, isL, D.tindex, wipeE, setC, Tg.name, Tg.cons, Tg.nil, Tg.tup, fits, runB, -List.map_take, -List.map_drop, -List.map_set, D.ixK, dctAt, lenC, rdC, leA_int, ltA_int, gtA_int, geA_int, I.ofK, srcK, Tg.subK, setK, e25]) ⟨some (.int p), ?_, rfl⟩
      rw [Bf.ev_snoc]
      rfl
  rintro _ r ⟨y3, rfl, rr⟩
  rw [rr]
  clear rr
  have hhere := evp w hw
  generalize hE : Bf.ev (touch hb) lay w = here at *
  have e21 := K.f21 w q hw hwl
  rw [hE] at e21
  have e24 := K.f24 here q hhere
  refine seq_sat (ife_sat (c := false) (h1 := q) ?_ (fun z => by cases z) fun _ => ?_)
  · simp [E.var, E.con, E.op2, E.op1, E.and, E.or, E.ofT, E.isi, isiD, tyNm, isiB, T.not, T.val, T.and, T.or, T.isN, T.notN, T.yes, T.tru, truthD, D.isN, E.chain, E.ifx, D.le, D.lt, D.ge, D.gt, D.add, D.sub, D.mul, D.mod, D.fdiv, D.pow, D.neg, D.eq, D.ne, D.flat, D.eqv, E.call, L.cons, L.nil, L.disp, E.tup, E.tuple, E.ofL, E.len, E.lenSet, Q.of, R.of, rdQ, rdL, E.app, D.toInt, D.max2, D.min2, R.toS, R.toG, R.bind, S.ret, S.retN, S.seq, S.ife, S.nil, S.expr, S.set, S.par, S.asg, S.bad, S.for, E.gen, I.of, I.enum, srcE, srcD, L.comp, D.ix, E.sl, O.none, O.some, slD, E.met, isT, isL, D.tindex, wipeE, setC, Tg.name, Tg.cons, Tg.nil, Tg.tup, fits, runB, -List.map_take, -List.map_drop, -List.map_set, D.ixK, dctAt, lenC, rdC, leA_int, ltA_int, gtA_int, geA_int, I.ofK, srcK, Tg.subK, setK, e21, e24]
  show RS.sat (S.seq _ _ _ _) _ _
  obtain ⟨f1, F1, hl1, e26⟩ := K.f26 lay q hp
  refine seq_sat (set_sat (d := .ref q.length) (h1 := q ++ [.dct (encV lenV f1) f1.length]) (by simp [E.var, E.con, E.op2, E.op1, E.and, E.or, E.ofT, E.isi, isiD, tyNm, isiB, T.not, T.val, T.and, T.or, T.isN, T.notN, T.yes, T.tru, truthD, D.isN, E.chain, E.ifx, D.le, D.lt, D.ge, D.gt, D.add, D.sub, D.mul, D.mod, D.fdiv, D.pow, D.neg, D.eq, D.ne, D.flat, D.eqv, E.call, L.cons, L.nil, L.disp, E.tup, E.tuple, E.ofL, E.len, E.lenSet, Q.of, R.of, rdQ, rdL, E.app, D.toInt, D.max2, D.min2, R.toS, R.toG, R.bind, S.ret, S.retN, S.seq, S.ife, S.nil, S.expr, S.set, S.par, S.asg, S.bad, S.for, E.gen, I.of, I.enum, srcE, srcD, L.comp, D.ix, E.sl, O.none, O.some, slD, E.met, isT, isL, D.tindex, wipeE, setC, Tg.name, Tg.cons, Tg.nil, Tg.tup, fits, runB, -List.map_take, -List.map_drop, -List.map_set, D.ixK, dctAt, lenC, rdC, leA_int, ltA_int, gtA_int, geA_int, I.ofK, srcK, Tg.subK, setK, e26]) ?_)
  simp only [List.set_cons_succ, List.set_cons_zero]
  have hg1 : (q ++ [MO.dct (encV lenV f1) f1.length])[q.length]? = some (.dct (encV lenV f1) f1.length) := by simp
  generalize hq1 : q ++ [MO.dct (encV lenV f1) f1.length] = q1 at *
  refine seq_sat (ife_sat (c := false) (h1 := q1) ?_ (fun z => by cases z) fun _ => ?_)
  · obtain ⟨s1, s2⟩ := fin_srt hh hp F1 hl1
    have es : srtK f1 = srtK f0 := sort_perm (Bf.fin_keys F1 K.fin)
    have ek : (encV lenV f1).map (·.1) = (Bf.keys f1).map fun x => tl x := by
      unfold encV Bf.keys
      rw [List.map_map, List.map_map]
      rfl
    have e22 := K.f22 q1
    have e24r := K.f24r q1
    have hs : E.tuple (L.sorted (Co.of (E.var 4))) [x0, some (.ref 1), some (.int m), y3, some (.ref q.length), none, some (H hb), some (tl lay), some (tl w), some (tl here), none, none, none] q1 = .ok (.tup ((srtK f0).map fun x => tl x)) q1 := by
      simp only [E.tuple, L.sorted, Co.of, E.var, List.getElem?_cons_succ, List.getElem?_cons_zero, R.bind_ok, rdC, dctAt_of hg1, ek, s1, s2, es, if_true]
    generalize E.tuple (L.sorted (Co.of (E.var 4))) = ψ at *
    simp [E.var, E.con, E.op2, E.op1, E.and, E.or, E.ofT, E.isi, isiD, tyNm, isiB, T.not, T.val, T.and, T.or, T.isN, T.notN, T.yes, T.tru, truthD, D.isN, E.chain, E.ifx, D.le, D.lt, D.ge, D.gt, D.add, D.sub, D.mul, D.mod, D.fdiv, D.pow, D.neg, D.eq, D.ne, D.flat, D.eqv, E.call, L.cons, L.nil, L.disp, E.tup, E.tuple, E.ofL, E.len, E.lenSet, Q.of, R.of, rdQ, rdL, E.app, D.toInt, D.max2, D.min2, R.toS, R.toG, R.bind, S.ret, S.retN, S.seq, S.ife, S.nil, S.expr, S.set, S.par, S.asg, S.bad, S.for, E.gen, I.of, I.enum, srcE, srcD, L.comp, D.ix, E.sl, O.none, O.some, slD, E.met, isT, isL, D.tindex, wipeE, setC, Tg.name, Tg.cons, Tg.nil, Tg.tup, fits, runB, -List.map_take, -List.map_drop, -List.map_set, D.ixK, dctAt, lenC, rdC, leA_int, ltA_int, gtA_int, geA_int, I.ofK, srcK, Tg.subK, setK, e22, hs, e24r]
  show RS.sat (S.seq _ _ _ _) _ _
  have hql : q.length = g.length + 2 := by rw [← hq]; simp
  have hq1' : q1 = Fz ns :: rw3 a b e :: (g ++ [.dct (encV lenV f1) f1.length]) := by rw [← hq1, ← hq]; rfl
  have hgk : (g ++ [MO.dct (encV lenV f1) f1.length])[g.length]? = some (.dct (encV lenV f1) f1.length) := by simp
  rw [hql, hq1']
  refine seq_sat (for_sat (enc := D.int) (fun pre en r => ∃ a' b' e' g' y10 y11 y12, en = kE x0 y3 none m hb lay w here g.length y10 y11 y12 ∧ r = Fz ns :: rw3 a' b' e' :: g' ∧ 0 ≤ a' ∧ g'[g.length]? = some (.dct (encV lenV f1) f1.length)) (rg 3) (h1 := Fz ns :: rw3 a b e :: (g ++ [.dct (encV lenV f1) f1.length])) (s := ⟨(rg 3).map D.int, none⟩) rfl rfl ⟨a, b, e, g ++ [.dct (encV lenV f1) f1.length], none, none, none, rfl, rfl, ha, hgk⟩ (fun _ _ _ _ _ => rfl) ?_ ?_)
  · rintro pre x post _ _ _ ⟨a1, b1, e1, g1, y10, y11, y12, rfl, rfl, ha1, hk1⟩
    obtain ⟨z10, z11, a2, b2, e2, g2, et, ha2, hk2⟩ := turn_ok c hh hp hhere K F1 Dw a1 b1 e1 g1 g.length ha1 hk1 x0 y3 none y10 y11 (some (.int x))
    refine ⟨kE x0 y3 none m hb lay w here g.length y10 y11 (some (.int x)), _, rfl, ?_⟩
    rw [et]
    exact ⟨a2, b2, e2, g2, z10, z11, some (.int x), rfl, rfl, ha2, hk2⟩
  rintro _ _ ⟨a1, b1, e1, g1, y10, y11, y12, rfl, rfl, ha1, hk1⟩
  have hk2 : (Fz ns :: rw3 a1 b1 e1 :: g1)[g.length + 2]? = some (.dct (encV lenV f1) f1.length) := by simpa using hk1
  generalize Fz ns :: rw3 a1 b1 e1 :: g1 = r at *
  obtain ⟨f3, F3, hl3, e26b⟩ := K.f26 (rg m) r (List.Perm.refl _)
  have hr := lrng_rg (n := m) (by have := hh.hi; omega) r
  refine seq_sat (set_sat (d := .ref r.length) (h1 := r ++ [.dct (encV lenV f3) f3.length]) (by simp [E.var, E.con, E.op2, E.op1, E.and, E.or, E.ofT, E.isi, isiD, tyNm, isiB, T.not, T.val, T.and, T.or, T.isN, T.notN, T.yes, T.tru, truthD, D.isN, E.chain, E.ifx, D.le, D.lt, D.ge, D.gt, D.add, D.sub, D.mul, D.mod, D.fdiv, D.pow, D.neg, D.eq, D.ne, D.flat, D.eqv, E.call, L.cons, L.nil, L.disp, E.tup, E.tuple, E.ofL, E.len, E.lenSet, Q.of, R.of, rdQ, rdL, E.app, D.toInt, D.max2, D.min2, R.toS, R.toG, R.bind, S.ret, S.retN, S.seq, S.ife, S.nil, S.expr, S.set, S.par, S.asg, S.bad, S.for, E.gen, I.of, I.enum, srcE, srcD, L.comp, D.ix, E.sl, O.none, O.some, slD, E.met, isT, isL, D.tindex, wipeE, setC, Tg.name, Tg.cons, Tg.nil, Tg.tup, fits, runB, -List.map_take, -List.map_drop, -List.map_set, D.ixK, dctAt, lenC, rdC, leA_int, ltA_int, gtA_int, geA_int, I.ofK, srcK, Tg.subK, setK, L.rng1, hr, e26b]) ?_)
  simp only [List.set_cons_succ, List.set_cons_zero]
  have k3 : (r ++ [MO.dct (encV lenV f3) f3.length])[r.length]? = some (.dct (encV lenV f3) f3.length) := by simp
  have k1 : (r ++ [MO.dct (encV lenV f3) f3.length])[g.length + 2]? = some (.dct (encV lenV f1) f1.length) := by
    rw [List.getElem?_append_left (List.getElem?_eq_some_iff.mp hk2).1]; exact hk2
  generalize r ++ [MO.dct (encV lenV f3) f3.length] = r1 at *
  have e12 := K.f12 r1
  have e13 := K.f13 f3 r1 F3
  have l1 : E.ofL (L.disp (L.cons (E.call 2 (c 12) (L.cons (E.var 6) (L.cons (E.var 7) L.nil))) (L.cons (E.call 1 (c 13) (L.cons (E.var 6) L.nil)) L.nil))) [x0, some (.ref 1), some (.int m), y3, some (.ref (g.length + 2)), some (.ref r.length), some (H hb), some (tl lay), some (tl w), some (tl here), y10, y11, y12] r1 = .ok (.ref r1.length) (r1 ++ [.lst [.int (maxLen f0 : Nat), .int f3.length]]) := by
    simp [E.var, E.con, E.op2, E.op1, E.and, E.or, E.ofT, E.isi, isiD, tyNm, isiB, T.not, T.val, T.and, T.or, T.isN, T.notN, T.yes, T.tru, truthD, D.isN, E.chain, E.ifx, D.le, D.lt, D.ge, D.gt, D.add, D.sub, D.mul, D.mod, D.fdiv, D.pow, D.neg, D.eq, D.ne, D.flat, D.eqv, E.call, L.cons, L.nil, L.disp, E.tup, E.tuple, E.ofL, E.len, E.lenSet, Q.of, R.of, rdQ, rdL, E.app, D.toInt, D.max2, D.min2, R.toS, R.toG, R.bind, S.ret, S.retN, S.seq, S.ife, S.nil, S.expr, S.set, S.par, S.asg, S.bad, S.for, E.gen, I.of, I.enum, srcE, srcD, L.comp, D.ix, E.sl, O.none, O.some, slD, E.met, isT, isL, D.tindex, wipeE, setC, Tg.name, Tg.cons, Tg.nil, Tg.tup, fits, runB, -List.map_take, -List.map_drop, -List.map_set, D.ixK, dctAt, lenC, rdC, leA_int, ltA_int, gtA_int, geA_int, I.ofK, srcK, Tg.subK, setK, e12, e13]
  have k1' : (r1 ++ [MO.lst [.int (maxLen f0 : Nat), .int f3.length]])[g.length + 2]? = some (.dct (encV lenV f1) f1.length) := by
    rw [List.getElem?_append_left (List.getElem?_eq_some_iff.mp k1).1]; exact k1
  have k3' : (r1 ++ [MO.lst [.int (maxLen f0 : Nat), .int f3.length]])[r.length]? = some (.dct (encV lenV f3) f3.length) := by
    rw [List.getElem?_append_left (List.getElem?_eq_some_iff.mp k3).1]; exact k3
  generalize hr2 : r1 ++ [MO.lst [.int (maxLen f0 : Nat), .int f3.length]] = r2 at *
  have hbst : bestL true ((encV lenV f1).map (·.2)) r2 = .ok (.int (maxLen f0 : Nat)) r2 := by
    have ev : (encV lenV f1).map (·.2) = (f1.map fun x => ((x.2.length : Nat) : Int)).map D.int := by
      unfold encV
      rw [List.map_map, List.map_map]
      rfl
    obtain ⟨h1, x, h2, h3⟩ := far_any K.fin f1 F1
    rw [ev]
    cases f1 with
    | nil => cases h2
    | cons y f1 =>
      rw [List.map_cons (f := fun p : List Int × Bf.W => ((p.2.length : Nat) : Int)), bestL_ints]
      congr 2
      refine foldl_max_is _ _ (fun z hz => ?_) ?_
      · rw [← List.map_cons (f := fun p : List Int × Bf.W => ((p.2.length : Nat) : Int))] at hz
        obtain ⟨p, hp, rfl⟩ := List.mem_map.mp hz
        have := h1 p hp
        omega
      · rw [← List.map_cons (f := fun p : List Int × Bf.W => ((p.2.length : Nat) : Int))]
        exact List.mem_map.mpr ⟨x, h2, by rw [h3]⟩
  have eb : E.best true (L.vals (E.var 4)) [x0, some (.ref 1), some (.int m), y3, some (.ref (g.length + 2)), some (.ref r.length), some (H hb), some (tl lay), some (tl w), some (tl here), y10, y11, y12] r2 = .ok (.int (maxLen f0 : Nat)) r2 := by
    simp only [E.best, L.vals, E.var, List.getElem?_cons_succ, List.getElem?_cons_zero, R.bind_ok, rdV, dctAt_of k1', hbst]
  have en : E.len (Co.of (E.var 5)) [x0, some (.ref 1), some (.int m), y3, some (.ref (g.length + 2)), some (.ref r.length), some (H hb), some (tl lay), some (tl w), some (tl here), y10, y11, y12] r2 = .ok (.int f3.length) r2 := by
    simp only [E.len, Co.of, E.var, List.getElem?_cons_succ, List.getElem?_cons_zero, R.bind_ok, rdC, dctAt_of k3', encV, List.length_map]
  have l2 : E.ofL (L.disp (L.cons (E.best true (L.vals (E.var 4))) (L.cons (E.len (Co.of (E.var 5))) L.nil))) [x0, some (.ref 1), some (.int m), y3, some (.ref (g.length + 2)), some (.ref r.length), some (H hb), some (tl lay), some (tl w), some (tl here), y10, y11, y12] r2 = .ok (.ref r2.length) (r2 ++ [.lst [.int (maxLen f0 : Nat), .int f3.length]]) := by
    generalize E.best true (L.vals (E.var 4)) = ψ at *
    generalize E.len (Co.of (E.var 5)) = χ at *
    simp [E.var, E.con, E.op2, E.op1, E.and, E.or, E.ofT, E.isi, isiD, tyNm, isiB, T.not, T.val, T.and, T.or, T.isN, T.notN, T.yes, T.tru, truthD, D.isN, E.chain, E.ifx, D.le, D.lt, D.ge, D.gt, D.add, D.sub, D.mul, D.mod, D.fdiv, D.pow, D.neg, D.eq, D.ne, D.flat, D.eqv, E.call, L.cons, L.nil, L.disp, E.tup, E.tuple, E.ofL, E.len, E.lenSet, Q.of, R.of, rdQ, rdL, E.app, D.toInt, D.max2, D.min2, R.toS, R.toG, R.bind, S.ret, S.retN, S.seq, S.ife, S.nil, S.expr, S.set, S.par, S.asg, S.bad, S.for, E.gen, I.of, I.enum, srcE, srcD, L.comp, D.ix, E.sl, O.none, O.some, slD, E.met, isT, isL, D.tindex, wipeE, setC, Tg.name, Tg.cons, Tg.nil, Tg.tup, fits, runB, -List.map_take, -List.map_drop, -List.map_set, eb, en]
  obtain ⟨q', e24l⟩ := K.f24l (maxLen f0 : Nat) f3.length r1.length r2.length (r2 ++ [.lst [.int (maxLen f0 : Nat), .int f3.length]]) (by rw [← hr2]; simp) (by simp)
  refine ret_sat (d := .bl true) (h1 := q') ?_ rfl
  generalize E.ofL (L.disp (L.cons (E.best true (L.vals (E.var 4))) (L.cons (E.len (Co.of (E.var 5))) L.nil))) = ψ at *
  generalize E.ofL (L.disp (L.cons (E.call 2 (c 12) (L.cons (E.var 6) (L.cons (E.var 7) L.nil))) (L.cons (E.call 1 (c 13) (L.cons (E.var 6) L.nil)) L.nil))) = χ at *
  simp only [E.call, L.cons, L.nil, l1, l2, R.bind_ok]
  simp [e24l]
theorem k01_law (bd : Bd) [i : H_law_k01 bd] (ns : List Int) : ∃ hh, runF bd 12 29 [.ref 0] [.frz (ns.map D.int)] = .ok (.bl true) hh := by
  have key : ∃ v q, v = D.bl true ∧ runF bd (11 + 1) 29 [.ref 0] [.frz (ns.map D.int)] = trunc [.frz (ns.map D.int)] (.ok v q) := by
    refine run_sat (P := fun v _ => v = D.bl true) i.e_law_k01 ?_
    unfold b_law_k01
    refine RS.sat_mono (N := fun _ _ => False) ?_ (fun _ _ z => z.elim) fun _ _ z => z
    refine seq_sat (set_sat (d := .ref 1) (h1 := [Fz ns, rw3 0 5001 0]) (by simp [E.var, E.con, E.op2, E.op1, E.and, E.or, E.ofT, E.isi, isiD, tyNm, isiB, T.not, T.val, T.and, T.or, T.isN, T.notN, T.yes, T.tru, truthD, D.isN, E.chain, E.ifx, D.le, D.lt, D.ge, D.gt, D.add, D.sub, D.mul, D.mod, D.fdiv, D.pow, D.neg, D.eq, D.ne, D.flat, D.eqv, E.call, L.cons, L.nil, L.disp, E.tup, E.tuple, E.ofL, E.len, E.lenSet, Q.of, R.of, rdQ, rdL, E.app, D.toInt, D.max2, D.min2, R.toS, R.toG, R.bind, S.ret, S.retN, S.seq, S.ife, S.nil, S.expr, S.set, S.par, S.asg, S.bad, S.for, E.gen, I.of, I.enum, srcE, srcD, L.comp, D.ix, E.sl, O.none, O.some, slD, E.met, isT, isL, D.tindex, wipeE, setC, Tg.name, Tg.cons, Tg.nil, Tg.tup, fits, runB, -List.map_take, -List.map_drop, -List.map_set, D.ixK, dctAt, lenC, rdC, leA_int, ltA_int, gtA_int, geA_int, I.ofK, srcK, Tg.subK, setK]) ?_)
    simp only [List.map_cons, List.map_nil, List.length_cons, List.length_nil, List.cons_append, List.nil_append, List.replicate_succ, List.replicate_zero, Nat.reduceAdd, Nat.reduceSub, List.set_cons_succ, List.set_cons_zero]
    -- how many places
    obtain ⟨v, a1, b1, e1, t1, v0, v1, ha1⟩ := taken_ok bd 10 (ns := ns) (a := 0) (b := 5001) (c := 0) (many := 2) [.lst [.int 3, .int 4]] (by omega) (by omega) (by omega)
    obtain ⟨n, a2, b2, e2, h2, h5, ha2, q2⟩ : ∃ (n : Nat) (a2 b2 e2 : Int), 2 ≤ n ∧ n ≤ 5 ∧ 0 ≤ a2 ∧ E.op2 D.add (E.con (.int 2)) (E.call 2 (runF bd 11 17) (L.cons (E.var 1) (L.cons (E.op2 D.ixK (E.ofL (L.disp (L.cons (E.con (.int 3)) (L.cons (E.con (.int 4)) L.nil)))) (E.call 2 (runF bd 11 17) (L.cons (E.var 1) (L.cons (E.con (.int 2)) L.nil)))) L.nil))) [some (.ref 0), some (.ref 1), none, none, none, none, none, none, none, none, none, none, none] [Fz ns, rw3 0 5001 0] = .ok (.int (n : Nat)) [Fz ns, rw3 a2 b2 e2, .lst [.int 3, .int 4]] := by
      have t1 : runF bd 11 17 [.ref 1, .int 2] [Fz ns, rw3 0 5001 0, .lst [.int 3, .int 4]] = .ok (.int v) [Fz ns, rw3 a1 b1 e1, .lst [.int 3, .int 4]] := t1
      have hv : v = 0 ∨ v = 1 := by omega
      rcases hv with rfl | rfl
      · obtain ⟨u, a2, b2, e2, t2, u0, u1, ha2⟩ := taken_ok bd 10 (ns := ns) (a := a1) (b := b1) (c := e1) (many := 3) [.lst [.int 3, .int 4]] ha1 (by omega) (by omega)
        have t2 : runF bd 11 17 [.ref 1, .int 3] [Fz ns, rw3 a1 b1 e1, .lst [.int 3, .int 4]] = .ok (.int u) [Fz ns, rw3 a2 b2 e2, .lst [.int 3, .int 4]] := t2
        obtain ⟨k, rfl⟩ : ∃ k : Nat, u = k := ⟨u.toNat, by omega⟩
        refine ⟨2 + k, a2, b2, e2, by omega, by omega, ha2, ?_⟩
        generalize runF bd 11 = c at *
        have i0 : ∀ q, ixL [.int 3, .int 4] 0 q = .ok (.int 3) q := fun q => rfl
        simp [E.var, E.con, E.op2, E.op1, E.and, E.or, E.ofT, E.isi, isiD, tyNm, isiB, T.not, T.val, T.and, T.or, T.isN, T.notN, T.yes, T.tru, truthD, D.isN, E.chain, E.ifx, D.le, D.lt, D.ge, D.gt, D.add, D.sub, D.mul, D.mod, D.fdiv, D.pow, D.neg, D.eq, D.ne, D.flat, D.eqv, E.call, L.cons, L.nil, L.disp, E.tup, E.tuple, E.ofL, E.len, E.lenSet, Q.of, R.of, rdQ, rdL, E.app, D.toInt, D.max2, D.min2, R.toS, R.toG, R.bind, S.ret, S.retN, S.seq, S.ife, S.nil, S.expr, S.set, S.par, S.asg, S.bad, S.for, E.gen, I.of, I.enum, srcE, srcD, L.comp, D.ix, E.sl, O.none, O.some, slD, E.met, isT, isL, D.tindex, wipeE, setC, Tg.name, Tg.cons, Tg.nil, Tg.tup, fits, runB, -List.map_take, -List.map_drop, -List.map_set, D.ixK, dctAt, lenC, rdC, leA_int, ltA_int, gtA_int, geA_int, I.ofK, srcK, Tg.subK, setK, t1, D.ix, rdL, i0, t2]
      · obtain ⟨u, a2, b2, e2, t2, u0, u1, ha2⟩ := taken_ok bd 10 (ns := ns) (a := a1) (b := b1) (c := e1) (many := 4) [.lst [.int 3, .int 4]] ha1 (by omega) (by omega)
        have t2 : runF bd 11 17 [.ref 1, .int 4] [Fz ns, rw3 a1 b1 e1, .lst [.int 3, .int 4]] = .ok (.int u) [Fz ns, rw3 a2 b2 e2, .lst [.int 3, .int 4]] := t2
        obtain ⟨k, rfl⟩ : ∃ k : Nat, u = k := ⟨u.toNat, by omega⟩
        refine ⟨2 + k, a2, b2, e2, by omega, by omega, ha2, ?_⟩
        generalize runF bd 11 = c at *
        have i1 : ∀ q, ixL [.int 3, .int 4] 1 q = .ok (.int 4) q := fun q => rfl
        simp [E.var, E.con, E.op2, E.op1, E.and, E.or, E.ofT, E.isi, isiD, tyNm, isiB, T.not, T.val, T.and, T.or, T.isN, T.notN, T.yes, T.tru, truthD, D.isN, E.chain, E.ifx, D.le, D.lt, D.ge, D.gt, D.add, D.sub, D.mul, D.mod, D.fdiv, D.pow, D.neg, D.eq, D.ne, D.flat, D.eqv, E.call, L.cons, L.nil, L.disp, E.tup, E.tuple, E.ofL, E.len, E.lenSet, Q.of, R.of, rdQ, rdL, E.app, D.toInt, D.max2, D.min2, R.toS, R.toG, R.bind, S.ret, S.retN, S.seq, S.ife, S.nil, S.expr, S.set, S.par, S.asg, S.bad, S.for, E.gen, I.of, I.enum, srcE, srcD, L.comp, D.ix, E.sl, O.none, O.some, slD, E.met, isT, isL, D.tindex, wipeE, setC, Tg.name, Tg.cons, Tg.nil, Tg.tup, fits, runB, -List.map_take, -List.map_drop, -List.map_set, D.ixK, dctAt, lenC, rdC, leA_int, ltA_int, gtA_int, geA_int, I.ofK, srcK, Tg.subK, setK, t1, D.ix, rdL, i1, t2]
    refine seq_sat (set_sat (d := .int (n : Nat)) (h1 := [Fz ns, rw3 a2 b2 e2, .lst [.int 3, .int 4]]) q2 ?_)
    simp only [List.set_cons_succ, List.set_cons_zero]
    clear q2
    obtain ⟨hb, a3, b3, e3, t3, ha3, hh⟩ := habit_ok bd 8 (ns := ns) h2 h5 (a := a2) (b := b2) (e := e2) [.lst [.int 3, .int 4]] ha2
    have t3 : runF bd 11 23 [.ref 1, .int n] [Fz ns, rw3 a2 b2 e2, .lst [.int 3, .int 4]] = .ok (H hb) [Fz ns, rw3 a3 b3 e3, .lst [.int 3, .int 4]] := t3
    have f18 : ∀ a b e g, 0 ≤ a → ∃ (l : List Int) (a' b' e' : Int), runF bd 11 18 [.ref 1, .int n] (Fz ns :: rw3 a b e :: g) = .ok (tl l) (Fz ns :: rw3 a' b' e' :: g) ∧ 0 ≤ a' ∧ Prm n l := fun a b e g ha => order_ok bd 9 g ha h5
    have f17 : ∀ a b e g (many : Int), 0 ≤ a → 0 < many → many ≤ 1000 → ∃ v a' b' e', runF bd 11 17 [.ref 1, .int many] (Fz ns :: rw3 a b e :: g) = .ok (.int v) (Fz ns :: rw3 a' b' e' :: g) ∧ 0 ≤ v ∧ v < many ∧ 0 ≤ a' := fun a b e g many ha h0 h1 => taken_ok bd 10 g ha h0 h1
    have Dw : Dr (runF bd 11) ns n := by
      refine ⟨f18, fun a b e l r g ha hl hl2 hr hu => ?_⟩
      obtain ⟨v, a', b', e', hv, et, ha'⟩ := pick_ok bd 9 (ns := ns) (a := a) (b := b) (e := e) g ha hl hl2 hr
      exact ⟨v, a', b', e', hv, et.trans (trunc_keep rfl), ha'⟩
    obtain ⟨lay, a4, b4, e4, t4, ha4, hp⟩ := f18 a3 b3 e3 [.lst [.int 3, .int 4]] ha3
    obtain ⟨f0, K⟩ := k1_of bd hh hp
    generalize runF bd 11 = c at *
    refine seq_sat (par_sat (d := H hb) (d2 := tl lay) (h1 := [Fz ns, rw3 a3 b3 e3, .lst [.int 3, .int 4]]) (h2 := [Fz ns, rw3 a4 b4 e4, .lst [.int 3, .int 4]]) (by simp [E.var, E.con, E.op2, E.op1, E.and, E.or, E.ofT, E.isi, isiD, tyNm, isiB, T.not, T.val, T.and, T.or, T.isN, T.notN, T.yes, T.tru, truthD, D.isN, E.chain, E.ifx, D.le, D.lt, D.ge, D.gt, D.add, D.sub, D.mul, D.mod, D.fdiv, D.pow, D.neg, D.eq, D.ne, D.flat, D.eqv, E.call, L.cons, L.nil, L.disp, E.tup, E.tuple, E.ofL, E.len, E.lenSet, Q.of, R.of, rdQ, rdL, E.app, D.toInt, D.max2, D.min2, R.toS, R.toG, R.bind, S.ret, S.retN, S.seq, S.ife, S.nil, S.expr, S.set, S.par, S.asg, S.bad, S.for, E.gen, I.of, I.enum, srcE, srcD, L.comp, D.ix, E.sl, O.none, O.some, slD, E.met, isT, isL, D.tindex, wipeE, setC, Tg.name, Tg.cons, Tg.nil, Tg.tup, fits, runB, -List.map_take, -List.map_drop, -List.map_set, D.ixK, dctAt, lenC, rdC, leA_int, ltA_int, gtA_int, geA_int, I.ofK, srcK, Tg.subK, setK, t3]) (by simp [E.var, E.con, E.op2, E.op1, E.and, E.or, E.ofT, E.isi, isiD, tyNm, isiB, T.not, T.val, T.and, T.or, T.isN, T.notN, T.yes, T.tru, truthD, D.isN, E.chain, E.ifx, D.le, D.lt, D.ge, D.gt, D.add, D.sub, D.mul, D.mod, D.fdiv, D.pow, D.neg, D.eq, D.ne, D.flat, D.eqv, E.call, L.cons, L.nil, L.disp, E.tup, E.tuple, E.ofL, E.len, E.lenSet, Q.of, R.of, rdQ, rdL, E.app, D.toInt, D.max2, D.min2, R.toS, R.toG, R.bind, S.ret, S.retN, S.seq, S.ife, S.nil, S.expr, S.set, S.par, S.asg, S.bad, S.for, E.gen, I.of, I.enum, srcE, srcD, L.comp, D.ix, E.sl, O.none, O.some, slD, E.met, isT, isL, D.tindex, wipeE, setC, Tg.name, Tg.cons, Tg.nil, Tg.tup, fits, runB, -List.map_take, -List.map_drop, -List.map_set, D.ixK, dctAt, lenC, rdC, leA_int, ltA_int, gtA_int, geA_int, I.ofK, srcK, Tg.subK, setK, t4]) ?_)
    simp only [List.set_cons_succ, List.set_cons_zero]
    obtain ⟨u, a5, b5, e5, t5, u0, u1, ha5⟩ := f17 a4 b4 e4 [.lst [.int 3, .int 4]] 12 ha4 (by omega) (by omega)
    obtain ⟨k, rfl⟩ : ∃ k : Nat, u = k := ⟨u.toNat, by omega⟩
    obtain ⟨w, a6, b6, e6, qw, hwl, hw, ha6⟩ := word_comp c (ns := ns) (m := n) [.lst [.int 3, .int 4]] (fun a b e ha => f17 a b e _ n ha (by omega) (by omega)) ((rg k).map D.int) 12 [some (.ref 0), some (.ref 1), some (.int n), none, none, none, some (H hb), some (tl lay), none, none, none, none, none] ⟨by decide, by decide⟩ rfl rfl (rg k) a5 b5 e5 ha5
    rw [rg_length] at hwl
    refine seq_sat (par_sat (d := tl w) (d2 := tl lay) (h1 := [Fz ns, rw3 a6 b6 e6, .lst [.int 3, .int 4]]) (h2 := [Fz ns, rw3 a6 b6 e6, .lst [.int 3, .int 4]]) ?_ rfl ?_)
    · have hr := rngS_rg (n := k) (by omega) [Fz ns, rw3 a5 b5 e5, .lst [.int 3, .int 4]]
      have e1 : I.rng1 (E.call 2 (c 17) (L.cons (E.var 1) (L.cons (E.con (.int 12)) L.nil))) [some (.ref 0), some (.ref 1), some (.int n), none, none, none, some (H hb), some (tl lay), none, none, none, none, none] [Fz ns, rw3 a4 b4 e4, .lst [.int 3, .int 4]] = .ok ⟨(rg k).map D.int, none⟩ [Fz ns, rw3 a5 b5 e5, .lst [.int 3, .int 4]] := by
        simp [E.var, E.con, E.op2, E.op1, E.and, E.or, E.ofT, E.isi, isiD, tyNm, isiB, T.not, T.val, T.and, T.or, T.isN, T.notN, T.yes, T.tru, truthD, D.isN, E.chain, E.ifx, D.le, D.lt, D.ge, D.gt, D.add, D.sub, D.mul, D.mod, D.fdiv, D.pow, D.neg, D.eq, D.ne, D.flat, D.eqv, E.call, L.cons, L.nil, L.disp, E.tup, E.tuple, E.ofL, E.len, E.lenSet, Q.of, R.of, rdQ, rdL, E.app, D.toInt, D.max2, D.min2, R.toS, R.toG, R.bind, S.ret, S.retN, S.seq, S.ife, S.nil, S.expr, S.set, S.par, S.asg, S.bad, S.for, E.gen, I.of, I.enum, srcE, srcD, L.comp, D.ix, E.sl, O.none, O.some, slD, E.met, isT, isL, D.tindex, wipeE, setC, Tg.name, Tg.cons, Tg.nil, Tg.tup, fits, runB, -List.map_take, -List.map_drop, -List.map_set, I.rng1, t5, hr]
      show ((((I.rng1 (E.call 2 (c 17) (L.cons (E.var 1) (L.cons (E.con (.int 12)) L.nil)))) [some (.ref 0), some (.ref 1), some (.int n), none, none, none, some (H hb), some (tl lay), none, none, none, none, none] [Fz ns, rw3 a4 b4 e4, .lst [.int 3, .int 4]]).bind fun s h => (compGo s (.one 12) T.yes _ _ s.items h).bind fun l h => fits l.length (.ok l h)).bind fun l h => R.ok (D.tup l) h) = _
      rw [e1]
      simp only [R.bind_ok]
      rw [show wipeE [some (.ref 0), some (.ref 1), some (.int n), none, none, none, some (H hb), some (tl lay), none, none, none, none, none] [12] = [some (.ref 0), some (.ref 1), some (.int n), none, none, none, some (H hb), some (tl lay), none, none, none, none, none] from rfl, qw]
      simp only [R.bind_ok]
      rw [fits_ok (by rw [List.length_map]; omega)]
      rfl
    simp only [List.set_cons_succ, List.set_cons_zero]
    exact restK1_ok c hh hp hw (by omega) K Dw a6 b6 e6 [.lst [.int 3, .int 4]] ha6 _ _
  obtain ⟨v, q, rfl, e⟩ := key
  obtain ⟨q', e'⟩ := trunc_exx [.frz (ns.map D.int)] q (.bl true)
  exact ⟨q', e.trans e'⟩
end PF

set_option Elab.async false
set_option linter.all false
set_option maxRecDepth 100000
set_option maxHeartbeats 4000000
namespace K01
open PySem PySem.Spec PyProof.Rows L2 GX GxR DL PF
def topS (i : Nat) : Stmt := PySem.Challenge.pw_restlesshelf_k01_whole_shelves.main.body.getD i (.Pass ⟨0, 0, 0, 0⟩)
abbrev s_is_number : Stmt := topS 10
abbrev N_is_number : List Str := ["value", "low", "high"]
abbrev s_is_permutation : Stmt := topS 11
abbrev N_is_permutation : List Str := ["value", "many", "place"]
abbrev s_need_habit : Stmt := topS 12
abbrev N_need_habit : List Str := ["value", "place", "moved"]
abbrev s_need_layout : Stmt := topS 13
abbrev N_need_layout : List Str := ["habit", "value"]
abbrev s_need_shelf : Stmt := topS 14
abbrev N_need_shelf : List Str := ["habit", "layout"]
abbrev s_need_place : Stmt := topS 15
abbrev N_need_place : List Str := ["habit", "value"]
abbrev s_behind_touch : Stmt := topS 16
abbrev N_behind_touch : List Str := ["habit", "layout", "place", "stands"]
abbrev s_behind_word : Stmt := topS 17
abbrev N_behind_word : List Str := ["habit", "layout", "word", "place"]
abbrev s_touched : Stmt := topS 18
abbrev N_touched : List Str := ["habit", "layout", "place"]
abbrev s_after : Stmt := topS 19
abbrev N_after : List Str := ["habit", "layout", "word", "place"]
abbrev s_words_from : Stmt := topS 20
abbrev N_words_from : List Str := ["habit", "layout", "found", "layer", "later", "one", "place", "other"]
abbrev s_can_come : Stmt := topS 21
abbrev N_can_come : List Str := ["habit", "layout"]
abbrev s_word_between : Stmt := topS 22
abbrev N_word_between : List Str := ["habit", "one", "other"]
abbrev s_distance : Stmt := topS 23
abbrev N_distance : List Str := ["habit", "one", "other", "found"]
abbrev s_farthest : Stmt := topS 24
abbrev N_farthest : List Str := ["habit", "layout", "word"]
abbrev s_order : Stmt := topS 25
abbrev N_order : List Str := ["habit"]
abbrev s__law_taken : Stmt := topS 27
abbrev N__law_taken : List Str := ["_law_row", "_law_many", "_law_cell", "_law_found"]
abbrev s__law_order : Stmt := topS 28
abbrev N__law_order : List Str := ["_law_row", "_law_many", "_law_left", "_law_found"]
abbrev s__law_habit : Stmt := topS 29
abbrev N__law_habit : List Str := ["_law_row", "_law_places", "_law_place", "_law_way", "_law_found", "_law_moved", "_law_other", "_law_spot"]
abbrev s__law_alike : Stmt := topS 30
abbrev N__law_alike : List Str := ["_law_found", "_law_due", "_law_k"]
abbrev s__law_touch : Stmt := topS 31
abbrev N__law_touch : List Str := ["_law_habit_here", "_law_layout", "_law_place", "_law_spot"]
abbrev s__law_near : Stmt := topS 32
abbrev N__law_near : List Str := ["_law_habit_here", "_law_layout", "_law_found", "_law_far", "_law_grown", "_law_place", "_law_other", "_law_one"]
abbrev s__law_pick : Stmt := topS 33
abbrev N__law_pick : List Str := ["_law_row", "_law_things"]
abbrev s__law_least_word : Stmt := topS 34
abbrev N__law_least_word : List Str := ["_law_habit_here", "_law_layout", "_law_other", "_law_many", "_law_last", "_law_turn", "_law_longer", "_law_seen", "_law_place", "_law_spot", "_law_one", "_law_word"]
abbrev s_law : Stmt := topS 35
abbrev N_law : List Str := ["_law_script", "_law_row", "_law_places", "_law_place", "_law_near_here", "_law_whole", "_law_habit_here", "_law_layout", "_law_word", "_law_here", "_law_other", "_law_found", "_law_turn"]
def bdL : List (Nat × Nat × (Calls → SΦ)) := [(0, 3, b_is_number),
  (2, 3, b_is_permutation),
  (3, 3, b_need_habit),
  (4, 2, b_need_layout),
  (5, 2, b_need_shelf),
  (6, 2, b_need_place),
  (7, 4, b_behind_touch),
  (20, 4, b_behind_word),
  (8, 3, b_touched),
  (21, 4, b_after),
  (9, 8, b_words_from),
  (22, 2, b_can_come),
  (10, 3, b_word_between),
  (11, 4, b_distance),
  (12, 3, b_farthest),
  (13, 1, b_order),
  (17, 4, b_lw_taken),
  (18, 4, b_lw_order),
  (23, 8, b_lw_habit),
  (24, 3, b_lw_alike),
  (25, 4, b_lw_touch),
  (26, 8, b_lw_near),
  (27, 2, b_lw_pick),
  (28, 12, b_lw_least_word),
  (29, 13, b_law_k01)]
def bd : Bd := fun i => bdFind i bdL
instance : H_is_number bd := { e_is_number := rfl }
instance : H_is_permutation bd := { e_is_permutation := rfl }
instance : H_need_habit bd := { e_need_habit := rfl }
instance : H_need_layout bd := { e_need_layout := rfl }
instance : H_need_shelf bd := { e_need_shelf := rfl }
instance : H_need_place bd := { e_need_place := rfl }
instance : H_behind_touch bd := { e_behind_touch := rfl }
instance : H_behind_word bd := { e_behind_word := rfl }
instance : H_touched bd := { e_touched := rfl }
instance : H_after bd := { e_after := rfl }
instance : H_words_from bd := { e_words_from := rfl }
instance : H_can_come bd := { e_can_come := rfl }
instance : H_word_between bd := { e_word_between := rfl }
instance : H_distance bd := { e_distance := rfl }
instance : H_farthest bd := { e_farthest := rfl }
instance : H_order bd := { e_order := rfl }
instance : H_lw_taken bd := { e_lw_taken := rfl }
instance : H_lw_order bd := { e_lw_order := rfl }
instance : H_lw_habit bd := { e_lw_habit := rfl }
instance : H_lw_alike bd := { e_lw_alike := rfl }
instance : H_lw_touch bd := { e_lw_touch := rfl }
instance : H_lw_near bd := { e_lw_near := rfl }
instance : H_lw_pick bd := { e_lw_pick := rfl }
instance : H_lw_least_word bd := { e_lw_least_word := rfl }
instance : H_law_k01 bd := { e_law_k01 := rfl }
abbrev run (d : Nat) : Calls := runF bd d
structure Facts (K : PySem.W.Frag) (mg : Str → Option Value) (base : Heap) : Prop where
  d_is_number : ∃ fd, FunD K "is_number" "is_number" (defArgs s_is_number) (defBody s_is_number) (defScope s_is_number) [] [] (He.fAd K ("is_number", none)) fd
  g_is_number : mg "is_number" = some (.ref (He.fAd K ("is_number", none)))
  d_is_permutation : ∃ fd, FunD K "is_permutation" "is_permutation" (defArgs s_is_permutation) (defBody s_is_permutation) (defScope s_is_permutation) [] [] (He.fAd K ("is_permutation", none)) fd
  g_is_permutation : mg "is_permutation" = some (.ref (He.fAd K ("is_permutation", none)))
  t_is_permutation : TabB base mg (He.cT K ("is_permutation", none)).1 (He.cT K ("is_permutation", none)).2
  d_need_habit : ∃ fd, FunD K "need_habit" "need_habit" (defArgs s_need_habit) (defBody s_need_habit) (defScope s_need_habit) [] [] (He.fAd K ("need_habit", none)) fd
  g_need_habit : mg "need_habit" = some (.ref (He.fAd K ("need_habit", none)))
  d_need_layout : ∃ fd, FunD K "need_layout" "need_layout" (defArgs s_need_layout) (defBody s_need_layout) (defScope s_need_layout) [] [] (He.fAd K ("need_layout", none)) fd
  g_need_layout : mg "need_layout" = some (.ref (He.fAd K ("need_layout", none)))
  d_need_shelf : ∃ fd, FunD K "need_shelf" "need_shelf" (defArgs s_need_shelf) (defBody s_need_shelf) (defScope s_need_shelf) [] [] (He.fAd K ("need_shelf", none)) fd
  g_need_shelf : mg "need_shelf" = some (.ref (He.fAd K ("need_shelf", none)))
  d_need_place : ∃ fd, FunD K "need_place" "need_place" (defArgs s_need_place) (defBody s_need_place) (defScope s_need_place) [] [] (He.fAd K ("need_place", none)) fd
  g_need_place : mg "need_place" = some (.ref (He.fAd K ("need_place", none)))
  d_behind_touch : ∃ fd, FunD K "behind_touch" "behind_touch" (defArgs s_behind_touch) (defBody s_behind_touch) (defScope s_behind_touch) [] [] (He.fAd K ("behind_touch", none)) fd
  g_behind_touch : mg "behind_touch" = some (.ref (He.fAd K ("behind_touch", none)))
  d_behind_word : ∃ fd, FunD K "behind_word" "behind_word" (defArgs s_behind_word) (defBody s_behind_word) (defScope s_behind_word) [] [] (He.fAd K ("behind_word", none)) fd
  g_behind_word : mg "behind_word" = some (.ref (He.fAd K ("behind_word", none)))
  d_touched : ∃ fd, FunD K "touched" "touched" (defArgs s_touched) (defBody s_touched) (defScope s_touched) [] [] (He.fAd K ("touched", none)) fd
  g_touched : mg "touched" = some (.ref (He.fAd K ("touched", none)))
  d_after : ∃ fd, FunD K "after" "after" (defArgs s_after) (defBody s_after) (defScope s_after) [] [] (He.fAd K ("after", none)) fd
  g_after : mg "after" = some (.ref (He.fAd K ("after", none)))
  t_after : TabB base mg (He.cT K ("after", none)).1 (He.cT K ("after", none)).2
  d_words_from : ∃ fd, FunD K "words_from" "words_from" (defArgs s_words_from) (defBody s_words_from) (defScope s_words_from) [] [] (He.fAd K ("words_from", none)) fd
  g_words_from : mg "words_from" = some (.ref (He.fAd K ("words_from", none)))
  d_can_come : ∃ fd, FunD K "can_come" "can_come" (defArgs s_can_come) (defBody s_can_come) (defScope s_can_come) [] [] (He.fAd K ("can_come", none)) fd
  g_can_come : mg "can_come" = some (.ref (He.fAd K ("can_come", none)))
  d_word_between : ∃ fd, FunD K "word_between" "word_between" (defArgs s_word_between) (defBody s_word_between) (defScope s_word_between) [] [] (He.fAd K ("word_between", none)) fd
  g_word_between : mg "word_between" = some (.ref (He.fAd K ("word_between", none)))
  d_distance : ∃ fd, FunD K "distance" "distance" (defArgs s_distance) (defBody s_distance) (defScope s_distance) [] [] (He.fAd K ("distance", none)) fd
  g_distance : mg "distance" = some (.ref (He.fAd K ("distance", none)))
  d_farthest : ∃ fd, FunD K "farthest" "farthest" (defArgs s_farthest) (defBody s_farthest) (defScope s_farthest) [] [] (He.fAd K ("farthest", none)) fd
  g_farthest : mg "farthest" = some (.ref (He.fAd K ("farthest", none)))
  d_order : ∃ fd, FunD K "order" "order" (defArgs s_order) (defBody s_order) (defScope s_order) [] [] (He.fAd K ("order", none)) fd
  g_order : mg "order" = some (.ref (He.fAd K ("order", none)))
  d__law_taken : ∃ fd, FunD K "_law_taken" "_law_taken" (defArgs s__law_taken) (defBody s__law_taken) (defScope s__law_taken) [] [] (He.fAd K ("_law_taken", none)) fd
  g__law_taken : mg "_law_taken" = some (.ref (He.fAd K ("_law_taken", none)))
  d__law_order : ∃ fd, FunD K "_law_order" "_law_order" (defArgs s__law_order) (defBody s__law_order) (defScope s__law_order) [] [] (He.fAd K ("_law_order", none)) fd
  g__law_order : mg "_law_order" = some (.ref (He.fAd K ("_law_order", none)))
  d__law_habit : ∃ fd, FunD K "_law_habit" "_law_habit" (defArgs s__law_habit) (defBody s__law_habit) (defScope s__law_habit) [] [] (He.fAd K ("_law_habit", none)) fd
  g__law_habit : mg "_law_habit" = some (.ref (He.fAd K ("_law_habit", none)))
  d__law_alike : ∃ fd, FunD K "_law_alike" "_law_alike" (defArgs s__law_alike) (defBody s__law_alike) (defScope s__law_alike) [] [] (He.fAd K ("_law_alike", none)) fd
  g__law_alike : mg "_law_alike" = some (.ref (He.fAd K ("_law_alike", none)))
  d__law_touch : ∃ fd, FunD K "_law_touch" "_law_touch" (defArgs s__law_touch) (defBody s__law_touch) (defScope s__law_touch) [] [] (He.fAd K ("_law_touch", none)) fd
  g__law_touch : mg "_law_touch" = some (.ref (He.fAd K ("_law_touch", none)))
  d__law_near : ∃ fd, FunD K "_law_near" "_law_near" (defArgs s__law_near) (defBody s__law_near) (defScope s__law_near) [] [] (He.fAd K ("_law_near", none)) fd
  g__law_near : mg "_law_near" = some (.ref (He.fAd K ("_law_near", none)))
  d__law_pick : ∃ fd, FunD K "_law_pick" "_law_pick" (defArgs s__law_pick) (defBody s__law_pick) (defScope s__law_pick) [] [] (He.fAd K ("_law_pick", none)) fd
  g__law_pick : mg "_law_pick" = some (.ref (He.fAd K ("_law_pick", none)))
  d__law_least_word : ∃ fd, FunD K "_law_least_word" "_law_least_word" (defArgs s__law_least_word) (defBody s__law_least_word) (defScope s__law_least_word) [] [] (He.fAd K ("_law_least_word", none)) fd
  g__law_least_word : mg "_law_least_word" = some (.ref (He.fAd K ("_law_least_word", none)))
  d_law : ∃ fd, FunD K "law" "law" (defArgs s_law) (defBody s_law) (defScope s_law) [] [] (He.fAd K ("law", none)) fd
  g_law : mg "law" = some (.ref (He.fAd K ("law", none)))
  n_all : mg "all" = none
  n_bool : mg "bool" = none
  n_enumerate : mg "enumerate" = none
  n_int : mg "int" = none
  n_isinstance : mg "isinstance" = none
  n_len : mg "len" = none
  n_list : mg "list" = none
  n_max : mg "max" = none
  n_range : mg "range" = none
  n_set : mg "set" = none
  n_sorted : mg "sorted" = none
  n_str : mg "str" = none
  n_tuple : mg "tuple" = none
  i_LEAST_PLACES : ∃ t, mg "LEAST_PLACES" = some (.int (2) t)
  i_MOST_PLACES : ∃ t, mg "MOST_PLACES" = some (.int (5) t)
  i_MOST_WORD : ∃ t, mg "MOST_WORD" = some (.int (400) t)
def gs (w : World) (K : PySem.W.Frag) : Gs := ⟨w, [(He.cT K ("is_permutation", none)).2, (He.cT K ("after", none)).2], fun _ => 0, fun _ => 0⟩
structure Cs (P : Program) (w : World) (K : PySem.W.Frag) (mg : Str → Option Value) (base : Heap) (d : Nat) : Prop where
  c0 : CallOk P w K mg base (gs w K) (2 * d + 1) "is_number" (He.fAd K ("is_number", none)) 3 (run d 0)
  c2 : CallOk P w K mg base (gs w K) (2 * d + 1) "is_permutation" (He.fAd K ("is_permutation", none)) 2 (run d 2)
  c3 : CallOk P w K mg base (gs w K) (2 * d + 1) "need_habit" (He.fAd K ("need_habit", none)) 1 (run d 3)
  c4 : CallOk P w K mg base (gs w K) (2 * d + 1) "need_layout" (He.fAd K ("need_layout", none)) 2 (run d 4)
  c5 : CallOk P w K mg base (gs w K) (2 * d + 1) "need_shelf" (He.fAd K ("need_shelf", none)) 2 (run d 5)
  c6 : CallOk P w K mg base (gs w K) (2 * d + 1) "need_place" (He.fAd K ("need_place", none)) 2 (run d 6)
  c7 : CallOk P w K mg base (gs w K) (2 * d + 1) "behind_touch" (He.fAd K ("behind_touch", none)) 3 (run d 7)
  c20 : CallOk P w K mg base (gs w K) (2 * d + 1) "behind_word" (He.fAd K ("behind_word", none)) 3 (run d 20)
  c8 : CallOk P w K mg base (gs w K) (2 * d + 1) "touched" (He.fAd K ("touched", none)) 3 (run d 8)
  c21 : CallOk P w K mg base (gs w K) (2 * d + 1) "after" (He.fAd K ("after", none)) 3 (run d 21)
  c9 : CallOk P w K mg base (gs w K) (2 * d + 1) "words_from" (He.fAd K ("words_from", none)) 2 (run d 9)
  c22 : CallOk P w K mg base (gs w K) (2 * d + 1) "can_come" (He.fAd K ("can_come", none)) 2 (run d 22)
  c10 : CallOk P w K mg base (gs w K) (2 * d + 1) "word_between" (He.fAd K ("word_between", none)) 3 (run d 10)
  c11 : CallOk P w K mg base (gs w K) (2 * d + 1) "distance" (He.fAd K ("distance", none)) 3 (run d 11)
  c12 : CallOk P w K mg base (gs w K) (2 * d + 1) "farthest" (He.fAd K ("farthest", none)) 2 (run d 12)
  c13 : CallOk P w K mg base (gs w K) (2 * d + 1) "order" (He.fAd K ("order", none)) 1 (run d 13)
  c17 : CallOk P w K mg base (gs w K) (2 * d + 1) "_law_taken" (He.fAd K ("_law_taken", none)) 2 (run d 17)
  c18 : CallOk P w K mg base (gs w K) (2 * d + 1) "_law_order" (He.fAd K ("_law_order", none)) 2 (run d 18)
  c23 : CallOk P w K mg base (gs w K) (2 * d + 1) "_law_habit" (He.fAd K ("_law_habit", none)) 2 (run d 23)
  c24 : CallOk P w K mg base (gs w K) (2 * d + 1) "_law_alike" (He.fAd K ("_law_alike", none)) 2 (run d 24)
  c25 : CallOk P w K mg base (gs w K) (2 * d + 1) "_law_touch" (He.fAd K ("_law_touch", none)) 3 (run d 25)
  c26 : CallOk P w K mg base (gs w K) (2 * d + 1) "_law_near" (He.fAd K ("_law_near", none)) 2 (run d 26)
  c27 : CallOk P w K mg base (gs w K) (2 * d + 1) "_law_pick" (He.fAd K ("_law_pick", none)) 2 (run d 27)
  c28 : CallOk P w K mg base (gs w K) (2 * d + 1) "_law_least_word" (He.fAd K ("_law_least_word", none)) 4 (run d 28)
  c29 : CallOk P w K mg base (gs w K) (2 * d + 1) "law" (He.fAd K ("law", none)) 1 (run d 29)
theorem sc_is_number : FnScope N_is_number ["value", "low", "high"] (defScope s_is_number) := ⟨rfl, rfl, rfl, by decide +kernel, rfl, by decide +kernel, by decide +kernel⟩
theorem sc_is_permutation : FnScope N_is_permutation ["value", "many"] (defScope s_is_permutation) := ⟨rfl, rfl, rfl, by decide +kernel, rfl, by decide +kernel, by decide +kernel⟩
theorem sc_need_habit : FnScope N_need_habit ["value"] (defScope s_need_habit) := ⟨rfl, rfl, rfl, by decide +kernel, rfl, by decide +kernel, by decide +kernel⟩
theorem sc_need_layout : FnScope N_need_layout ["habit", "value"] (defScope s_need_layout) := ⟨rfl, rfl, rfl, by decide +kernel, rfl, by decide +kernel, by decide +kernel⟩
theorem sc_need_shelf : FnScope N_need_shelf ["habit", "layout"] (defScope s_need_shelf) := ⟨rfl, rfl, rfl, by decide +kernel, rfl, by decide +kernel, by decide +kernel⟩
theorem sc_need_place : FnScope N_need_place ["habit", "value"] (defScope s_need_place) := ⟨rfl, rfl, rfl, by decide +kernel, rfl, by decide +kernel, by decide +kernel⟩
theorem sc_behind_touch : FnScope N_behind_touch ["habit", "layout", "place"] (defScope s_behind_touch) := ⟨rfl, rfl, rfl, by decide +kernel, rfl, by decide +kernel, by decide +kernel⟩
theorem sc_behind_word : FnScope N_behind_word ["habit", "layout", "word"] (defScope s_behind_word) := ⟨rfl, rfl, rfl, by decide +kernel, rfl, by decide +kernel, by decide +kernel⟩
theorem sc_touched : FnScope N_touched ["habit", "layout", "place"] (defScope s_touched) := ⟨rfl, rfl, rfl, by decide +kernel, rfl, by decide +kernel, by decide +kernel⟩
theorem sc_after : FnScope N_after ["habit", "layout", "word"] (defScope s_after) := ⟨rfl, rfl, rfl, by decide +kernel, rfl, by decide +kernel, by decide +kernel⟩
theorem sc_words_from : FnScope N_words_from ["habit", "layout"] (defScope s_words_from) := ⟨rfl, rfl, rfl, by decide +kernel, rfl, by decide +kernel, by decide +kernel⟩
theorem sc_can_come : FnScope N_can_come ["habit", "layout"] (defScope s_can_come) := ⟨rfl, rfl, rfl, by decide +kernel, rfl, by decide +kernel, by decide +kernel⟩
theorem sc_word_between : FnScope N_word_between ["habit", "one", "other"] (defScope s_word_between) := ⟨rfl, rfl, rfl, by decide +kernel, rfl, by decide +kernel, by decide +kernel⟩
theorem sc_distance : FnScope N_distance ["habit", "one", "other"] (defScope s_distance) := ⟨rfl, rfl, rfl, by decide +kernel, rfl, by decide +kernel, by decide +kernel⟩
theorem sc_farthest : FnScope N_farthest ["habit", "layout"] (defScope s_farthest) := ⟨rfl, rfl, rfl, by decide +kernel, rfl, by decide +kernel, by decide +kernel⟩
theorem sc_order : FnScope N_order ["habit"] (defScope s_order) := ⟨rfl, rfl, rfl, by decide +kernel, rfl, by decide +kernel, by decide +kernel⟩
theorem sc__law_taken : FnScope N__law_taken ["_law_row", "_law_many"] (defScope s__law_taken) := ⟨rfl, rfl, rfl, by decide +kernel, rfl, by decide +kernel, by decide +kernel⟩
theorem sc__law_order : FnScope N__law_order ["_law_row", "_law_many"] (defScope s__law_order) := ⟨rfl, rfl, rfl, by decide +kernel, rfl, by decide +kernel, by decide +kernel⟩
theorem sc__law_habit : FnScope N__law_habit ["_law_row", "_law_places"] (defScope s__law_habit) := ⟨rfl, rfl, rfl, by decide +kernel, rfl, by decide +kernel, by decide +kernel⟩
theorem sc__law_alike : FnScope N__law_alike ["_law_found", "_law_due"] (defScope s__law_alike) := ⟨rfl, rfl, rfl, by decide +kernel, rfl, by decide +kernel, by decide +kernel⟩
theorem sc__law_touch : FnScope N__law_touch ["_law_habit_here", "_law_layout", "_law_place"] (defScope s__law_touch) := ⟨rfl, rfl, rfl, by decide +kernel, rfl, by decide +kernel, by decide +kernel⟩
theorem sc__law_near : FnScope N__law_near ["_law_habit_here", "_law_layout"] (defScope s__law_near) := ⟨rfl, rfl, rfl, by decide +kernel, rfl, by decide +kernel, by decide +kernel⟩
theorem sc__law_pick : FnScope N__law_pick ["_law_row", "_law_things"] (defScope s__law_pick) := ⟨rfl, rfl, rfl, by decide +kernel, rfl, by decide +kernel, by decide +kernel⟩
theorem sc__law_least_word : FnScope N__law_least_word ["_law_habit_here", "_law_layout", "_law_other", "_law_many"] (defScope s__law_least_word) := ⟨rfl, rfl, rfl, by decide +kernel, rfl, by decide +kernel, by decide +kernel⟩
theorem sc_law : FnScope N_law ["_law_script"] (defScope s_law) := ⟨rfl, rfl, rfl, by decide +kernel, rfl, by decide +kernel, by decide +kernel⟩
section
variable {P : Program} {w : World} {K : PySem.W.Frag} {mg : Str → Option Value} {base : Heap}
theorem bi_is_number {fd : FuncData} (F : FunD K "is_number" "is_number" (defArgs s_is_number) (defBody s_is_number) (defScope s_is_number) [] [] (He.fAd K ("is_number", none)) fd) : Binds K fd ["value", "low", "high"] [] := F.bindsN (fun _ _ _ _ _ _ us hl => match us, hl with | [_, _, _], _ => rfl)
theorem ok_is_number (Fa : Facts K mg base) {d : Nat} (C : Cs P w K mg base d) : CallOk P w K mg base (gs w K) (2 * (d + 1) + 1) "is_number" (He.fAd K ("is_number", none)) 3 (run (d + 1) 0) := by
  obtain ⟨fd, FD⟩ := Fa.d_is_number
  have S := sc_is_number
  refine callOk_of (k := 2 * d + 2) (N := N_is_number) (ψ := b_is_number (run d)) FD S rfl (bi_is_number FD) Fa.g_is_number fun cdv hcd A outer s H E hr => ?_
  have tk : L2.Takes (cxOf (L2.CX P w) P w K mg base N_is_number "is_number" (defScope s_is_number) (He.fAd K ("is_number", none)) cdv A outer s H E) (fun cls d _ H => E cls d H) := takes_of rfl rfl rfl rfl
  unfold b_is_number
  exact (SSs.one (SS.ret (SE.and (SE.isi isi_int rfl Fa.n_isinstance rfl Fa.n_int (by decide +kernel) (SE.var (i := 0))) (SE.and (SE.not (SE.isi isi_bool rfl Fa.n_isinstance rfl Fa.n_bool (by decide +kernel) (SE.var (i := 0)))) (SE.one (SE.chainP (sop_leA (units65 hr)) (sop_leA (units65 hr)) (SE.var (i := 1)) (SE.var (i := 0)) (SE.var (i := 2))))))))
theorem bi_is_permutation {fd : FuncData} (F : FunD K "is_permutation" "is_permutation" (defArgs s_is_permutation) (defBody s_is_permutation) (defScope s_is_permutation) [] [] (He.fAd K ("is_permutation", none)) fd) : Binds K fd ["value", "many"] [] := F.bindsN (fun _ _ _ _ _ _ us hl => match us, hl with | [_, _], _ => rfl)
theorem ok_is_permutation (Fa : Facts K mg base) {d : Nat} (C : Cs P w K mg base d) : CallOk P w K mg base (gs w K) (2 * (d + 1) + 1) "is_permutation" (He.fAd K ("is_permutation", none)) 2 (run (d + 1) 2) := by
  obtain ⟨fd, FD⟩ := Fa.d_is_permutation
  have TB := Fa.t_is_permutation
  have hc0 := code_ref FD
  have hP : (He.cT K ("is_permutation", none)).2 ∈ (gs w K).tabs := by unfold gs; simp
  have S := sc_is_permutation
  refine callOk_of (k := 2 * d + 2) (N := N_is_permutation) (ψ := b_is_permutation (run d)) FD S rfl (bi_is_permutation FD) Fa.g_is_permutation fun cdv hcd A outer s H E hr => ?_
  have tk : L2.Takes (cxOf (L2.CX P w) P w K mg base N_is_permutation "is_permutation" (defScope s_is_permutation) (He.fAd K ("is_permutation", none)) cdv A outer s H E) (fun cls d _ H => E cls d H) := takes_of rfl rfl rfl rfl
  have hcode : (cxOf (L2.CX P w) P w K mg base N_is_permutation "is_permutation" (defScope s_is_permutation) (He.fAd K ("is_permutation", none)) cdv A outer s H E).env.code = .ref (He.cT K ("is_permutation", none)).1 := hcd.symm.trans hc0
  unfold b_is_permutation
  exact (SSs.cons (SS.ife (SW.st (SW.or (ST.not (ST.val (SE.isi isi_tuple rfl Fa.n_isinstance rfl Fa.n_tuple (by decide +kernel) (SE.var (i := 0))))) (SW.or1 (ST.cmp (sop_ne hr.units) (SE.callB sc_lenC (SA.cons (SE.var (i := 0)) SA.nil) rfl Fa.n_len PySem.boot_len) (SE.var (i := 1)))))) (SSs.one (SS.ret SE.bl)) SSs.nil) (SSs.one (SS.ret (SE.and (SE.gen (z := false) (own := [("place", 2)]) hr rfl S.nd rfl Fa.n_all PyProof.Rows.boot_all TB hP hcode (genOk_by rfl) (SI.ofK (SE.var (i := 0))) (GCg.one S.nd rfl (by decide) rfl) GTs.nil (fun _ _ _ _ _ _ hr => (SE.call (C.c0) (hr.mono (by omega)) takes_wf rfl (SA.cons (SE.var (i := 2)) (SA.cons SE.int (SA.cons (SE.bin sop_sub (SE.var (i := 1)) SE.int) SA.nil)))))) (SE.one (SE.cmp (sop_eq hr.units) (SE.lenSet rfl rfl Fa.n_len rfl Fa.n_set (SQ.ofE (SE.var (i := 0)))) (SE.var (i := 1))))))))
theorem bi_need_habit {fd : FuncData} (F : FunD K "need_habit" "need_habit" (defArgs s_need_habit) (defBody s_need_habit) (defScope s_need_habit) [] [] (He.fAd K ("need_habit", none)) fd) : Binds K fd ["value"] [] := F.bindsN (fun _ _ _ _ _ _ us hl => match us, hl with | [_], _ => rfl)
theorem ok_need_habit (Fa : Facts K mg base) {d : Nat} (C : Cs P w K mg base d) : CallOk P w K mg base (gs w K) (2 * (d + 1) + 1) "need_habit" (He.fAd K ("need_habit", none)) 1 (run (d + 1) 3) := by
  obtain ⟨fd, FD⟩ := Fa.d_need_habit
  have S := sc_need_habit
  refine callOk_of (k := 2 * d + 2) (N := N_need_habit) (ψ := b_need_habit (run d)) FD S rfl (bi_need_habit FD) Fa.g_need_habit fun cdv hcd A outer s H E hr => ?_
  have tk : L2.Takes (cxOf (L2.CX P w) P w K mg base N_need_habit "need_habit" (defScope s_need_habit) (He.fAd K ("need_habit", none)) cdv A outer s H E) (fun cls d _ H => E cls d H) := takes_of rfl rfl rfl rfl
  unfold b_need_habit
  exact (SSs.cons (SS.ife (SW.st (SW.or (ST.not (ST.val (SE.isi isi_tuple rfl Fa.n_isinstance rfl Fa.n_tuple (by decide +kernel) (SE.var (i := 0))))) (SW.or1 (ST.not (ST.chain (sop_leA (units65 hr)) (sop_leA (units65 hr)) (SE.globI Fa.i_LEAST_PLACES rfl) (SE.callB sc_lenC (SA.cons (SE.var (i := 0)) SA.nil) rfl Fa.n_len PySem.boot_len) (SE.globI Fa.i_MOST_PLACES rfl)))))) (SSs.one SS.bad) SSs.nil) (SSs.one (SS.for (passes_of rfl) rfl (SI.enum rfl Fa.n_enumerate (SE.var (i := 0))) (SG.tup (n := 2) rfl (SGs.cons (SG.name S.nd (i := 1) rfl (.inl rfl)) (SGs.cons (SG.name S.nd (i := 2) rfl (.inl rfl)) SGs.nil))) (SSs.one (SS.ife (ST.not (ST.val (SE.call (C.c2) (hr.mono (by omega)) tk rfl (SA.cons (SE.var (i := 2)) (SA.cons (SE.callB sc_lenC (SA.cons (SE.var (i := 0)) SA.nil) rfl Fa.n_len PySem.boot_len) SA.nil))))) (SSs.one SS.bad) SSs.nil)))))
theorem bi_need_layout {fd : FuncData} (F : FunD K "need_layout" "need_layout" (defArgs s_need_layout) (defBody s_need_layout) (defScope s_need_layout) [] [] (He.fAd K ("need_layout", none)) fd) : Binds K fd ["habit", "value"] [] := F.bindsN (fun _ _ _ _ _ _ us hl => match us, hl with | [_, _], _ => rfl)
theorem ok_need_layout (Fa : Facts K mg base) {d : Nat} (C : Cs P w K mg base d) : CallOk P w K mg base (gs w K) (2 * (d + 1) + 1) "need_layout" (He.fAd K ("need_layout", none)) 2 (run (d + 1) 4) := by
  obtain ⟨fd, FD⟩ := Fa.d_need_layout
  have S := sc_need_layout
  refine callOk_of (k := 2 * d + 2) (N := N_need_layout) (ψ := b_need_layout (run d)) FD S rfl (bi_need_layout FD) Fa.g_need_layout fun cdv hcd A outer s H E hr => ?_
  have tk : L2.Takes (cxOf (L2.CX P w) P w K mg base N_need_layout "need_layout" (defScope s_need_layout) (He.fAd K ("need_layout", none)) cdv A outer s H E) (fun cls d _ H => E cls d H) := takes_of rfl rfl rfl rfl
  unfold b_need_layout
  exact (SSs.one (SS.ife (ST.not (ST.val (SE.call (C.c2) (hr.mono (by omega)) tk rfl (SA.cons (SE.var (i := 1)) (SA.cons (SE.callB sc_lenC (SA.cons (SE.var (i := 0)) SA.nil) rfl Fa.n_len PySem.boot_len) SA.nil))))) (SSs.one SS.bad) SSs.nil))
theorem bi_need_shelf {fd : FuncData} (F : FunD K "need_shelf" "need_shelf" (defArgs s_need_shelf) (defBody s_need_shelf) (defScope s_need_shelf) [] [] (He.fAd K ("need_shelf", none)) fd) : Binds K fd ["habit", "layout"] [] := F.bindsN (fun _ _ _ _ _ _ us hl => match us, hl with | [_, _], _ => rfl)
theorem ok_need_shelf (Fa : Facts K mg base) {d : Nat} (C : Cs P w K mg base d) : CallOk P w K mg base (gs w K) (2 * (d + 1) + 1) "need_shelf" (He.fAd K ("need_shelf", none)) 2 (run (d + 1) 5) := by
  obtain ⟨fd, FD⟩ := Fa.d_need_shelf
  have S := sc_need_shelf
  refine callOk_of (k := 2 * d + 2) (N := N_need_shelf) (ψ := b_need_shelf (run d)) FD S rfl (bi_need_shelf FD) Fa.g_need_shelf fun cdv hcd A outer s H E hr => ?_
  have tk : L2.Takes (cxOf (L2.CX P w) P w K mg base N_need_shelf "need_shelf" (defScope s_need_shelf) (He.fAd K ("need_shelf", none)) cdv A outer s H E) (fun cls d _ H => E cls d H) := takes_of rfl rfl rfl rfl
  unfold b_need_shelf
  exact (SSs.cons (SS.expr (SE.call (C.c3) (hr.mono (by omega)) tk rfl (SA.cons (SE.var (i := 0)) SA.nil))) (SSs.one (SS.expr (SE.call (C.c4) (hr.mono (by omega)) tk rfl (SA.cons (SE.var (i := 0)) (SA.cons (SE.var (i := 1)) SA.nil))))))
theorem bi_need_place {fd : FuncData} (F : FunD K "need_place" "need_place" (defArgs s_need_place) (defBody s_need_place) (defScope s_need_place) [] [] (He.fAd K ("need_place", none)) fd) : Binds K fd ["habit", "value"] [] := F.bindsN (fun _ _ _ _ _ _ us hl => match us, hl with | [_, _], _ => rfl)
theorem ok_need_place (Fa : Facts K mg base) {d : Nat} (C : Cs P w K mg base d) : CallOk P w K mg base (gs w K) (2 * (d + 1) + 1) "need_place" (He.fAd K ("need_place", none)) 2 (run (d + 1) 6) := by
  obtain ⟨fd, FD⟩ := Fa.d_need_place
  have S := sc_need_place
  refine callOk_of (k := 2 * d + 2) (N := N_need_place) (ψ := b_need_place (run d)) FD S rfl (bi_need_place FD) Fa.g_need_place fun cdv hcd A outer s H E hr => ?_
  have tk : L2.Takes (cxOf (L2.CX P w) P w K mg base N_need_place "need_place" (defScope s_need_place) (He.fAd K ("need_place", none)) cdv A outer s H E) (fun cls d _ H => E cls d H) := takes_of rfl rfl rfl rfl
  unfold b_need_place
  exact (SSs.one (SS.ife (ST.not (ST.val (SE.call (C.c0) (hr.mono (by omega)) tk rfl (SA.cons (SE.var (i := 1)) (SA.cons SE.int (SA.cons (SE.bin sop_sub (SE.callB sc_lenC (SA.cons (SE.var (i := 0)) SA.nil) rfl Fa.n_len PySem.boot_len) SE.int) SA.nil)))))) (SSs.one SS.bad) SSs.nil))
theorem bi_behind_touch {fd : FuncData} (F : FunD K "behind_touch" "behind_touch" (defArgs s_behind_touch) (defBody s_behind_touch) (defScope s_behind_touch) [] [] (He.fAd K ("behind_touch", none)) fd) : Binds K fd ["habit", "layout", "place"] [] := F.bindsN (fun _ _ _ _ _ _ us hl => match us, hl with | [_, _, _], _ => rfl)
theorem ok_behind_touch (Fa : Facts K mg base) {d : Nat} (C : Cs P w K mg base d) : CallOk P w K mg base (gs w K) (2 * (d + 1) + 1) "behind_touch" (He.fAd K ("behind_touch", none)) 3 (run (d + 1) 7) := by
  obtain ⟨fd, FD⟩ := Fa.d_behind_touch
  have S := sc_behind_touch
  refine callOk_of (k := 2 * d + 2) (N := N_behind_touch) (ψ := b_behind_touch (run d)) FD S rfl (bi_behind_touch FD) Fa.g_behind_touch fun cdv hcd A outer s H E hr => ?_
  have tk : L2.Takes (cxOf (L2.CX P w) P w K mg base N_behind_touch "behind_touch" (defScope s_behind_touch) (He.fAd K ("behind_touch", none)) cdv A outer s H E) (fun cls d _ H => E cls d H) := takes_of rfl rfl rfl rfl
  unfold b_behind_touch
  exact (SSs.one (SS.ret (SE.tupleR (SR.ofL (SL.comp (own := [("stands", 3)]) rfl S.nd (SI.ofK (SE.var (i := 1))) (blkOk_by rfl) (SCg.one S.nd rfl (by decide) (fun _ _ _ _ _ => ⟨.inl rfl, .inr rfl⟩)) STs.nil (fun _ _ _ _ _ => (SE.ixK (units65 hr) rfl (SE.ixK (units65 hr) rfl (SE.var (i := 0)) (SE.var (i := 2))) (SE.var (i := 3)))))) rfl Fa.n_tuple)))
theorem bi_behind_word {fd : FuncData} (F : FunD K "behind_word" "behind_word" (defArgs s_behind_word) (defBody s_behind_word) (defScope s_behind_word) [] [] (He.fAd K ("behind_word", none)) fd) : Binds K fd ["habit", "layout", "word"] [] := F.bindsN (fun _ _ _ _ _ _ us hl => match us, hl with | [_, _, _], _ => rfl)
theorem ok_behind_word (Fa : Facts K mg base) {d : Nat} (C : Cs P w K mg base d) : CallOk P w K mg base (gs w K) (2 * (d + 1) + 1) "behind_word" (He.fAd K ("behind_word", none)) 3 (run (d + 1) 20) := by
  obtain ⟨fd, FD⟩ := Fa.d_behind_word
  have S := sc_behind_word
  refine callOk_of (k := 2 * d + 2) (N := N_behind_word) (ψ := b_behind_word (run d)) FD S rfl (bi_behind_word FD) Fa.g_behind_word fun cdv hcd A outer s H E hr => ?_
  have tk : L2.Takes (cxOf (L2.CX P w) P w K mg base N_behind_word "behind_word" (defScope s_behind_word) (He.fAd K ("behind_word", none)) cdv A outer s H E) (fun cls d _ H => E cls d H) := takes_of rfl rfl rfl rfl
  unfold b_behind_word
  exact (SSs.cons (SS.for (passes_of rfl) rfl (SI.ofK (SE.var (i := 2))) (SG.name S.nd (i := 3) rfl (.inl rfl)) (SSs.one (SS.set (i := 1) S.nd rfl (.inl rfl) (SE.call (C.c7) (hr.mono (by omega)) tk rfl (SA.cons (SE.var (i := 0)) (SA.cons (SE.var (i := 1)) (SA.cons (SE.var (i := 3)) SA.nil))))))) (SSs.one (SS.ret (SE.var (i := 1)))))
theorem bi_touched {fd : FuncData} (F : FunD K "touched" "touched" (defArgs s_touched) (defBody s_touched) (defScope s_touched) [] [] (He.fAd K ("touched", none)) fd) : Binds K fd ["habit", "layout", "place"] [] := F.bindsN (fun _ _ _ _ _ _ us hl => match us, hl with | [_, _, _], _ => rfl)
theorem ok_touched (Fa : Facts K mg base) {d : Nat} (C : Cs P w K mg base d) : CallOk P w K mg base (gs w K) (2 * (d + 1) + 1) "touched" (He.fAd K ("touched", none)) 3 (run (d + 1) 8) := by
  obtain ⟨fd, FD⟩ := Fa.d_touched
  have S := sc_touched
  refine callOk_of (k := 2 * d + 2) (N := N_touched) (ψ := b_touched (run d)) FD S rfl (bi_touched FD) Fa.g_touched fun cdv hcd A outer s H E hr => ?_
  have tk : L2.Takes (cxOf (L2.CX P w) P w K mg base N_touched "touched" (defScope s_touched) (He.fAd K ("touched", none)) cdv A outer s H E) (fun cls d _ H => E cls d H) := takes_of rfl rfl rfl rfl
  unfold b_touched
  exact (SSs.cons (SS.expr (SE.call (C.c5) (hr.mono (by omega)) tk rfl (SA.cons (SE.var (i := 0)) (SA.cons (SE.var (i := 1)) SA.nil)))) (SSs.cons (SS.expr (SE.call (C.c6) (hr.mono (by omega)) tk rfl (SA.cons (SE.var (i := 0)) (SA.cons (SE.var (i := 2)) SA.nil)))) (SSs.one (SS.ret (SE.call (C.c7) (hr.mono (by omega)) tk rfl (SA.cons (SE.var (i := 0)) (SA.cons (SE.var (i := 1)) (SA.cons (SE.var (i := 2)) SA.nil))))))))
theorem bi_after {fd : FuncData} (F : FunD K "after" "after" (defArgs s_after) (defBody s_after) (defScope s_after) [] [] (He.fAd K ("after", none)) fd) : Binds K fd ["habit", "layout", "word"] [] := F.bindsN (fun _ _ _ _ _ _ us hl => match us, hl with | [_, _, _], _ => rfl)
theorem ok_after (Fa : Facts K mg base) {d : Nat} (C : Cs P w K mg base d) : CallOk P w K mg base (gs w K) (2 * (d + 1) + 1) "after" (He.fAd K ("after", none)) 3 (run (d + 1) 21) := by
  obtain ⟨fd, FD⟩ := Fa.d_after
  have TB := Fa.t_after
  have hc0 := code_ref FD
  have hP : (He.cT K ("after", none)).2 ∈ (gs w K).tabs := by unfold gs; simp
  have S := sc_after
  refine callOk_of (k := 2 * d + 2) (N := N_after) (ψ := b_after (run d)) FD S rfl (bi_after FD) Fa.g_after fun cdv hcd A outer s H E hr => ?_
  have tk : L2.Takes (cxOf (L2.CX P w) P w K mg base N_after "after" (defScope s_after) (He.fAd K ("after", none)) cdv A outer s H E) (fun cls d _ H => E cls d H) := takes_of rfl rfl rfl rfl
  have hcode : (cxOf (L2.CX P w) P w K mg base N_after "after" (defScope s_after) (He.fAd K ("after", none)) cdv A outer s H E).env.code = .ref (He.cT K ("after", none)).1 := hcd.symm.trans hc0
  unfold b_after
  exact (SSs.cons (SS.expr (SE.call (C.c5) (hr.mono (by omega)) tk rfl (SA.cons (SE.var (i := 0)) (SA.cons (SE.var (i := 1)) SA.nil)))) (SSs.cons (SS.ife (SW.st (SW.or (ST.not (ST.val (SE.isi isi_tuple rfl Fa.n_isinstance rfl Fa.n_tuple (by decide +kernel) (SE.var (i := 2))))) (SW.or1 (ST.cmp (sop_gtA (units65 hr)) (SE.callB sc_lenC (SA.cons (SE.var (i := 2)) SA.nil) rfl Fa.n_len PySem.boot_len) (SE.globI Fa.i_MOST_WORD rfl))))) (SSs.one SS.bad) SSs.nil) (SSs.cons (SS.ife (ST.not (ST.val (SE.gen (z := false) (own := [("place", 3)]) hr rfl S.nd rfl Fa.n_all PyProof.Rows.boot_all TB hP hcode (genOk_by rfl) (SI.ofK (SE.var (i := 2))) (GCg.one S.nd rfl (by decide) rfl) GTs.nil (fun _ _ _ _ _ _ hr => (SE.call (C.c0) (hr.mono (by omega)) takes_wf rfl (SA.cons (SE.var (i := 3)) (SA.cons SE.int (SA.cons (SE.bin sop_sub (SE.callB sc_lenC (SA.cons (SE.var (i := 0)) SA.nil) rfl Fa.n_len PySem.boot_len) SE.int) SA.nil)))))))) (SSs.one SS.bad) SSs.nil) (SSs.one (SS.ret (SE.call (C.c20) (hr.mono (by omega)) tk rfl (SA.cons (SE.var (i := 0)) (SA.cons (SE.var (i := 1)) (SA.cons (SE.var (i := 2)) SA.nil)))))))))
theorem bi_words_from {fd : FuncData} (F : FunD K "words_from" "words_from" (defArgs s_words_from) (defBody s_words_from) (defScope s_words_from) [] [] (He.fAd K ("words_from", none)) fd) : Binds K fd ["habit", "layout"] [] := F.bindsN (fun _ _ _ _ _ _ us hl => match us, hl with | [_, _], _ => rfl)
theorem ok_words_from (Fa : Facts K mg base) {d : Nat} (C : Cs P w K mg base d) : CallOk P w K mg base (gs w K) (2 * (d + 1) + 1) "words_from" (He.fAd K ("words_from", none)) 2 (run (d + 1) 9) := by
  obtain ⟨fd, FD⟩ := Fa.d_words_from
  have S := sc_words_from
  refine callOk_of (k := 2 * d + 2) (N := N_words_from) (ψ := b_words_from (run d)) FD S rfl (bi_words_from FD) Fa.g_words_from fun cdv hcd A outer s H E hr => ?_
  have tk : L2.Takes (cxOf (L2.CX P w) P w K mg base N_words_from "words_from" (defScope s_words_from) (He.fAd K ("words_from", none)) cdv A outer s H E) (fun cls d _ H => E cls d H) := takes_of rfl rfl rfl rfl
  unfold b_words_from
  exact (SSs.cons (SS.par (i := 2) (j := 3) rfl S.nd rfl rfl (by decide) rfl rfl (SE.dict (units65 hr) rfl (SP.cons (SE.var (i := 1)) (SE.tup SA.nil) SP.nil)) (SE.ofL (SL.disp (SA.cons (SE.var (i := 1)) SA.nil))) rfl) (SSs.cons (SS.whl (n := fuel) (passes_of rfl) (ST.tru (SE.var (i := 3))) (SSs.cons (SS.set (i := 4) S.nd rfl (.inl rfl) (SE.ofL (SL.disp SA.nil))) (SSs.cons (SS.for (passes_of rfl) rfl (SI.ofK (SE.var (i := 3))) (SG.name S.nd (i := 5) rfl (.inl rfl)) (SSs.one (SS.for (passes_of rfl) rfl (SI.rng1 rfl Fa.n_range (SE.callB sc_lenC (SA.cons (SE.var (i := 0)) SA.nil) rfl Fa.n_len PySem.boot_len)) (SG.name S.nd (i := 6) rfl (.inl rfl)) (SSs.cons (SS.set (i := 7) S.nd rfl (.inl rfl) (SE.call (C.c7) (hr.mono (by omega)) tk rfl (SA.cons (SE.var (i := 0)) (SA.cons (SE.var (i := 5)) (SA.cons (SE.var (i := 6)) SA.nil))))) (SSs.one (SS.ife (ST.cmp (sop_notInA (units65 hr) rfl) (SE.var (i := 7)) (SE.var (i := 2))) (SSs.cons (SS.asg (SE.bin sop_add (SE.ixK (units65 hr) rfl (SE.var (i := 2)) (SE.var (i := 5))) (SE.tup (SA.cons (SE.var (i := 6)) SA.nil))) (SG.subK (units65 hr) rfl (SE.var (i := 2)) (SE.var (i := 7)))) (SSs.one (SS.expr (SE.met ty_L F.plainAttrs_list F.slot_list_append F.type_list_append sm_append (SE.var (i := 4)) (SA.cons (SE.var (i := 7)) SA.nil))))) SSs.nil)))))) (SSs.one (SS.set (i := 3) S.nd rfl (.inl rfl) (SE.var (i := 4))))))) (SSs.one (SS.ret (SE.var (i := 2))))))
theorem bi_can_come {fd : FuncData} (F : FunD K "can_come" "can_come" (defArgs s_can_come) (defBody s_can_come) (defScope s_can_come) [] [] (He.fAd K ("can_come", none)) fd) : Binds K fd ["habit", "layout"] [] := F.bindsN (fun _ _ _ _ _ _ us hl => match us, hl with | [_, _], _ => rfl)
theorem ok_can_come (Fa : Facts K mg base) {d : Nat} (C : Cs P w K mg base d) : CallOk P w K mg base (gs w K) (2 * (d + 1) + 1) "can_come" (He.fAd K ("can_come", none)) 2 (run (d + 1) 22) := by
  obtain ⟨fd, FD⟩ := Fa.d_can_come
  have S := sc_can_come
  refine callOk_of (k := 2 * d + 2) (N := N_can_come) (ψ := b_can_come (run d)) FD S rfl (bi_can_come FD) Fa.g_can_come fun cdv hcd A outer s H E hr => ?_
  have tk : L2.Takes (cxOf (L2.CX P w) P w K mg base N_can_come "can_come" (defScope s_can_come) (He.fAd K ("can_come", none)) cdv A outer s H E) (fun cls d _ H => E cls d H) := takes_of rfl rfl rfl rfl
  unfold b_can_come
  exact (SSs.cons (SS.expr (SE.call (C.c5) (hr.mono (by omega)) tk rfl (SA.cons (SE.var (i := 0)) (SA.cons (SE.var (i := 1)) SA.nil)))) (SSs.one (SS.ret (SE.tupleR (SR.ofL (SL.sortedC rfl (units65 hr) (SCo.ofE (SE.call (C.c9) (hr.mono (by omega)) tk rfl (SA.cons (SE.var (i := 0)) (SA.cons (SE.var (i := 1)) SA.nil)))) rfl Fa.n_sorted)) rfl Fa.n_tuple))))
theorem bi_word_between {fd : FuncData} (F : FunD K "word_between" "word_between" (defArgs s_word_between) (defBody s_word_between) (defScope s_word_between) [] [] (He.fAd K ("word_between", none)) fd) : Binds K fd ["habit", "one", "other"] [] := F.bindsN (fun _ _ _ _ _ _ us hl => match us, hl with | [_, _, _], _ => rfl)
theorem ok_word_between (Fa : Facts K mg base) {d : Nat} (C : Cs P w K mg base d) : CallOk P w K mg base (gs w K) (2 * (d + 1) + 1) "word_between" (He.fAd K ("word_between", none)) 3 (run (d + 1) 10) := by
  obtain ⟨fd, FD⟩ := Fa.d_word_between
  have S := sc_word_between
  refine callOk_of (k := 2 * d + 2) (N := N_word_between) (ψ := b_word_between (run d)) FD S rfl (bi_word_between FD) Fa.g_word_between fun cdv hcd A outer s H E hr => ?_
  have tk : L2.Takes (cxOf (L2.CX P w) P w K mg base N_word_between "word_between" (defScope s_word_between) (He.fAd K ("word_between", none)) cdv A outer s H E) (fun cls d _ H => E cls d H) := takes_of rfl rfl rfl rfl
  unfold b_word_between
  exact (SSs.cons (SS.expr (SE.call (C.c5) (hr.mono (by omega)) tk rfl (SA.cons (SE.var (i := 0)) (SA.cons (SE.var (i := 1)) SA.nil)))) (SSs.cons (SS.expr (SE.call (C.c4) (hr.mono (by omega)) tk rfl (SA.cons (SE.var (i := 0)) (SA.cons (SE.var (i := 2)) SA.nil)))) (SSs.one (SS.ret (SE.met (ty_D rfl) F.plainAttrs_dict F.slot_dict_get F.type_dict_get (sm_dget (units65 hr) rfl) (SE.call (C.c9) (hr.mono (by omega)) tk rfl (SA.cons (SE.var (i := 0)) (SA.cons (SE.var (i := 1)) SA.nil))) (SA.cons (SE.var (i := 2)) SA.nil))))))
theorem bi_distance {fd : FuncData} (F : FunD K "distance" "distance" (defArgs s_distance) (defBody s_distance) (defScope s_distance) [] [] (He.fAd K ("distance", none)) fd) : Binds K fd ["habit", "one", "other"] [] := F.bindsN (fun _ _ _ _ _ _ us hl => match us, hl with | [_, _, _], _ => rfl)
theorem ok_distance (Fa : Facts K mg base) {d : Nat} (C : Cs P w K mg base d) : CallOk P w K mg base (gs w K) (2 * (d + 1) + 1) "distance" (He.fAd K ("distance", none)) 3 (run (d + 1) 11) := by
  obtain ⟨fd, FD⟩ := Fa.d_distance
  have S := sc_distance
  refine callOk_of (k := 2 * d + 2) (N := N_distance) (ψ := b_distance (run d)) FD S rfl (bi_distance FD) Fa.g_distance fun cdv hcd A outer s H E hr => ?_
  have tk : L2.Takes (cxOf (L2.CX P w) P w K mg base N_distance "distance" (defScope s_distance) (He.fAd K ("distance", none)) cdv A outer s H E) (fun cls d _ H => E cls d H) := takes_of rfl rfl rfl rfl
  unfold b_distance
  exact (SSs.cons (SS.set (i := 3) S.nd rfl (.inl rfl) (SE.call (C.c10) (hr.mono (by omega)) tk rfl (SA.cons (SE.var (i := 0)) (SA.cons (SE.var (i := 1)) (SA.cons (SE.var (i := 2)) SA.nil))))) (SSs.one (SS.ret (SE.ifx (ST.isN (SE.var (i := 3))) SE.non (SE.callB sc_lenC (SA.cons (SE.var (i := 3)) SA.nil) rfl Fa.n_len PySem.boot_len)))))
theorem bi_farthest {fd : FuncData} (F : FunD K "farthest" "farthest" (defArgs s_farthest) (defBody s_farthest) (defScope s_farthest) [] [] (He.fAd K ("farthest", none)) fd) : Binds K fd ["habit", "layout"] [] := F.bindsN (fun _ _ _ _ _ _ us hl => match us, hl with | [_, _], _ => rfl)
theorem ok_farthest (Fa : Facts K mg base) {d : Nat} (C : Cs P w K mg base d) : CallOk P w K mg base (gs w K) (2 * (d + 1) + 1) "farthest" (He.fAd K ("farthest", none)) 2 (run (d + 1) 12) := by
  obtain ⟨fd, FD⟩ := Fa.d_farthest
  have S := sc_farthest
  refine callOk_of (k := 2 * d + 2) (N := N_farthest) (ψ := b_farthest (run d)) FD S rfl (bi_farthest FD) Fa.g_farthest fun cdv hcd A outer s H E hr => ?_
  have tk : L2.Takes (cxOf (L2.CX P w) P w K mg base N_farthest "farthest" (defScope s_farthest) (He.fAd K ("farthest", none)) cdv A outer s H E) (fun cls d _ H => E cls d H) := takes_of rfl rfl rfl rfl
  unfold b_farthest
  exact (SSs.cons (SS.expr (SE.call (C.c5) (hr.mono (by omega)) tk rfl (SA.cons (SE.var (i := 0)) (SA.cons (SE.var (i := 1)) SA.nil)))) (SSs.one (SS.ret (SE.best (z := true) rfl (units65 hr) (SQ.ofL (SL.comp (own := [("word", 2)]) rfl S.nd (SI.valsK (SE.call (C.c9) (hr.mono (by omega)) tk rfl (SA.cons (SE.var (i := 0)) (SA.cons (SE.var (i := 1)) SA.nil)))) (blkOk_by rfl) (SCg.one S.nd rfl (by decide) (fun _ _ _ _ _ => ⟨.inl rfl, .inr rfl⟩)) STs.nil (fun _ _ _ _ _ => (SE.callB sc_lenC (SA.cons (SE.var (i := 2)) SA.nil) rfl Fa.n_len PySem.boot_len)))) rfl Fa.n_max PyProof.Rows.boot_max))))
theorem bi_order {fd : FuncData} (F : FunD K "order" "order" (defArgs s_order) (defBody s_order) (defScope s_order) [] [] (He.fAd K ("order", none)) fd) : Binds K fd ["habit"] [] := F.bindsN (fun _ _ _ _ _ _ us hl => match us, hl with | [_], _ => rfl)
theorem ok_order (Fa : Facts K mg base) {d : Nat} (C : Cs P w K mg base d) : CallOk P w K mg base (gs w K) (2 * (d + 1) + 1) "order" (He.fAd K ("order", none)) 1 (run (d + 1) 13) := by
  obtain ⟨fd, FD⟩ := Fa.d_order
  have S := sc_order
  refine callOk_of (k := 2 * d + 2) (N := N_order) (ψ := b_order (run d)) FD S rfl (bi_order FD) Fa.g_order fun cdv hcd A outer s H E hr => ?_
  have tk : L2.Takes (cxOf (L2.CX P w) P w K mg base N_order "order" (defScope s_order) (He.fAd K ("order", none)) cdv A outer s H E) (fun cls d _ H => E cls d H) := takes_of rfl rfl rfl rfl
  unfold b_order
  exact (SSs.cons (SS.expr (SE.call (C.c3) (hr.mono (by omega)) tk rfl (SA.cons (SE.var (i := 0)) SA.nil))) (SSs.one (SS.ret (SE.callB sc_lenC (SA.cons (SE.call (C.c9) (hr.mono (by omega)) tk rfl (SA.cons (SE.var (i := 0)) (SA.cons (SE.trng1 rfl rfl Fa.n_tuple rfl Fa.n_range (SE.callB sc_lenC (SA.cons (SE.var (i := 0)) SA.nil) rfl Fa.n_len PySem.boot_len)) SA.nil))) SA.nil) rfl Fa.n_len PySem.boot_len))))
theorem bi__law_taken {fd : FuncData} (F : FunD K "_law_taken" "_law_taken" (defArgs s__law_taken) (defBody s__law_taken) (defScope s__law_taken) [] [] (He.fAd K ("_law_taken", none)) fd) : Binds K fd ["_law_row", "_law_many"] [] := F.bindsN (fun _ _ _ _ _ _ us hl => match us, hl with | [_, _], _ => rfl)
theorem ok__law_taken (Fa : Facts K mg base) {d : Nat} (C : Cs P w K mg base d) : CallOk P w K mg base (gs w K) (2 * (d + 1) + 1) "_law_taken" (He.fAd K ("_law_taken", none)) 2 (run (d + 1) 17) := by
  obtain ⟨fd, FD⟩ := Fa.d__law_taken
  have S := sc__law_taken
  refine callOk_of (k := 2 * d + 2) (N := N__law_taken) (ψ := b_lw_taken (run d)) FD S rfl (bi__law_taken FD) Fa.g__law_taken fun cdv hcd A outer s H E hr => ?_
  have tk : L2.Takes (cxOf (L2.CX P w) P w K mg base N__law_taken "_law_taken" (defScope s__law_taken) (He.fAd K ("_law_taken", none)) cdv A outer s H E) (fun cls d _ H => E cls d H) := takes_of rfl rfl rfl rfl
  unfold b_lw_taken
  exact (SSs.cons (SS.ife (ST.cmp (sop_gtA (units65 hr)) (SE.ixK (units65 hr) rfl (SE.var (i := 0)) SE.int) SE.int) (SSs.cons (SS.set (i := 3) S.nd rfl (.inl rfl) (SE.bin sop_mod (SE.callTy sc_int (SA.cons (SE.ixK (units65 hr) rfl (SE.var (i := 0)) SE.int) SA.nil) rfl Fa.n_int PyProof.Rows.boot_int) (SE.var (i := 1)))) (SSs.cons (SS.asg (SE.bin sop_fdiv (SE.ixK (units65 hr) rfl (SE.var (i := 0)) SE.int) (SE.var (i := 1))) (SG.subK (units65 hr) rfl (SE.var (i := 0)) SE.int)) (SSs.one (SS.ret (SE.var (i := 3)))))) SSs.nil) (SSs.cons (SS.asg (SE.bin sop_add (SE.ixK (units65 hr) rfl (SE.var (i := 0)) SE.int) SE.int) (SG.subK (units65 hr) rfl (SE.var (i := 0)) SE.int)) (SSs.cons (SS.ife (ST.cmp (sop_gtA (units65 hr)) (SE.ixK (units65 hr) rfl (SE.var (i := 0)) SE.int) (SE.callB sc_lenC (SA.cons (SE.ixK (units65 hr) rfl (SE.var (i := 0)) SE.int) SA.nil) rfl Fa.n_len PySem.boot_len)) (SSs.cons (SS.asg (SE.bin sop_mod (SE.callTy sc_int (SA.cons (SE.bin sop_add (SE.bin sop_mul (SE.ixK (units65 hr) rfl (SE.var (i := 0)) SE.int) SE.int) SE.int) SA.nil) rfl Fa.n_int PyProof.Rows.boot_int) SE.int) (SG.subK (units65 hr) rfl (SE.var (i := 0)) SE.int)) (SSs.one (SS.ret (SE.bin sop_mod (SE.callTy sc_int (SA.cons (SE.bin sop_fdiv (SE.ixK (units65 hr) rfl (SE.var (i := 0)) SE.int) SE.int) SA.nil) rfl Fa.n_int PyProof.Rows.boot_int) (SE.var (i := 1)))))) SSs.nil) (SSs.cons (SS.set (i := 2) S.nd rfl (.inl rfl) (SE.ixK (units65 hr) rfl (SE.ixK (units65 hr) rfl (SE.var (i := 0)) SE.int) (SE.bin sop_sub (SE.ixK (units65 hr) rfl (SE.var (i := 0)) SE.int) SE.int))) (SSs.cons (SS.asg (SE.bin sop_mod (SE.callTy sc_int (SA.cons (SE.bin sop_add (SE.bin sop_add (SE.bin sop_mul (SE.ixK (units65 hr) rfl (SE.var (i := 0)) SE.int) SE.int) (SE.var (i := 2))) SE.int) SA.nil) rfl Fa.n_int PyProof.Rows.boot_int) SE.int) (SG.subK (units65 hr) rfl (SE.var (i := 0)) SE.int)) (SSs.cons (SS.ife (ST.cmp (sop_geA (units65 hr)) (SE.var (i := 2)) (SE.bin sop_pow SE.int SE.int)) (SSs.one (SS.asg (SE.bin sop_fdiv (SE.var (i := 2)) (SE.var (i := 1))) (SG.subK (units65 hr) rfl (SE.var (i := 0)) SE.int))) SSs.nil) (SSs.one (SS.ret (SE.bin sop_mod (SE.callTy sc_int (SA.cons (SE.var (i := 2)) SA.nil) rfl Fa.n_int PyProof.Rows.boot_int) (SE.var (i := 1)))))))))))
theorem bi__law_order {fd : FuncData} (F : FunD K "_law_order" "_law_order" (defArgs s__law_order) (defBody s__law_order) (defScope s__law_order) [] [] (He.fAd K ("_law_order", none)) fd) : Binds K fd ["_law_row", "_law_many"] [] := F.bindsN (fun _ _ _ _ _ _ us hl => match us, hl with | [_, _], _ => rfl)
theorem ok__law_order (Fa : Facts K mg base) {d : Nat} (C : Cs P w K mg base d) : CallOk P w K mg base (gs w K) (2 * (d + 1) + 1) "_law_order" (He.fAd K ("_law_order", none)) 2 (run (d + 1) 18) := by
  obtain ⟨fd, FD⟩ := Fa.d__law_order
  have S := sc__law_order
  refine callOk_of (k := 2 * d + 2) (N := N__law_order) (ψ := b_lw_order (run d)) FD S rfl (bi__law_order FD) Fa.g__law_order fun cdv hcd A outer s H E hr => ?_
  have tk : L2.Takes (cxOf (L2.CX P w) P w K mg base N__law_order "_law_order" (defScope s__law_order) (He.fAd K ("_law_order", none)) cdv A outer s H E) (fun cls d _ H => E cls d H) := takes_of rfl rfl rfl rfl
  unfold b_lw_order
  exact (SSs.cons (SS.par (i := 2) (j := 3) rfl S.nd rfl rfl (by decide) rfl rfl (SE.ofL (SL.rng1 rfl rfl Fa.n_list rfl Fa.n_range (SE.var (i := 1)))) (SE.ofL (SL.disp SA.nil)) rfl) (SSs.cons (SS.whl (n := fuel) (passes_of rfl) (ST.eqX (neg := true) hr.units (SX.of (SE.var (i := 2))) (SX.ofL (SL.disp SA.nil))) (SSs.one (SS.expr (SE.met ty_L F.plainAttrs_list F.slot_list_append F.type_list_append sm_append (SE.var (i := 3)) (SA.cons (SE.met ty_L F.plainAttrs_list F.slot_list_pop F.type_list_pop sm_popAt (SE.var (i := 2)) (SA.cons (SE.call (C.c17) (hr.mono (by omega)) tk rfl (SA.cons (SE.var (i := 0)) (SA.cons (SE.callB sc_lenC (SA.cons (SE.var (i := 2)) SA.nil) rfl Fa.n_len PySem.boot_len) SA.nil))) SA.nil)) SA.nil))))) (SSs.one (SS.ret (SE.tupleR (SR.ofE (SE.var (i := 3))) rfl Fa.n_tuple)))))
theorem bi__law_habit {fd : FuncData} (F : FunD K "_law_habit" "_law_habit" (defArgs s__law_habit) (defBody s__law_habit) (defScope s__law_habit) [] [] (He.fAd K ("_law_habit", none)) fd) : Binds K fd ["_law_row", "_law_places"] [] := F.bindsN (fun _ _ _ _ _ _ us hl => match us, hl with | [_, _], _ => rfl)
theorem ok__law_habit (Fa : Facts K mg base) {d : Nat} (C : Cs P w K mg base d) : CallOk P w K mg base (gs w K) (2 * (d + 1) + 1) "_law_habit" (He.fAd K ("_law_habit", none)) 2 (run (d + 1) 23) := by
  obtain ⟨fd, FD⟩ := Fa.d__law_habit
  have S := sc__law_habit
  refine callOk_of (k := 2 * d + 2) (N := N__law_habit) (ψ := b_lw_habit (run d)) FD S rfl (bi__law_habit FD) Fa.g__law_habit fun cdv hcd A outer s H E hr => ?_
  have tk : L2.Takes (cxOf (L2.CX P w) P w K mg base N__law_habit "_law_habit" (defScope s__law_habit) (He.fAd K ("_law_habit", none)) cdv A outer s H E) (fun cls d _ H => E cls d H) := takes_of rfl rfl rfl rfl
  unfold b_lw_habit
  exact (SSs.cons (SS.par (i := 3) (j := 4) rfl S.nd rfl rfl (by decide) rfl rfl (SE.call (C.c17) (hr.mono (by omega)) tk rfl (SA.cons (SE.var (i := 0)) (SA.cons SE.int SA.nil))) (SE.ofL (SL.disp SA.nil)) rfl) (SSs.cons (SS.for (passes_of rfl) rfl (SI.rng1 rfl Fa.n_range (SE.var (i := 1))) (SG.name S.nd (i := 2) rfl (.inr rfl)) (SSs.one (SS.ife (ST.cmp (sop_eq hr.units) (SE.var (i := 3)) SE.int) (SSs.one (SS.expr (SE.met ty_L F.plainAttrs_list F.slot_list_append F.type_list_append sm_append (SE.var (i := 4)) (SA.cons (SE.tupleR (SR.ofL (SL.comp (own := [("_law_spot", 7)]) rfl S.nd (SI.rng1 rfl Fa.n_range (SE.var (i := 1))) (blkOk_by rfl) (SCg.one S.nd rfl (by decide) (fun _ _ _ _ _ => ⟨.inl rfl, .inr rfl⟩)) STs.nil (fun _ _ _ _ _ => (SE.bin sop_mod (SE.bin sop_add (SE.var (i := 7)) (SE.var (i := 2))) (SE.var (i := 1)))))) rfl Fa.n_tuple) SA.nil)))) (SSs.one (SS.ife (ST.cmp (sop_eq hr.units) (SE.var (i := 3)) SE.int) (SSs.cons (SS.setComp (i := 5) (own := [("_law_spot", 7)]) rfl S.nd rfl rfl (L2.sw_true rfl rfl rfl rfl) (SI.rng1 rfl Fa.n_range (SE.var (i := 1))) (blkOk_by rfl) (SCg.one S.nd rfl (by decide) (fun _ _ _ _ _ => ⟨.inl rfl, .inr rfl⟩)) STs.nil (fun _ _ _ _ _ => (SE.bin sop_add (SE.var (i := 7)) (SE.callTy sc_int (SA.cons (SE.cmp (sop_ltA (units65 hr)) (SE.var (i := 7)) (SE.var (i := 2))) SA.nil) rfl Fa.n_int PyProof.Rows.boot_int)))) (SSs.one (SS.expr (SE.met ty_L F.plainAttrs_list F.slot_list_append F.type_list_append sm_append (SE.var (i := 4)) (SA.cons (SE.tupleR (SR.ofL (SL.cat (SL.cat (SL.slE (SE.var (i := 5)) SO.none (SO.some (SE.var (i := 2)))) (SL.disp (SA.cons SE.int SA.nil))) (SL.slE (SE.var (i := 5)) (SO.some (SE.bin sop_add (SE.var (i := 2)) SE.int)) SO.none))) rfl Fa.n_tuple) SA.nil))))) (SSs.one (SS.ife (ST.cmp (sop_eq hr.units) (SE.var (i := 3)) SE.int) (SSs.cons (SS.set (i := 6) S.nd rfl (.inl rfl) (SE.callB (sc_max rfl) (SA.cons SE.int (SA.cons (SE.bin sop_sub (SE.var (i := 2)) SE.int) SA.nil)) rfl Fa.n_max PyProof.Rows.boot_max)) (SSs.cons (SS.set (i := 5) S.nd rfl (.inl rfl) (SE.ofL (SL.rng1 rfl rfl Fa.n_list rfl Fa.n_range (SE.var (i := 1))))) (SSs.cons (SS.asg (SE.tup (SA.cons (SE.var (i := 6)) (SA.cons (SE.var (i := 2)) SA.nil))) (SG.strong (SG.tup (n := 2) rfl (SGs.cons (SG.subK (units65 hr) rfl (SE.var (i := 5)) (SE.var (i := 2))) (SGs.cons (SG.subK (units65 hr) rfl (SE.var (i := 5)) (SE.var (i := 6))) SGs.nil))))) (SSs.one (SS.expr (SE.met ty_L F.plainAttrs_list F.slot_list_append F.type_list_append sm_append (SE.var (i := 4)) (SA.cons (SE.tupleR (SR.ofE (SE.var (i := 5))) rfl Fa.n_tuple) SA.nil))))))) (SSs.one (SS.ife (SW.st (SW.and (ST.cmp (sop_eq hr.units) (SE.var (i := 3)) SE.int) (SW.and1 (ST.cmp (sop_eq hr.units) (SE.call (C.c17) (hr.mono (by omega)) tk rfl (SA.cons (SE.var (i := 0)) (SA.cons SE.int SA.nil))) SE.int)))) (SSs.one (SS.expr (SE.met ty_L F.plainAttrs_list F.slot_list_append F.type_list_append sm_append (SE.var (i := 4)) (SA.cons (SE.trng1 rfl rfl Fa.n_tuple rfl Fa.n_range (SE.var (i := 1))) SA.nil)))) (SSs.one (SS.expr (SE.met ty_L F.plainAttrs_list F.slot_list_append F.type_list_append sm_append (SE.var (i := 4)) (SA.cons (SE.call (C.c18) (hr.mono (by omega)) tk rfl (SA.cons (SE.var (i := 0)) (SA.cons (SE.var (i := 1)) SA.nil))) SA.nil))))))))))))) (SSs.one (SS.ret (SE.tupleR (SR.ofE (SE.var (i := 4))) rfl Fa.n_tuple)))))
theorem bi__law_alike {fd : FuncData} (F : FunD K "_law_alike" "_law_alike" (defArgs s__law_alike) (defBody s__law_alike) (defScope s__law_alike) [] [] (He.fAd K ("_law_alike", none)) fd) : Binds K fd ["_law_found", "_law_due"] [] := F.bindsN (fun _ _ _ _ _ _ us hl => match us, hl with | [_, _], _ => rfl)
theorem ok__law_alike (Fa : Facts K mg base) {d : Nat} (C : Cs P w K mg base d) : CallOk P w K mg base (gs w K) (2 * (d + 1) + 1) "_law_alike" (He.fAd K ("_law_alike", none)) 2 (run (d + 1) 24) := by
  obtain ⟨fd, FD⟩ := Fa.d__law_alike
  have S := sc__law_alike
  refine callOk_of (k := 2 * d + 2) (N := N__law_alike) (ψ := b_lw_alike (run d)) FD S rfl (bi__law_alike FD) Fa.g__law_alike fun cdv hcd A outer s H E hr => ?_
  have tk : L2.Takes (cxOf (L2.CX P w) P w K mg base N__law_alike "_law_alike" (defScope s__law_alike) (He.fAd K ("_law_alike", none)) cdv A outer s H E) (fun cls d _ H => E cls d H) := takes_of rfl rfl rfl rfl
  unfold b_lw_alike
  exact (SSs.cons (SS.ife (ST.val (SE.isi2 isi_tuple isi_list rfl Fa.n_isinstance rfl Fa.n_tuple (by decide +kernel) rfl Fa.n_list (by decide +kernel) (SE.var (i := 1)))) (SSs.cons (SS.ife (SW.st (SW.or (ST.not (ST.val (SE.isi2 isi_tuple isi_list rfl Fa.n_isinstance rfl Fa.n_tuple (by decide +kernel) rfl Fa.n_list (by decide +kernel) (SE.var (i := 0))))) (SW.or1 (ST.cmp (sop_ne hr.units) (SE.isi isi_list rfl Fa.n_isinstance rfl Fa.n_list (by decide +kernel) (SE.var (i := 0))) (SE.isi isi_list rfl Fa.n_isinstance rfl Fa.n_list (by decide +kernel) (SE.var (i := 1))))))) (SSs.one (SS.ret SE.bl)) SSs.nil) (SSs.cons (SS.ife (ST.cmp (sop_ne hr.units) (SE.callB sc_lenC (SA.cons (SE.var (i := 0)) SA.nil) rfl Fa.n_len PySem.boot_len) (SE.callB sc_lenC (SA.cons (SE.var (i := 1)) SA.nil) rfl Fa.n_len PySem.boot_len)) (SSs.one (SS.ret SE.bl)) SSs.nil) (SSs.one (SS.ret (SE.eqX (neg := false) hr.units (SX.ofL (SL.comp (own := [("_law_k", 2)]) rfl S.nd (SI.rng1 rfl Fa.n_range (SE.callB sc_lenC (SA.cons (SE.var (i := 1)) SA.nil) rfl Fa.n_len PySem.boot_len)) (blkOk_by rfl) (SCg.one S.nd rfl (by decide) (fun _ _ _ _ _ => ⟨.inl rfl, .inr rfl⟩)) (STs.one (fun _ _ _ _ _ => (ST.not (ST.val (SE.call (C.c24) (hr.mono (by omega)) takes_wf rfl (SA.cons (SE.ixK (units65 hr) rfl (SE.var (i := 0)) (SE.var (i := 2))) (SA.cons (SE.ixK (units65 hr) rfl (SE.var (i := 1)) (SE.var (i := 2))) SA.nil))))))) (fun _ _ _ _ _ => (SE.var (i := 2))))) (SX.ofL (SL.disp SA.nil))))))) SSs.nil) (SSs.cons (SS.ife (SW.st (SW.or (ST.isN (SE.var (i := 1))) (SW.or1 (ST.val (SE.isi isi_str rfl Fa.n_isinstance rfl Fa.n_str (by decide +kernel) (SE.var (i := 1))))))) (SSs.one (SS.ret (SE.and (SE.cmp (sop_eq hr.units) (SE.var (i := 0)) (SE.var (i := 1))) (SE.one (SE.cmp (sop_eq hr.units) (SE.isi isi_str rfl Fa.n_isinstance rfl Fa.n_str (by decide +kernel) (SE.var (i := 0))) (SE.isi isi_str rfl Fa.n_isinstance rfl Fa.n_str (by decide +kernel) (SE.var (i := 1)))))))) SSs.nil) (SSs.one (SS.ret (SE.and (SE.isi isi_int rfl Fa.n_isinstance rfl Fa.n_int (by decide +kernel) (SE.var (i := 0))) (SE.and (SE.cmp (sop_eq hr.units) (SE.isi isi_bool rfl Fa.n_isinstance rfl Fa.n_bool (by decide +kernel) (SE.var (i := 0))) (SE.isi isi_bool rfl Fa.n_isinstance rfl Fa.n_bool (by decide +kernel) (SE.var (i := 1)))) (SE.one (SE.cmp (sop_eq hr.units) (SE.var (i := 0)) (SE.var (i := 1))))))))))
theorem bi__law_touch {fd : FuncData} (F : FunD K "_law_touch" "_law_touch" (defArgs s__law_touch) (defBody s__law_touch) (defScope s__law_touch) [] [] (He.fAd K ("_law_touch", none)) fd) : Binds K fd ["_law_habit_here", "_law_layout", "_law_place"] [] := F.bindsN (fun _ _ _ _ _ _ us hl => match us, hl with | [_, _, _], _ => rfl)
theorem ok__law_touch (Fa : Facts K mg base) {d : Nat} (C : Cs P w K mg base d) : CallOk P w K mg base (gs w K) (2 * (d + 1) + 1) "_law_touch" (He.fAd K ("_law_touch", none)) 3 (run (d + 1) 25) := by
  obtain ⟨fd, FD⟩ := Fa.d__law_touch
  have S := sc__law_touch
  refine callOk_of (k := 2 * d + 2) (N := N__law_touch) (ψ := b_lw_touch (run d)) FD S rfl (bi__law_touch FD) Fa.g__law_touch fun cdv hcd A outer s H E hr => ?_
  have tk : L2.Takes (cxOf (L2.CX P w) P w K mg base N__law_touch "_law_touch" (defScope s__law_touch) (He.fAd K ("_law_touch", none)) cdv A outer s H E) (fun cls d _ H => E cls d H) := takes_of rfl rfl rfl rfl
  unfold b_lw_touch
  exact (SSs.one (SS.ret (SE.tupleR (SR.ofL (SL.comp (own := [("_law_spot", 3)]) rfl S.nd (SI.ofK (SE.var (i := 1))) (blkOk_by rfl) (SCg.one S.nd rfl (by decide) (fun _ _ _ _ _ => ⟨.inl rfl, .inr rfl⟩)) STs.nil (fun _ _ _ _ _ => (SE.ixK (units65 hr) rfl (SE.ixK (units65 hr) rfl (SE.var (i := 0)) (SE.var (i := 2))) (SE.var (i := 3)))))) rfl Fa.n_tuple)))
theorem bi__law_near {fd : FuncData} (F : FunD K "_law_near" "_law_near" (defArgs s__law_near) (defBody s__law_near) (defScope s__law_near) [] [] (He.fAd K ("_law_near", none)) fd) : Binds K fd ["_law_habit_here", "_law_layout"] [] := F.bindsN (fun _ _ _ _ _ _ us hl => match us, hl with | [_, _], _ => rfl)
theorem ok__law_near (Fa : Facts K mg base) {d : Nat} (C : Cs P w K mg base d) : CallOk P w K mg base (gs w K) (2 * (d + 1) + 1) "_law_near" (He.fAd K ("_law_near", none)) 2 (run (d + 1) 26) := by
  obtain ⟨fd, FD⟩ := Fa.d__law_near
  have S := sc__law_near
  refine callOk_of (k := 2 * d + 2) (N := N__law_near) (ψ := b_lw_near (run d)) FD S rfl (bi__law_near FD) Fa.g__law_near fun cdv hcd A outer s H E hr => ?_
  have tk : L2.Takes (cxOf (L2.CX P w) P w K mg base N__law_near "_law_near" (defScope s__law_near) (He.fAd K ("_law_near", none)) cdv A outer s H E) (fun cls d _ H => E cls d H) := takes_of rfl rfl rfl rfl
  unfold b_lw_near
  exact (SSs.cons (SS.asg (SE.tup (SA.cons (SE.dict (units65 hr) rfl (SP.cons (SE.var (i := 1)) SE.int SP.nil)) (SA.cons SE.int (SA.cons SE.bl SA.nil)))) (SG.strong (SG.tup (n := 3) rfl (SGs.cons (SG.name S.nd (i := 2) rfl (.inr rfl)) (SGs.cons (SG.name S.nd (i := 3) rfl (.inr rfl)) (SGs.cons (SG.name S.nd (i := 4) rfl (.inl rfl)) SGs.nil)))))) (SSs.cons (SS.whl (n := fuel) (passes_of rfl) (ST.tru (SE.var (i := 4))) (SSs.cons (SS.set (i := 4) S.nd rfl (.inl rfl) SE.bl) (SSs.cons (SS.for (passes_of rfl) rfl (SI.ofL (SL.comp (own := [("_law_one", 7)]) rfl S.nd (SI.ofL (SL.listC rfl (SCo.ofE (SE.var (i := 2))) rfl Fa.n_list)) (blkOk_by rfl) (SCg.one S.nd rfl (by decide) (fun _ _ _ _ _ => ⟨.inl rfl, .inr rfl⟩)) (STs.one (fun _ _ _ _ _ => (ST.cmp (sop_eq hr.units) (SE.ixK (units65 hr) rfl (SE.var (i := 2)) (SE.var (i := 7))) (SE.var (i := 3))))) (fun _ _ _ _ _ => (SE.var (i := 7))))) (SG.name S.nd (i := 7) rfl (.inl rfl)) (SSs.one (SS.for (passes_of rfl) rfl (SI.rng1 rfl Fa.n_range (SE.callB sc_lenC (SA.cons (SE.var (i := 0)) SA.nil) rfl Fa.n_len PySem.boot_len)) (SG.name S.nd (i := 5) rfl (.inl rfl)) (SSs.cons (SS.set (i := 6) S.nd rfl (.inl rfl) (SE.call (C.c25) (hr.mono (by omega)) tk rfl (SA.cons (SE.var (i := 0)) (SA.cons (SE.var (i := 7)) (SA.cons (SE.var (i := 5)) SA.nil))))) (SSs.one (SS.ife (ST.cmp (sop_notInA (units65 hr) rfl) (SE.var (i := 6)) (SE.var (i := 2))) (SSs.one (SS.asg (SE.tup (SA.cons (SE.bin sop_add (SE.var (i := 3)) SE.int) (SA.cons SE.bl SA.nil))) (SG.strong (SG.tup (n := 2) rfl (SGs.cons (SG.subK (units65 hr) rfl (SE.var (i := 2)) (SE.var (i := 6))) (SGs.cons (SG.name S.nd (i := 4) rfl (.inl rfl)) SGs.nil)))))) SSs.nil)))))) (SSs.one (SS.set (i := 3) S.nd rfl (.inr rfl) (SE.bin sop_add (SE.var (i := 3)) SE.int)))))) (SSs.one (SS.ret (SE.var (i := 2))))))
theorem bi__law_pick {fd : FuncData} (F : FunD K "_law_pick" "_law_pick" (defArgs s__law_pick) (defBody s__law_pick) (defScope s__law_pick) [] [] (He.fAd K ("_law_pick", none)) fd) : Binds K fd ["_law_row", "_law_things"] [] := F.bindsN (fun _ _ _ _ _ _ us hl => match us, hl with | [_, _], _ => rfl)
theorem ok__law_pick (Fa : Facts K mg base) {d : Nat} (C : Cs P w K mg base d) : CallOk P w K mg base (gs w K) (2 * (d + 1) + 1) "_law_pick" (He.fAd K ("_law_pick", none)) 2 (run (d + 1) 27) := by
  obtain ⟨fd, FD⟩ := Fa.d__law_pick
  have S := sc__law_pick
  refine callOk_of (k := 2 * d + 2) (N := N__law_pick) (ψ := b_lw_pick (run d)) FD S rfl (bi__law_pick FD) Fa.g__law_pick fun cdv hcd A outer s H E hr => ?_
  have tk : L2.Takes (cxOf (L2.CX P w) P w K mg base N__law_pick "_law_pick" (defScope s__law_pick) (He.fAd K ("_law_pick", none)) cdv A outer s H E) (fun cls d _ H => E cls d H) := takes_of rfl rfl rfl rfl
  unfold b_lw_pick
  exact (SSs.one (SS.ret (SE.ixK (units65 hr) rfl (SE.var (i := 1)) (SE.call (C.c17) (hr.mono (by omega)) tk rfl (SA.cons (SE.var (i := 0)) (SA.cons (SE.callB sc_lenC (SA.cons (SE.var (i := 1)) SA.nil) rfl Fa.n_len PySem.boot_len) SA.nil))))))
theorem bi__law_least_word {fd : FuncData} (F : FunD K "_law_least_word" "_law_least_word" (defArgs s__law_least_word) (defBody s__law_least_word) (defScope s__law_least_word) [] [] (He.fAd K ("_law_least_word", none)) fd) : Binds K fd ["_law_habit_here", "_law_layout", "_law_other", "_law_many"] [] := F.bindsN (fun _ _ _ _ _ _ us hl => match us, hl with | [_, _, _, _], _ => rfl)
theorem ok__law_least_word (Fa : Facts K mg base) {d : Nat} (C : Cs P w K mg base d) : CallOk P w K mg base (gs w K) (2 * (d + 1) + 1) "_law_least_word" (He.fAd K ("_law_least_word", none)) 4 (run (d + 1) 28) := by
  obtain ⟨fd, FD⟩ := Fa.d__law_least_word
  have S := sc__law_least_word
  refine callOk_of (k := 2 * d + 2) (N := N__law_least_word) (ψ := b_lw_least_word (run d)) FD S rfl (bi__law_least_word FD) Fa.g__law_least_word fun cdv hcd A outer s H E hr => ?_
  have tk : L2.Takes (cxOf (L2.CX P w) P w K mg base N__law_least_word "_law_least_word" (defScope s__law_least_word) (He.fAd K ("_law_least_word", none)) cdv A outer s H E) (fun cls d _ H => E cls d H) := takes_of rfl rfl rfl rfl
  unfold b_lw_least_word
  exact (SSs.cons (SS.set (i := 4) S.nd rfl (.inl rfl) (SE.ofL (SL.disp (SA.cons (SE.tup (SA.cons (SE.var (i := 1)) (SA.cons (SE.tup SA.nil) SA.nil))) SA.nil)))) (SSs.cons (SS.for (passes_of rfl) rfl (SI.rng1 rfl Fa.n_range (SE.var (i := 3))) (SG.name S.nd (i := 5) rfl (.inl rfl)) (SSs.cons (SS.par (i := 6) (j := 7) rfl S.nd rfl rfl (by decide) rfl rfl (SE.ofL (SL.disp SA.nil)) SE.dict0 rfl) (SSs.cons (SS.for (passes_of rfl) rfl (SI.ofK (SE.var (i := 4))) (SG.strong (SG.tup (n := 2) rfl (SGs.cons (SG.name S.nd (i := 10) rfl (.inl rfl)) (SGs.cons (SG.name S.nd (i := 11) rfl (.inl rfl)) SGs.nil)))) (SSs.one (SS.for (passes_of rfl) rfl (SI.rng1 rfl Fa.n_range (SE.callB sc_lenC (SA.cons (SE.var (i := 0)) SA.nil) rfl Fa.n_len PySem.boot_len)) (SG.name S.nd (i := 8) rfl (.inl rfl)) (SSs.cons (SS.set (i := 9) S.nd rfl (.inl rfl) (SE.call (C.c25) (hr.mono (by omega)) tk rfl (SA.cons (SE.var (i := 0)) (SA.cons (SE.var (i := 10)) (SA.cons (SE.var (i := 8)) SA.nil))))) (SSs.one (SS.ife (ST.cmp (sop_notInA (units65 hr) rfl) (SE.var (i := 9)) (SE.var (i := 7))) (SSs.cons (SS.asg SE.bl (SG.subK (units65 hr) rfl (SE.var (i := 7)) (SE.var (i := 9)))) (SSs.one (SS.expr (SE.met ty_L F.plainAttrs_list F.slot_list_append F.type_list_append sm_append (SE.var (i := 6)) (SA.cons (SE.tup (SA.cons (SE.var (i := 9)) (SA.cons (SE.bin sop_add (SE.var (i := 11)) (SE.tup (SA.cons (SE.var (i := 8)) SA.nil))) SA.nil))) SA.nil))))) SSs.nil)))))) (SSs.one (SS.set (i := 4) S.nd rfl (.inl rfl) (SE.var (i := 6))))))) (SSs.one (SS.ret (SE.ixK (units65 hr) rfl (SE.ofL (SL.comp (own := [("_law_one", 10), ("_law_word", 11)]) rfl S.nd (SI.ofK (SE.var (i := 4))) (blkOk_by rfl) (SCg.strong (SCg.many (n := 2) rfl (by decide) rfl (fun _ _ _ _ _ => pg_tup rfl (pgs_cons (pg_name S.nd (i := 10) rfl (.inl rfl) (.inr rfl)) (pgs_cons (pg_name S.nd (i := 11) rfl (.inl rfl) (.inr rfl)) (pgs_nil)))))) (STs.one (fun _ _ _ _ _ => (ST.cmp (sop_eq hr.units) (SE.var (i := 10)) (SE.var (i := 2))))) (fun _ _ _ _ _ => (SE.var (i := 11))))) SE.int)))))
theorem bi_law {fd : FuncData} (F : FunD K "law" "law" (defArgs s_law) (defBody s_law) (defScope s_law) [] [] (He.fAd K ("law", none)) fd) : Binds K fd ["_law_script"] [] := F.bindsN (fun _ _ _ _ _ _ us hl => match us, hl with | [_], _ => rfl)
theorem ok_law (Fa : Facts K mg base) {d : Nat} (C : Cs P w K mg base d) : CallOk P w K mg base (gs w K) (2 * (d + 1) + 1) "law" (He.fAd K ("law", none)) 1 (run (d + 1) 29) := by
  obtain ⟨fd, FD⟩ := Fa.d_law
  have S := sc_law
  refine callOk_of (k := 2 * d + 2) (N := N_law) (ψ := b_law_k01 (run d)) FD S rfl (bi_law FD) Fa.g_law fun cdv hcd A outer s H E hr => ?_
  have tk : L2.Takes (cxOf (L2.CX P w) P w K mg base N_law "law" (defScope s_law) (He.fAd K ("law", none)) cdv A outer s H E) (fun cls d _ H => E cls d H) := takes_of rfl rfl rfl rfl
  unfold b_law_k01
  exact (SSs.cons (SS.set (i := 1) S.nd rfl (.inr rfl) (SE.ofL (SL.disp (SA.cons (SE.var (i := 0)) (SA.cons SE.int (SA.cons SE.int (SA.cons SE.int SA.nil))))))) (SSs.cons (SS.set (i := 2) S.nd rfl (.inr rfl) (SE.bin sop_add SE.int (SE.call (C.c17) (hr.mono (by omega)) tk rfl (SA.cons (SE.var (i := 1)) (SA.cons (SE.ixK (units65 hr) rfl (SE.ofL (SL.disp (SA.cons SE.int (SA.cons SE.int SA.nil)))) (SE.call (C.c17) (hr.mono (by omega)) tk rfl (SA.cons (SE.var (i := 1)) (SA.cons SE.int SA.nil)))) SA.nil))))) (SSs.cons (SS.par (i := 6) (j := 7) rfl S.nd rfl rfl (by decide) rfl rfl (SE.call (C.c23) (hr.mono (by omega)) tk rfl (SA.cons (SE.var (i := 1)) (SA.cons (SE.var (i := 2)) SA.nil))) (SE.call (C.c18) (hr.mono (by omega)) tk rfl (SA.cons (SE.var (i := 1)) (SA.cons (SE.var (i := 2)) SA.nil))) rfl) (SSs.cons (SS.par (i := 8) (j := 9) rfl S.nd rfl rfl (by decide) rfl rfl (SE.tupleR (SR.ofL (SL.comp (own := [("_law_turn", 12)]) rfl S.nd (SI.rng1 rfl Fa.n_range (SE.call (C.c17) (hr.mono (by omega)) tk rfl (SA.cons (SE.var (i := 1)) (SA.cons SE.int SA.nil)))) (blkOk_by rfl) (SCg.one S.nd rfl (by decide) (fun _ _ _ _ _ => ⟨.inl rfl, .inr rfl⟩)) STs.nil (fun _ _ _ _ _ => (SE.call (C.c17) (hr.mono (by omega)) takes_wf rfl (SA.cons (SE.var (i := 1)) (SA.cons (SE.var (i := 2)) SA.nil)))))) rfl Fa.n_tuple) (SE.var (i := 7)) rfl) (SSs.cons (SS.for (passes_of rfl) rfl (SI.ofK (SE.var (i := 8))) (SG.name S.nd (i := 3) rfl (.inl rfl)) (SSs.cons (SS.ife (ST.not (ST.val (SE.call (C.c24) (hr.mono (by omega)) tk rfl (SA.cons (SE.call (C.c8) (hr.mono (by omega)) tk rfl (SA.cons (SE.var (i := 6)) (SA.cons (SE.var (i := 9)) (SA.cons (SE.var (i := 3)) SA.nil)))) (SA.cons (SE.call (C.c25) (hr.mono (by omega)) tk rfl (SA.cons (SE.var (i := 6)) (SA.cons (SE.var (i := 9)) (SA.cons (SE.var (i := 3)) SA.nil)))) SA.nil))))) (SSs.one (SS.ret SE.bl)) SSs.nil) (SSs.one (SS.set (i := 9) S.nd rfl (.inl rfl) (SE.call (C.c25) (hr.mono (by omega)) tk rfl (SA.cons (SE.var (i := 6)) (SA.cons (SE.var (i := 9)) (SA.cons (SE.var (i := 3)) SA.nil)))))))) (SSs.cons (SS.ife (ST.not (ST.val (SE.call (C.c24) (hr.mono (by omega)) tk rfl (SA.cons (SE.call (C.c21) (hr.mono (by omega)) tk rfl (SA.cons (SE.var (i := 6)) (SA.cons (SE.var (i := 7)) (SA.cons (SE.var (i := 8)) SA.nil)))) (SA.cons (SE.var (i := 9)) SA.nil))))) (SSs.one (SS.ret SE.bl)) SSs.nil) (SSs.cons (SS.set (i := 4) S.nd rfl (.inl rfl) (SE.call (C.c26) (hr.mono (by omega)) tk rfl (SA.cons (SE.var (i := 6)) (SA.cons (SE.var (i := 7)) SA.nil)))) (SSs.cons (SS.ife (ST.not (ST.val (SE.call (C.c24) (hr.mono (by omega)) tk rfl (SA.cons (SE.call (C.c22) (hr.mono (by omega)) tk rfl (SA.cons (SE.var (i := 6)) (SA.cons (SE.var (i := 7)) SA.nil))) (SA.cons (SE.tupleR (SR.ofL (SL.sortedC rfl (units65 hr) (SCo.ofL (SL.listC rfl (SCo.ofE (SE.var (i := 4))) rfl Fa.n_list)) rfl Fa.n_sorted)) rfl Fa.n_tuple) SA.nil))))) (SSs.one (SS.ret SE.bl)) SSs.nil) (SSs.cons (SS.for (passes_of rfl) rfl (SI.rng1 rfl Fa.n_range SE.int) (SG.name S.nd (i := 12) rfl (.inl rfl)) (SSs.cons (SS.set (i := 10) S.nd rfl (.inl rfl) (SE.call (C.c27) (hr.mono (by omega)) tk rfl (SA.cons (SE.var (i := 1)) (SA.cons (SE.ofL (SL.disp (SA.cons (SE.call (C.c18) (hr.mono (by omega)) tk rfl (SA.cons (SE.var (i := 1)) (SA.cons (SE.var (i := 2)) SA.nil))) (SA.cons (SE.var (i := 9)) SA.nil)))) SA.nil)))) (SSs.cons (SS.set (i := 11) S.nd rfl (.inl rfl) (SE.call (C.c10) (hr.mono (by omega)) tk rfl (SA.cons (SE.var (i := 6)) (SA.cons (SE.var (i := 7)) (SA.cons (SE.var (i := 10)) SA.nil))))) (SSs.cons (SS.ife (ST.not (ST.val (SE.call (C.c24) (hr.mono (by omega)) tk rfl (SA.cons (SE.call (C.c11) (hr.mono (by omega)) tk rfl (SA.cons (SE.var (i := 6)) (SA.cons (SE.var (i := 7)) (SA.cons (SE.var (i := 10)) SA.nil)))) (SA.cons (SE.met (ty_D rfl) F.plainAttrs_dict F.slot_dict_get F.type_dict_get (sm_dget (units65 hr) rfl) (SE.var (i := 4)) (SA.cons (SE.var (i := 10)) (SA.cons SE.non SA.nil))) SA.nil))))) (SSs.one (SS.ret SE.bl)) SSs.nil) (SSs.one (SS.ife (ST.isN (SE.var (i := 11))) (SSs.one (SS.ife (ST.cmp (sop_inA (units65 hr) rfl) (SE.var (i := 10)) (SE.var (i := 4))) (SSs.one (SS.ret SE.bl)) SSs.nil)) (SSs.one (SS.ife (SW.st (SW.or (ST.cmp (sop_notInA (units65 hr) rfl) (SE.var (i := 10)) (SE.var (i := 4))) (SW.or1 (ST.cmp (sop_ne hr.units) (SE.var (i := 11)) (SE.call (C.c28) (hr.mono (by omega)) tk rfl (SA.cons (SE.var (i := 6)) (SA.cons (SE.var (i := 7)) (SA.cons (SE.var (i := 10)) (SA.cons (SE.ixK (units65 hr) rfl (SE.var (i := 4)) (SE.var (i := 10))) SA.nil))))))))) (SSs.one (SS.ret SE.bl)) (SSs.one (SS.ife (ST.cmp (sop_notInA (units65 hr) rfl) (SE.var (i := 7)) (SE.call (C.c26) (hr.mono (by omega)) tk rfl (SA.cons (SE.var (i := 6)) (SA.cons (SE.var (i := 10)) SA.nil)))) (SSs.one (SS.ret SE.bl)) SSs.nil)))))))))) (SSs.cons (SS.set (i := 5) S.nd rfl (.inl rfl) (SE.call (C.c26) (hr.mono (by omega)) tk rfl (SA.cons (SE.var (i := 6)) (SA.cons (SE.trng1 rfl rfl Fa.n_tuple rfl Fa.n_range (SE.var (i := 2))) SA.nil)))) (SSs.one (SS.ret (SE.call (C.c24) (hr.mono (by omega)) tk rfl (SA.cons (SE.ofL (SL.disp (SA.cons (SE.call (C.c12) (hr.mono (by omega)) tk rfl (SA.cons (SE.var (i := 6)) (SA.cons (SE.var (i := 7)) SA.nil))) (SA.cons (SE.call (C.c13) (hr.mono (by omega)) tk rfl (SA.cons (SE.var (i := 6)) SA.nil)) SA.nil)))) (SA.cons (SE.ofL (SL.disp (SA.cons (SE.best (z := true) rfl (units65 hr) (SQ.ofL (SL.listVals rfl (SE.var (i := 4)) rfl Fa.n_list)) rfl Fa.n_max PyProof.Rows.boot_max) (SA.cons (SE.len (SQ.ofL (SL.listC rfl (SCo.ofE (SE.var (i := 5))) rfl Fa.n_list)) rfl Fa.n_len) SA.nil)))) SA.nil)))))))))))))))
theorem fn_law (Fa : Facts K mg base) {d : Nat} (C : Cs P w K mg base d) {fd : FuncData} (FD : FunD K "law" "law" (defArgs s_law) (defBody s_law) (defScope s_law) [] [] (He.fAd K ("law", none)) fd) : FnOk P w K mg base (L2.CX P w) (2 * (d + 1) + 1) (He.fAd K ("law", none)) fd ["_law_script"] (spF K (gs w K) 1 (run (d + 1) 29)) := by
  have S := sc_law
  refine fnOk_of (k := 2 * d + 2) (N := N_law) (ψ := b_law_k01 (run d)) FD S rfl fun cdv hcd A outer s H E hr => ?_
  have tk : L2.Takes (cxOf (L2.CX P w) P w K mg base N_law "law" (defScope s_law) (He.fAd K ("law", none)) cdv A outer s H E) (fun cls d _ H => E cls d H) := takes_of rfl rfl rfl rfl
  unfold b_law_k01
  exact (SSs.cons (SS.set (i := 1) S.nd rfl (.inr rfl) (SE.ofL (SL.disp (SA.cons (SE.var (i := 0)) (SA.cons SE.int (SA.cons SE.int (SA.cons SE.int SA.nil))))))) (SSs.cons (SS.set (i := 2) S.nd rfl (.inr rfl) (SE.bin sop_add SE.int (SE.call (C.c17) (hr.mono (by omega)) tk rfl (SA.cons (SE.var (i := 1)) (SA.cons (SE.ixK (units65 hr) rfl (SE.ofL (SL.disp (SA.cons SE.int (SA.cons SE.int SA.nil)))) (SE.call (C.c17) (hr.mono (by omega)) tk rfl (SA.cons (SE.var (i := 1)) (SA.cons SE.int SA.nil)))) SA.nil))))) (SSs.cons (SS.par (i := 6) (j := 7) rfl S.nd rfl rfl (by decide) rfl rfl (SE.call (C.c23) (hr.mono (by omega)) tk rfl (SA.cons (SE.var (i := 1)) (SA.cons (SE.var (i := 2)) SA.nil))) (SE.call (C.c18) (hr.mono (by omega)) tk rfl (SA.cons (SE.var (i := 1)) (SA.cons (SE.var (i := 2)) SA.nil))) rfl) (SSs.cons (SS.par (i := 8) (j := 9) rfl S.nd rfl rfl (by decide) rfl rfl (SE.tupleR (SR.ofL (SL.comp (own := [("_law_turn", 12)]) rfl S.nd (SI.rng1 rfl Fa.n_range (SE.call (C.c17) (hr.mono (by omega)) tk rfl (SA.cons (SE.var (i := 1)) (SA.cons SE.int SA.nil)))) (blkOk_by rfl) (SCg.one S.nd rfl (by decide) (fun _ _ _ _ _ => ⟨.inl rfl, .inr rfl⟩)) STs.nil (fun _ _ _ _ _ => (SE.call (C.c17) (hr.mono (by omega)) takes_wf rfl (SA.cons (SE.var (i := 1)) (SA.cons (SE.var (i := 2)) SA.nil)))))) rfl Fa.n_tuple) (SE.var (i := 7)) rfl) (SSs.cons (SS.for (passes_of rfl) rfl (SI.ofK (SE.var (i := 8))) (SG.name S.nd (i := 3) rfl (.inl rfl)) (SSs.cons (SS.ife (ST.not (ST.val (SE.call (C.c24) (hr.mono (by omega)) tk rfl (SA.cons (SE.call (C.c8) (hr.mono (by omega)) tk rfl (SA.cons (SE.var (i := 6)) (SA.cons (SE.var (i := 9)) (SA.cons (SE.var (i := 3)) SA.nil)))) (SA.cons (SE.call (C.c25) (hr.mono (by omega)) tk rfl (SA.cons (SE.var (i := 6)) (SA.cons (SE.var (i := 9)) (SA.cons (SE.var (i := 3)) SA.nil)))) SA.nil))))) (SSs.one (SS.ret SE.bl)) SSs.nil) (SSs.one (SS.set (i := 9) S.nd rfl (.inl rfl) (SE.call (C.c25) (hr.mono (by omega)) tk rfl (SA.cons (SE.var (i := 6)) (SA.cons (SE.var (i := 9)) (SA.cons (SE.var (i := 3)) SA.nil)))))))) (SSs.cons (SS.ife (ST.not (ST.val (SE.call (C.c24) (hr.mono (by omega)) tk rfl (SA.cons (SE.call (C.c21) (hr.mono (by omega)) tk rfl (SA.cons (SE.var (i := 6)) (SA.cons (SE.var (i := 7)) (SA.cons (SE.var (i := 8)) SA.nil)))) (SA.cons (SE.var (i := 9)) SA.nil))))) (SSs.one (SS.ret SE.bl)) SSs.nil) (SSs.cons (SS.set (i := 4) S.nd rfl (.inl rfl) (SE.call (C.c26) (hr.mono (by omega)) tk rfl (SA.cons (SE.var (i := 6)) (SA.cons (SE.var (i := 7)) SA.nil)))) (SSs.cons (SS.ife (ST.not (ST.val (SE.call (C.c24) (hr.mono (by omega)) tk rfl (SA.cons (SE.call (C.c22) (hr.mono (by omega)) tk rfl (SA.cons (SE.var (i := 6)) (SA.cons (SE.var (i := 7)) SA.nil))) (SA.cons (SE.tupleR (SR.ofL (SL.sortedC rfl (units65 hr) (SCo.ofL (SL.listC rfl (SCo.ofE (SE.var (i := 4))) rfl Fa.n_list)) rfl Fa.n_sorted)) rfl Fa.n_tuple) SA.nil))))) (SSs.one (SS.ret SE.bl)) SSs.nil) (SSs.cons (SS.for (passes_of rfl) rfl (SI.rng1 rfl Fa.n_range SE.int) (SG.name S.nd (i := 12) rfl (.inl rfl)) (SSs.cons (SS.set (i := 10) S.nd rfl (.inl rfl) (SE.call (C.c27) (hr.mono (by omega)) tk rfl (SA.cons (SE.var (i := 1)) (SA.cons (SE.ofL (SL.disp (SA.cons (SE.call (C.c18) (hr.mono (by omega)) tk rfl (SA.cons (SE.var (i := 1)) (SA.cons (SE.var (i := 2)) SA.nil))) (SA.cons (SE.var (i := 9)) SA.nil)))) SA.nil)))) (SSs.cons (SS.set (i := 11) S.nd rfl (.inl rfl) (SE.call (C.c10) (hr.mono (by omega)) tk rfl (SA.cons (SE.var (i := 6)) (SA.cons (SE.var (i := 7)) (SA.cons (SE.var (i := 10)) SA.nil))))) (SSs.cons (SS.ife (ST.not (ST.val (SE.call (C.c24) (hr.mono (by omega)) tk rfl (SA.cons (SE.call (C.c11) (hr.mono (by omega)) tk rfl (SA.cons (SE.var (i := 6)) (SA.cons (SE.var (i := 7)) (SA.cons (SE.var (i := 10)) SA.nil)))) (SA.cons (SE.met (ty_D rfl) F.plainAttrs_dict F.slot_dict_get F.type_dict_get (sm_dget (units65 hr) rfl) (SE.var (i := 4)) (SA.cons (SE.var (i := 10)) (SA.cons SE.non SA.nil))) SA.nil))))) (SSs.one (SS.ret SE.bl)) SSs.nil) (SSs.one (SS.ife (ST.isN (SE.var (i := 11))) (SSs.one (SS.ife (ST.cmp (sop_inA (units65 hr) rfl) (SE.var (i := 10)) (SE.var (i := 4))) (SSs.one (SS.ret SE.bl)) SSs.nil)) (SSs.one (SS.ife (SW.st (SW.or (ST.cmp (sop_notInA (units65 hr) rfl) (SE.var (i := 10)) (SE.var (i := 4))) (SW.or1 (ST.cmp (sop_ne hr.units) (SE.var (i := 11)) (SE.call (C.c28) (hr.mono (by omega)) tk rfl (SA.cons (SE.var (i := 6)) (SA.cons (SE.var (i := 7)) (SA.cons (SE.var (i := 10)) (SA.cons (SE.ixK (units65 hr) rfl (SE.var (i := 4)) (SE.var (i := 10))) SA.nil))))))))) (SSs.one (SS.ret SE.bl)) (SSs.one (SS.ife (ST.cmp (sop_notInA (units65 hr) rfl) (SE.var (i := 7)) (SE.call (C.c26) (hr.mono (by omega)) tk rfl (SA.cons (SE.var (i := 6)) (SA.cons (SE.var (i := 10)) SA.nil)))) (SSs.one (SS.ret SE.bl)) SSs.nil)))))))))) (SSs.cons (SS.set (i := 5) S.nd rfl (.inl rfl) (SE.call (C.c26) (hr.mono (by omega)) tk rfl (SA.cons (SE.var (i := 6)) (SA.cons (SE.trng1 rfl rfl Fa.n_tuple rfl Fa.n_range (SE.var (i := 2))) SA.nil)))) (SSs.one (SS.ret (SE.call (C.c24) (hr.mono (by omega)) tk rfl (SA.cons (SE.ofL (SL.disp (SA.cons (SE.call (C.c12) (hr.mono (by omega)) tk rfl (SA.cons (SE.var (i := 6)) (SA.cons (SE.var (i := 7)) SA.nil))) (SA.cons (SE.call (C.c13) (hr.mono (by omega)) tk rfl (SA.cons (SE.var (i := 6)) SA.nil)) SA.nil)))) (SA.cons (SE.ofL (SL.disp (SA.cons (SE.best (z := true) rfl (units65 hr) (SQ.ofL (SL.listVals rfl (SE.var (i := 4)) rfl Fa.n_list)) rfl Fa.n_max PyProof.Rows.boot_max) (SA.cons (SE.len (SQ.ofL (SL.listC rfl (SCo.ofE (SE.var (i := 5))) rfl Fa.n_list)) rfl Fa.n_len) SA.nil)))) SA.nil)))))))))))))))
theorem cs (F : Facts K mg base) : ∀ d, Cs P w K mg base d
  | 0 => ⟨(let ⟨_, FD⟩ := F.d_is_number; CallOk.zero rfl (bi_is_number FD) F.g_is_number FD.kp), (let ⟨_, FD⟩ := F.d_is_permutation; CallOk.zero rfl (bi_is_permutation FD) F.g_is_permutation FD.kp), (let ⟨_, FD⟩ := F.d_need_habit; CallOk.zero rfl (bi_need_habit FD) F.g_need_habit FD.kp), (let ⟨_, FD⟩ := F.d_need_layout; CallOk.zero rfl (bi_need_layout FD) F.g_need_layout FD.kp), (let ⟨_, FD⟩ := F.d_need_shelf; CallOk.zero rfl (bi_need_shelf FD) F.g_need_shelf FD.kp), (let ⟨_, FD⟩ := F.d_need_place; CallOk.zero rfl (bi_need_place FD) F.g_need_place FD.kp), (let ⟨_, FD⟩ := F.d_behind_touch; CallOk.zero rfl (bi_behind_touch FD) F.g_behind_touch FD.kp), (let ⟨_, FD⟩ := F.d_behind_word; CallOk.zero rfl (bi_behind_word FD) F.g_behind_word FD.kp), (let ⟨_, FD⟩ := F.d_touched; CallOk.zero rfl (bi_touched FD) F.g_touched FD.kp), (let ⟨_, FD⟩ := F.d_after; CallOk.zero rfl (bi_after FD) F.g_after FD.kp), (let ⟨_, FD⟩ := F.d_words_from; CallOk.zero rfl (bi_words_from FD) F.g_words_from FD.kp), (let ⟨_, FD⟩ := F.d_can_come; CallOk.zero rfl (bi_can_come FD) F.g_can_come FD.kp), (let ⟨_, FD⟩ := F.d_word_between; CallOk.zero rfl (bi_word_between FD) F.g_word_between FD.kp), (let ⟨_, FD⟩ := F.d_distance; CallOk.zero rfl (bi_distance FD) F.g_distance FD.kp), (let ⟨_, FD⟩ := F.d_farthest; CallOk.zero rfl (bi_farthest FD) F.g_farthest FD.kp), (let ⟨_, FD⟩ := F.d_order; CallOk.zero rfl (bi_order FD) F.g_order FD.kp), (let ⟨_, FD⟩ := F.d__law_taken; CallOk.zero rfl (bi__law_taken FD) F.g__law_taken FD.kp), (let ⟨_, FD⟩ := F.d__law_order; CallOk.zero rfl (bi__law_order FD) F.g__law_order FD.kp), (let ⟨_, FD⟩ := F.d__law_habit; CallOk.zero rfl (bi__law_habit FD) F.g__law_habit FD.kp), (let ⟨_, FD⟩ := F.d__law_alike; CallOk.zero rfl (bi__law_alike FD) F.g__law_alike FD.kp), (let ⟨_, FD⟩ := F.d__law_touch; CallOk.zero rfl (bi__law_touch FD) F.g__law_touch FD.kp), (let ⟨_, FD⟩ := F.d__law_near; CallOk.zero rfl (bi__law_near FD) F.g__law_near FD.kp), (let ⟨_, FD⟩ := F.d__law_pick; CallOk.zero rfl (bi__law_pick FD) F.g__law_pick FD.kp), (let ⟨_, FD⟩ := F.d__law_least_word; CallOk.zero rfl (bi__law_least_word FD) F.g__law_least_word FD.kp), (let ⟨_, FD⟩ := F.d_law; CallOk.zero rfl (bi_law FD) F.g_law FD.kp)⟩
  | d + 1 => have C := cs F d; ⟨ok_is_number F C, ok_is_permutation F C, ok_need_habit F C, ok_need_layout F C, ok_need_shelf F C, ok_need_place F C, ok_behind_touch F C, ok_behind_word F C, ok_touched F C, ok_after F C, ok_words_from F C, ok_can_come F C, ok_word_between F C, ok_distance F C, ok_farthest F C, ok_order F C, ok__law_taken F C, ok__law_order F C, ok__law_habit F C, ok__law_alike F C, ok__law_touch F C, ok__law_near F C, ok__law_pick F C, ok__law_least_word F C, ok_law F C⟩
end
end K01

set_option Elab.async false
set_option linter.all false
set_option maxRecDepth 100000
set_option maxHeartbeats 0
namespace K01
open PySem PySem.Spec PyProof.Rows L2 GX GxR DL
def fa : List He.Fa := [.glo "is_number", .glo "is_permutation", .glo "need_habit", .glo "need_layout", .glo "need_shelf", .glo "need_place", .glo "behind_touch", .glo "behind_word", .glo "touched", .glo "after", .glo "words_from", .glo "can_come", .glo "word_between", .glo "distance", .glo "farthest", .glo "order", .glo "_law_taken", .glo "_law_order", .glo "_law_habit", .glo "_law_alike", .glo "_law_touch", .glo "_law_near", .glo "_law_pick", .glo "_law_least_word", .glo "law"]
def fb : List He.Fa := [.free "all", .free "bool", .free "enumerate", .free "int", .free "isinstance", .free "len", .free "list", .free "max", .free "range", .free "set", .free "sorted", .free "str", .free "tuple", .int "LEAST_PLACES" (2), .int "MOST_PLACES" (5), .int "MOST_WORD" (400)]
def dd_is_number : He.DefD := ⟨("is_number", none), "is_number", "is_number", defArgs s_is_number, defBody s_is_number, defScope s_is_number, [], []⟩
def dd_is_permutation : He.DefD := ⟨("is_permutation", none), "is_permutation", "is_permutation", defArgs s_is_permutation, defBody s_is_permutation, defScope s_is_permutation, [], []⟩
def dd_need_habit : He.DefD := ⟨("need_habit", none), "need_habit", "need_habit", defArgs s_need_habit, defBody s_need_habit, defScope s_need_habit, [], []⟩
def dd_need_layout : He.DefD := ⟨("need_layout", none), "need_layout", "need_layout", defArgs s_need_layout, defBody s_need_layout, defScope s_need_layout, [], []⟩
def dd_need_shelf : He.DefD := ⟨("need_shelf", none), "need_shelf", "need_shelf", defArgs s_need_shelf, defBody s_need_shelf, defScope s_need_shelf, [], []⟩
def dd_need_place : He.DefD := ⟨("need_place", none), "need_place", "need_place", defArgs s_need_place, defBody s_need_place, defScope s_need_place, [], []⟩
def dd_behind_touch : He.DefD := ⟨("behind_touch", none), "behind_touch", "behind_touch", defArgs s_behind_touch, defBody s_behind_touch, defScope s_behind_touch, [], []⟩
def dd_behind_word : He.DefD := ⟨("behind_word", none), "behind_word", "behind_word", defArgs s_behind_word, defBody s_behind_word, defScope s_behind_word, [], []⟩
def dd_touched : He.DefD := ⟨("touched", none), "touched", "touched", defArgs s_touched, defBody s_touched, defScope s_touched, [], []⟩
def dd_after : He.DefD := ⟨("after", none), "after", "after", defArgs s_after, defBody s_after, defScope s_after, [], []⟩
def dd_words_from : He.DefD := ⟨("words_from", none), "words_from", "words_from", defArgs s_words_from, defBody s_words_from, defScope s_words_from, [], []⟩
def dd_can_come : He.DefD := ⟨("can_come", none), "can_come", "can_come", defArgs s_can_come, defBody s_can_come, defScope s_can_come, [], []⟩
def dd_word_between : He.DefD := ⟨("word_between", none), "word_between", "word_between", defArgs s_word_between, defBody s_word_between, defScope s_word_between, [], []⟩
def dd_distance : He.DefD := ⟨("distance", none), "distance", "distance", defArgs s_distance, defBody s_distance, defScope s_distance, [], []⟩
def dd_farthest : He.DefD := ⟨("farthest", none), "farthest", "farthest", defArgs s_farthest, defBody s_farthest, defScope s_farthest, [], []⟩
def dd_order : He.DefD := ⟨("order", none), "order", "order", defArgs s_order, defBody s_order, defScope s_order, [], []⟩
def dd__law_taken : He.DefD := ⟨("_law_taken", none), "_law_taken", "_law_taken", defArgs s__law_taken, defBody s__law_taken, defScope s__law_taken, [], []⟩
def dd__law_order : He.DefD := ⟨("_law_order", none), "_law_order", "_law_order", defArgs s__law_order, defBody s__law_order, defScope s__law_order, [], []⟩
def dd__law_habit : He.DefD := ⟨("_law_habit", none), "_law_habit", "_law_habit", defArgs s__law_habit, defBody s__law_habit, defScope s__law_habit, [], []⟩
def dd__law_alike : He.DefD := ⟨("_law_alike", none), "_law_alike", "_law_alike", defArgs s__law_alike, defBody s__law_alike, defScope s__law_alike, [], []⟩
def dd__law_touch : He.DefD := ⟨("_law_touch", none), "_law_touch", "_law_touch", defArgs s__law_touch, defBody s__law_touch, defScope s__law_touch, [], []⟩
def dd__law_near : He.DefD := ⟨("_law_near", none), "_law_near", "_law_near", defArgs s__law_near, defBody s__law_near, defScope s__law_near, [], []⟩
def dd__law_pick : He.DefD := ⟨("_law_pick", none), "_law_pick", "_law_pick", defArgs s__law_pick, defBody s__law_pick, defScope s__law_pick, [], []⟩
def dd__law_least_word : He.DefD := ⟨("_law_least_word", none), "_law_least_word", "_law_least_word", defArgs s__law_least_word, defBody s__law_least_word, defScope s__law_least_word, [], []⟩
def dd_law : He.DefD := ⟨("law", none), "law", "law", defArgs s_law, defBody s_law, defScope s_law, [], []⟩
def fn : List He.DefD := [dd_is_number, dd_is_permutation, dd_need_habit, dd_need_layout, dd_need_shelf, dd_need_place, dd_behind_touch, dd_behind_word, dd_touched, dd_after, dd_words_from, dd_can_come, dd_word_between, dd_distance, dd_farthest, dd_order, dd__law_taken, dd__law_order, dd__law_habit, dd__law_alike, dd__law_touch, dd__law_near, dd__law_pick, dd__law_least_word, dd_law]
def tf : List He.Defn := [("is_permutation", none), ("after", none)]
abbrev ex : PySem.W.Frag → Bool := fun K => K.all fun q => noLst q.2
abbrev Rr : PySem.W.OpenRow := PySem.W.OpenLaw.row PySem.Challenge.rw_restlesshelf_k01_whole_shelves
abbrev hk : PySem.W.Hook := He.hookX 4 (fa ++ fb) fn [] tf ex
def ob (s : PySem.W.SharedT) : He.AlX := He.obsX 4 (fa ++ fb) fn [] tf ex (HandSHeadRun.getT s)
theorem ob_eq (s : PySem.W.SharedT) : ob s = hk.obs s.abs := He.obsX_eq (HandSHeadRun.getT_eq s)
def ln0 : List PySem.Str := ["ShelfError", "BadHabit", "BadLayout", "BadPlace", "BadWord", "LEAST_PLACES", "MOST_PLACES", "MOST_WORD", "is_number", "is_permutation", "need_habit", "need_layout", "need_shelf", "need_place", "behind_touch", "behind_word", "touched", "after", "words_from", "can_come", "word_between", "distance", "farthest", "order", "_law_taken", "_law_order", "_law_habit", "_law_alike", "_law_touch", "_law_near"]
def ln1 : List PySem.Str := ["_law_pick", "_law_least_word"]
def ln : List PySem.Str := ln0 ++ ln1
theorem runT (w : World) : HandSHeadRun.RunEq Rr (PySem.W.view Rr.prog [35]) hk ob 20000 ln w := by
  intro os
  kernel_rfl
end K01

set_option Elab.async false
set_option linter.all false
set_option maxRecDepth 100000
set_option maxHeartbeats 0
namespace K01
open PySem PySem.Spec PyProof.Rows L2 GX GxR DL
theorem d_law {K : PySem.W.Frag} {h : Heap} {ww : World} (c : He.SaysX (fa ++ fb) fn [] tf ex ww h K) : ∃ fd, FunD K "law" "law" (defArgs s_law) (defBody s_law) (defScope s_law) [] [] (He.fAd K ("law", none)) fd := He.SaysD.defs (d := dd_law) c.t.d (.tail _ (.tail _ (.tail _ (.tail _ (.tail _ (.tail _ (.tail _ (.tail _ (.tail _ (.tail _ (.tail _ (.tail _ (.tail _ (.tail _ (.tail _ (.tail _ (.tail _ (.tail _ (.tail _ (.tail _ (.tail _ (.tail _ (.tail _ (.tail _ (.head _)))))))))))))))))))))))))
theorem facts {K : PySem.W.Frag} {h : Heap} {mg : Str → Option Value} {base : Heap} {ww : World} (X : K.In h) (G : h.Ns mainGlobals mg) (c : He.SaysX (fa ++ fb) fn [] tf ex ww h K) (TB : ∀ p ∈ tf.map (He.cT K), TabB base mg p.1 p.2) : Facts K mg base := by
  have D : ∀ d ∈ fn, ∃ fd, FunD K d.name d.qual d.params d.body d.scope (d.dvs K) (d.kws K) (He.fAd K d.at_) fd := fun d hd => He.SaysD.defs c.t.d hd
  have FF : ∀ f ∈ fa ++ fb, f.ok K = true := fun f hf => He.SaysD.facts c.t.d hf
  exact ⟨D dd_is_number (.head _),
    He.glo_ok X G (FF (.glo "is_number") (List.mem_append_left _ (.head _))),
    D dd_is_permutation (.tail _ (.head _)),
    He.glo_ok X G (FF (.glo "is_permutation") (List.mem_append_left _ (.tail _ (.head _)))),
    TB _ (List.mem_map.mpr ⟨("is_permutation", none), .head _, rfl⟩),
    D dd_need_habit (.tail _ (.tail _ (.head _))),
    He.glo_ok X G (FF (.glo "need_habit") (List.mem_append_left _ (.tail _ (.tail _ (.head _))))),
    D dd_need_layout (.tail _ (.tail _ (.tail _ (.head _)))),
    He.glo_ok X G (FF (.glo "need_layout") (List.mem_append_left _ (.tail _ (.tail _ (.tail _ (.head _)))))),
    D dd_need_shelf (.tail _ (.tail _ (.tail _ (.tail _ (.head _))))),
    He.glo_ok X G (FF (.glo "need_shelf") (List.mem_append_left _ (.tail _ (.tail _ (.tail _ (.tail _ (.head _))))))),
    D dd_need_place (.tail _ (.tail _ (.tail _ (.tail _ (.tail _ (.head _)))))),
    He.glo_ok X G (FF (.glo "need_place") (List.mem_append_left _ (.tail _ (.tail _ (.tail _ (.tail _ (.tail _ (.head _)))))))),
    D dd_behind_touch (.tail _ (.tail _ (.tail _ (.tail _ (.tail _ (.tail _ (.head _))))))),
    He.glo_ok X G (FF (.glo "behind_touch") (List.mem_append_left _ (.tail _ (.tail _ (.tail _ (.tail _ (.tail _ (.tail _ (.head _))))))))),
    D dd_behind_word (.tail _ (.tail _ (.tail _ (.tail _ (.tail _ (.tail _ (.tail _ (.head _)))))))),
    He.glo_ok X G (FF (.glo "behind_word") (List.mem_append_left _ (.tail _ (.tail _ (.tail _ (.tail _ (.tail _ (.tail _ (.tail _ (.head _)))))))))),
    D dd_touched (.tail _ (.tail _ (.tail _ (.tail _ (.tail _ (.tail _ (.tail _ (.tail _ (.head _))))))))),
    He.glo_ok X G (FF (.glo "touched") (List.mem_append_left _ (.tail _ (.tail _ (.tail _ (.tail _ (.tail _ (.tail _ (.tail _ (.tail _ (.head _))))))))))),
    D dd_after (.tail _ (.tail _ (.tail _ (.tail _ (.tail _ (.tail _ (.tail _ (.tail _ (.tail _ (.head _)))))))))),
    He.glo_ok X G (FF (.glo "after") (List.mem_append_left _ (.tail _ (.tail _ (.tail _ (.tail _ (.tail _ (.tail _ (.tail _ (.tail _ (.tail _ (.head _)))))))))))),
    TB _ (List.mem_map.mpr ⟨("after", none), .tail _ (.head _), rfl⟩),
    D dd_words_from (.tail _ (.tail _ (.tail _ (.tail _ (.tail _ (.tail _ (.tail _ (.tail _ (.tail _ (.tail _ (.head _))))))))))),
    He.glo_ok X G (FF (.glo "words_from") (List.mem_append_left _ (.tail _ (.tail _ (.tail _ (.tail _ (.tail _ (.tail _ (.tail _ (.tail _ (.tail _ (.tail _ (.head _))))))))))))),
    D dd_can_come (.tail _ (.tail _ (.tail _ (.tail _ (.tail _ (.tail _ (.tail _ (.tail _ (.tail _ (.tail _ (.tail _ (.head _)))))))))))),
    He.glo_ok X G (FF (.glo "can_come") (List.mem_append_left _ (.tail _ (.tail _ (.tail _ (.tail _ (.tail _ (.tail _ (.tail _ (.tail _ (.tail _ (.tail _ (.tail _ (.head _)))))))))))))),
    D dd_word_between (.tail _ (.tail _ (.tail _ (.tail _ (.tail _ (.tail _ (.tail _ (.tail _ (.tail _ (.tail _ (.tail _ (.tail _ (.head _))))))))))))),
    He.glo_ok X G (FF (.glo "word_between") (List.mem_append_left _ (.tail _ (.tail _ (.tail _ (.tail _ (.tail _ (.tail _ (.tail _ (.tail _ (.tail _ (.tail _ (.tail _ (.tail _ (.head _))))))))))))))),
    D dd_distance (.tail _ (.tail _ (.tail _ (.tail _ (.tail _ (.tail _ (.tail _ (.tail _ (.tail _ (.tail _ (.tail _ (.tail _ (.tail _ (.head _)))))))))))))),
    He.glo_ok X G (FF (.glo "distance") (List.mem_append_left _ (.tail _ (.tail _ (.tail _ (.tail _ (.tail _ (.tail _ (.tail _ (.tail _ (.tail _ (.tail _ (.tail _ (.tail _ (.tail _ (.head _)))))))))))))))),
    D dd_farthest (.tail _ (.tail _ (.tail _ (.tail _ (.tail _ (.tail _ (.tail _ (.tail _ (.tail _ (.tail _ (.tail _ (.tail _ (.tail _ (.tail _ (.head _))))))))))))))),
    He.glo_ok X G (FF (.glo "farthest") (List.mem_append_left _ (.tail _ (.tail _ (.tail _ (.tail _ (.tail _ (.tail _ (.tail _ (.tail _ (.tail _ (.tail _ (.tail _ (.tail _ (.tail _ (.tail _ (.head _))))))))))))))))),
    D dd_order (.tail _ (.tail _ (.tail _ (.tail _ (.tail _ (.tail _ (.tail _ (.tail _ (.tail _ (.tail _ (.tail _ (.tail _ (.tail _ (.tail _ (.tail _ (.head _)))))))))))))))),
    He.glo_ok X G (FF (.glo "order") (List.mem_append_left _ (.tail _ (.tail _ (.tail _ (.tail _ (.tail _ (.tail _ (.tail _ (.tail _ (.tail _ (.tail _ (.tail _ (.tail _ (.tail _ (.tail _ (.tail _ (.head _)))))))))))))))))),
    D dd__law_taken (.tail _ (.tail _ (.tail _ (.tail _ (.tail _ (.tail _ (.tail _ (.tail _ (.tail _ (.tail _ (.tail _ (.tail _ (.tail _ (.tail _ (.tail _ (.tail _ (.head _))))))))))))))))),
    He.glo_ok X G (FF (.glo "_law_taken") (List.mem_append_left _ (.tail _ (.tail _ (.tail _ (.tail _ (.tail _ (.tail _ (.tail _ (.tail _ (.tail _ (.tail _ (.tail _ (.tail _ (.tail _ (.tail _ (.tail _ (.tail _ (.head _))))))))))))))))))),
    D dd__law_order (.tail _ (.tail _ (.tail _ (.tail _ (.tail _ (.tail _ (.tail _ (.tail _ (.tail _ (.tail _ (.tail _ (.tail _ (.tail _ (.tail _ (.tail _ (.tail _ (.tail _ (.head _)))))))))))))))))),
    He.glo_ok X G (FF (.glo "_law_order") (List.mem_append_left _ (.tail _ (.tail _ (.tail _ (.tail _ (.tail _ (.tail _ (.tail _ (.tail _ (.tail _ (.tail _ (.tail _ (.tail _ (.tail _ (.tail _ (.tail _ (.tail _ (.tail _ (.head _)))))))))))))))))))),
    D dd__law_habit (.tail _ (.tail _ (.tail _ (.tail _ (.tail _ (.tail _ (.tail _ (.tail _ (.tail _ (.tail _ (.tail _ (.tail _ (.tail _ (.tail _ (.tail _ (.tail _ (.tail _ (.tail _ (.head _))))))))))))))))))),
    He.glo_ok X G (FF (.glo "_law_habit") (List.mem_append_left _ (.tail _ (.tail _ (.tail _ (.tail _ (.tail _ (.tail _ (.tail _ (.tail _ (.tail _ (.tail _ (.tail _ (.tail _ (.tail _ (.tail _ (.tail _ (.tail _ (.tail _ (.tail _ (.head _))))))))))))))))))))),
    D dd__law_alike (.tail _ (.tail _ (.tail _ (.tail _ (.tail _ (.tail _ (.tail _ (.tail _ (.tail _ (.tail _ (.tail _ (.tail _ (.tail _ (.tail _ (.tail _ (.tail _ (.tail _ (.tail _ (.tail _ (.head _)))))))))))))))))))),
    He.glo_ok X G (FF (.glo "_law_alike") (List.mem_append_left _ (.tail _ (.tail _ (.tail _ (.tail _ (.tail _ (.tail _ (.tail _ (.tail _ (.tail _ (.tail _ (.tail _ (.tail _ (.tail _ (.tail _ (.tail _ (.tail _ (.tail _ (.tail _ (.tail _ (.head _)))))))))))))))))))))),
    D dd__law_touch (.tail _ (.tail _ (.tail _ (.tail _ (.tail _ (.tail _ (.tail _ (.tail _ (.tail _ (.tail _ (.tail _ (.tail _ (.tail _ (.tail _ (.tail _ (.tail _ (.tail _ (.tail _ (.tail _ (.tail _ (.head _))))))))))))))))))))),
    He.glo_ok X G (FF (.glo "_law_touch") (List.mem_append_left _ (.tail _ (.tail _ (.tail _ (.tail _ (.tail _ (.tail _ (.tail _ (.tail _ (.tail _ (.tail _ (.tail _ (.tail _ (.tail _ (.tail _ (.tail _ (.tail _ (.tail _ (.tail _ (.tail _ (.tail _ (.head _))))))))))))))))))))))),
    D dd__law_near (.tail _ (.tail _ (.tail _ (.tail _ (.tail _ (.tail _ (.tail _ (.tail _ (.tail _ (.tail _ (.tail _ (.tail _ (.tail _ (.tail _ (.tail _ (.tail _ (.tail _ (.tail _ (.tail _ (.tail _ (.tail _ (.head _)))))))))))))))))))))),
    He.glo_ok X G (FF (.glo "_law_near") (List.mem_append_left _ (.tail _ (.tail _ (.tail _ (.tail _ (.tail _ (.tail _ (.tail _ (.tail _ (.tail _ (.tail _ (.tail _ (.tail _ (.tail _ (.tail _ (.tail _ (.tail _ (.tail _ (.tail _ (.tail _ (.tail _ (.tail _ (.head _)))))))))))))))))))))))),
    D dd__law_pick (.tail _ (.tail _ (.tail _ (.tail _ (.tail _ (.tail _ (.tail _ (.tail _ (.tail _ (.tail _ (.tail _ (.tail _ (.tail _ (.tail _ (.tail _ (.tail _ (.tail _ (.tail _ (.tail _ (.tail _ (.tail _ (.tail _ (.head _))))))))))))))))))))))),
    He.glo_ok X G (FF (.glo "_law_pick") (List.mem_append_left _ (.tail _ (.tail _ (.tail _ (.tail _ (.tail _ (.tail _ (.tail _ (.tail _ (.tail _ (.tail _ (.tail _ (.tail _ (.tail _ (.tail _ (.tail _ (.tail _ (.tail _ (.tail _ (.tail _ (.tail _ (.tail _ (.tail _ (.head _))))))))))))))))))))))))),
    D dd__law_least_word (.tail _ (.tail _ (.tail _ (.tail _ (.tail _ (.tail _ (.tail _ (.tail _ (.tail _ (.tail _ (.tail _ (.tail _ (.tail _ (.tail _ (.tail _ (.tail _ (.tail _ (.tail _ (.tail _ (.tail _ (.tail _ (.tail _ (.tail _ (.head _)))))))))))))))))))))))),
    He.glo_ok X G (FF (.glo "_law_least_word") (List.mem_append_left _ (.tail _ (.tail _ (.tail _ (.tail _ (.tail _ (.tail _ (.tail _ (.tail _ (.tail _ (.tail _ (.tail _ (.tail _ (.tail _ (.tail _ (.tail _ (.tail _ (.tail _ (.tail _ (.tail _ (.tail _ (.tail _ (.tail _ (.tail _ (.head _)))))))))))))))))))))))))),
    D dd_law (.tail _ (.tail _ (.tail _ (.tail _ (.tail _ (.tail _ (.tail _ (.tail _ (.tail _ (.tail _ (.tail _ (.tail _ (.tail _ (.tail _ (.tail _ (.tail _ (.tail _ (.tail _ (.tail _ (.tail _ (.tail _ (.tail _ (.tail _ (.tail _ (.head _))))))))))))))))))))))))),
    He.glo_ok X G (FF (.glo "law") (List.mem_append_left _ (.tail _ (.tail _ (.tail _ (.tail _ (.tail _ (.tail _ (.tail _ (.tail _ (.tail _ (.tail _ (.tail _ (.tail _ (.tail _ (.tail _ (.tail _ (.tail _ (.tail _ (.tail _ (.tail _ (.tail _ (.tail _ (.tail _ (.tail _ (.tail _ (.head _))))))))))))))))))))))))))),
    He.free_ok X G (FF (.free "all") (List.mem_append_right _ (.head _))),
    He.free_ok X G (FF (.free "bool") (List.mem_append_right _ (.tail _ (.head _)))),
    He.free_ok X G (FF (.free "enumerate") (List.mem_append_right _ (.tail _ (.tail _ (.head _))))),
    He.free_ok X G (FF (.free "int") (List.mem_append_right _ (.tail _ (.tail _ (.tail _ (.head _)))))),
    He.free_ok X G (FF (.free "isinstance") (List.mem_append_right _ (.tail _ (.tail _ (.tail _ (.tail _ (.head _))))))),
    He.free_ok X G (FF (.free "len") (List.mem_append_right _ (.tail _ (.tail _ (.tail _ (.tail _ (.tail _ (.head _)))))))),
    He.free_ok X G (FF (.free "list") (List.mem_append_right _ (.tail _ (.tail _ (.tail _ (.tail _ (.tail _ (.tail _ (.head _))))))))),
    He.free_ok X G (FF (.free "max") (List.mem_append_right _ (.tail _ (.tail _ (.tail _ (.tail _ (.tail _ (.tail _ (.tail _ (.head _)))))))))),
    He.free_ok X G (FF (.free "range") (List.mem_append_right _ (.tail _ (.tail _ (.tail _ (.tail _ (.tail _ (.tail _ (.tail _ (.tail _ (.head _))))))))))),
    He.free_ok X G (FF (.free "set") (List.mem_append_right _ (.tail _ (.tail _ (.tail _ (.tail _ (.tail _ (.tail _ (.tail _ (.tail _ (.tail _ (.head _)))))))))))),
    He.free_ok X G (FF (.free "sorted") (List.mem_append_right _ (.tail _ (.tail _ (.tail _ (.tail _ (.tail _ (.tail _ (.tail _ (.tail _ (.tail _ (.tail _ (.head _))))))))))))),
    He.free_ok X G (FF (.free "str") (List.mem_append_right _ (.tail _ (.tail _ (.tail _ (.tail _ (.tail _ (.tail _ (.tail _ (.tail _ (.tail _ (.tail _ (.tail _ (.head _)))))))))))))),
    He.free_ok X G (FF (.free "tuple") (List.mem_append_right _ (.tail _ (.tail _ (.tail _ (.tail _ (.tail _ (.tail _ (.tail _ (.tail _ (.tail _ (.tail _ (.tail _ (.tail _ (.head _))))))))))))))),
    He.int_ok X G (FF (.int "LEAST_PLACES" (2)) (List.mem_append_right _ (.tail _ (.tail _ (.tail _ (.tail _ (.tail _ (.tail _ (.tail _ (.tail _ (.tail _ (.tail _ (.tail _ (.tail _ (.tail _ (.head _)))))))))))))))),
    He.int_ok X G (FF (.int "MOST_PLACES" (5)) (List.mem_append_right _ (.tail _ (.tail _ (.tail _ (.tail _ (.tail _ (.tail _ (.tail _ (.tail _ (.tail _ (.tail _ (.tail _ (.tail _ (.tail _ (.tail _ (.head _))))))))))))))))),
    He.int_ok X G (FF (.int "MOST_WORD" (400)) (List.mem_append_right _ (.tail _ (.tail _ (.tail _ (.tail _ (.tail _ (.tail _ (.tail _ (.tail _ (.tail _ (.tail _ (.tail _ (.tail _ (.tail _ (.tail _ (.tail _ (.head _))))))))))))))))))⟩
end K01
open PySem PySem.W PySem.Calls PyProof.Rows
theorem K01_of (level2 : ∀ (ns : List Int), ns.length ≤ 63 → (∀ z ∈ ns, Builtin.Int.intBits z ≤ 1048576) → ∃ hh, K01.run 12 29 [.ref 0] [.frz (ns.map DL.D.int)] = .ok (.bl true) hh) : PySem.Challenge.rw_restlesshelf_k01_whole_shelves.Holds := by
  w_on; o_law
  refine HandSHeadRun.head_any (r := OpenLaw.row PySem.Challenge.rw_restlesshelf_k01_whole_shelves) (q := view (OpenLaw.row PySem.Challenge.rw_restlesshelf_k01_whole_shelves).prog [35]) (H := K01.hk) (ob := K01.ob) (M := 20000) (loose := K01.ln) (d := HandSHeadRun.topDef (OpenLaw.row PySem.Challenge.rw_restlesshelf_k01_whole_shelves).prog 35) (kwd := []) K01.ob_eq
    (by kernel_rfl) (fun s => by kernel_rfl) K01.runT (by kernel_rfl) (by kernel_rfl) (by kernel_rfl) (by rfl) (by first | assumption | decide +kernel) (by decide +kernel) ⟨rfl, rfl, rfl, rfl, rfl, by decide +kernel⟩ ?hw ?hc
  case hw => w_witness2
  case hc =>
    refine LamX.walk_ofTsE (l := PySem.Challenge.rw_restlesshelf_k01_whole_shelves) (n := 63) (k := 25) (x := "_law_script") (CX := fun w => L2.CX PySem.Challenge.pw_restlesshelf_k01_whole_shelves w) rfl (by decide) (by kernel_rfl) ⟨rfl, by decide, by decide⟩ ?F (fun w H s e s' z => DL.cx_none z)
    intro w mg fa h Y G hmg0
    obtain ⟨K, KX, c⟩ := Y
    have hmg : mg ("law" : PySem.Str) = some (.ref fa) := by
      have e : (HandSHeadRun.topDef (OpenLaw.row PySem.Challenge.rw_restlesshelf_k01_whole_shelves).prog 35).name = ("law" : PySem.Str) := by kernel_rfl
      rw [← e]
      exact hmg0
    refine ⟨K, KX, DL.law_end (st := K01.s_law) (d := 11) (i := 29) (bd := K01.bd) (gs := K01.gs w K) (FF := fun base => K01.Facts K mg base) KX G hmg c ?_ (K01.d_law c) (fun base hK hG TB => K01.facts KX G c TB) (fun base Fa fd FD => K01.fn_law Fa (K01.cs Fa 11) FD) (fun fd FD s u => L2.FunD.bindsA (ps := ["_law_script"]) FD (fun _ _ _ _ _ _ us hl => match us, hl with | [_], _ => rfl) s [u] rfl) rfl level2⟩
    exact List.mem_append_left _ (.tail _ (.tail _ (.tail _ (.tail _ (.tail _ (.tail _ (.tail _ (.tail _ (.tail _ (.tail _ (.tail _ (.tail _ (.tail _ (.tail _ (.tail _ (.tail _ (.tail _ (.tail _ (.tail _ (.tail _ (.tail _ (.tail _ (.tail _ (.tail _ (.head _)))))))))))))))))))))))))

theorem PySem.Challenge.cw_restlesshelf_k01_whole_shelves_holds : PySem.Challenge.rw_restlesshelf_k01_whole_shelves.Holds := by
  exact K01_of fun ns _ _ => PF.k01_law K01.bd ns
