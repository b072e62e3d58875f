import PyProof.Rows.All
import Wide.All
import OpenK.AllK
import Wide.FinOn
import HandS.ForMost
import HandS.ForExc
import HandS.IsInst
import HandS.TupAny
import HandS.Conv
import HandS.Codes
import HandS.Style
import HandS.Zip
import HandS.Defaults
import HandS.AnyAll
import HandS.Comp
import HandS.Deep
import HandS.Strs
import HandS.SetFor
import HandS.TupSets
import HandS.ReCall
import KE.GoesMore
import HandS.Iter
import HandS.HeadHook4
import HandS.HeadWalk
import HandS.TryOnly
import HandS.Head0
import HandS.Head1
import HandS.Head2
import PySem.Challenge.RW_restlesshelf_k15_whole_left
set_option Elab.async false
set_option linter.all false
set_option maxRecDepth 100000
set_option maxHeartbeats 4000000
/-! DL1: values as data, an abstract heap of numbered mutable objects, their meaning over L2's heap, results. -/
namespace DL
open PySem PySem.Spec PyProof.Rows L2

/-- a value as data; `ref n` is the n-th mutable object, `fn n` the n-th def of the text -/
inductive D where
  | non | bl (b : Bool) | int (i : Int) | str (s : Str) | tup (l : List D) | ref (n : Nat) | fn (n : Nat)
  deriving Inhabited

/-- a mutable object -/
inductive MO where
  | lst (l : List D)
  /-- a list that is only read (the script) -/
  | frz (l : List D)
  deriving Inhabited

abbrev Hh := List MO
abbrev Env := List (Option D)

/-- an exception: the number of its class, its fields -/
structure Ex where
  c : Nat
  fs : List (Str × D)

inductive R (α : Type) where
  | ok (a : α) (h : Hh) | exc (x : Ex) (h : Hh) | bad

def R.bind {α β : Type} (r : R α) (k : α → Hh → R β) : R β := match r with
  | .ok a h => k a h
  | .exc x h => .exc x h
  | .bad => .bad
@[simp] theorem R.bind_ok {α β : Type} (a : α) (h : Hh) (k : α → Hh → R β) : (R.ok a h).bind k = k a h := rfl
@[simp] theorem R.bind_exc {α β : Type} (x : Ex) (h : Hh) (k : α → Hh → R β) : (R.exc x h : R α).bind k = .exc x h := rfl
@[simp] theorem R.bind_bad {α β : Type} (k : α → Hh → R β) : (R.bad : R α).bind k = .bad := rfl

/-- what a result is to satisfy -/
def R.sat {α : Type} (r : R α) (P : α → Hh → Prop) (E : Ex → Hh → Prop) : Prop := match r with
  | .ok a h => P a h
  | .exc x h => E x h
  | .bad => False
theorem R.sat_bind {α β : Type} {r : R α} {k : α → Hh → R β} {P : β → Hh → Prop} {E : Ex → Hh → Prop} (h : (r.bind k).sat P E) : r.sat (fun a h => (k a h).sat P E) E := by
  cases r with
  | ok a hh => exact h
  | exc x hh => exact h
  | bad => exact h
theorem R.sat_mono {α : Type} {r : R α} {P P' : α → Hh → Prop} {E E' : Ex → Hh → Prop} (h : r.sat P E) (hp : ∀ a h, P a h → P' a h) (he : ∀ x h, E x h → E' x h) : r.sat P' E' := by
  cases r with
  | ok a hh => exact hp _ _ h
  | exc x hh => exact he _ _ h
  | bad => exact h
/-- a size that must fit -/
def fits {α : Type} (n : Nat) (r : R α) : R α := if n ≤ 16000000 then r else .bad
theorem fits_ok {α : Type} {n : Nat} {r : R α} (h : n ≤ 16000000) : fits n r = r := if_pos h
theorem fits_sat {α : Type} {n : Nat} {r : R α} {P : α → Hh → Prop} {E : Ex → Hh → Prop} (h : (fits n r).sat P E) : n < sizeLine ∧ r.sat P E := by
  unfold fits at h
  split at h
  · rename_i q
    exact ⟨by rw [sizeLine_eq]; omega, h⟩
  · exact h.elim

/-! ### what data means over the heap -/
/-- the static facts: the written part; the tables of code objects that grow; where the defs stand; where the classes stand -/
structure Gs where

  tabs : List Addr
  fnA : Nat → Addr
  clA : Nat → Addr

/-- a tuple: locked (its object is known: it has no dict), or one of the written part -/
def TupK (K : PySem.W.Frag) (H : Hp) (a : Addr) (xs : List V) : Prop :=
  (∃ o : Obj, H a = some (.frz o (.tup xs)) ∧ o.dict = none) ∨
    ∃ (o : Obj) (its : Array Value) (n : Nat), K.lookup a = some o ∧ o.cls = .type "tuple" ∧ o.dict = none ∧ o.data = .seq its n ∧ its.size ≤ sizeLine ∧ Vals xs its.toList
theorem TupK.sqT {K : PySem.W.Frag} {H : Hp} {a : Addr} {xs : List V} (h : TupK K H a xs) : SqT K H a xs := by
  rcases h with ⟨o, h, _⟩ | ⟨o, its, n, h1, h2, _, h3, h4, h5⟩
  · exact .inl (.inr ⟨o, h⟩)
  · exact .inr ⟨o, its, n, h1, h2, h3, h4, h5⟩
mutual
def RV (K : PySem.W.Frag) (G : Gs) (ρ : List Addr) (H : Hp) : D → V → Prop
  | .non, v => v = .non
  | .bl b, v => v = .bl b
  | .int i, v => v = .int i
  | .str s, v => v = .str s
  | .tup l, v => ∃ a xs, v = .ref a ∧ TupK K H a xs ∧ RVs K G ρ H l xs
  | .ref n, v => ∃ a, v = .ref a ∧ ρ[n]? = some a
  | .fn n, v => v = .ref (G.fnA n)
def RVs (K : PySem.W.Frag) (G : Gs) (ρ : List Addr) (H : Hp) : List D → List V → Prop
  | [], xs => xs = []
  | d :: l, xs => ∃ v r, xs = v :: r ∧ RV K G ρ H d v ∧ RVs K G ρ H l r
end

/-- a list that is only read -/
def SqH (H : Hp) (a : Addr) (xs : List V) : Prop := H a = some (.lst xs) ∨ ∃ o, H a = some (.frz o (.lst xs))
theorem SqH.at {H H' : Hp} {a : Addr} {xs : List V} (q : SqH H a xs) (k : H' a = H a) : SqH H' a xs := q.imp (fun z => k.trans z) fun ⟨o, z⟩ => ⟨o, k.trans z⟩
def RO (K : PySem.W.Frag) (G : Gs) (ρ : List Addr) (H : Hp) (a : Addr) : MO → Prop
  | .lst l => ∃ xs, H a = some (.lst xs) ∧ RVs K G ρ H l xs
  | .frz l => ∃ xs, SqH H a xs ∧ RVs K G ρ H l xs

structure Rep (K : PySem.W.Frag) (G : Gs) (ρ : List Addr) (hh : Hh) (H : Hp) : Prop where
  len : ρ.length = hh.length
  nd : ρ.Nodup
  ob : ∀ (n : Nat) (o : MO), hh[n]? = some o → ∃ a, ρ[n]? = some a ∧ RO K G ρ H a o
  tb : ∀ P ∈ G.tabs, ∃ ps : Array Value, H P = some (.tbl ps) ∧ TriplesOk ps.toList

/-- the later state: more objects, the tuples and the locked things as they were, what isn't counted as it was (but for the tables) -/
structure Ext (ρ : List Addr) (H : Hp) (ρ' : List Addr) (H' : Hp) : Prop where
  pre : ∃ more, ρ' = ρ ++ more ∧ ∀ b ∈ more, H b = none
  tups : ∀ b xs, H b = some (.tup xs) → H' b = some (.tup xs)
  frzs : ∀ b o u, H b = some (.frz o u) → H' b = some (.frz o u)
  side : ∀ b u, H b = some u → b ∉ ρ → (∀ ps, u ≠ .tbl ps) → H' b = some u
  dom : ∀ b, H' b = none → H b = none
theorem Ext.refl (ρ : List Addr) (H : Hp) : Ext ρ H ρ H := ⟨⟨[], by simp, by simp⟩, fun _ _ h => h, fun _ _ _ h => h, fun _ _ h _ _ => h, fun _ h => h⟩
theorem Ext.trans {ρ ρ1 ρ2 : List Addr} {H H1 H2 : Hp} (a : Ext ρ H ρ1 H1) (b : Ext ρ1 H1 ρ2 H2) : Ext ρ H ρ2 H2 := by
  obtain ⟨m1, e1, f1⟩ := a.pre
  obtain ⟨m2, e2, f2⟩ := b.pre
  refine ⟨⟨m1 ++ m2, by rw [e2, e1, List.append_assoc], fun c hc => ?_⟩, fun c xs h => b.tups _ _ (a.tups _ _ h), fun c o u h => b.frzs _ _ _ (a.frzs _ _ _ h), fun c u h n t => ?_, fun c h => a.dom c (b.dom c h)⟩
  · rcases List.mem_append.mp hc with hc | hc
    · exact f1 c hc
    · exact a.dom c (f2 c hc)
  · refine b.side c u (a.side c u h n t) (fun hc => ?_) t
    rw [e1] at hc
    rcases List.mem_append.mp hc with hc | hc
    · exact n hc
    · rw [f1 c hc] at h; cases h
/-- what is new behind is new ahead -/
theorem Ext.notin {ρ ρ' : List Addr} {H H' : Hp} (e : Ext ρ H ρ' H') {a : Addr} {u : HO} (h : H a = some u) (n : a ∉ ρ) : a ∉ ρ' := fun hc => by
  obtain ⟨m, rfl, f⟩ := e.pre
  rcases List.mem_append.mp hc with hc | hc
  · exact n hc
  · rw [f a hc] at h; cases h
theorem Ext.get {ρ ρ' : List Addr} {H H' : Hp} (e : Ext ρ H ρ' H') {n : Nat} {a : Addr} (h : ρ[n]? = some a) : ρ'[n]? = some a := by
  obtain ⟨m, rfl, _⟩ := e.pre
  rw [List.getElem?_append_left (List.getElem?_eq_some_iff.mp h).1]
  exact h
theorem Ext.tupK {ρ ρ' : List Addr} {H H' : Hp} (e : Ext ρ H ρ' H') {K : PySem.W.Frag} {a : Addr} {xs : List V} (h : TupK K H a xs) : TupK K H' a xs := by
  rcases h with ⟨o, h, d⟩ | h
  · exact .inl ⟨o, e.frzs _ _ _ h, d⟩
  · exact .inr h
mutual
theorem RV.ext {K : PySem.W.Frag} {G : Gs} {ρ ρ' : List Addr} {H H' : Hp} (e : Ext ρ H ρ' H') : ∀ (d : D) (v : V), RV K G ρ H d v → RV K G ρ' H' d v
  | .non, v, h => by simp only [RV] at h ⊢; exact h
  | .bl b, v, h => by simp only [RV] at h ⊢; exact h
  | .int i, v, h => by simp only [RV] at h ⊢; exact h
  | .str s, v, h => by simp only [RV] at h ⊢; exact h
  | .tup l, v, h => by
    simp only [RV] at h ⊢
    obtain ⟨a, xs, e1, e2, e3⟩ := h
    exact ⟨a, xs, e1, e.tupK e2, RVs.ext e l xs e3⟩
  | .ref n, v, h => by
    simp only [RV] at h ⊢
    obtain ⟨a, e1, e2⟩ := h
    exact ⟨a, e1, e.get e2⟩
  | .fn n, v, h => by simp only [RV] at h ⊢; exact h
theorem RVs.ext {K : PySem.W.Frag} {G : Gs} {ρ ρ' : List Addr} {H H' : Hp} (e : Ext ρ H ρ' H') : ∀ (l : List D) (xs : List V), RVs K G ρ H l xs → RVs K G ρ' H' l xs
  | [], xs, h => by simp only [RVs] at h ⊢; exact h
  | d :: l, xs, h => by
    simp only [RVs] at h ⊢
    obtain ⟨v, r, e1, e2, e3⟩ := h
    exact ⟨v, r, e1, RV.ext e d v e2, RVs.ext e l r e3⟩
end
mutual
theorem RV.more {K : PySem.W.Frag} {G : Gs} {ρ ρ' : List Addr} {H : Hp} (e : ∀ {n : Nat} {b : Addr}, ρ[n]? = some b → ρ'[n]? = some b) : ∀ (d : D) (v : V), RV K G ρ H d v → RV K G ρ' H d v
  | .non, v, h => by simp only [RV] at h ⊢; exact h
  | .bl b, v, h => by simp only [RV] at h ⊢; exact h
  | .int i, v, h => by simp only [RV] at h ⊢; exact h
  | .str s, v, h => by simp only [RV] at h ⊢; exact h
  | .tup l, v, h => by
    simp only [RV] at h ⊢
    obtain ⟨a, xs, e1, e2, e3⟩ := h
    exact ⟨a, xs, e1, e2, RVs.more e l xs e3⟩
  | .ref n, v, h => by
    simp only [RV] at h ⊢
    obtain ⟨a, e1, e2⟩ := h
    exact ⟨a, e1, e e2⟩
  | .fn n, v, h => by simp only [RV] at h ⊢; exact h
theorem RVs.more {K : PySem.W.Frag} {G : Gs} {ρ ρ' : List Addr} {H : Hp} (e : ∀ {n : Nat} {b : Addr}, ρ[n]? = some b → ρ'[n]? = some b) : ∀ (l : List D) (xs : List V), RVs K G ρ H l xs → RVs K G ρ' H l xs
  | [], xs, h => by simp only [RVs] at h ⊢; exact h
  | d :: l, xs, h => by
    simp only [RVs] at h ⊢
    obtain ⟨v, r, e1, e2, e3⟩ := h
    exact ⟨v, r, e1, RV.more e d v e2, RVs.more e l r e3⟩
end
theorem RVs.nil {K : PySem.W.Frag} {G : Gs} {ρ : List Addr} {H : Hp} : RVs K G ρ H [] [] := by simp [RVs]
theorem RVs.cons {K : PySem.W.Frag} {G : Gs} {ρ : List Addr} {H : Hp} {d : D} {v : V} {l : List D} {xs : List V} (h : RV K G ρ H d v) (t : RVs K G ρ H l xs) : RVs K G ρ H (d :: l) (v :: xs) := by
  simp only [RVs]
  exact ⟨v, xs, rfl, h, t⟩
theorem RVs.inv_cons {K : PySem.W.Frag} {G : Gs} {ρ : List Addr} {H : Hp} {d : D} {l : List D} {xs : List V} (h : RVs K G ρ H (d :: l) xs) : ∃ v r, xs = v :: r ∧ RV K G ρ H d v ∧ RVs K G ρ H l r := by
  simpa only [RVs] using h
theorem RVs.inv_nil {K : PySem.W.Frag} {G : Gs} {ρ : List Addr} {H : Hp} {xs : List V} (h : RVs K G ρ H [] xs) : xs = [] := by simpa only [RVs] using h
theorem RVs.length {K : PySem.W.Frag} {G : Gs} {ρ : List Addr} {H : Hp} : ∀ {l : List D} {xs : List V}, RVs K G ρ H l xs → xs.length = l.length
  | [], _, h => by rw [h.inv_nil]; rfl
  | _ :: _, _, h => by
    obtain ⟨v, r, rfl, _, t⟩ := h.inv_cons
    rw [List.length_cons, List.length_cons, RVs.length t]
theorem RVs.get {K : PySem.W.Frag} {G : Gs} {ρ : List Addr} {H : Hp} : ∀ {l : List D} {xs : List V} {i : Nat} {d : D}, RVs K G ρ H l xs → l[i]? = some d → ∃ v, xs[i]? = some v ∧ RV K G ρ H d v
  | [], _, _, _, _, e => by simp at e
  | x :: l, _, 0, d, h, e => by
    obtain ⟨v, r, rfl, q, _⟩ := h.inv_cons
    simp at e
    subst e
    exact ⟨v, rfl, q⟩
  | x :: l, _, i + 1, d, h, e => by
    obtain ⟨v, r, rfl, _, t⟩ := h.inv_cons
    obtain ⟨u, e1, e2⟩ := RVs.get (i := i) t (by simpa using e)
    exact ⟨u, by simpa using e1, e2⟩
theorem RVs.get' {K : PySem.W.Frag} {G : Gs} {ρ : List Addr} {H : Hp} {l : List D} {xs : List V} {i : Nat} {v : V} (h : RVs K G ρ H l xs) (e : xs[i]? = some v) : ∃ d, l[i]? = some d ∧ RV K G ρ H d v := by
  have hl := h.length
  have hi := (List.getElem?_eq_some_iff.mp e).1
  obtain ⟨u, e1, e2⟩ := h.get (i := i) (d := l[i]'(by omega)) (List.getElem?_eq_getElem (by omega))
  rw [e] at e1
  cases e1
  exact ⟨_, List.getElem?_eq_getElem (by omega), e2⟩
theorem RVs.append {K : PySem.W.Frag} {G : Gs} {ρ : List Addr} {H : Hp} : ∀ {l l' : List D} {xs ys : List V}, RVs K G ρ H l xs → RVs K G ρ H l' ys → RVs K G ρ H (l ++ l') (xs ++ ys)
  | [], _, _, _, h, t => by rw [h.inv_nil]; exact t
  | _ :: _, _, _, _, h, t => by
    obtain ⟨v, r, rfl, q, s⟩ := h.inv_cons
    exact .cons q (RVs.append s t)
theorem RVs.take {K : PySem.W.Frag} {G : Gs} {ρ : List Addr} {H : Hp} : ∀ {l : List D} {xs : List V} (n : Nat), RVs K G ρ H l xs → RVs K G ρ H (l.take n) (xs.take n)
  | [], _, n, h => by rw [h.inv_nil]; simp [RVs]
  | _ :: _, _, 0, h => by simp [RVs]
  | _ :: _, _, n + 1, h => by
    obtain ⟨v, r, rfl, q, s⟩ := h.inv_cons
    exact .cons q (RVs.take n s)
theorem RVs.drop {K : PySem.W.Frag} {G : Gs} {ρ : List Addr} {H : Hp} : ∀ {l : List D} {xs : List V} (n : Nat), RVs K G ρ H l xs → RVs K G ρ H (l.drop n) (xs.drop n)
  | [], _, n, h => by rw [h.inv_nil]; simp [RVs]
  | _ :: _, _, 0, h => h
  | _ :: _, _, n + 1, h => by
    obtain ⟨v, r, rfl, q, s⟩ := h.inv_cons
    exact RVs.drop n s
theorem RVs.set {K : PySem.W.Frag} {G : Gs} {ρ : List Addr} {H : Hp} {d : D} {v : V} (hd : RV K G ρ H d v) : ∀ {l : List D} {xs : List V} (n : Nat), RVs K G ρ H l xs → RVs K G ρ H (l.set n d) (xs.set n v)
  | [], _, n, h => by rw [h.inv_nil]; simp [RVs]
  | _ :: _, _, 0, h => by
    obtain ⟨v', r, rfl, q, s⟩ := h.inv_cons
    exact .cons hd s
  | _ :: _, _, n + 1, h => by
    obtain ⟨v', r, rfl, q, s⟩ := h.inv_cons
    exact .cons q (RVs.set hd n s)
theorem RVs.eraseIdx {K : PySem.W.Frag} {G : Gs} {ρ : List Addr} {H : Hp} : ∀ {l : List D} {xs : List V} (n : Nat), RVs K G ρ H l xs → RVs K G ρ H (l.eraseIdx n) (xs.eraseIdx n)
  | [], _, n, h => by rw [h.inv_nil]; simp [RVs]
  | _ :: _, _, 0, h => by
    obtain ⟨v', r, rfl, q, s⟩ := h.inv_cons
    exact s
  | _ :: _, _, n + 1, h => by
    obtain ⟨v', r, rfl, q, s⟩ := h.inv_cons
    exact .cons q (RVs.eraseIdx n s)
theorem RVs.reverse {K : PySem.W.Frag} {G : Gs} {ρ : List Addr} {H : Hp} : ∀ {l : List D} {xs : List V}, RVs K G ρ H l xs → RVs K G ρ H l.reverse xs.reverse
  | [], _, h => by rw [h.inv_nil]; simp [RVs]
  | _ :: _, _, h => by
    obtain ⟨v, r, rfl, q, s⟩ := h.inv_cons
    rw [List.reverse_cons, List.reverse_cons]
    exact (RVs.reverse s).append (.cons q .nil)
theorem RVs.ints {K : PySem.W.Frag} {G : Gs} {ρ : List Addr} {H : Hp} : ∀ {ns : List Int} {xs : List V}, RVs K G ρ H (ns.map D.int) xs → xs = ns.map V.int
  | [], _, h => h.inv_nil
  | n :: ns, _, h => by
    obtain ⟨v, r, rfl, q, s⟩ := h.inv_cons
    simp only [RV] at q
    rw [q, RVs.ints s]
    rfl
theorem RVs.of_ints {K : PySem.W.Frag} {G : Gs} {ρ : List Addr} {H : Hp} : ∀ (ns : List Int), RVs K G ρ H (ns.map D.int) (ns.map V.int)
  | [] => .nil
  | n :: ns => .cons (by simp [RV]) (RVs.of_ints ns)

/-- the object at the n-th place changes -/
theorem nodup_at {ρ : List Addr} (h : ρ.Nodup) {i j : Nat} {a : Addr} (hi : ρ[i]? = some a) (hj : ρ[j]? = some a) : i = j := by
  obtain ⟨h1, e1⟩ := List.getElem?_eq_some_iff.mp hi
  obtain ⟨h2, e2⟩ := List.getElem?_eq_some_iff.mp hj
  exact (List.getElem_inj h).mp (e1.trans e2.symm)
theorem Ext.upd {ρ : List Addr} {H : Hp} {a : Addr} {xs : List V} {o : HO} (h : H a = some (.lst xs)) (ha : a ∈ ρ) : Ext ρ H ρ (upd H a o) := by
  refine ⟨⟨[], by simp, by simp⟩, fun b ys e => ?_, fun b q u e => ?_, fun b u e n _ => ?_, fun b e => ?_⟩
  · rw [upd_ne]
    · exact e
    · rintro rfl; rw [h] at e; cases e
  · rw [upd_ne]
    · exact e
    · rintro rfl; rw [h] at e; cases e
  · rw [upd_ne]
    · exact e
    · rintro rfl; exact n ha
  · by_cases q : b = a
    · subst q; rw [upd_same] at e; cases e
    · rwa [upd_ne q] at e
theorem Ext.laid {ρ : List Addr} {H : Hp} {a : Addr} {o : HO} (h : H a = none) : Ext ρ H ρ (L2.upd H a o) := by
  refine ⟨⟨[], by simp, by simp⟩, fun b ys e => ?_, fun b q u e => ?_, fun b u e n _ => ?_, fun b e => ?_⟩
  · rw [upd_ne (ne_of_none e h)]
    exact e
  · rw [upd_ne (ne_of_none e h)]
    exact e
  · rw [upd_ne (ne_of_none e h)]
    exact e
  · by_cases q : b = a
    · subst q; exact h
    · rwa [upd_ne q] at e
theorem RO.at {K : PySem.W.Frag} {G : Gs} {ρ : List Addr} {H : Hp} {a : Addr} {o : MO} (h : RO K G ρ H a o) : ∃ u, H a = some u ∧ ((∃ xs, u = .lst xs) ∨ ∃ ob xs, u = .frz ob (.lst xs)) := by
  cases o with
  | lst l => obtain ⟨xs, e, _⟩ := h; exact ⟨_, e, .inl ⟨xs, rfl⟩⟩
  | frz l =>
    obtain ⟨xs, e | ⟨ob, e⟩, _⟩ := h
    · exact ⟨_, e, .inl ⟨xs, rfl⟩⟩
    · exact ⟨_, e, .inr ⟨ob, xs, rfl⟩⟩
theorem RO.ext {K : PySem.W.Frag} {G : Gs} {ρ ρ' : List Addr} {H H' : Hp} {a : Addr} {o : MO} (h : RO K G ρ H a o) (e : Ext ρ H ρ' H') (k : H' a = H a) : RO K G ρ' H' a o := by
  cases o with
  | lst l => obtain ⟨xs, q, r⟩ := h; exact ⟨xs, k.trans q, r.ext e⟩
  | frz l => obtain ⟨xs, q, r⟩ := h; exact ⟨xs, q.at k, r.ext e⟩
theorem RO.more {K : PySem.W.Frag} {G : Gs} {ρ ρ' : List Addr} {H : Hp} {a : Addr} {o : MO} (h : RO K G ρ H a o) (e : ∀ {n : Nat} {b : Addr}, ρ[n]? = some b → ρ'[n]? = some b) : RO K G ρ' H a o := by
  cases o with
  | lst l => obtain ⟨xs, q, r⟩ := h; exact ⟨xs, q, RVs.more e _ _ r⟩
  | frz l => obtain ⟨xs, q, r⟩ := h; exact ⟨xs, q, RVs.more e _ _ r⟩
theorem Rep.lst {K : PySem.W.Frag} {G : Gs} {ρ : List Addr} {hh : Hh} {H : Hp} (rep : Rep K G ρ hh H) {n : Nat} {l : List D} (h : hh[n]? = some (.lst l)) : ∃ a xs, ρ[n]? = some a ∧ H a = some (.lst xs) ∧ RVs K G ρ H l xs := by
  obtain ⟨a, e, xs, q, r⟩ := rep.ob n _ h
  exact ⟨a, xs, e, q, r⟩
/-- a list object is stored into -/
theorem Rep.set {K : PySem.W.Frag} {G : Gs} {ρ : List Addr} {hh : Hh} {H : Hp} (rep : Rep K G ρ hh H) {n : Nat} {a : Addr} {l l' : List D} {xs ys : List V} (hn : hh[n]? = some (.lst l)) (ha : ρ[n]? = some a) (hx : H a = some (.lst xs)) (hy : RVs K G ρ H l' ys) :
    Rep K G ρ (hh.set n (.lst l')) (upd H a (.lst ys)) ∧ Ext ρ H ρ (upd H a (.lst ys)) := by
  have e : Ext ρ H ρ (L2.upd H a (.lst ys)) := Ext.upd hx (List.mem_of_getElem? ha)
  refine ⟨⟨by rw [List.length_set]; exact rep.len, rep.nd, fun m o hm => ?_, fun P hP => ?_⟩, e⟩
  · by_cases hmn : n = m
    · subst hmn
      rw [List.getElem?_set_self (List.getElem?_eq_some_iff.mp hn).1] at hm
      cases hm
      exact ⟨a, ha, ys, upd_same, hy.ext e⟩
    · rw [List.getElem?_set_ne hmn] at hm
      obtain ⟨b, e1, e2⟩ := rep.ob m o hm
      have nb : b ≠ a := by rintro rfl; exact hmn (nodup_at rep.nd ha e1)
      exact ⟨b, e1, e2.ext e (upd_ne nb)⟩
  · obtain ⟨ps, e1, e2⟩ := rep.tb P hP
    refine ⟨ps, ?_, e2⟩
    rw [upd_ne]
    · exact e1
    · rintro rfl; rw [hx] at e1; cases e1
/-- a new object that is not counted (a tuple, a list that is used up) -/
theorem Rep.side {K : PySem.W.Frag} {G : Gs} {ρ : List Addr} {hh : Hh} {H : Hp} (rep : Rep K G ρ hh H) {a : Addr} {o : HO} (h : H a = none) : Rep K G ρ hh (upd H a o) := by
  have e : Ext ρ H ρ (L2.upd H a o) := Ext.laid h
  refine ⟨rep.len, rep.nd, fun m ob hm => ?_, fun P hP => ?_⟩
  · obtain ⟨b, e1, e2⟩ := rep.ob m ob hm
    obtain ⟨u, hu, _⟩ := e2.at
    exact ⟨b, e1, e2.ext e (upd_ne (ne_of_none hu h))⟩
  · obtain ⟨ps, e1, e2⟩ := rep.tb P hP
    exact ⟨ps, by rw [upd_ne (ne_of_none e1 h)]; exact e1, e2⟩
/-- a list that stands at a and isn't counted yet is counted -/
theorem Rep.count {K : PySem.W.Frag} {G : Gs} {ρ : List Addr} {hh : Hh} {H : Hp} (rep : Rep K G ρ hh H) {a : Addr} {l : List D} {xs : List V} (h : H a = some (.lst xs)) (ha : a ∉ ρ) (hx : RVs K G ρ H l xs) :
    Rep K G (ρ ++ [a]) (hh ++ [.lst l]) H := by
  have get : ∀ {n : Nat} {b : Addr}, ρ[n]? = some b → (ρ ++ [a])[n]? = some b := fun {n b} h => by
    rw [List.getElem?_append_left (List.getElem?_eq_some_iff.mp h).1]; exact h
  have get' : ∀ {H : Hp} (d : D) (v : V), RV K G ρ H d v → RV K G (ρ ++ [a]) H d v := fun {H} d v h => RV.more get d v h
  refine ⟨by simp [rep.len], ?_, fun m ob hm => ?_, rep.tb⟩
  · exact List.nodup_append.mpr ⟨rep.nd, by simp, fun x hx y hy z => ha (by simp at hy; rw [← hy, ← z]; exact hx)⟩
  · by_cases hl : m < hh.length
    · rw [List.getElem?_append_left hl] at hm
      obtain ⟨b, e1, e2⟩ := rep.ob m ob hm
      exact ⟨b, get e1, e2.more get⟩
    · rw [List.getElem?_append_right (by omega)] at hm
      have : m - hh.length = 0 := by
        have := (List.getElem?_eq_some_iff.mp hm).1
        simp at this
        omega
      rw [this] at hm
      cases hm
      refine ⟨a, ?_, xs, h, RVs.more get _ _ hx⟩
      rw [List.getElem?_append_right (by rw [rep.len]; omega), rep.len, this]
      rfl
theorem Rep.notin {K : PySem.W.Frag} {G : Gs} {ρ : List Addr} {hh : Hh} {H : Hp} (rep : Rep K G ρ hh H) {a : Addr} (h : H a = none) : a ∉ ρ := fun hm => by
  obtain ⟨i, hi, e⟩ := List.getElem_of_mem hm
  have hl : i < hh.length := by rw [← rep.len]; exact hi
  obtain ⟨b, e1, e2⟩ := rep.ob i _ (List.getElem?_eq_getElem hl)
  rw [List.getElem?_eq_getElem hi] at e1
  obtain ⟨u, hu, _⟩ := e2.at
  cases e1
  rw [e, h] at hu
  cases hu

/-- the slots -/
structure RE (K : PySem.W.Frag) (G : Gs) (ρ : List Addr) (H : Hp) (env : Env) (σ : L2.St) : Prop where
  len : env.length = σ.length
  at' : ∀ (i : Nat) (d : D), env[i]? = some (some d) → ∃ v, σ[i]? = some (some v) ∧ RV K G ρ H d v
theorem RE.ext {K : PySem.W.Frag} {G : Gs} {ρ ρ' : List Addr} {H H' : Hp} {env : Env} {σ : L2.St} (r : RE K G ρ H env σ) (e : Ext ρ H ρ' H') : RE K G ρ' H' env σ :=
  ⟨r.len, fun i d h => let ⟨v, e1, e2⟩ := r.at' i d h; ⟨v, e1, RV.ext e d v e2⟩⟩
theorem RE.set {K : PySem.W.Frag} {G : Gs} {ρ : List Addr} {H : Hp} {env : Env} {σ : L2.St} (r : RE K G ρ H env σ) (i : Nat) {d : D} {v : V} (h : RV K G ρ H d v) : RE K G ρ H (env.set i (some d)) (σ.set i (some v)) := by
  refine ⟨by rw [List.length_set, List.length_set]; exact r.len, fun j d' hj => ?_⟩
  by_cases e : i = j
  · subst e
    have hi : i < env.length := by
      have := (List.getElem?_eq_some_iff.mp hj).1
      rwa [List.length_set] at this
    rw [List.getElem?_set_self hi] at hj
    cases hj
    exact ⟨v, by rw [List.getElem?_set_self (by rw [← r.len]; exact hi)], h⟩
  · rw [List.getElem?_set_ne e] at hj
    obtain ⟨u, e1, e2⟩ := r.at' j d' hj
    exact ⟨u, by rw [List.getElem?_set_ne e]; exact e1, e2⟩
end DL

set_option Elab.async false
set_option linter.all false
set_option maxRecDepth 100000
set_option maxHeartbeats 4000000
/-! DL2: judgements over data: expressions, arguments, fresh lists, sequences, tests; their rules. -/
namespace DL
open PySem PySem.Spec PyProof.Rows L2

abbrev EΦ := Env → Hh → R D
abbrev LΦ := Env → Hh → R (List D)
abbrev TΦ := Env → Hh → R Bool

/-- an exception as it lies: its class, its own dict -/
def XR (K : PySem.W.Frag) (G : Gs) (ρ : List Addr) (H : Hp) (x : Ex) (cls : Value) (dx : Option Addr) : Prop :=
  cls = .ref (G.clA x.c) ∧ match dx with
    | none => x.fs = []
    | some d => ∃ vs, RVs K G ρ H (x.fs.map (·.2)) vs ∧ H d = some (.xd ((x.fs.map (·.1)).zip vs))

/-- what a result gives: its value's meaning to Q, an exception to W -/
def Sat (K : PySem.W.Frag) (G : Gs) (W : WX) {α β : Type} (rep : Hp → List Addr → Hp → α → β → Prop) (ρ : List Addr) (H : Hp) (σ : L2.St) (Q : β → Hp → Prop) (r : R α) : Prop :=
  r.sat (fun a hh' => ∀ b H' ρ', Ext ρ H ρ' H' → Rep K G ρ' hh' H' → rep H ρ' H' a b → Q b H')
    (fun x hh' => ∀ cls dx H' ρ', Ext ρ H ρ' H' → Rep K G ρ' hh' H' → XR K G ρ' H' x cls dx → W cls dx σ H')
/-- the reading of a function of the slots and the heap -/
def tG (K : PySem.W.Frag) (G : Gs) (W : WX) {α β : Type} (rep : Hp → List Addr → Hp → α → β → Prop) (φ : Env → Hh → R α) : L2.St → Hp → (β → Hp → Prop) → Prop := fun σ H Q =>
  ∃ ρ hh env, Rep K G ρ hh H ∧ RE K G ρ H env σ ∧ Sat K G W rep ρ H σ Q (φ env hh)

section
variable {K : PySem.W.Frag} {G : Gs} {W : WX} {α β γ δ : Type} {rep1 : Hp → List Addr → Hp → α → β → Prop} {rep2 : Hp → List Addr → Hp → γ → δ → Prop} {ρ : List Addr} {hh : Hh} {H : Hp} {σ : L2.St} {env : Env}
/-- rep is kept backwards from a later start -/
def Later {α β : Type} (rep : Hp → List Addr → Hp → α → β → Prop) : Prop := ∀ ρ H ρ1 H1 ρ' H' a b, Ext ρ H ρ1 H1 → Ext ρ1 H1 ρ' H' → rep H1 ρ' H' a b → rep H ρ' H' a b
theorem Sat.later {Q : δ → Hp → Prop} {r : R γ} {ρ1 : List Addr} {H1 : Hp} (l : Later rep2) (e : Ext ρ H ρ1 H1) (h : Sat K G W rep2 ρ H σ Q r) : Sat K G W rep2 ρ1 H1 σ Q r :=
  R.sat_mono h (fun a hh' q b H' ρ' e' rp rb => q b H' ρ' (e.trans e') rp (l _ _ _ _ _ _ _ _ e e' rb)) fun x hh' q cls dx H' ρ' e' rp xr => q cls dx H' ρ' (e.trans e') rp xr
theorem Sat.mk {Q : δ → Hp → Prop} {a : γ} {b : δ} {hh' : Hh} {ρ' : List Addr} {H' : Hp} (h : Sat K G W rep2 ρ H σ Q (.ok a hh')) (e : Ext ρ H ρ' H') (rp : Rep K G ρ' hh' H') (rb : rep2 H ρ' H' a b) : Q b H' := h b H' ρ' e rp rb
theorem Sat.fits {Q : δ → Hp → Prop} {n : Nat} {r : R γ} (h : Sat K G W rep2 ρ H σ Q (DL.fits n r)) : n < sizeLine ∧ Sat K G W rep2 ρ H σ Q r := fits_sat h
/-- one function after another -/
theorem tG.seq {φ : Env → Hh → R α} {k : α → Hh → R γ} {Q : δ → Hp → Prop} {rest : β → Hp → Prop} (l : Later rep2) (rp : Rep K G ρ hh H) (re : RE K G ρ H env σ) (sat : Sat K G W rep2 ρ H σ Q ((φ env hh).bind k))
    (step : ∀ a b ρ1 hh1 H1, Ext ρ H ρ1 H1 → Rep K G ρ1 hh1 H1 → RE K G ρ1 H1 env σ → rep1 H ρ1 H1 a b → Sat K G W rep2 ρ1 H1 σ Q (k a hh1) → rest b H1) : tG K G W rep1 φ σ H rest := by
  refine ⟨ρ, hh, env, rp, re, ?_⟩
  refine R.sat_mono (R.sat_bind sat) (fun a hh1 q b H1 ρ1 e rp1 rb => ?_) fun x hh' q => q
  exact step a b ρ1 hh1 H1 e rp1 (re.ext e) rb (Sat.later l e q)
theorem tG.one {φ : Env → Hh → R γ} {Q : δ → Hp → Prop} (rp : Rep K G ρ hh H) (re : RE K G ρ H env σ) (sat : Sat K G W rep2 ρ H σ Q (φ env hh)) : tG K G W rep2 φ σ H Q := ⟨ρ, hh, env, rp, re, sat⟩
end

def rV (K : PySem.W.Frag) (G : Gs) : Hp → List Addr → Hp → D → V → Prop := fun _ ρ H d v => RV K G ρ H d v
def rVs (K : PySem.W.Frag) (G : Gs) : Hp → List Addr → Hp → List D → List V → Prop := fun _ ρ H d v => RVs K G ρ H d v
/-- a list that was made on the way and that nobody else knows -/
def rL (K : PySem.W.Frag) (G : Gs) : Hp → List Addr → Hp → List D → V → Prop := fun H0 ρ H l v => ∃ a xs, v = .ref a ∧ H a = some (.lst xs) ∧ H0 a = none ∧ a ∉ ρ ∧ RVs K G ρ H l xs
/-- a list that can be read -/
def rR (K : PySem.W.Frag) (G : Gs) : Hp → List Addr → Hp → List D → V → Prop := fun _ ρ H l v => ∃ a xs, v = .ref a ∧ SqL K H a xs ∧ RVs K G ρ H l xs
/-- a list or a tuple that can be read -/
def rQ (K : PySem.W.Frag) (G : Gs) : Hp → List Addr → Hp → List D → V → Prop := fun _ ρ H l v => ∃ a xs, v = .ref a ∧ (SqL K H a xs ∨ SqT K H a xs) ∧ RVs K G ρ H l xs
def rB : Hp → List Addr → Hp → Bool → Bool → Prop := fun _ _ _ a b => a = b
theorem later_V {K : PySem.W.Frag} {G : Gs} : Later (rV K G) := fun _ _ _ _ _ _ _ _ _ _ h => h
theorem later_Vs {K : PySem.W.Frag} {G : Gs} : Later (rVs K G) := fun _ _ _ _ _ _ _ _ _ _ h => h
theorem later_R {K : PySem.W.Frag} {G : Gs} : Later (rR K G) := fun _ _ _ _ _ _ _ _ _ _ h => h
theorem later_Q {K : PySem.W.Frag} {G : Gs} : Later (rQ K G) := fun _ _ _ _ _ _ _ _ _ _ h => h
theorem later_B : Later rB := fun _ _ _ _ _ _ _ _ _ _ h => h
theorem later_L {K : PySem.W.Frag} {G : Gs} : Later (rL K G) := fun ρ H ρ1 H1 ρ' H' a b e e' ⟨p, xs, h1, h2, h3, h4, h5⟩ => ⟨p, xs, h1, h2, e.dom p h3, h4, h5⟩

section
variable (X : Cx) (G : Gs) (W : WX)
structure SE (e : Expr) (φ : EΦ) : Prop where
  pe : PE X e (tG X.K G W (rV X.K G) φ)
structure SA (es : List Expr) (φ : LΦ) : Prop where
  pa : PA X es (tG X.K G W (rVs X.K G) φ)
structure SL (e : Expr) (φ : LΦ) : Prop where
  pe : PE X e (tG X.K G W (rL X.K G) φ)
structure SR (e : Expr) (φ : LΦ) : Prop where
  pe : PE X e (tG X.K G W (rR X.K G) φ)
structure SQ (e : Expr) (φ : LΦ) : Prop where
  pe : PE X e (tG X.K G W (rQ X.K G) φ)
structure ST (e : Expr) (φ : TΦ) : Prop where
  pt : PT X e (tG X.K G W rB φ)
end

theorem PE.weak {X : Cx} {e : Expr} {t t' : TE} (h : PE X e t) (w : ∀ σ H Q, t' σ H Q → t σ H Q) : PE X e t' := ⟨fun pins s σ H Q I q => h.run pins s σ H Q I (w σ H Q q)⟩
theorem PT.weak {X : Cx} {e : Expr} {t t' : TT} (h : PT X e t) (w : ∀ σ H Q, t' σ H Q → t σ H Q) : PT X e t' := ⟨fun pins s σ H Q I q => h.run pins s σ H Q I (w σ H Q q)⟩
theorem PA.weak {X : Cx} {es : List Expr} {t t' : TA} (h : PA X es t) (w : ∀ σ H Q, t' σ H Q → t σ H Q) : PA X es t' := ⟨fun pos pins s σ H Q I q => h.run pos pins s σ H Q I (w σ H Q q)⟩

/-! ### tuples are locked when they are made -/
theorem tupF {P : Program} {w : World} {H : Hp} {h : Heap} {p : Addr} {its : List Value} {xs : List V} (e : h.get? p = some { cls := .type "tuple", data := .seq its.toArray }) (r : Vals xs its) (z : xs.length ≤ sizeLine) :
    ObjOk P w H h p (.frz { cls := .type "tuple", data := .seq its.toArray } (.tup xs)) := ⟨e, z, its, r, ⟨_, e, rfl, _, rfl⟩⟩
/-- what is wanted of a new tuple -/
def NewT (H : Hp) (xs : List V) (Q : VK) : Prop := ∀ p o, H p = none → o.dict = none → Q (.ref p) (upd H p (.frz o (.tup xs)))
def tTupF (t : TA) : TE := fun σ H Q => t σ H fun xs H1 => xs.length ≤ sizeLine ∧ NewT H1 xs Q
theorem pe_tupF {X : Cx} {es : List Expr} {t : TA} {pos : Pos} {x1} (h : PA X es t) : PE X (.Tuple es x1 pos) (tTupF t) := by
  refine ⟨fun pins s σ H Q I hq => ?_⟩
  refine wpAny_Tuple_spliced (thn (h.run pos pins s σ H _ I hq) fun us s1 ⟨xs, H1, I1, r, z, q⟩ => ⟨by rw [← r.length]; exact z, ?_⟩)
  have hf : H1 s1.heap.objs.size = none := I1.hok.fresh (Nat.le_refl _)
  exact ⟨.ref s1.heap.objs.size, _, I1.laid (t' := s1.toks) (fun b u e => Heap.get?_push_of_some _ e) (Nat.le_refl _) (tupF (Heap.get?_push_size _ rfl) r z), rfl, q _ _ hf rfl⟩
/-- t + u -/
def rCatF (K : PySem.W.Frag) : R2 := fun x y H Q => ∃ a b xs ys, x = .ref a ∧ y = .ref b ∧ SqT K H a xs ∧ SqT K H b ys ∧ xs.length + ys.length ≤ sizeLine ∧
  (xs = [] → Q (.ref b) H) ∧ (xs ≠ [] → ys = [] → Q (.ref a) H) ∧ (xs ≠ [] → ys ≠ [] → NewT H (xs ++ ys) Q)
theorem op_catF {X : Cx} : OpR X (binaryOp .Add) (rCatF X.K) := by
  intro pins s σ H x y v u Q I rx ry h
  obtain ⟨a, b, xs, ys, rfl, rfl, ha, hb, hz, q0, q1, q2⟩ := h
  cases rx
  cases ry
  obtain ⟨its, r1, p1, _⟩ := I.tuple ha
  obtain ⟨its2, r2, p2, _⟩ := I.tuple hb
  by_cases hx : xs = []
  · subst hx
    cases r1
    exact cat_tup0 p1 p2 ⟨.ref b, H, I, rfl, q0 rfl⟩
  · refine HT.cat_tup p1 p2 (fun z => hx (r1.nil_iff.mp z)) (fun z => ⟨.ref a, H, I, rfl, q1 hx (r2.nil_iff.mp z)⟩) (fun z => ?_) (by rw [← r1.length, ← r2.length]; exact hz)
    exact ⟨.ref s.heap.objs.size, _, I.laid (t' := s.toks) (fun b ob q => Heap.get?_push_of_some _ q) (Nat.le_refl _) (tupF (Heap.get?_push_size _ rfl) (r1.append r2) (by rw [List.length_append]; exact hz)), rfl, q2 hx (fun w => z (r2.nil_iff.mpr w)) _ _ (I.hok.fresh (Nat.le_refl _)) rfl⟩
/-- t[lo:hi]: the whole of it is t itself -/
def rSlF (K : PySem.W.Frag) : V → Option Int → Option Int → Hp → VK → Prop := fun x lo hi H Q => ∃ a xs, x = .ref a ∧ SqT K H a xs ∧
  (HT.sIx xs.length 0 lo = 0 ∧ HT.sIx xs.length xs.length hi = xs.length → Q (.ref a) H) ∧ (¬ (HT.sIx xs.length 0 lo = 0 ∧ HT.sIx xs.length xs.length hi = xs.length) → NewT H (cutV xs lo hi) Q)
theorem sl_tupF {X : Cx} : SlR X (rSlF X.K) := by
  intro pins s σ H x v vl vu lo hi sl Q I rx hs pl pu h
  obtain ⟨a, xs, rfl, hx, q1, q2⟩ := h
  cases rx
  obtain ⟨its, r, ht, hz⟩ := I.tuple hx
  have hlen : its.toArray.size = xs.length := by rw [List.size_toArray]; exact r.length.symm
  refine ⟨"tuple", _, PyProof.Rows.slot_tuple_getitem.lookup, ht.typeIs, ?_⟩
  by_cases hw : HT.sIx xs.length 0 lo = 0 ∧ HT.sIx xs.length xs.length hi = xs.length
  · exact getItem_tuple_whole ht hs pl pu (by rw [hlen]; exact hw) ⟨.ref a, H, I, rfl, q1 hw⟩
  · refine HT.getItem_tuple_cut ht hs pl pu (by rw [hlen]; exact hw) ?_ (by rw [hlen]; exact hz)
    rw [hlen]
    exact ⟨.ref s.heap.objs.size, _, I.laid (t' := s.toks) (fun b ob q => Heap.get?_push_of_some _ q) (Nat.le_refl _) (tupF (Heap.get?_push_size _ rfl) ((r.drop (HT.sIx xs.length 0 lo)).take (HT.sIx xs.length xs.length hi - HT.sIx xs.length 0 lo)) (Nat.le_trans (cutV_length xs lo hi) hz)), rfl, q2 hw _ _ (I.hok.fresh (Nat.le_refl _)) rfl⟩
/-- tuple(l), tuple(t) -/
theorem call_tupleF {X : Cx} : CallR X (.type "tuple") (fun xs H Q => ∃ p ys, xs = [.ref p] ∧ ((SqL X.K H p ys ∧ NewT H ys Q) ∨ (SqT X.K H p ys ∧ Q (.ref p) H))) := by
  intro pins s σ H xs us Q I r h
  obtain ⟨p, ys, rfl, h⟩ := h
  obtain ⟨u, rfl, ru⟩ := vals1 r
  obtain rfl : u = .ref p := ru
  rcases h with ⟨hs, q⟩ | ⟨hs, q⟩
  · obtain ⟨its, rv, pl, hz⟩ := I.list hs
    refine call_tuple_list pl.isList (fun h' hk => ?_) (by rw [List.size_toArray, ← rv.length]; exact hz)
    have I1 : Inv X pins σ H { s with heap := h' } := I.kept (t' := s.toks) hk
    exact ⟨.ref h'.objs.size, _, I1.laid (t' := s.toks) (fun b o e => Heap.get?_push_of_some _ e) (Nat.le_refl _) (tupF (Heap.get?_push_size _ rfl) rv hz), rfl, q _ _ (I1.hok.fresh (Nat.le_refl _)) rfl⟩
  · obtain ⟨its, rv, pl, hz⟩ := I.tuple hs
    exact call_tuple_tup pl ⟨.ref p, H, I, rfl, q⟩
/-- tuple(range(..)) -/
def tTupRgF (te : L2.St → Hp → (Int → Int → Hp → Prop) → Prop) : TE := fun σ H Q => te σ H fun a b H1 => RgOk a b ∧ NewT H1 (rgV a b) Q
theorem pe_tupRgF {X : Cx} {e : Expr} {te : L2.St → Hp → (Int → Int → Hp → Prop) → Prop} {p pos : Pos} (hc : X.calm = true) (hg : Gl X "tuple") (hm : X.mg "tuple" = none) (he : PRg X e te) (na : starEach [e] X.env = (false, eval e X.env) :: starEach [] X.env := by rfl) : PE X (.Call (.Name "tuple" p) [e] [] pos) (tTupRgF te) := by
  refine ⟨fun pins s σ H Q I h => ?_⟩
  refine Call_ (ld_blt I hg hm boot_tuple (PyProof.Rows.callWith_type1 (args_cons (thn (he pins s σ H _ I h) fun x s1 ⟨r, a, b, t, u, v, H1, ex, hr, I1, ok, q⟩ => args_nil ?_) na) na))
  subst ex
  obtain ⟨b1, b2, b3, b4, b5⟩ := ok
  refine call_tuple_range (n := (b - a).toNat) (I1.ok.hd hc) hr (small_one b1 b2 b3 b4) (rangeSize_nat a b) b5 fun h' tk acc hk hi => ?_
  have I2 : Inv X pins σ H1 { s1 with heap := h', toks := tk } := I1.kept hk
  refine ⟨.ref h'.objs.size, _, I2.laid (t' := tk) (fun c o e => Heap.get?_push_of_some _ e) (Nat.le_refl _) (tupF (its := acc.toList) (Heap.get?_push_size _ rfl) (vals_rg hi) (by rw [rgV_length, sizeLine_eq]; omega)), rfl, q _ _ (I2.hok.fresh (Nat.le_refl _)) rfl⟩

/-! ### the functions -/
def E.var (i : Nat) : EΦ := fun env h => match env[i]? with
  | some (some d) => .ok d h
  | _ => .bad
def E.con (d : D) : EΦ := fun _ h => .ok d h
def L.nil : LΦ := fun _ h => .ok [] h
def L.cons (a : EΦ) (b : LΦ) : LΦ := fun env h => (a env h).bind fun x h => (b env h).bind fun xs h => .ok (x :: xs) h
def E.tup (a : LΦ) : EΦ := fun env h => (a env h).bind fun l h => fits l.length (.ok (.tup l) h)
def L.disp (a : LΦ) : LΦ := fun env h => (a env h).bind fun l h => fits l.length (.ok l h)
/-- a fresh list becomes an object -/
def E.ofL (a : LΦ) : EΦ := fun env h => (a env h).bind fun l h => .ok (.ref h.length) (h ++ [.lst l])
def rdL (h : Hh) : D → R (List D)
  | .ref n => match h[n]? with
    | some (.lst l) => .ok l h
    | some (.frz l) => .ok l h
    | none => .bad
  | _ => .bad
def rdQ (h : Hh) : D → R (List D)
  | .tup l => .ok l h
  | d => rdL h d
def R.of (a : EΦ) : LΦ := fun env h => (a env h).bind fun d h => rdL h d
def Q.of (a : EΦ) : LΦ := fun env h => (a env h).bind fun d h => rdQ h d
def E.op2 (f : D → D → Hh → R D) (a b : EΦ) : EΦ := fun env h => (a env h).bind fun x h => (b env h).bind fun y h => f x y h
def E.op1 (f : D → Hh → R D) (a : EΦ) : EΦ := fun env h => (a env h).bind fun x h => f x h
def E.ifx (t : TΦ) (a b : EΦ) : EΦ := fun env h => (t env h).bind fun c h => if c then a env h else b env h
def E.app (m : List D → Hh → R D) (a : LΦ) : EΦ := fun env h => (a env h).bind m
def truthD (h : Hh) : D → R Bool
  | .non => .ok false h
  | .bl b => .ok b h
  | .int i => .ok (i != 0) h
  | .str s => fits s.length (.ok (s.length != 0) h)
  | .tup l => .ok (!l.isEmpty) h
  | .ref n => (rdL h (.ref n)).bind fun l h => .ok (!l.isEmpty) h
  | .fn _ => .bad
def T.tru (a : EΦ) : TΦ := fun env h => (a env h).bind fun d h => truthD h d
def T.truQ (a : LΦ) : TΦ := fun env h => (a env h).bind fun l h => .ok (!l.isEmpty) h
def T.val (a : EΦ) : TΦ := fun env h => (a env h).bind fun d h => match d with
  | .bl b => .ok b h
  | _ => .bad
def T.and (a b : TΦ) : TΦ := fun env h => (a env h).bind fun c h => if c then b env h else .ok false h
def T.or (a b : TΦ) : TΦ := fun env h => (a env h).bind fun c h => if c then .ok true h else b env h
def T.not (a : TΦ) : TΦ := fun env h => (a env h).bind fun c h => .ok (!c) h
/-- a test as a value (its expression gives a bool) -/
def E.ofT (a : TΦ) : EΦ := fun env h => (a env h).bind fun c h => .ok (.bl c) h
def E.and (a b : EΦ) : EΦ := fun env h => (a env h).bind fun d h => match d with
  | .bl true => b env h
  | .bl false => .ok (.bl false) h
  | _ => .bad
def E.or (a b : EΦ) : EΦ := fun env h => (a env h).bind fun d h => match d with
  | .bl true => .ok (.bl true) h
  | .bl false => b env h
  | _ => .bad

section
variable {X : Cx} {G : Gs} {W : WX} {e a b c : Expr} {es : List Expr} {pos : Pos}

theorem SE.var {i : Nat} {x : Str} (hN : X.N[i]? = some x := by rfl) (hv : Vis X.env.scope x := by first | exact Or.inl rfl | exact Or.inr (Or.inl rfl) | exact Or.inr (Or.inr rfl)) (hd : (x == ("__debug__" : Str)) = false := by decide)
    (hcd : (x == ("__classdict__" : Str)) = false := by decide) : SE X G W (.Name x pos) (E.var i) := by
  refine ⟨PE.weak (pe_var hN hv hd hcd) ?_⟩
  rintro σ H Q ⟨ρ, hh, env, rp, re, sat⟩
  unfold E.var at sat
  split at sat
  · rename_i d hd
    obtain ⟨v, e1, e2⟩ := re.at' _ _ hd
    exact ⟨v, e1, sat.mk (Ext.refl _ _) rp e2⟩
  · exact sat.elim
theorem SE.ofC {v : V} {d : D} (h : PE X e (tC v)) (r : ∀ ρ H, RV X.K G ρ H d v) : SE X G W e (E.con d) := by
  refine ⟨PE.weak h ?_⟩
  rintro σ H Q ⟨ρ, hh, env, rp, re, sat⟩
  exact sat.mk (Ext.refl _ _) rp (r ρ H)
theorem SE.int {i : Int} {j : Nat} : SE X G W (.Constant (.int i) j pos) (E.con (.int i)) := .ofC pe_int fun _ _ => by simp only [RV]
theorem SE.bl {b : Bool} {j : Nat} : SE X G W (.Constant (.bool b) j pos) (E.con (.bl b)) := .ofC pe_bl fun _ _ => by simp only [RV]
theorem SE.non {j : Nat} : SE X G W (.Constant .none j pos) (E.con .non) := .ofC pe_non fun _ _ => by simp only [RV]
theorem SE.str {x : Str} {j : Nat} : SE X G W (.Constant (.str x) j pos) (E.con (.str x)) := .ofC pe_str fun _ _ => by simp only [RV]
/-- a name of the module -/
theorem SE.glob {x : Str} {v : V} {u : Value} {d : D} (hg : Gl X x) (hm : X.mg x = some u) (r : RelV v u) (rd : ∀ ρ H, RV X.K G ρ H d v) (hd : (x == ("__debug__" : Str)) = false := by decide) : SE X G W (.Name x pos) (E.con d) :=
  .ofC (pe_glob hg hm r hd) rd

/-- a new tuple -/
theorem newT {K : PySem.W.Frag} {ρ : List Addr} {hh : Hh} {H : Hp} {σ : L2.St} {Q : VK} {l : List D} {xs : List V} (rp : Rep K G ρ hh H) (sat : Sat K G W (rV K G) ρ H σ Q (.ok (.tup l) hh)) (rxs : RVs K G ρ H l xs) : NewT H xs Q := fun p o hp hd => by
  refine sat.mk (Ext.laid hp) (rp.side hp) ?_
  show RV K G ρ _ (.tup l) (.ref p)
  simp only [RV]
  exact ⟨p, xs, rfl, .inl ⟨o, upd_same, hd⟩, RVs.ext (Ext.laid hp) _ _ rxs⟩
theorem SA.nil : SA X G W [] L.nil := by
  refine ⟨PA.weak pa_nil ?_⟩
  rintro σ H Q ⟨ρ, hh, env, rp, re, sat⟩
  exact sat.mk (Ext.refl _ _) rp RVs.nil
theorem SA.cons {φ : EΦ} {ψ : LΦ} (ha : SE X G W e φ) (hr : SA X G W es ψ) (hs : starEach (e :: es) X.env = (false, eval e X.env) :: starEach es X.env := by rfl) : SA X G W (e :: es) (L.cons φ ψ) := by
  refine ⟨PA.weak (pa_cons ha.pe hr.pa hs) ?_⟩
  rintro σ H Q ⟨ρ, hh, env, rp, re, sat⟩
  refine tG.seq later_Vs rp re sat fun x v ρ1 hh1 H1 e1 rp1 re1 rx sat1 => ?_
  refine tG.seq later_Vs rp1 re1 sat1 fun xs vs ρ2 hh2 H2 e2 rp2 re2 rxs sat2 => ?_
  exact sat2.mk (Ext.refl _ _) rp2 (.cons (RV.ext e2 _ _ rx) rxs)
theorem SE.tup {φ : LΦ} {k : Nat} (h : SA X G W es φ) : SE X G W (.Tuple es k pos) (E.tup φ) := by
  refine ⟨PE.weak (pe_tupF h.pa) ?_⟩
  rintro σ H Q ⟨ρ, hh, env, rp, re, sat⟩
  refine tG.seq later_V rp re sat fun l xs ρ1 hh1 H1 e1 rp1 re1 rxs sat1 => ?_
  obtain ⟨hz, sat1⟩ := Sat.fits sat1
  have hl : xs.length = l.length := RVs.length rxs
  exact ⟨by rw [hl]; exact Nat.le_of_lt hz, newT rp1 sat1 rxs⟩
theorem SL.disp {φ : LΦ} (h : SA X G W es φ) : SL X G W (.List es pos) (L.disp φ) := by
  refine ⟨PE.weak (pe_lst h.pa) ?_⟩
  rintro σ H Q ⟨ρ, hh, env, rp, re, sat⟩
  refine tG.seq later_L rp re sat fun l xs ρ1 hh1 H1 e1 rp1 re1 rxs sat1 => ?_
  obtain ⟨hz, sat1⟩ := fits_sat sat1
  have hl : xs.length = l.length := RVs.length rxs
  refine ⟨by rw [hl]; exact Nat.le_of_lt hz, fun p hp => ?_⟩
  exact Sat.mk sat1 (Ext.laid hp) (rp1.side hp) ⟨p, xs, rfl, upd_same, hp, rp1.notin hp, RVs.ext (Ext.laid hp) _ _ rxs⟩
theorem SE.ofL {φ : LΦ} (h : SL X G W e φ) : SE X G W e (E.ofL φ) := by
  refine ⟨PE.weak h.pe ?_⟩
  rintro σ H Q ⟨ρ, hh, env, rp, re, sat⟩
  refine ⟨ρ, hh, env, rp, re, ?_⟩
  refine R.sat_mono (R.sat_bind sat) (fun l hh1 q v H1 ρ1 e1 rp1 rl => ?_) fun x hh' q => q
  obtain ⟨p, xs, rfl, hp, h0, hn, rxs⟩ := rl
  have get : ∀ {n : Nat} {b : Addr}, ρ1[n]? = some b → (ρ1 ++ [p])[n]? = some b := fun {n b} h => by
    rw [List.getElem?_append_left (List.getElem?_eq_some_iff.mp h).1]; exact h
  refine q (.ref p) H1 (ρ1 ++ [p]) ?_ (rp1.count hp hn rxs) ?_
  · obtain ⟨m, em, fm⟩ := e1.pre
    exact ⟨⟨m ++ [p], by rw [em, List.append_assoc], fun b hb => (List.mem_append.mp hb).elim (fm b) fun hb => by simp at hb; rw [hb]; exact h0⟩, e1.tups, e1.frzs, e1.side, e1.dom⟩
  · show RV X.K G (ρ1 ++ [p]) H1 (.ref hh1.length) (.ref p)
    simp only [RV]
    refine ⟨p, rfl, ?_⟩
    rw [List.getElem?_append_right (by rw [rp1.len]; exact Nat.le_refl _), rp1.len, Nat.sub_self]
    rfl
theorem rdL_ok {K : PySem.W.Frag} {ρ : List Addr} {hh : Hh} {H : Hp} {α β : Type} {d : D} {v : V} (rp : Rep K G ρ hh H) (r : RV K G ρ H d v) {P : List D → Hh → Prop} {E : Ex → Hh → Prop} (h : (rdL hh d).sat P E) :
    ∃ l a xs, v = .ref a ∧ SqL K H a xs ∧ RVs K G ρ H l xs ∧ P l hh := by
  unfold rdL at h
  split at h
  · rename_i n
    simp only [RV] at r
    obtain ⟨a, rfl, ha⟩ := r
    split at h
    · rename_i l hn
      obtain ⟨b, e1, xs, e2, e3⟩ := rp.ob _ _ hn
      rw [ha] at e1; cases e1
      exact ⟨l, a, xs, rfl, .inl (.inl e2), e3, h⟩
    · rename_i l hn
      obtain ⟨b, e1, xs, e2, e3⟩ := rp.ob _ _ hn
      rw [ha] at e1; cases e1
      exact ⟨l, a, xs, rfl, .inl e2, e3, h⟩
    · exact h.elim
  · exact h.elim
theorem rdQ_ok {K : PySem.W.Frag} {ρ : List Addr} {hh : Hh} {H : Hp} {d : D} {v : V} (rp : Rep K G ρ hh H) (r : RV K G ρ H d v) {P : List D → Hh → Prop} {E : Ex → Hh → Prop} (h : (rdQ hh d).sat P E) :
    ∃ l a xs, v = .ref a ∧ (SqL K H a xs ∨ SqT K H a xs) ∧ RVs K G ρ H l xs ∧ P l hh := by
  unfold rdQ at h
  split at h
  · rename_i l
    simp only [RV] at r
    obtain ⟨a, xs, rfl, e1, e2⟩ := r
    exact ⟨l, a, xs, rfl, .inr e1.sqT, e2, h⟩
  · obtain ⟨l, a, xs, h1, h2, h3, h4⟩ := rdL_ok (α := Unit) (β := Unit) rp r h
    exact ⟨l, a, xs, h1, .inl h2, h3, h4⟩
theorem SR.ofE {φ : EΦ} (h : SE X G W e φ) : SR X G W e (R.of φ) := by
  refine ⟨PE.weak h.pe ?_⟩
  rintro σ H Q ⟨ρ, hh, env, rp, re, sat⟩
  refine tG.seq later_R rp re sat fun d v ρ1 hh1 H1 e1 rp1 re1 rd sat1 => ?_
  obtain ⟨l, p, xs, rfl, h1, h2, h3⟩ := rdL_ok (α := Unit) (β := Unit) rp1 rd sat1
  exact h3 _ _ _ (Ext.refl _ _) rp1 ⟨p, xs, rfl, h1, h2⟩
theorem SQ.ofE {φ : EΦ} (h : SE X G W e φ) : SQ X G W e (Q.of φ) := by
  refine ⟨PE.weak h.pe ?_⟩
  rintro σ H Q ⟨ρ, hh, env, rp, re, sat⟩
  refine tG.seq later_Q rp re sat fun d v ρ1 hh1 H1 e1 rp1 re1 rd sat1 => ?_
  obtain ⟨l, p, xs, rfl, h1, h2, h3⟩ := rdQ_ok rp1 rd sat1
  exact h3 _ _ _ (Ext.refl _ _) rp1 ⟨p, xs, rfl, h1, h2⟩
theorem SR.ofL {φ : LΦ} (h : SL X G W e φ) : SR X G W e φ := by
  refine ⟨PE.weak h.pe ?_⟩
  rintro σ H Q ⟨ρ, hh, env, rp, re, sat⟩
  refine ⟨ρ, hh, env, rp, re, R.sat_mono sat (fun l hh1 q v H1 ρ1 e1 rp1 rl => ?_) fun x hh' q => q⟩
  obtain ⟨p, xs, rfl, hp, h0, hn, rxs⟩ := rl
  exact q _ _ _ e1 rp1 ⟨p, xs, rfl, .inl (.inl hp), rxs⟩
theorem SQ.ofR {φ : LΦ} (h : SR X G W e φ) : SQ X G W e φ := by
  refine ⟨PE.weak h.pe ?_⟩
  rintro σ H Q ⟨ρ, hh, env, rp, re, sat⟩
  refine ⟨ρ, hh, env, rp, re, R.sat_mono sat (fun l hh1 q v H1 ρ1 e1 rp1 rl => ?_) fun x hh' q => q⟩
  obtain ⟨p, xs, rfl, hp, rxs⟩ := rl
  exact q _ _ _ e1 rp1 ⟨p, xs, rfl, .inl hp, rxs⟩
theorem SQ.ofL {φ : LΦ} (h : SL X G W e φ) : SQ X G W e φ := .ofR (.ofL h)

/-! ### operators by values -/
/-- what an operation of values gives: no exception -/
def rOp (K : PySem.W.Frag) (G : Gs) (f : D → D → Hh → R D) : R2 := fun x y H Q => ∃ ρ hh dx dy, Rep K G ρ hh H ∧ RV K G ρ H dx x ∧ RV K G ρ H dy y ∧ Sat K G (fun _ _ _ _ => False) (rV K G) ρ H [] Q (f dx dy hh)
structure SOp (X : Cx) (G : Gs) (op : Value → Value → Sem Value) (f : D → D → Hh → R D) : Prop where
  op : OpR X op (rOp X.K G f)
  nox : ∀ x y h, ∀ e h', f x y h ≠ .exc e h'
theorem Sat.nox {K : PySem.W.Frag} {G : Gs} {W W' : WX} {α β : Type} {rep : Hp → List Addr → Hp → α → β → Prop} {ρ : List Addr} {H : Hp} {σ σ' : L2.St} {Q : β → Hp → Prop} {r : R α} (h : Sat K G W rep ρ H σ Q r) (n : ∀ e h', r ≠ .exc e h') : Sat K G W' rep ρ H σ' Q r := by
  cases r with
  | ok a hh => exact h
  | exc x hh => exact (n x hh rfl).elim
  | bad => exact h
theorem SE.bin {op : Operator} {f : D → D → Hh → R D} {φ ψ : EΦ} (ho : SOp X G (binaryOp op) f) (ha : SE X G W a φ) (hb : SE X G W b ψ) : SE X G W (.BinOp a op b pos) (E.op2 f φ ψ) := by
  refine ⟨PE.weak (pe_op ho.op ha.pe hb.pe) ?_⟩
  rintro σ H Q ⟨ρ, hh, env, rp, re, sat⟩
  refine tG.seq later_V rp re sat fun x v ρ1 hh1 H1 e1 rp1 re1 rx sat1 => ?_
  refine tG.seq later_V rp1 re1 sat1 fun y u ρ2 hh2 H2 e2 rp2 re2 ry sat2 => ?_
  exact ⟨ρ2, hh2, x, y, rp2, RV.ext e2 _ _ rx, ry, sat2.nox (ho.nox _ _ _)⟩
theorem SE.cmp {op : CmpOp} {f : D → D → Hh → R D} {φ ψ : EΦ} (ho : SOp X G (compareOp op) f) (ha : SE X G W a φ) (hb : SE X G W b ψ) (hm : behindInMarks op b = false := by first | exact nomark _ | rfl) : SE X G W (.Compare a [op] [b] pos) (E.op2 f φ ψ) := by
  refine ⟨PE.weak (pe_cmpR ho.op ha.pe hb.pe hm) ?_⟩
  rintro σ H Q ⟨ρ, hh, env, rp, re, sat⟩
  refine tG.seq later_V rp re sat fun x v ρ1 hh1 H1 e1 rp1 re1 rx sat1 => ?_
  refine tG.seq later_V rp1 re1 sat1 fun y u ρ2 hh2 H2 e2 rp2 re2 ry sat2 => ?_
  exact ⟨ρ2, hh2, x, y, rp2, RV.ext e2 _ _ rx, ry, sat2.nox (ho.nox _ _ _)⟩
theorem ST.cmp {op : CmpOp} {f : D → D → Hh → R D} {φ ψ : EΦ} (ho : SOp X G (compareOp op) f) (ha : SE X G W a φ) (hb : SE X G W b ψ) (hm : behindInMarks op b = false := by first | exact nomark _ | rfl) : ST X G W (.Compare a [op] [b] pos) (T.val (E.op2 f φ ψ)) := by
  refine ⟨PT.weak (pt_cmpR ho.op ha.pe hb.pe hm) ?_⟩
  rintro σ H Q ⟨ρ, hh, env, rp, re, sat⟩
  have sat' : Sat X.K G W rB ρ H σ Q ((φ env hh).bind fun x h => (ψ env h).bind fun y h => (f x y h).bind fun d h => match d with
    | .bl b => .ok b h
    | _ => .bad) := by
    have : ∀ {α β γ : Type} (r : R α) (k : α → Hh → R β) (l : β → Hh → R γ), (r.bind k).bind l = r.bind fun a h => (k a h).bind l := by
      intro α β γ r k l; cases r <;> rfl
    unfold T.val E.op2 at sat
    simp only [this] at sat
    exact sat
  refine tG.seq later_B rp re sat' fun x v ρ1 hh1 H1 e1 rp1 re1 rx sat1 => ?_
  refine tG.seq later_B rp1 re1 sat1 fun y u ρ2 hh2 H2 e2 rp2 re2 ry sat2 => ?_
  refine ⟨ρ2, hh2, x, y, rp2, RV.ext e2 _ _ rx, ry, ?_⟩
  cases q : f x y hh2 with
  | ok d hh3 =>
    rw [q] at sat2
    intro v3 H3 ρ3 e3 rp3 r3
    cases d with
    | bl k =>
      have r3' : v3 = .bl k := by simpa [rV, RV] using r3
      exact ⟨k, r3', sat2 k H3 ρ3 e3 rp3 rfl⟩
    | _ => exact sat2.elim
  | exc x2 hh3 => exact (ho.nox _ _ _ _ _ q).elim
  | bad => rw [q] at sat2; exact sat2.elim
theorem ST.tru {φ : EΦ} (ha : SE X G W a φ) (he : ∀ whole, isTrue a X.env whole = (do let v ← whole; standAt a.pos; holding [v] (truthy v)) := by intro _; rfl) : ST X G W a (T.tru φ) := by
  refine ⟨PT.weak (pt_truth ha.pe he) ?_⟩
  rintro σ H Q ⟨ρ, hh, env, rp, re, sat⟩
  refine tG.seq later_B rp re sat fun d v ρ1 hh1 H1 e1 rp1 re1 rd sat1 => ?_
  have rd' : RV X.K G ρ1 H1 d v := rd
  cases d with
  | non => simp only [RV] at rd'; subst rd'; exact ⟨false, rfl, sat1.mk (Ext.refl _ _) rp1 rfl⟩
  | bl k => simp only [RV] at rd'; subst rd'; exact ⟨k, rfl, sat1.mk (Ext.refl _ _) rp1 rfl⟩
  | int i => simp only [RV] at rd'; subst rd'; exact ⟨_, rfl, sat1.mk (Ext.refl _ _) rp1 rfl⟩
  | str s =>
    simp only [RV] at rd'; subst rd'
    obtain ⟨hz, sat1⟩ := fits_sat sat1
    refine ⟨_, ⟨Nat.le_of_lt hz, rfl⟩, Sat.mk sat1 (Ext.refl _ _) rp1 ?_⟩
    show (s.length != 0) = ((s.length : Int) != 0)
    cases s.length <;> rfl
  | tup l =>
    simp only [RV] at rd'
    obtain ⟨p, xs, rfl, e2, e3⟩ := rd'
    refine ⟨!xs.isEmpty, .inr (.inl ⟨xs, e2.sqT, rfl⟩), sat1.mk (Ext.refl _ _) rp1 ?_⟩
    have := e3.length
    show (!l.isEmpty) = !xs.isEmpty
    cases l <;> cases xs <;> simp_all
  | ref n =>
    obtain ⟨l, p, xs, rfl, h1, h2, h3⟩ := rdL_ok (α := Unit) (β := Unit) rp1 rd (R.sat_bind sat1)
    refine ⟨!xs.isEmpty, .inl ⟨xs, h1, rfl⟩, h3 _ _ _ (Ext.refl _ _) rp1 ?_⟩
    have := h2.length
    show (!l.isEmpty) = !xs.isEmpty
    cases l <;> cases xs <;> simp_all
  | fn n => exact sat1.elim
theorem ST.truQ {φ : LΦ} (ha : SQ X G W a φ) (he : ∀ whole, isTrue a X.env whole = (do let v ← whole; standAt a.pos; holding [v] (truthy v)) := by intro _; rfl) : ST X G W a (T.truQ φ) := by
  refine ⟨PT.weak (pt_truth ha.pe he) ?_⟩
  rintro σ H Q ⟨ρ, hh, env, rp, re, sat⟩
  refine tG.seq later_B rp re sat fun l v ρ1 hh1 H1 e1 rp1 re1 rd sat1 => ?_
  obtain ⟨p, xs, rfl, h1, h2⟩ := rd
  have hlen := h2.length
  have : (!l.isEmpty) = !xs.isEmpty := by cases l <;> cases xs <;> simp_all
  rcases h1 with h1 | h1
  · exact ⟨!xs.isEmpty, .inl ⟨xs, h1, rfl⟩, sat1.mk (Ext.refl _ _) rp1 this⟩
  · exact ⟨!xs.isEmpty, .inr (.inl ⟨xs, h1, rfl⟩), sat1.mk (Ext.refl _ _) rp1 this⟩
theorem ST.val {φ : EΦ} (ha : SE X G W a φ) (he : ∀ whole, isTrue a X.env whole = (do let v ← whole; standAt a.pos; holding [v] (truthy v)) := by intro _; rfl) : ST X G W a (T.val φ) := by
  refine ⟨PT.weak (pt_val ha.pe he) ?_⟩
  rintro σ H Q ⟨ρ, hh, env, rp, re, sat⟩
  refine tG.seq later_B rp re sat fun d v ρ1 hh1 H1 e1 rp1 re1 rd sat1 => ?_
  have rd' : RV X.K G ρ1 H1 d v := rd
  cases d with
  | bl k => simp only [RV] at rd'; subst rd'; exact ⟨k, rfl, sat1.mk (Ext.refl _ _) rp1 rfl⟩
  | _ => exact sat1.elim
theorem ST.not {φ : TΦ} (ha : ST X G W a φ) : ST X G W (.UnaryOp .Not a pos) (T.not φ) := by
  refine ⟨PT.weak (pt_not ha.pt) ?_⟩
  rintro σ H Q ⟨ρ, hh, env, rp, re, sat⟩
  refine tG.seq later_B rp re sat fun d v ρ1 hh1 H1 e1 rp1 re1 rd sat1 => ?_
  have : d = v := rd
  subst this
  exact sat1.mk (Ext.refl _ _) rp1 rfl
/-- chains of and, or -/
structure SW (X : Cx) (G : Gs) (W : WX) (e : Expr) (φ : TΦ) : Prop where
  pw : PW X e (tG X.K G W rB φ)
theorem PW.weak {X : Cx} {e : Expr} {t t' : TT} (h : PW X e t) (w : ∀ σ H Q, t' σ H Q → t σ H Q) : PW X e t' := ⟨fun wh pins s σ H Q I q => h.run wh pins s σ H Q I (w σ H Q q)⟩
theorem SW.st {φ : TΦ} (h : SW X G W e φ) : ST X G W e φ := ⟨h.pw.pt⟩
theorem SW.and1 {φ : TΦ} (ha : ST X G W a φ) : SW X G W (.BoolOp .And [a] pos) φ := ⟨pw_and1 ha.pt⟩
theorem SW.or1 {φ : TΦ} (ha : ST X G W a φ) : SW X G W (.BoolOp .Or [a] pos) φ := ⟨pw_or1 ha.pt⟩
theorem SW.and {φ ψ : TΦ} {rest : List Expr} (ha : ST X G W a φ) (hb : SW X G W (.BoolOp .And (b :: rest) pos) ψ) : SW X G W (.BoolOp .And (a :: b :: rest) pos) (T.and φ ψ) := by
  refine ⟨PW.weak (pw_and ha.pt hb.pw) ?_⟩
  rintro σ H Q ⟨ρ, hh, env, rp, re, sat⟩
  refine tG.seq later_B rp re sat fun d v ρ1 hh1 H1 e1 rp1 re1 rd sat1 => ?_
  have : d = v := rd
  subst this
  cases d with
  | true => exact iteT ⟨ρ1, hh1, env, rp1, re1, sat1⟩
  | false => exact iteF (Sat.mk sat1 (Ext.refl _ _) rp1 rfl)
theorem SW.or {φ ψ : TΦ} {rest : List Expr} (ha : ST X G W a φ) (hb : SW X G W (.BoolOp .Or (b :: rest) pos) ψ) : SW X G W (.BoolOp .Or (a :: b :: rest) pos) (T.or φ ψ) := by
  refine ⟨PW.weak (pw_or ha.pt hb.pw) ?_⟩
  rintro σ H Q ⟨ρ, hh, env, rp, re, sat⟩
  refine tG.seq later_B rp re sat fun d v ρ1 hh1 H1 e1 rp1 re1 rd sat1 => ?_
  have : d = v := rd
  subst this
  cases d with
  | true => exact iteT (Sat.mk sat1 (Ext.refl _ _) rp1 rfl)
  | false => exact iteF ⟨ρ1, hh1, env, rp1, re1, sat1⟩
theorem SE.one {op : BoolOp} {φ : EΦ} (ha : SE X G W a φ) : SE X G W (.BoolOp op [a] pos) φ := ⟨pe_one ha.pe⟩
theorem SE.and {φ ψ : EΦ} {rest : List Expr} (ha : SE X G W a φ) (hb : SE X G W (.BoolOp .And (b :: rest) pos) ψ) : SE X G W (.BoolOp .And (a :: b :: rest) pos) (E.and φ ψ) := by
  refine ⟨PE.weak (pe_and ha.pe hb.pe) ?_⟩
  rintro σ H Q ⟨ρ, hh, env, rp, re, sat⟩
  refine tG.seq later_V rp re sat fun d v ρ1 hh1 H1 e1 rp1 re1 rd sat1 => ?_
  have rd' : RV X.K G ρ1 H1 d v := rd
  cases d with
  | bl k =>
    simp only [RV] at rd'
    refine ⟨k, rd', ?_⟩
    cases k with
    | true => exact iteT ⟨ρ1, hh1, env, rp1, re1, sat1⟩
    | false => exact iteF (Sat.mk sat1 (Ext.refl _ _) rp1 (by show RV _ _ _ _ _ _; simp only [RV]))
  | _ => exact sat1.elim
theorem SE.or {φ ψ : EΦ} {rest : List Expr} (ha : SE X G W a φ) (hb : SE X G W (.BoolOp .Or (b :: rest) pos) ψ) : SE X G W (.BoolOp .Or (a :: b :: rest) pos) (E.or φ ψ) := by
  refine ⟨PE.weak (pe_or ha.pe hb.pe) ?_⟩
  rintro σ H Q ⟨ρ, hh, env, rp, re, sat⟩
  refine tG.seq later_V rp re sat fun d v ρ1 hh1 H1 e1 rp1 re1 rd sat1 => ?_
  have rd' : RV X.K G ρ1 H1 d v := rd
  cases d with
  | bl k =>
    simp only [RV] at rd'
    refine ⟨k, rd', ?_⟩
    cases k with
    | true => exact iteT (Sat.mk sat1 (Ext.refl _ _) rp1 (by show RV _ _ _ _ _ _; simp only [RV]))
    | false => exact iteF ⟨ρ1, hh1, env, rp1, re1, sat1⟩
  | _ => exact sat1.elim
/-- not a, as a value -/
theorem SE.not {φ : EΦ} (ha : SE X G W a φ) : SE X G W (.UnaryOp .Not a pos) (E.ofT (T.not (T.val φ))) := by
  refine ⟨PE.weak (pe_not ha.pe) ?_⟩
  rintro σ H Q ⟨ρ, hh, env, rp, re, sat⟩
  have sat' : Sat X.K G W (rV X.K G) ρ H σ Q ((φ env hh).bind fun d h => match d with
    | .bl b => .ok (.bl (!b)) h
    | _ => .bad) := by
    unfold E.ofT T.not T.val at sat
    cases q : φ env hh with
    | ok d h =>
      rw [q] at sat
      cases d <;> exact sat
    | exc x h => rw [q] at sat; exact sat
    | bad => rw [q] at sat; exact sat
  refine tG.seq later_V rp re sat' fun d v ρ1 hh1 H1 e1 rp1 re1 rd sat1 => ?_
  have rd' : RV X.K G ρ1 H1 d v := rd
  cases d with
  | bl k =>
    simp only [RV] at rd'
    exact ⟨k, rd', Sat.mk sat1 (Ext.refl _ _) rp1 (by show RV _ _ _ _ _ _; simp only [RV])⟩
  | _ => exact sat1.elim
theorem SE.ifx {τ : TΦ} {φ ψ : EΦ} (hc : ST X G W c τ) (ha : SE X G W a φ) (hb : SE X G W b ψ) : SE X G W (.IfExp c a b pos) (E.ifx τ φ ψ) := by
  refine ⟨PE.weak (pe_ifExp hc.pt ha.pe hb.pe) ?_⟩
  rintro σ H Q ⟨ρ, hh, env, rp, re, sat⟩
  refine tG.seq later_V rp re sat fun d v ρ1 hh1 H1 e1 rp1 re1 rd sat1 => ?_
  have : d = v := rd
  subst this
  cases d with
  | true => exact iteT ⟨ρ1, hh1, env, rp1, re1, sat1⟩
  | false => exact iteF ⟨ρ1, hh1, env, rp1, re1, sat1⟩
/-! ### is None -/
def D.isN : D → Bool
  | .non => true
  | _ => false
theorem isN_ok {K : PySem.W.Frag} {ρ : List Addr} {H : Hp} {d : D} {v : V} (r : RV K G ρ H d v) : decide (v = .non) = d.isN := by
  cases d <;> simp only [RV] at r
  · subst r; rfl
  · subst r; rfl
  · subst r; rfl
  · subst r; rfl
  · obtain ⟨a, xs, rfl, _⟩ := r; rfl
  · obtain ⟨a, rfl, _⟩ := r; rfl
  · subst r; rfl
theorem SE.isN {φ : EΦ} {j : Nat} {p2 : Pos} (ha : SE X G W a φ) : SE X G W (.Compare a [.Is] [.Constant .none j p2] pos) (E.op1 (fun d h => .ok (.bl d.isN) h) φ) := by
  refine ⟨PE.weak (pe_cmp (pc_isN ha.pe)) ?_⟩
  rintro σ H Q ⟨ρ, hh, env, rp, re, sat⟩
  refine tG.seq later_V rp re sat fun d v ρ1 hh1 H1 e1 rp1 re1 rd sat1 => ?_
  exact sat1.mk (Ext.refl _ _) rp1 (by show RV _ _ _ _ _ _; simp only [RV]; rw [isN_ok rd])
theorem SE.notN {φ : EΦ} {j : Nat} {p2 : Pos} (ha : SE X G W a φ) : SE X G W (.Compare a [.IsNot] [.Constant .none j p2] pos) (E.op1 (fun d h => .ok (.bl (!d.isN)) h) φ) := by
  refine ⟨PE.weak (pe_cmp (pc_notN ha.pe)) ?_⟩
  rintro σ H Q ⟨ρ, hh, env, rp, re, sat⟩
  refine tG.seq later_V rp re sat fun d v ρ1 hh1 H1 e1 rp1 re1 rd sat1 => ?_
  exact sat1.mk (Ext.refl _ _) rp1 (by show RV _ _ _ _ _ _; simp only [RV]; rw [isN_ok rd])
/-- a bool's expression (a comparison) as a test -/
theorem ST.isN {φ : EΦ} {j : Nat} {p2 : Pos} (ha : SE X G W a φ) : ST X G W (.Compare a [.Is] [.Constant .none j p2] pos) (fun env h => (φ env h).bind fun d h => .ok d.isN h) := by
  refine ⟨PT.weak (pt_cmp (pc_isN ha.pe)) ?_⟩
  rintro σ H Q ⟨ρ, hh, env, rp, re, sat⟩
  refine tG.seq later_B rp re sat fun d v ρ1 hh1 H1 e1 rp1 re1 rd sat1 => ?_
  exact ⟨_, rfl, sat1.mk (Ext.refl _ _) rp1 (isN_ok rd).symm⟩
theorem ST.notN {φ : EΦ} {j : Nat} {p2 : Pos} (ha : SE X G W a φ) : ST X G W (.Compare a [.IsNot] [.Constant .none j p2] pos) (fun env h => (φ env h).bind fun d h => .ok (!d.isN) h) := by
  refine ⟨PT.weak (pt_cmp (pc_notN ha.pe)) ?_⟩
  rintro σ H Q ⟨ρ, hh, env, rp, re, sat⟩
  refine tG.seq later_B rp re sat fun d v ρ1 hh1 H1 e1 rp1 re1 rd sat1 => ?_
  exact ⟨_, rfl, sat1.mk (Ext.refl _ _) rp1 (by show (!d.isN) = !decide (v = .non); rw [isN_ok rd])⟩
/-- a chain of two comparisons -/
def E.chain (f g : D → D → Hh → R D) (a b c : EΦ) : EΦ := fun env h => (a env h).bind fun x h => (b env h).bind fun y h => (f x y h).bind fun d h => match d with
  | .bl true => (c env h).bind fun z h => g y z h
  | .bl false => .ok (.bl false) h
  | _ => .bad
theorem SE.chain {op op' : CmpOp} {f g : D → D → Hh → R D} {φ ψ χ : EΦ} (ho : SOp X G (compareOp op) f) (ho' : SOp X G (compareOp op') g) (ha : SE X G W a φ) (hb : SE X G W b ψ) (hc : SE X G W c χ)
    (h : PE X (.Compare a [op, op'] [b, c] pos) (tChain (rOp X.K G f) (rOp X.K G g) (tG X.K G W (rV X.K G) φ) (tG X.K G W (rV X.K G) ψ) (tG X.K G W (rV X.K G) χ))) : SE X G W (.Compare a [op, op'] [b, c] pos) (E.chain f g φ ψ χ) := by
  refine ⟨PE.weak h ?_⟩
  rintro σ H Q ⟨ρ, hh, env, rp, re, sat⟩
  refine tG.seq later_V rp re sat fun x v ρ1 hh1 H1 e1 rp1 re1 rx sat1 => ?_
  refine tG.seq later_V rp1 re1 sat1 fun y u ρ2 hh2 H2 e2 rp2 re2 ry sat2 => ?_
  refine ⟨ρ2, hh2, x, y, rp2, RV.ext e2 _ _ rx, ry, ?_⟩
  cases q : f x y hh2 with
  | ok d hh3 =>
    rw [q] at sat2
    intro v3 H3 ρ3 e3 rp3 r3
    cases d with
    | bl k =>
      have r3' : v3 = .bl k := by simpa [rV, RV] using r3
      refine ⟨k, r3', ?_⟩
      cases k with
      | true =>
        refine iteT ?_
        have sat3 := Sat.later later_V e3 sat2
        refine tG.seq later_V rp3 (re2.ext e3) sat3 fun z w ρ4 hh4 H4 e4 rp4 re4 rz sat4 => ?_
        exact ⟨ρ4, hh4, y, z, rp4, RV.ext e4 _ _ (RV.ext e3 _ _ ry), rz, sat4.nox (ho'.nox _ _ _)⟩
      | false =>
        refine iteF ?_
        exact sat2 (.bl false) H3 ρ3 e3 rp3 (by show RV _ _ _ _ _ _; simp only [RV])
    | _ => exact sat2.elim
  | exc x2 hh3 => exact (ho.nox _ _ _ _ _ q).elim
  | bad => rw [q] at sat2; exact sat2.elim
end
end DL

set_option Elab.async false
set_option linter.all false
set_option maxRecDepth 100000
set_option maxHeartbeats 4000000
/-! DL3: operators of data, subscripts, slices, built-ins. -/
namespace DL
open PySem PySem.Spec PyProof.Rows L2

/-! ### equality of data -/
mutual
/-- == of data without objects -/
def D.eqv : D → D → Bool
  | .non, .non => true
  | .bl a, .bl b => a == b
  | .bl a, .int j => (if a then 1 else 0) == j
  | .int i, .bl b => i == (if b then 1 else 0)
  | .int i, .int j => i == j
  | .str x, .str y => x == y
  | .tup xs, .tup ys => D.eqvs xs ys
  | _, _ => false
def D.eqvs : List D → List D → Bool
  | [], [] => true
  | x :: xs, y :: ys => D.eqv x y && D.eqvs xs ys
  | _, _ => false
end
mutual
/-- data without objects, at most n deep, its texts of signs -/
def D.flat : Nat → D → Bool
  | _, .non => true
  | _, .bl _ => true
  | _, .int _ => true
  | _, .str s => PySem.PyData.strOk s
  | 0, .tup _ => false
  | n + 1, .tup l => D.flats n l
  | _, .ref _ => false
  | _, .fn _ => false
def D.flats : Nat → List D → Bool
  | _, [] => true
  | n, d :: l => D.flat n d && D.flats n l
end
mutual
def D.py : D → PyData
  | .non => .none
  | .bl b => .bool b
  | .int i => .int i
  | .str s => .str s
  | .tup l => .tuple (D.pys l)
  | .ref _ => .none
  | .fn _ => .none
def D.pys : List D → List PyData
  | [] => []
  | d :: l => D.py d :: D.pys l
end
mutual
theorem py_depth : ∀ (n : Nat) (d : D), D.flat n d = true → (D.py d).depth ≤ n
  | n, .non, h => by simp [D.py, PyData.depth]
  | n, .bl _, h => by simp [D.py, PyData.depth]
  | n, .int _, h => by simp [D.py, PyData.depth]
  | n, .str _, h => by simp [D.py, PyData.depth]
  | 0, .tup _, h => by simp [D.flat] at h
  | n + 1, .tup l, h => by
    simp only [D.flat] at h
    simp only [D.py, PyData.depth]
    have := pys_depth n l h
    omega
  | n, .ref _, h => by simp [D.py, PyData.depth]
  | n, .fn _, h => by simp [D.py, PyData.depth]
theorem pys_depth : ∀ (n : Nat) (l : List D), D.flats n l = true → PyData.depthAll (D.pys l) ≤ n
  | n, [], h => by simp [D.pys, PyData.depthAll]
  | n, d :: l, h => by
    simp only [D.flats, Bool.and_eq_true] at h
    simp only [D.pys, PyData.depthAll]
    have h1 := py_depth n d h.1
    have h2 := pys_depth n l h.2
    omega
end
mutual
theorem py_lay : ∀ (n : Nat) (d : D), D.flat n d = true → (D.py d).canLay0 = true
  | n, .non, h => by simp [D.py, PyData.canLay0]
  | n, .bl _, h => by simp [D.py, PyData.canLay0]
  | n, .int _, h => by simp [D.py, PyData.canLay0]
  | n, .str _, h => by simpa [D.py, PyData.canLay0, D.flat] using h
  | 0, .tup _, h => by simp [D.flat] at h
  | n + 1, .tup l, h => by
    simp only [D.flat] at h
    simp only [D.py, PyData.canLay0]
    exact pys_lay n l h
  | n, .ref _, h => by simp [D.py, PyData.canLay0]
  | n, .fn _, h => by simp [D.py, PyData.canLay0]
theorem pys_lay : ∀ (n : Nat) (l : List D), D.flats n l = true → PyData.canLayAll0 (D.pys l) = true
  | n, [], h => by simp [D.pys, PyData.canLayAll0]
  | n, d :: l, h => by
    simp only [D.flats, Bool.and_eq_true] at h
    simp only [D.pys, PyData.canLayAll0, Bool.and_eq_true]
    exact ⟨py_lay n d h.1, pys_lay n l h.2⟩
end
theorem py_shaped {n : Nat} {d : D} (h : D.flat n d = true) (hn : n ≤ 64) : SeqAt.shaped (D.py d) = true := by
  unfold SeqAt.shaped
  rw [py_lay n d h, Bool.true_and]
  exact decide_eq_true (Nat.le_trans (py_depth n d h) hn)
mutual
theorem py_eqv : ∀ (n : Nat) (d e : D), D.flat n d = true → D.flat n e = true → PyData.eqv (D.py d) (D.py e) = D.eqv d e
  | n, d, e, hd, he => by
    cases d <;> cases e <;> first
      | (simp [D.py, PyData.eqv, D.eqv]; done)
      | (simp [D.flat] at hd; done)
      | (simp [D.flat] at he; done)
      | (rename_i l1 l2
         cases n with
         | zero => simp [D.flat] at hd
         | succ n =>
           simp only [D.flat] at hd he
           simp only [D.py, PyData.eqv, D.eqv]
           exact pys_eqv n l1 l2 hd he)
theorem pys_eqv : ∀ (n : Nat) (d e : List D), D.flats n d = true → D.flats n e = true → PyData.eqvAll (D.pys d) (D.pys e) = D.eqvs d e
  | n, [], [], _, _ => by simp [D.pys, PyData.eqvAll, D.eqvs]
  | n, [], _ :: _, _, _ => by simp [D.pys, PyData.eqvAll, D.eqvs]
  | n, _ :: _, [], _, _ => by simp [D.pys, PyData.eqvAll, D.eqvs]
  | n, x :: xs, y :: ys, hd, he => by
    simp only [D.flats, Bool.and_eq_true] at hd he
    simp only [D.pys, PyData.eqvAll, D.eqvs]
    rw [py_eqv n x y hd.1 he.1, pys_eqv n xs ys hd.2 he.2]
end
mutual
theorem dp_of {K : PySem.W.Frag} {G : Gs} {ρ : List Addr} {H : Hp} : ∀ (n : Nat) (d : D) (v : V), D.flat n d = true → RV K G ρ H d v → Dp K H v (D.py d)
  | n, .non, v, _, h => by simp only [RV] at h; subst h; exact .non
  | n, .bl _, v, _, h => by simp only [RV] at h; subst h; exact .bl _
  | n, .int _, v, _, h => by simp only [RV] at h; subst h; exact .int _
  | n, .str _, v, _, h => by simp only [RV] at h; subst h; exact .str _
  | 0, .tup _, v, f, h => by simp [D.flat] at f
  | n + 1, .tup l, v, f, h => by
    simp only [RV] at h
    obtain ⟨a, xs, rfl, h1, h2⟩ := h
    simp only [D.flat] at f
    exact .tup h1.sqT (dps_of n l xs f h2)
  | n, .ref _, v, f, h => by simp [D.flat] at f
  | n, .fn _, v, f, h => by simp [D.flat] at f
theorem dps_of {K : PySem.W.Frag} {G : Gs} {ρ : List Addr} {H : Hp} : ∀ (n : Nat) (l : List D) (vs : List V), D.flats n l = true → RVs K G ρ H l vs → DpAll K H vs (D.pys l)
  | n, [], vs, _, h => by rw [h.inv_nil]; exact .nil
  | n, d :: l, vs, f, h => by
    obtain ⟨v, r, rfl, h1, h2⟩ := h.inv_cons
    simp only [D.flats, Bool.and_eq_true] at f
    exact .cons (dp_of n d v f.1 h1) (dps_of n l r f.2 h2)
end
/-- == of two values without objects -/
def D.eq (x y : D) (h : Hh) : R D := if D.flat 32 x && D.flat 32 y then .ok (.bl (D.eqv x y)) h else .bad
def D.ne (x y : D) (h : Hh) : R D := if D.flat 32 x && D.flat 32 y then .ok (.bl (!D.eqv x y)) h else .bad
section
variable {X : Cx} {G : Gs} {W : WX} {e a b c : Expr} {es : List Expr} {pos : Pos}
theorem ite_nox {c : Prop} [Decidable c] {α : Type} {a : α} {h : Hh} : ∀ e h', (if c then (R.ok a h : R α) else .bad) ≠ .exc e h' := by
  intro e h' q
  split at q <;> cases q
theorem sop_eq (hu : X.A.units + 64 < cLine) : SOp X G (compareOp .Eq) D.eq := by
  refine ⟨?_, fun x y h e h' q => ?_⟩
  · intro pins s σ H x y v u Q I rx ry h
    obtain ⟨ρ, hh, dx, dy, rp, r1, r2, sat⟩ := h
    unfold D.eq at sat
    split at sat
    · rename_i hf
      simp only [Bool.and_eq_true] at hf
      refine op_eqD hu pins s σ H x y v u Q I rx ry ⟨_, _, dp_of 32 _ _ hf.1 r1, dp_of 32 _ _ hf.2 r2, py_shaped hf.1 (by decide), py_shaped hf.2 (by decide), ?_⟩
      rw [py_eqv 32 _ _ hf.1 hf.2]
      exact sat.mk (Ext.refl _ _) rp (by show RV _ _ _ _ _ _; simp only [RV])
    · exact sat.elim
  · unfold D.eq at q
    split at q <;> cases q
theorem sop_ne (hu : X.A.units + 64 < cLine) : SOp X G (compareOp .NotEq) D.ne := by
  refine ⟨?_, fun x y h e h' q => ?_⟩
  · intro pins s σ H x y v u Q I rx ry h
    obtain ⟨ρ, hh, dx, dy, rp, r1, r2, sat⟩ := h
    unfold D.ne at sat
    split at sat
    · rename_i hf
      simp only [Bool.and_eq_true] at hf
      refine op_neD hu pins s σ H x y v u Q I rx ry ⟨_, _, dp_of 32 _ _ hf.1 r1, dp_of 32 _ _ hf.2 r2, py_shaped hf.1 (by decide), py_shaped hf.2 (by decide), ?_⟩
      rw [py_eqv 32 _ _ hf.1 hf.2]
      exact sat.mk (Ext.refl _ _) rp (by show RV _ _ _ _ _ _; simp only [RV])
    · exact sat.elim
  · unfold D.ne at q
    split at q <;> cases q
/-- == of two lists (fresh or objects) of values without objects -/
def eqLL (neg : Bool) (l m : List D) (h : Hh) : R D := if D.flats 31 l && D.flats 31 m then .ok (.bl (if neg then !D.eqvs l m else D.eqvs l m)) h else .bad
def E.eqL (neg : Bool) (a b : LΦ) : EΦ := fun env h => (a env h).bind fun x h1 => (b env h1).bind fun y h2 => if h2.length = h2.length then eqLL neg x y h2 else .bad
end
/-! ### arithmetic -/
def D.add : D → D → Hh → R D
  | .int i, .int j, h => .ok (.int (i + j)) h
  | .str a, .str b, h => fits (a.length + b.length) (.ok (.str (a ++ b)) h)
  | .tup a, .tup b, h => fits (a.length + b.length) (.ok (.tup (a ++ b)) h)
  | _, _, _ => .bad
def D.sub : D → D → Hh → R D
  | .int i, .int j, h => .ok (.int (i - j)) h
  | _, _, _ => .bad
/-- written sizes, told by Nat.ble (a kernel must not count them down) -/
def small (i : Int) : Bool := Nat.ble i.natAbs 1000000000000000000
theorem small_iff {i : Int} : small i = true ↔ i.natAbs ≤ 1000000000000000000 := by unfold small; rw [Nat.ble_eq]
def posS : Int → Bool
  | .ofNat (n + 1) => Nat.ble (n + 1) 1000000000
  | _ => false
theorem posS_iff {j : Int} : posS j = true ↔ 0 < j ∧ j ≤ 1000000000 := by
  cases j with
  | ofNat n =>
    cases n with
    | zero => simp [posS]
    | succ n =>
      show Nat.ble (n + 1) 1000000000 = true ↔ _
      rw [Nat.ble_eq]
      simp only [Int.ofNat_eq_natCast]
      omega
  | negSucc n => simp [posS]
def powOk (i : Int) : Int → Bool
  | .ofNat n => Nat.ble n 1000000 && small i
  | _ => false
theorem powOk_ok {i j : Int} (h : powOk i j = true) : 0 ≤ j ∧ j ≤ 1000000 ∧ i.natAbs < 2 ^ 64 := by
  cases j with
  | ofNat n =>
    simp only [powOk, Bool.and_eq_true, small_iff, Nat.ble_eq] at h
    simp only [Int.ofNat_eq_natCast]
    omega
  | negSucc n => cases h
/-- one side of a written size -/
def D.mul : D → D → Hh → R D
  | .int i, .int j, h => if small i || small j then .ok (.int (i * j)) h else .bad
  | _, _, _ => .bad
def D.fdiv : D → D → Hh → R D
  | .int i, .int j, h => if posS j then .ok (.int (i / j)) h else .bad
  | _, _, _ => .bad
def D.mod : D → D → Hh → R D
  | .int i, .int j, h => if 0 < j then .ok (.int (i % j)) h else .bad
  | _, _, _ => .bad
def D.pow : D → D → Hh → R D
  | .int i, .int j, h => if powOk i j then .ok (.int (i ^ j.toNat)) h else .bad
  | _, _, _ => .bad
def D.neg : D → Hh → R D
  | .int i, h => .ok (.int (-i)) h
  | _, _ => .bad
def D.lt : D → D → Hh → R D
  | .int i, .int j, h => .ok (.bl (decide (i < j))) h
  | _, _, _ => .bad
def D.le : D → D → Hh → R D
  | .int i, .int j, h => .ok (.bl (decide (i ≤ j))) h
  | _, _, _ => .bad
def D.gt : D → D → Hh → R D
  | .int i, .int j, h => .ok (.bl (decide (j < i))) h
  | _, _, _ => .bad
def D.ge : D → D → Hh → R D
  | .int i, .int j, h => .ok (.bl (decide (j ≤ i))) h
  | _, _, _ => .bad
section
variable {X : Cx} {G : Gs} {W : WX}
theorem rv_int {K : PySem.W.Frag} {ρ : List Addr} {H : Hp} {i : Int} {v : V} (h : RV K G ρ H (.int i) v) : v = .int i := by simpa only [RV] using h
theorem rv_str {K : PySem.W.Frag} {ρ : List Addr} {H : Hp} {i : Str} {v : V} (h : RV K G ρ H (.str i) v) : v = .str i := by simpa only [RV] using h
theorem rv_bl {K : PySem.W.Frag} {ρ : List Addr} {H : Hp} {i : Bool} {v : V} (h : RV K G ρ H (.bl i) v) : v = .bl i := by simpa only [RV] using h
theorem rv_non {K : PySem.W.Frag} {ρ : List Addr} {H : Hp} {v : V} (h : RV K G ρ H .non v) : v = .non := by simpa only [RV] using h
theorem rv_tup {K : PySem.W.Frag} {ρ : List Addr} {H : Hp} {l : List D} {v : V} (h : RV K G ρ H (.tup l) v) : ∃ a xs, v = .ref a ∧ TupK K H a xs ∧ RVs K G ρ H l xs := by simpa only [RV] using h
theorem mk_int {K : PySem.W.Frag} {ρ : List Addr} {H0 H : Hp} {i : Int} : rV K G H0 ρ H (.int i) (.int i) := by show RV _ _ _ _ _ _; simp only [RV]
theorem mk_str {K : PySem.W.Frag} {ρ : List Addr} {H0 H : Hp} {i : Str} : rV K G H0 ρ H (.str i) (.str i) := by show RV _ _ _ _ _ _; simp only [RV]
theorem mk_bl {K : PySem.W.Frag} {ρ : List Addr} {H0 H : Hp} {i : Bool} : rV K G H0 ρ H (.bl i) (.bl i) := by show RV _ _ _ _ _ _; simp only [RV]
theorem mk_non {K : PySem.W.Frag} {ρ : List Addr} {H0 H : Hp} : rV K G H0 ρ H .non .non := by show RV _ _ _ _ _ _; simp only [RV]
theorem mk_tup {K : PySem.W.Frag} {ρ : List Addr} {H0 H : Hp} {l : List D} {a : Addr} {xs : List V} (h : TupK K H a xs) (r : RVs K G ρ H l xs) : rV K G H0 ρ H (.tup l) (.ref a) := by show RV _ _ _ _ _ _; simp only [RV]; exact ⟨a, xs, rfl, h, r⟩
/-- an operation of two ints -/
theorem sop_ints {op : Value → Value → Sem Value} {f : D → D → Hh → R D} {C : Int → Int → Prop} [∀ i j, Decidable (C i j)] {g : Int → Int → D} {gV : Int → Int → V} (ho : OpR X op (rI C gV))
    (hf : ∀ i j h, f (.int i) (.int j) h = if C i j then .ok (g i j) h else .bad) (hb : ∀ x y h, (∀ i j, ¬ (x = .int i ∧ y = .int j)) → f x y h = .bad) (hg : ∀ i j ρ H H0, rV X.K G H0 ρ H (g i j) (gV i j)) : SOp X G op f := by
  have key : ∀ x y, (∃ i j, x = D.int i ∧ y = D.int j) ∨ (∀ i j, ¬ (x = .int i ∧ y = .int j)) := fun x y => by
    cases x <;> cases y <;> first | exact .inl ⟨_, _, rfl, rfl⟩ | (refine .inr ?_; rintro i j ⟨h1, h2⟩; first | (cases h1; done) | (cases h1; cases h2; done))
  refine ⟨?_, fun x y h e h' q => ?_⟩
  · intro pins s σ H x y v u Q I rx ry h
    obtain ⟨ρ, hh, dx, dy, rp, r1, r2, sat⟩ := h
    rcases key dx dy with ⟨i, j, rfl, rfl⟩ | n
    · rw [hf] at sat
      have e1 := rv_int r1
      have e2 := rv_int r2
      subst e1 e2
      split at sat
      · rename_i hc
        exact ho pins s σ H _ _ v u Q I rx ry ⟨i, j, rfl, rfl, hc, sat.mk (Ext.refl _ _) rp (hg i j _ _ _)⟩
      · exact sat.elim
    · rw [hb dx dy hh n] at sat
      exact sat.elim
  · rcases key x y with ⟨i, j, rfl, rfl⟩ | n
    · rw [hf] at q
      split at q <;> cases q
    · rw [hb x y h n] at q
      cases q
theorem rI_imp {C C' : Int → Int → Prop} {g : Int → Int → V} {op : Value → Value → Sem Value} (h : OpR X op (rI C' g)) (w : ∀ i j, C i j → C' i j) : OpR X op (rI C g) := fun pins s σ H x y v u Q I rx ry ⟨i, j, e1, e2, c, q⟩ => h pins s σ H x y v u Q I rx ry ⟨i, j, e1, e2, w _ _ c, q⟩
theorem rI_true {g : Int → Int → V} {op : Value → Value → Sem Value} (h : OpR X op (rI0 g)) : OpR X op (rI (fun _ _ => True) g) := fun pins s σ H x y v u Q I rx ry ⟨i, j, e1, e2, _, q⟩ => h pins s σ H x y v u Q I rx ry ⟨i, j, e1, e2, q⟩
theorem sop_sub : SOp X G (binaryOp .Sub) D.sub := sop_ints (rI_true op_sub) (g := fun i j => .int (i - j)) (fun _ _ _ => rfl) (fun x y h n => by cases x <;> cases y <;> first | rfl | exact (n _ _ ⟨rfl, rfl⟩).elim) fun _ _ _ _ _ => mk_int
theorem sop_mul : SOp X G (binaryOp .Mult) D.mul := sop_ints (C := fun i j => (small i || small j) = true) (rI_imp op_mul fun i j h => by
  show (-(2 ^ 64) < i ∧ i < 2 ^ 64) ∨ (-(2 ^ 64) < j ∧ j < 2 ^ 64)
  simp only [Bool.or_eq_true, small_iff] at h
  omega) (g := fun i j => .int (i * j)) (fun _ _ _ => rfl) (fun x y h n => by cases x <;> cases y <;> first | rfl | exact (n _ _ ⟨rfl, rfl⟩).elim) fun _ _ _ _ _ => mk_int
theorem sop_fdiv : SOp X G (binaryOp .FloorDiv) D.fdiv := sop_ints (C := fun _ j => posS j = true) (rI_imp op_fdiv fun i j h => by
  show 0 < j ∧ j < 1073741824
  have := posS_iff.mp h
  omega) (g := fun i j => .int (i / j)) (fun _ _ _ => rfl) (fun x y h n => by cases x <;> cases y <;> first | rfl | exact (n _ _ ⟨rfl, rfl⟩).elim) fun _ _ _ _ _ => mk_int
theorem sop_mod : SOp X G (binaryOp .Mod) D.mod := sop_ints (C := fun _ j => 0 < j) op_mod (g := fun i j => .int (i % j)) (fun _ _ _ => rfl) (fun x y h n => by cases x <;> cases y <;> first | rfl | exact (n _ _ ⟨rfl, rfl⟩).elim) fun _ _ _ _ _ => mk_int
theorem sop_pow : SOp X G (binaryOp .Pow) D.pow := sop_ints (C := fun i j => powOk i j = true) (rI_imp op_pow fun i j h => powOk_ok h) (g := fun i j => .int (i ^ j.toNat)) (fun _ _ _ => rfl) (fun x y h n => by cases x <;> cases y <;> first | rfl | exact (n _ _ ⟨rfl, rfl⟩).elim) fun _ _ _ _ _ => mk_int
theorem sop_lt : SOp X G (compareOp .Lt) D.lt := sop_ints (rI_true op_lt) (g := fun i j => .bl (decide (i < j))) (fun _ _ _ => rfl) (fun x y h n => by cases x <;> cases y <;> first | rfl | exact (n _ _ ⟨rfl, rfl⟩).elim) fun _ _ _ _ _ => mk_bl
theorem sop_le : SOp X G (compareOp .LtE) D.le := sop_ints (rI_true op_le) (g := fun i j => .bl (decide (i ≤ j))) (fun _ _ _ => rfl) (fun x y h n => by cases x <;> cases y <;> first | rfl | exact (n _ _ ⟨rfl, rfl⟩).elim) fun _ _ _ _ _ => mk_bl
theorem sop_gt : SOp X G (compareOp .Gt) D.gt := sop_ints (rI_true op_gt) (g := fun i j => .bl (decide (j < i))) (fun _ _ _ => rfl) (fun x y h n => by cases x <;> cases y <;> first | rfl | exact (n _ _ ⟨rfl, rfl⟩).elim) fun _ _ _ _ _ => mk_bl
theorem sop_ge : SOp X G (compareOp .GtE) D.ge := sop_ints (rI_true op_ge) (g := fun i j => .bl (decide (j ≤ i))) (fun _ _ _ => rfl) (fun x y h n => by cases x <;> cases y <;> first | rfl | exact (n _ _ ⟨rfl, rfl⟩).elim) fun _ _ _ _ _ => mk_bl
theorem sop_add : SOp X G (binaryOp .Add) D.add := by
  refine ⟨?_, fun x y h e h' q => ?_⟩
  · intro pins s σ H x y v u Q I rx ry h
    obtain ⟨ρ, hh, dx, dy, rp, r1, r2, sat⟩ := h
    cases dx <;> cases dy <;> first | exact sat.elim | skip
    · have e1 := rv_int r1
      have e2 := rv_int r2
      subst e1 e2
      exact op_add pins s σ H _ _ v u Q I rx ry ⟨_, _, rfl, rfl, sat.mk (Ext.refl _ _) rp mk_int⟩
    · have e1 := rv_str r1
      have e2 := rv_str r2
      subst e1 e2
      obtain ⟨hz, sat⟩ := Sat.fits sat
      exact op_add_str pins s σ H _ _ v u Q I rx ry ⟨_, _, rfl, rfl, Nat.le_of_lt hz, Sat.mk sat (Ext.refl _ _) rp mk_str⟩
    · obtain ⟨p, xs, rfl, h1, h2⟩ := rv_tup r1
      obtain ⟨q, ys, rfl, h3, h4⟩ := rv_tup r2
      obtain ⟨hz, sat⟩ := Sat.fits sat
      have l1 := h2.length
      have l2 := h4.length
      refine op_catF pins s σ H _ _ v u Q I rx ry ⟨p, q, xs, ys, rfl, rfl, h1.sqT, h3.sqT, by rw [l1, l2]; exact Nat.le_of_lt hz, fun e => ?_, fun _ e => ?_, fun _ _ => newT rp sat (h2.append h4)⟩
      · refine Sat.mk sat (Ext.refl _ _) rp (mk_tup h3 ?_)
        have := h2.append h4
        rwa [e, List.nil_append] at this
      · refine Sat.mk sat (Ext.refl _ _) rp (mk_tup h1 ?_)
        have := h2.append h4
        rwa [e, List.append_nil] at this
  · cases x <;> cases y <;> first | (cases q; done) | (simp only [D.add, fits] at q; split at q <;> cases q)
theorem SE.neg {e : Expr} {φ : EΦ} {pos : Pos} (ha : SE X G W e φ) : SE X G W (.UnaryOp .USub e pos) (E.op1 D.neg φ) := by
  refine ⟨PE.weak (pe_un un_neg ha.pe) ?_⟩
  rintro σ H Q ⟨ρ, hh, env, rp, re, sat⟩
  refine tG.seq later_V rp re sat fun d v ρ1 hh1 H1 e1 rp1 re1 rd sat1 => ?_
  cases d <;> first | exact sat1.elim | skip
  have e1 := rv_int rd
  subst e1
  exact ⟨_, rfl, sat1.mk (Ext.refl _ _) rp1 mk_int⟩
end
end DL

set_option Elab.async false
set_option linter.all false
set_option maxRecDepth 100000
set_option maxHeartbeats 4000000
/-! DL4: subscripts, slices, built-in calls, methods of lists and tuples. -/
namespace DL
open PySem PySem.Spec PyProof.Rows L2

section
variable {X : Cx} {G : Gs} {W : WX} {e a b c : Expr} {es : List Expr} {pos : Pos}
/-! ### a[i] -/
theorem RVs.atI {K : PySem.W.Frag} {ρ : List Addr} {H : Hp} {l : List D} {xs : List V} {i : Int} {d : D} (h : RVs K G ρ H l xs) (e : L2.atI l i = some d) : ∃ v, L2.atI xs i = some v ∧ RV K G ρ H d v := by
  unfold L2.atI at e ⊢
  rw [h.length]
  cases q : ixN l.length i with
  | none => rw [q] at e; cases e
  | some j =>
    rw [q] at e
    exact h.get e
def ixL (l : List D) (i : Int) (h : Hh) : R D := match atI l i with
  | some d => .ok d h
  | none => .bad
def D.ix : D → D → Hh → R D
  | .tup l, .int i, h => ixL l i h
  | .ref n, .int i, h => (rdL h (.ref n)).bind fun l h => ixL l i h
  | .str s, .int i, h => fits s.length (match atI s.cps.toList i with
    | some c => .ok (.str ⟨#[c]⟩) h
    | none => .bad)
  | _, _, _ => .bad
theorem ixL_ok {K : PySem.W.Frag} {ρ : List Addr} {hh : Hh} {H : Hp} {σ : L2.St} {Q : VK} {l : List D} {xs : List V} {i : Int} (rp : Rep K G ρ hh H) (h : RVs K G ρ H l xs) (sat : Sat K G W (rV K G) ρ H σ Q (ixL l i hh)) : ∃ v, L2.atI xs i = some v ∧ Q v H := by
  unfold ixL at sat
  split at sat
  · rename_i d hd
    obtain ⟨v, e1, e2⟩ := h.atI hd
    exact ⟨v, e1, sat.mk (Ext.refl _ _) rp e2⟩
  · exact sat.elim
theorem ix_D : IxR X (rOp X.K G D.ix) := by
  intro value slice pins s σ H x y v u Q I rx ry h hs
  obtain ⟨ρ, hh, dx, dy, rp, r1, r2, sat⟩ := h
  cases dx <;> cases dy <;> first | exact sat.elim | skip
  · have e1 := rv_str r1
    have e2 := rv_int r2
    subst e1 e2
    obtain ⟨hz, sat⟩ := Sat.fits sat
    rename_i z i _
    cases q : L2.atI z.cps.toList i with
    | none => rw [q] at sat; exact sat.elim
    | some c =>
      rw [q] at sat
      exact ix_str value slice pins s σ H _ _ v u Q I rx ry ⟨_, _, c, rfl, rfl, Nat.le_of_lt hz, q, Sat.mk sat (Ext.refl _ _) rp mk_str⟩ hs
  · obtain ⟨p, xs, rfl, h1, h2⟩ := rv_tup r1
    have e2 := rv_int r2
    subst e2
    obtain ⟨w, e3, q⟩ := ixL_ok rp h2 sat
    exact ix_tup value slice pins s σ H _ _ v u Q I rx ry ⟨p, xs, _, w, rfl, rfl, h1.sqT, e3, q⟩ hs
  · have e2 := rv_int r2
    subst e2
    obtain ⟨l, p, xs, rfl, h1, h2, h3⟩ := rdL_ok (α := Unit) (β := Unit) rp r1 (R.sat_bind sat)
    obtain ⟨w, e3, q⟩ := ixL_ok (W := fun _ _ _ _ => False) (σ := []) (Q := Q) rp h2 h3
    exact ix_list value slice pins s σ H _ _ v u Q I rx ry ⟨p, xs, _, w, rfl, rfl, h1, e3, q⟩ hs
theorem nox_ixL (l : List D) (i : Int) (h : Hh) : ∀ e h', ixL l i h ≠ .exc e h' := by
  intro e h' q
  unfold ixL at q
  split at q <;> cases q
theorem nox_rdL (d : D) (h : Hh) : ∀ e h', rdL h d ≠ .exc e h' := by
  intro e h' q
  unfold rdL at q
  split at q
  · split at q <;> cases q
  · cases q
theorem nox_rdQ (d : D) (h : Hh) : ∀ e h', rdQ h d ≠ .exc e h' := by
  intro e h' q
  unfold rdQ at q
  split at q
  · cases q
  · exact nox_rdL _ _ _ _ q
theorem nox_bind {α β : Type} {r : R α} {k : α → Hh → R β} (h1 : ∀ e h', r ≠ .exc e h') (h2 : ∀ a h e h', k a h ≠ .exc e h') : ∀ e h', r.bind k ≠ .exc e h' := by
  intro e h' q
  cases r with
  | ok a h => exact h2 _ _ _ _ q
  | exc x h => exact h1 _ _ rfl
  | bad => cases q
theorem nox_fits {α : Type} {n : Nat} {r : R α} (h1 : ∀ e h', r ≠ .exc e h') : ∀ e h', fits n r ≠ .exc e h' := by
  intro e h' q
  unfold fits at q
  split at q
  · exact h1 _ _ q
  · cases q
theorem nox_ix : ∀ x y h e h', D.ix x y h ≠ .exc e h' := by
  intro x y h e h' q
  cases x <;> cases y <;> first
    | (cases q; done)
    | exact nox_ixL _ _ _ _ _ q
    | exact nox_bind (nox_rdL _ _) (fun _ _ => nox_ixL _ _ _) _ _ q
    | (refine nox_fits ?_ _ _ q
       intro e2 h2 q2
       split at q2 <;> cases q2)
theorem SE.ix {φ ψ : EΦ} (ha : SE X G W a φ) (hb : SE X G W b ψ) (hs : PlainIx b := by exact fun _ _ => rfl) : SE X G W (.Subscript a b pos) (E.op2 D.ix φ ψ) := by
  refine ⟨PE.weak (pe_ix (ix_D (G := G)) ha.pe hb.pe hs) ?_⟩
  rintro σ H Q ⟨ρ, hh, env, rp, re, sat⟩
  refine tG.seq later_V rp re sat fun x v ρ1 hh1 H1 e1 rp1 re1 rx sat1 => ?_
  refine tG.seq later_V rp1 re1 sat1 fun y u ρ2 hh2 H2 e2 rp2 re2 ry sat2 => ?_
  exact ⟨ρ2, hh2, x, y, rp2, RV.ext e2 _ _ rx, ry, sat2.nox (nox_ix _ _ _)⟩
/-- L[i], L a list (fresh or an object) -/
def E.ixR (a : LΦ) (b : EΦ) : EΦ := fun env h => (a env h).bind fun l h => (b env h).bind fun y h => match y with
  | .int i => ixL l i h
  | _ => .bad
/-! ### slices -/
abbrev OΦ := Env → Hh → R (Option Int)
def rO : Hp → List Addr → Hp → Option Int → Option Int → Prop := fun _ _ _ a b => a = b
structure SO (X : Cx) (G : Gs) (W : WX) (e : Option Expr) (φ : OΦ) : Prop where
  po : PO X e (tG X.K G W rO φ)
def O.none : OΦ := fun _ h => .ok .none h
def O.some (a : EΦ) : OΦ := fun env h => (a env h).bind fun d h => match d with
  | .int i => .ok (.some i) h
  | _ => .bad
theorem later_O : Later rO := fun _ _ _ _ _ _ _ _ _ _ h => h
theorem SO.none : SO X G W .none O.none := by
  refine ⟨⟨fun pins s σ H Q I h => ?_⟩⟩
  obtain ⟨ρ, hh, env, rp, re, sat⟩ := h
  exact po_none.run pins s σ H Q I (Sat.mk sat (Ext.refl _ _) rp rfl)
theorem SO.some {φ : EΦ} (ha : SE X G W a φ) : SO X G W (.some a) (O.some φ) := by
  refine ⟨⟨fun pins s σ H Q I h => ?_⟩⟩
  obtain ⟨ρ, hh, env, rp, re, sat⟩ := h
  refine (po_some ha.pe).run pins s σ H Q I ?_
  refine tG.seq later_O rp re sat fun d v ρ1 hh1 H1 e1 rp1 re1 rd sat1 => ?_
  cases d <;> first | exact sat1.elim | skip
  have e1 := rv_int rd
  subst e1
  exact ⟨_, rfl, Sat.mk sat1 (Ext.refl _ _) rp1 rfl⟩
def cutD {α : Type} (xs : List α) (lo hi : Option Int) : List α := (xs.drop (HT.sIx xs.length 0 lo)).take (HT.sIx xs.length xs.length hi - HT.sIx xs.length 0 lo)
theorem RVs.cut {K : PySem.W.Frag} {ρ : List Addr} {H : Hp} {l : List D} {xs : List V} (h : RVs K G ρ H l xs) (lo hi : Option Int) : RVs K G ρ H (cutD l lo hi) (cutV xs lo hi) := by
  unfold cutD cutV
  rw [h.length]
  exact (h.drop _).take _
theorem cutD_whole {α : Type} (xs : List α) (lo hi : Option Int) (h : HT.sIx xs.length 0 lo = 0 ∧ HT.sIx xs.length xs.length hi = xs.length) : cutD xs lo hi = xs := by
  unfold cutD
  rw [h.1, h.2]
  simp
def slD (lo hi : Option Int) : D → Hh → R D
  | .tup l, h => .ok (.tup (cutD l lo hi)) h
  | .str s, h => fits s.length (.ok (.str (cutS s lo hi)) h)
  | _, _ => .bad
def E.sl (a : EΦ) (lo hi : OΦ) : EΦ := fun env h => (a env h).bind fun d h => (lo env h).bind fun i h => (hi env h).bind fun j h => slD i j d h
/-- a slice of a tuple or a text -/
theorem SE.sl {φ : EΦ} {l u : OΦ} {lo hi : Option Expr} {p2 : Pos} (ha : SE X G W a φ) (hl : SO X G W lo l) (hu : SO X G W hi u) : SE X G W (.Subscript a (.Slice lo hi .none p2) pos) (E.sl φ l u) := by
  refine ⟨PE.weak (pe_slice (SlR.or sl_tupF sl_str) ha.pe hl.po hu.po) ?_⟩
  rintro σ H Q ⟨ρ, hh, env, rp, re, sat⟩
  refine tG.seq later_V rp re sat fun d v ρ1 hh1 H1 e1 rp1 re1 rd sat1 => ?_
  refine tG.seq later_V rp1 re1 sat1 fun i i' ρ2 hh2 H2 e2 rp2 re2 ri sat2 => ?_
  refine tG.seq later_V rp2 re2 sat2 fun j j' ρ3 hh3 H3 e3 rp3 re3 rj sat3 => ?_
  have ei : i = i' := ri
  have ej : j = j' := rj
  subst ei ej
  have rd' := RV.ext e3 _ _ (RV.ext e2 _ _ rd)
  cases d <;> first | exact sat3.elim | skip
  · have e1 := rv_str rd'
    subst e1
    obtain ⟨hz, sat3⟩ := Sat.fits sat3
    exact .inr ⟨_, rfl, Nat.le_of_lt hz, Sat.mk sat3 (Ext.refl _ _) rp3 mk_str⟩
  · obtain ⟨p, xs, rfl, h1, h2⟩ := rv_tup rd'
    refine .inl ⟨p, xs, rfl, h1.sqT, fun hw => ?_, fun _ => newT rp3 sat3 (h2.cut _ _)⟩
    refine Sat.mk sat3 (Ext.refl _ _) rp3 ?_
    rw [cutD_whole _ _ _ (by rw [← h2.length]; exact hw)]
    exact mk_tup h1 h2
def L.sl (a : LΦ) (lo hi : OΦ) : LΦ := fun env h => (a env h).bind fun l h => (lo env h).bind fun i h => (hi env h).bind fun j h => .ok (cutD l i j) h
/-- lists that stay readable: a fresh one or one that is an object (nothing between changes it) -/
theorem SL.slE {φ : EΦ} {l u : OΦ} {lo hi : Option Expr} {p2 : Pos} (ha : SE X G W a φ) (hl : SO X G W lo l) (hu : SO X G W hi u) :
    SL X G W (.Subscript a (.Slice lo hi .none p2) pos) (fun env h => (φ env h).bind fun d h => (l env h).bind fun i h => (u env h).bind fun j h => (rdL h d).bind fun xs h => .ok (cutD xs i j) h) := by
  refine ⟨PE.weak (pe_slice sl_list ha.pe hl.po hu.po) ?_⟩
  rintro σ H Q ⟨ρ, hh, env, rp, re, sat⟩
  refine tG.seq later_L rp re sat fun d v ρ1 hh1 H1 e1 rp1 re1 rd sat1 => ?_
  refine tG.seq later_L rp1 re1 sat1 fun i i' ρ2 hh2 H2 e2 rp2 re2 ri sat2 => ?_
  refine tG.seq later_L rp2 re2 sat2 fun j j' ρ3 hh3 H3 e3 rp3 re3 rj sat3 => ?_
  have ei : i = i' := ri
  have ej : j = j' := rj
  subst ei ej
  have rd' := RV.ext e3 _ _ (RV.ext e2 _ _ rd)
  obtain ⟨l, p, xs, rfl, h1, h2, h3⟩ := rdL_ok (α := Unit) (β := Unit) rp3 rd' (R.sat_bind sat3)
  exact ⟨p, xs, rfl, h1, fun q hq => h3 _ _ _ (Ext.laid hq) (rp3.side hq) ⟨q, _, rfl, upd_same, hq, rp3.notin hq, RVs.ext (Ext.laid hq) _ _ (h2.cut _ _)⟩⟩
/-! ### calls of built-ins -/
/-- a built-in of data arguments -/
def rC (K : PySem.W.Frag) (G : Gs) (m : List D → Hh → R D) : List V → Hp → VK → Prop := fun vs H Q => ∃ ρ hh ds, Rep K G ρ hh H ∧ RVs K G ρ H ds vs ∧ Sat K G (fun _ _ _ _ => False) (rV K G) ρ H [] Q (m ds hh)
structure SCall (X : Cx) (G : Gs) (f : Value) (m : List D → Hh → R D) : Prop where
  ok : CallR X f (rC X.K G m)
  nox : ∀ ds h e h', m ds h ≠ .exc e h'
theorem SE.callB {x : Str} {id : String} {p : Pos} {m : List D → Hh → R D} {φ : LΦ} (hc : SCall X G (.builtin id) m) (ha : SA X G W (e :: es) φ) (hg : Gl X x) (hm : X.mg x = none) (hv : bootBuiltins x = some (.builtin id)) (hn : x ≠ "__name__" := by decide) (hdb : (x == ("__debug__" : Str)) = false := by decide)
    (he : starEach (e :: es) X.env = (false, eval e X.env) :: starEach es X.env := by rfl) (hpl : (backTo pos (starEach es X.env)).any (·.1) = false := by rfl) : SE X G W (.Call (.Name x p) (e :: es) [] pos) (E.app m φ) := by
  refine ⟨PE.weak (pe_callB hc.ok hg hm hv ha.pa hn hdb he hpl) ?_⟩
  rintro σ H Q ⟨ρ, hh, env, rp, re, sat⟩
  refine tG.seq later_V rp re sat fun ds vs ρ1 hh1 H1 e1 rp1 re1 rd sat1 => ?_
  exact ⟨ρ1, hh1, ds, rp1, rd, sat1.nox (hc.nox _ _)⟩
theorem SE.callTy {x : Str} {T : String} {p : Pos} {m : List D → Hh → R D} {φ : LΦ} (hc : SCall X G (.type T) m) (ha : SA X G W (e :: es) φ) (hg : Gl X x) (hm : X.mg x = none) (hv : bootBuiltins x = some (.type T)) (hn : x ≠ "__name__" := by decide) (hdb : (x == ("__debug__" : Str)) = false := by decide)
    (he : starEach (e :: es) X.env = (false, eval e X.env) :: starEach es X.env := by rfl) (hpl : (backTo pos (starEach es X.env)).any (·.1) = false := by rfl) : SE X G W (.Call (.Name x p) (e :: es) [] pos) (E.app m φ) := by
  refine ⟨PE.weak (pe_callTy hc.ok hg hm hv ha.pa hn hdb he hpl) ?_⟩
  rintro σ H Q ⟨ρ, hh, env, rp, re, sat⟩
  refine tG.seq later_V rp re sat fun ds vs ρ1 hh1 H1 e1 rp1 re1 rd sat1 => ?_
  exact ⟨ρ1, hh1, ds, rp1, rd, sat1.nox (hc.nox _ _)⟩
/-- a call of one sequence, its reading by the items -/
theorem SE.callQ {te : TE} {r : List V → Hp → VK → Prop} {φ : LΦ} {f : List D → Hh → R D} (hp : ∀ {te : TE}, PE X a te → PE X e (tCB r (tCons te tNil))) (ha : SQ X G W a φ)
    (hf : ∀ ρ hh H σ l v Q, Rep X.K G ρ hh H → rQ X.K G H ρ H l v → Sat X.K G W (rV X.K G) ρ H σ Q (f l hh) → r [v] H Q) : SE X G W e (fun env h => (φ env h).bind f) := by
  refine ⟨PE.weak (hp ha.pe) ?_⟩
  rintro σ H Q ⟨ρ, hh, env, rp, re, sat⟩
  refine tG.seq later_V rp re sat fun l v ρ1 hh1 H1 e1 rp1 re1 rl sat1 => ?_
  exact hf _ _ _ _ _ _ _ rp1 rl sat1
def E.len (a : LΦ) : EΦ := fun env h => (a env h).bind fun l h => .ok (.int l.length) h
theorem SE.len {p : Pos} {φ : LΦ} (ha : SQ X G W a φ) (hg : Gl X "len") (hm : X.mg "len" = none) (na : starEach [a] X.env = (false, eval a X.env) :: starEach [] X.env := by rfl) : SE X G W (.Call (.Name "len" p) [a] [] pos) (E.len φ) :=
  SE.callQ (te := fun _ _ _ => False) (fun h => pe_callB call_len_seq hg hm boot_len (pa_cons h pa_nil na) (he := na)) ha fun ρ hh H σ l v Q rp ⟨q, xs, e, h1, h2⟩ sat => ⟨q, xs, by rw [e], h1, by rw [h2.length]; exact sat.mk (Ext.refl _ _) rp mk_int⟩
def E.lenS (a : EΦ) : EΦ := fun env h => (a env h).bind fun d h => match d with
  | .str s => fits s.length (.ok (.int s.length) h)
  | _ => .bad
theorem SE.lenS {p : Pos} {φ : EΦ} (ha : SE X G W a φ) (hg : Gl X "len") (hm : X.mg "len" = none) (na : starEach [a] X.env = (false, eval a X.env) :: starEach [] X.env := by rfl) : SE X G W (.Call (.Name "len" p) [a] [] pos) (E.lenS φ) := by
  refine ⟨PE.weak (pe_callB call_len_str hg hm boot_len (pa_cons ha.pe pa_nil na) (he := na)) ?_⟩
  rintro σ H Q ⟨ρ, hh, env, rp, re, sat⟩
  refine tG.seq later_V rp re sat fun d v ρ1 hh1 H1 e1 rp1 re1 rd sat1 => ?_
  cases d <;> first | exact sat1.elim | skip
  have e1 := rv_str rd
  subst e1
  obtain ⟨hz, sat1⟩ := Sat.fits sat1
  exact ⟨_, rfl, Nat.le_of_lt hz, Sat.mk sat1 (Ext.refl _ _) rp1 mk_int⟩
def E.tuple (a : LΦ) : EΦ := fun env h => (a env h).bind fun l h => .ok (.tup l) h
/-- tuple(a list) -/
theorem SE.tupleR {p : Pos} {φ : LΦ} (ha : SR X G W a φ) (hg : Gl X "tuple") (hm : X.mg "tuple" = none) (na : starEach [a] X.env = (false, eval a X.env) :: starEach [] X.env := by rfl) : SE X G W (.Call (.Name "tuple" p) [a] [] pos) (E.tuple φ) := by
  refine ⟨PE.weak (pe_callTy call_tupleF hg hm boot_tuple (pa_cons ha.pe pa_nil na) (he := na)) ?_⟩
  rintro σ H Q ⟨ρ, hh, env, rp, re, sat⟩
  refine tG.seq later_V rp re sat fun l v ρ1 hh1 H1 e1 rp1 re1 rl sat1 => ?_
  obtain ⟨q, xs, e, h1, h2⟩ := rl
  exact ⟨q, xs, by rw [e], .inl ⟨h1, newT rp1 sat1 h2⟩⟩
/-- list(a list or a tuple) -/
theorem SL.list {p : Pos} {φ : LΦ} (ha : SQ X G W a φ) (hg : Gl X "list") (hm : X.mg "list" = none) (na : starEach [a] X.env = (false, eval a X.env) :: starEach [] X.env := by rfl) : SL X G W (.Call (.Name "list" p) [a] [] pos) φ := by
  refine ⟨PE.weak (pe_callTy call_list_of hg hm boot_list (pa_cons ha.pe pa_nil na) (he := na)) ?_⟩
  rintro σ H Q ⟨ρ, hh, env, rp, re, sat⟩
  refine tG.seq (k := fun l h => .ok l h) later_L rp re (by cases q : φ env hh <;> rw [q] at sat <;> exact sat) fun l v ρ1 hh1 H1 e1 rp1 re1 rl sat1 => ?_
  obtain ⟨q, xs, e, h1, h2⟩ := rl
  exact ⟨q, xs, by rw [e], h1, fun t ht => Sat.mk sat1 (Ext.laid ht) (rp1.side ht) ⟨t, xs, rfl, upd_same, ht, rp1.notin ht, RVs.ext (Ext.laid ht) _ _ h2⟩⟩
/-- L + M -/
def L.cat (a b : LΦ) : LΦ := fun env h => (a env h).bind fun l h => (b env h).bind fun m h => fits (l.length + m.length) (.ok (l ++ m) h)
theorem SL.cat {φ ψ : LΦ} (ha : SL X G W a φ) (hb : SL X G W b ψ) : SL X G W (.BinOp a .Add b pos) (L.cat φ ψ) := by
  refine ⟨PE.weak (pe_op op_cat ha.pe hb.pe) ?_⟩
  rintro σ H Q ⟨ρ, hh, env, rp, re, sat⟩
  refine tG.seq later_L rp re sat fun l v ρ1 hh1 H1 e1 rp1 re1 rl sat1 => ?_
  refine tG.seq later_L rp1 re1 sat1 fun m u ρ2 hh2 H2 e2 rp2 re2 rm sat2 => ?_
  obtain ⟨p, xs, rfl, h1, h2, h3, h4⟩ := rl
  obtain ⟨q, ys, rfl, g1, g2, g3, g4⟩ := rm
  obtain ⟨hz, sat2⟩ := Sat.fits sat2
  have l1 := h4.length
  have l2 := g4.length
  refine ⟨p, q, xs, ys, rfl, rfl, e2.side _ _ h1 h3 (fun _ z => nomatch z), g1, by rw [l1, l2]; exact Nat.le_of_lt hz, fun t ht => ?_⟩
  exact Sat.mk sat2 (Ext.laid ht) (rp2.side ht) ⟨t, _, rfl, upd_same, ht, rp2.notin ht, RVs.ext (Ext.laid ht) _ _ ((RVs.ext e2 _ _ h4).append g4)⟩
/-- an object's list + M, where the object isn't changed on the way -/
def L.catE (a : EΦ) (b : LΦ) : LΦ := fun env h => (a env h).bind fun d h => (b env h).bind fun m h => match d with
  | .ref n => (match h[n]? with
    | some (.lst l) => fits (l.length + m.length) (.ok (l ++ m) h)
    | _ => .bad)
  | _ => .bad
theorem SL.catE {φ : EΦ} {ψ : LΦ} (ha : SE X G W a φ) (hb : SL X G W b ψ) : SL X G W (.BinOp a .Add b pos) (L.catE φ ψ) := by
  refine ⟨PE.weak (pe_op op_cat ha.pe hb.pe) ?_⟩
  rintro σ H Q ⟨ρ, hh, env, rp, re, sat⟩
  refine tG.seq later_L rp re sat fun d v ρ1 hh1 H1 e1 rp1 re1 rd sat1 => ?_
  refine tG.seq later_L rp1 re1 sat1 fun m u ρ2 hh2 H2 e2 rp2 re2 rm sat2 => ?_
  obtain ⟨q, ys, rfl, g1, g2, g3, g4⟩ := rm
  cases d <;> first | exact sat2.elim | skip
  rename_i n
  have rd' : RV X.K G ρ1 H1 (.ref n) v := rd
  simp only [RV] at rd'
  obtain ⟨p, rfl, hp⟩ := rd'
  have sat2 : Sat X.K G W (rL X.K G) ρ2 H2 σ Q (match hh2[n]? with
    | some (.lst l) => DL.fits (l.length + m.length) (.ok (l ++ m) hh2)
    | _ => .bad) := sat2
  cases hn : hh2[n]? with
  | none => rw [hn] at sat2; exact sat2.elim
  | some ob =>
    rw [hn] at sat2
    cases ob with
    | frz l => exact sat2.elim
    | lst l =>
      obtain ⟨p', xs, f1, f2, f3⟩ := rp2.lst hn
      rw [e2.get hp] at f1
      cases f1
      obtain ⟨hz, sat2⟩ := Sat.fits sat2
      have l1 := f3.length
      have l2 := g4.length
      refine ⟨p, q, xs, ys, rfl, rfl, f2, g1, by rw [l1, l2]; exact Nat.le_of_lt hz, fun t ht => ?_⟩
      exact Sat.mk sat2 (Ext.laid ht) (rp2.side ht) ⟨t, _, rfl, upd_same, ht, rp2.notin ht, RVs.ext (Ext.laid ht) _ _ (f3.append g4)⟩
/-- L * n -/
def L.rep (a : LΦ) (b : EΦ) : LΦ := fun env h => (a env h).bind fun l h => (b env h).bind fun d h => match d with
  | .int i => if small i then fits (l.length * i.toNat) (.ok (List.replicate i.toNat l).flatten h) else .bad
  | _ => .bad
theorem RVs.rep {K : PySem.W.Frag} {ρ : List Addr} {H : Hp} {l : List D} {xs : List V} (h : RVs K G ρ H l xs) : ∀ k : Nat, RVs K G ρ H (List.replicate k l).flatten (List.replicate k xs).flatten
  | 0 => .nil
  | k + 1 => by
    rw [List.replicate_succ, List.replicate_succ, List.flatten_cons, List.flatten_cons]
    exact h.append (RVs.rep h k)
theorem SL.rep {φ : LΦ} {ψ : EΦ} (ha : SL X G W a φ) (hb : SE X G W b ψ) : SL X G W (.BinOp a .Mult b pos) (L.rep φ ψ) := by
  refine ⟨PE.weak (pe_op op_rep ha.pe hb.pe) ?_⟩
  rintro σ H Q ⟨ρ, hh, env, rp, re, sat⟩
  refine tG.seq later_L rp re sat fun l v ρ1 hh1 H1 e1 rp1 re1 rl sat1 => ?_
  refine tG.seq later_L rp1 re1 sat1 fun d u ρ2 hh2 H2 e2 rp2 re2 rd sat2 => ?_
  obtain ⟨p, xs, rfl, h1, h2, h3, h4⟩ := rl
  cases d <;> first | exact sat2.elim | skip
  rename_i i
  have e3 := rv_int rd
  subst e3
  have sat2 : Sat X.K G W (rL X.K G) ρ2 H2 σ Q (if small i then DL.fits (l.length * i.toNat) (.ok (List.replicate i.toNat l).flatten hh2) else .bad) := sat2
  split at sat2
  · rename_i hi
    have hi : -(2 ^ 63) ≤ i ∧ i < 2 ^ 63 := by have := small_iff.mp hi; omega
    obtain ⟨hz, sat2⟩ := Sat.fits sat2
    refine ⟨p, i, xs, rfl, rfl, e2.side _ _ h1 h3 (fun _ z => nomatch z), hi.1, hi.2, by rw [h4.length]; exact Nat.le_of_lt hz, fun t ht => ?_⟩
    exact Sat.mk sat2 (Ext.laid ht) (rp2.side ht) ⟨t, _, rfl, upd_same, ht, rp2.notin ht, RVs.ext (Ext.laid ht) _ _ (RVs.rep (RVs.ext e2 _ _ h4) _)⟩
  · exact sat2.elim
end
end DL

set_option Elab.async false
set_option linter.all false
set_option maxRecDepth 100000
set_option maxHeartbeats 4000000
/-! DL5: statements, targets, loops over data. -/
namespace DL
open PySem PySem.Spec PyProof.Rows L2

/-! ### equality that can be decided -/
mutual
def D.beq : D → D → Bool
  | .non, .non => true
  | .bl a, .bl b => a == b
  | .int i, .int j => decide (i = j)
  | .str x, .str y => decide (x = y)
  | .tup xs, .tup ys => D.beqs xs ys
  | .ref n, .ref m => n == m
  | .fn n, .fn m => n == m
  | _, _ => false
def D.beqs : List D → List D → Bool
  | [], [] => true
  | x :: xs, y :: ys => D.beq x y && D.beqs xs ys
  | _, _ => false
end
mutual
theorem D.beq_refl : ∀ a : D, D.beq a a = true
  | .non => rfl
  | .bl a => by simp [D.beq]
  | .int i => by simp [D.beq]
  | .str x => by simp [D.beq]
  | .tup xs => by simp only [D.beq]; exact D.beqs_refl xs
  | .ref n => by simp [D.beq]
  | .fn n => by simp [D.beq]
theorem D.beqs_refl : ∀ a : List D, D.beqs a a = true
  | [] => rfl
  | x :: xs => by simp only [D.beqs, Bool.and_eq_true]; exact ⟨D.beq_refl x, D.beqs_refl xs⟩
end
mutual
theorem D.of_beq : ∀ a b : D, D.beq a b = true → a = b := by
  intro a b h
  cases a <;> cases b <;> first
    | rfl
    | (simp [D.beq] at h; done)
    | (simp only [D.beq, beq_iff_eq, decide_eq_true_eq] at h; subst h; rfl)
    | (simp only [D.beq] at h; rw [D.of_beqs _ _ h])
theorem D.of_beqs : ∀ a b : List D, D.beqs a b = true → a = b
  | [], [], _ => rfl
  | [], _ :: _, h => by simp [D.beqs] at h
  | _ :: _, [], h => by simp [D.beqs] at h
  | x :: xs, y :: ys, h => by
    simp only [D.beqs, Bool.and_eq_true] at h
    rw [D.of_beq x y h.1, D.of_beqs xs ys h.2]
end
instance : DecidableEq D := fun a b => if h : D.beq a b = true then .isTrue (D.of_beq a b h) else .isFalse fun e => h (by rw [e]; exact D.beq_refl b)

/-! ### results of statements -/
inductive RS where
  | nx (env : Env) (h : Hh) | rt (d : D) (h : Hh) | bk (env : Env) (h : Hh) | ct (env : Env) (h : Hh) | exc (x : Ex) (env : Env) (h : Hh) | bad
abbrev SΦ := Env → Hh → RS
/-- a target's function -/
abbrev GΦ := D → Env → Hh → R Env
abbrev GsΦ := List D → Env → Hh → R Env
/-- a target raises nothing -/
def R.toG (r : R Env) (k : Env → Hh → RS) : RS := match r with
  | .ok env h => k env h
  | _ => .bad
@[simp] theorem R.toG_ok (env : Env) (h : Hh) (k : Env → Hh → RS) : (R.ok env h).toG k = k env h := rfl
def R.toS {α : Type} (r : R α) (env : Env) (k : α → Hh → RS) : RS := match r with
  | .ok a h => k a h
  | .exc x h => .exc x env h
  | .bad => .bad
@[simp] theorem R.toS_ok {α : Type} (a : α) (h : Hh) (env : Env) (k : α → Hh → RS) : (R.ok a h).toS env k = k a h := rfl
@[simp] theorem R.toS_exc {α : Type} (x : Ex) (h : Hh) (env : Env) (k : α → Hh → RS) : (R.exc x h : R α).toS env k = .exc x env h := rfl
@[simp] theorem R.toS_bad {α : Type} (env : Env) (k : α → Hh → RS) : (R.bad : R α).toS env k = .bad := rfl
def S.nil : SΦ := fun env h => .nx env h
def S.seq (a b : SΦ) : SΦ := fun env h => match a env h with
  | .nx env h => b env h
  | r => r
def S.expr (a : EΦ) : SΦ := fun env h => (a env h).toS env fun _ h => .nx env h
def S.ret (a : EΦ) : SΦ := fun env h => (a env h).toS env fun d h => .rt d h
def S.retN : SΦ := fun _ h => .rt .non h
def S.brk : SΦ := fun env h => .bk env h
def S.cnt : SΦ := fun env h => .ct env h
def S.bad : SΦ := fun _ _ => .bad
def S.ife (t : TΦ) (a b : SΦ) : SΦ := fun env h => (t env h).toS env fun c h => if c then a env h else b env h
def S.set (i : Nat) (a : EΦ) : SΦ := fun env h => (a env h).toS env fun d h => .nx (env.set i (some d)) h
def S.asg (a : EΦ) (g : GΦ) : SΦ := fun env h => (a env h).toS env fun d h => (g d env h).toG .nx
def S.aug (i : Nat) (f : D → D → Hh → R D) (a : EΦ) : SΦ := fun env h => match env[i]? with
  | some (some x) => (a env h).toS env fun y h => (f x y h).toS env fun d h => .nx (env.set i (some d)) h
  | _ => .bad
def S.par (i j : Nat) (a b : EΦ) : SΦ := fun env h => (a env h).toS env fun x h => (b env h).toS env fun y h => .nx ((env.set i (some x)).set j (some y)) h
/-- n turns at most -/
def S.whl (t : TΦ) (b : SΦ) : Nat → SΦ
  | 0, _, _ => .bad
  | n + 1, env, h => (t env h).toS env fun c h => if c then (match b env h with
    | .nx env h => S.whl t b n env h
    | .ct env h => S.whl t b n env h
    | .bk env h => .nx env h
    | r => r) else .nx env h
def Tg.name (i : Nat) : GΦ := fun d env h => .ok (env.set i (some d)) h
def Tg.nil : GsΦ := fun ds env h => match ds with
  | [] => .ok env h
  | _ :: _ => .bad
def Tg.cons (g : GΦ) (gs : GsΦ) : GsΦ := fun ds env h => match ds with
  | [] => .bad
  | d :: r => (g d env h).bind fun env h => gs r env h
def Tg.tup (gs : GsΦ) : GΦ := fun d env h => match d with
  | .tup l => gs l env h
  | _ => .bad

/-- how many a list of targets takes -/
inductive GLen : GsΦ → Nat → Prop where
  | nil : GLen Tg.nil 0
  | cons {g : GΦ} {gs : GsΦ} {n : Nat} : GLen gs n → GLen (Tg.cons g gs) (n + 1)
theorem GLen.len {gs : GsΦ} {n : Nat} (h : GLen gs n) : ∀ ds env h e h', gs ds env h = .ok e h' → ds.length = n := by
  induction h with
  | nil =>
    intro ds env h e h' q
    cases ds with
    | nil => rfl
    | cons d r => cases q
  | cons t ih =>
    intro ds env h e h' q
    cases ds with
    | nil => cases q
    | cons d r =>
      unfold Tg.cons at q
      simp only at q
      rename_i g gs n
      cases w : g d env h with
      | ok e1 h1 => rw [w] at q; rw [List.length_cons, ih r e1 h1 e h' q]
      | exc x h1 => rw [w] at q; cases q
      | bad => rw [w] at q; cases q

/-- what is walked: the items; an object that must stay a list of such items -/
structure Src where
  items : List D
  guard : Option (Nat × List D)
def Src.ok (s : Src) (h : Hh) : Bool := match s.guard with
  | none => true
  | some (n, l) => match h[n]? with
    | some (.lst m) => D.beqs m l
    | some (.frz m) => D.beqs m l
    | none => false
abbrev IΦ := Env → Hh → R Src
def S.forGo (s : Src) (g : GΦ) (b : SΦ) : List D → SΦ
  | [], env, h => if s.ok h then .nx env h else .bad
  | d :: r, env, h => if s.ok h then (g d env h).toG fun env h => (match b env h with
      | .nx env h => S.forGo s g b r env h
      | .ct env h => S.forGo s g b r env h
      | .bk env h => .nx env h
      | x => x) else .bad
def S.for (i : IΦ) (g : GΦ) (b : SΦ) : SΦ := fun env h => (i env h).toS env fun s h => S.forGo s g b s.items env h

/-! ### their meaning -/
def SatS (K : PySem.W.Frag) (G : Gs) (W : WX) (ρ : List Addr) (H : Hp) (D : Ends) (r : RS) : Prop := match r with
  | .nx env hh => ∀ ρ' σ' H', Ext ρ H ρ' H' → Rep K G ρ' hh H' → RE K G ρ' H' env σ' → D.nx σ' H'
  | .rt d hh => ∀ v ρ' H', Ext ρ H ρ' H' → Rep K G ρ' hh H' → RV K G ρ' H' d v → D.rt v H'
  | .bk env hh => ∀ ρ' σ' H', Ext ρ H ρ' H' → Rep K G ρ' hh H' → RE K G ρ' H' env σ' → D.bk σ' H'
  | .ct env hh => ∀ ρ' σ' H', Ext ρ H ρ' H' → Rep K G ρ' hh H' → RE K G ρ' H' env σ' → D.ct σ' H'
  | .exc x env hh => ∀ cls dx ρ' σ' H', Ext ρ H ρ' H' → Rep K G ρ' hh H' → RE K G ρ' H' env σ' → XR K G ρ' H' x cls dx → W cls dx σ' H'
  | .bad => False
def tS (K : PySem.W.Frag) (G : Gs) (W : WX) (ψ : SΦ) : TS := fun D σ H => ∃ ρ hh env, Rep K G ρ hh H ∧ RE K G ρ H env σ ∧ SatS K G W ρ H D (ψ env hh)
/-- a tuple that is only taken apart -/
def RVw (K : PySem.W.Frag) (G : Gs) (ρ : List Addr) (H : Hp) (d : D) (v : V) : Prop := match d with
  | .tup l => ∃ a xs, v = .ref a ∧ SqT K H a xs ∧ RVs K G ρ H l xs
  | d => RV K G ρ H d v
theorem RVw.of {K : PySem.W.Frag} {G : Gs} {ρ : List Addr} {H : Hp} {d : D} {v : V} (h : RV K G ρ H d v) : RVw K G ρ H d v := by
  cases d <;> first | exact h | skip
  simp only [RV] at h
  obtain ⟨a, xs, e, h1, h2⟩ := h
  exact ⟨a, xs, e, h1.sqT, h2⟩
abbrev RepV := List Addr → Hp → D → V → Prop
/-- what a target's result gives -/
def SatG (K : PySem.W.Frag) (G : Gs) (ρ : List Addr) (H : Hp) (Q : L2.St → Hp → Prop) (r : R Env) : Prop := r.sat (fun env hh => ∀ ρ' σ' H', Ext ρ H ρ' H' → Rep K G ρ' hh H' → RE K G ρ' H' env σ' → Q σ' H') fun _ _ => False
def tGt (K : PySem.W.Frag) (G : Gs) (rep : RepV) (γ : GΦ) : TG := fun v σ H Q => ∃ ρ hh env d, Rep K G ρ hh H ∧ RE K G ρ H env σ ∧ rep ρ H d v ∧ SatG K G ρ H Q (γ d env hh)
def tGts (K : PySem.W.Frag) (G : Gs) (γ : GsΦ) : TGs := fun vs σ H Q => ∃ ρ hh env ds, Rep K G ρ hh H ∧ RE K G ρ H env σ ∧ RVs K G ρ H ds vs ∧ SatG K G ρ H Q (γ ds env hh)
/-- the iterator J walks s -/
structure ItOk (K : PySem.W.Frag) (G : Gs) (rep : RepV) (ρ0 : List Addr) (H0 : Hp) (s : Src) (J : It) : Prop where
  go : ∀ i ρ hh H, Ext ρ0 H0 ρ H → Rep K G ρ hh H → s.ok hh = true → i < s.items.length → J.go i H
  yld : ∀ i ρ hh H x H' d, Ext ρ0 H0 ρ H → Rep K G ρ hh H → s.ok hh = true → s.items[i]? = some d → J.yld i H x H' → Ext ρ H ρ H' ∧ Rep K G ρ hh H' ∧ rep ρ H' d x
  stop : ∀ i ρ hh H, Ext ρ0 H0 ρ H → Rep K G ρ hh H → s.ok hh = true → s.items.length ≤ i → J.stop i H
def tI (K : PySem.W.Frag) (G : Gs) (W : WX) (rep : RepV) (φ : IΦ) : TI := fun σ H R => ∃ ρ hh env, Rep K G ρ hh H ∧ RE K G ρ H env σ ∧
  (φ env hh).sat (fun s hh' => ∀ J ρ' H', Ext ρ H ρ' H' → Rep K G ρ' hh' H' → ItOk K G rep ρ' H' s J → R J H') (fun x hh' => ∀ cls dx H' ρ', Ext ρ H ρ' H' → Rep K G ρ' hh' H' → XR K G ρ' H' x cls dx → W cls dx σ H')
section
variable (X : Cx) (G : Gs) (W : WX)
structure SS (st : Stmt) (ψ : SΦ) : Prop where
  ps : PS X st (tS X.K G W ψ)
structure SSs (st : List Stmt) (ψ : SΦ) : Prop where
  ps : PSs X st (tS X.K G W ψ)
structure SI (rep : RepV) (tg iter : Expr) (φ : IΦ) : Prop where
  pi : PI X tg iter (tI X.K G W rep φ)
end
structure SG (X : Cx) (G : Gs) (rep : RepV) (tg : Expr) (γ : GΦ) : Prop where
  pg : PG X tg (tGt X.K G rep γ)
structure SGs (X : Cx) (G : Gs) (tg : List Expr) (γ : GsΦ) : Prop where
  pg : PGs X tg (tGts X.K G γ)
theorem PS.weak {X : Cx} {st : Stmt} {t t' : TS} (h : PS X st t) (w : ∀ D σ H, t' D σ H → t D σ H) : PS X st t' := ⟨fun pins s σ H D I q => h.run pins s σ H D I (w D σ H q)⟩
theorem PSs.weak {X : Cx} {st : List Stmt} {t t' : TS} (h : PSs X st t) (w : ∀ D σ H, t' D σ H → t D σ H) : PSs X st t' := ⟨fun pins s σ H D I q => h.run pins s σ H D I (w D σ H q)⟩
theorem PG.weak {X : Cx} {tg : Expr} {t t' : TG} (h : PG X tg t) (w : ∀ v σ H Q, t' v σ H Q → t v σ H Q) : PG X tg t' := ⟨fun pins s σ H v u Q I r q => h.run pins s σ H v u Q I r (w v σ H Q q)⟩
theorem PGs.weak {X : Cx} {tg : List Expr} {t t' : TGs} (h : PGs X tg t) (w : ∀ v σ H Q, t' v σ H Q → t v σ H Q) : PGs X tg t' := ⟨fun pins s σ H v u Q I r q => h.run pins s σ H v u Q I r (w v σ H Q q)⟩

section
variable {K : PySem.W.Frag} {G : Gs} {W : WX} {ρ : List Addr} {hh : Hh} {H : Hp} {σ : L2.St} {env : Env} {D : Ends}
theorem SatS.ext {r : RS} {ρ1 : List Addr} {H1 : Hp} (e : Ext ρ H ρ1 H1) (h : SatS K G W ρ H D r) : SatS K G W ρ1 H1 D r := by
  cases r with
  | nx env hh => exact fun ρ' σ' H' e' rp re => h ρ' σ' H' (e.trans e') rp re
  | rt d hh => exact fun v ρ' H' e' rp re => h v ρ' H' (e.trans e') rp re
  | bk env hh => exact fun ρ' σ' H' e' rp re => h ρ' σ' H' (e.trans e') rp re
  | ct env hh => exact fun ρ' σ' H' e' rp re => h ρ' σ' H' (e.trans e') rp re
  | exc x env hh => exact fun cls dx ρ' σ' H' e' rp re xr => h cls dx ρ' σ' H' (e.trans e') rp re xr
  | bad => exact h
/-- an expression, then the rest of a statement -/
theorem tG.toS {α β : Type} {rep : Hp → List Addr → Hp → α → β → Prop} {φ : Env → Hh → R α} {k : α → Hh → RS} {rest : β → Hp → Prop} (rp : Rep K G ρ hh H) (re : RE K G ρ H env σ) (sat : SatS K G W ρ H D ((φ env hh).toS env k))
    (step : ∀ a b ρ1 hh1 H1, Ext ρ H ρ1 H1 → Rep K G ρ1 hh1 H1 → RE K G ρ1 H1 env σ → rep H ρ1 H1 a b → SatS K G W ρ1 H1 D (k a hh1) → rest b H1) : tG K G W rep φ σ H rest := by
  refine ⟨ρ, hh, env, rp, re, ?_⟩
  cases q : φ env hh with
  | ok a hh1 =>
    rw [q] at sat
    exact fun b H1 ρ1 e rp1 rb => step a b ρ1 hh1 H1 e rp1 (re.ext e) rb (SatS.ext e sat)
  | exc x hh1 =>
    rw [q] at sat
    exact fun cls dx H1 ρ1 e rp1 xr => sat cls dx ρ1 σ H1 e rp1 (re.ext e) xr
  | bad => rw [q] at sat; exact sat
end

section
variable {X : Cx} {G : Gs} {W : WX} {e a b c : Expr} {es : List Expr} {pos : Pos} {st : Stmt} {rest : List Stmt}
theorem SSs.nil : SSs X G W [] S.nil := by
  refine ⟨PSs.weak pss_nil ?_⟩
  rintro D σ H ⟨ρ, hh, env, rp, re, sat⟩
  exact sat ρ σ H (Ext.refl _ _) rp re
theorem SSs.cons {α β : SΦ} (h1 : SS X G W st α) (h2 : SSs X G W rest β) : SSs X G W (st :: rest) (S.seq α β) := by
  refine ⟨PSs.weak (pss_cons h1.ps h2.ps) ?_⟩
  rintro D σ H ⟨ρ, hh, env, rp, re, sat⟩
  refine ⟨ρ, hh, env, rp, re, ?_⟩
  unfold S.seq at sat
  cases q : α env hh with
  | nx env1 hh1 =>
    rw [q] at sat
    exact fun ρ1 σ1 H1 e rp1 re1 => ⟨ρ1, hh1, env1, rp1, re1, SatS.ext e sat⟩
  | rt d hh1 => rw [q] at sat; exact sat
  | bk env1 hh1 => rw [q] at sat; exact sat
  | ct env1 hh1 => rw [q] at sat; exact sat
  | exc x env1 hh1 => rw [q] at sat; exact sat
  | bad => rw [q] at sat; exact sat
theorem SSs.one {α : SΦ} (h1 : SS X G W st α) : SSs X G W [st] α := ⟨pss_one h1.ps⟩
theorem SS.pass : SS X G W (.Pass pos) S.nil := by
  refine ⟨PS.weak ps_pass ?_⟩
  rintro D σ H ⟨ρ, hh, env, rp, re, sat⟩
  exact sat ρ σ H (Ext.refl _ _) rp re
theorem SS.brk : SS X G W (.Break pos) S.brk := by
  refine ⟨PS.weak ps_break ?_⟩
  rintro D σ H ⟨ρ, hh, env, rp, re, sat⟩
  exact sat ρ σ H (Ext.refl _ _) rp re
theorem SS.cnt : SS X G W (.Continue pos) S.cnt := by
  refine ⟨PS.weak ps_continue ?_⟩
  rintro D σ H ⟨ρ, hh, env, rp, re, sat⟩
  exact sat ρ σ H (Ext.refl _ _) rp re
theorem SS.bad : SS X G W st S.bad := by
  refine ⟨PS.weak ps_never ?_⟩
  rintro D σ H ⟨ρ, hh, env, rp, re, sat⟩
  exact sat
theorem SS.expr {φ : EΦ} (ha : SE X G W e φ) (hs : swapsWith e none pos.line X.env = pure false := by rfl) : SS X G W (.Expr e pos) (S.expr φ) := by
  refine ⟨PS.weak (ps_expr ha.pe hs) ?_⟩
  rintro D σ H ⟨ρ, hh, env, rp, re, sat⟩
  exact tG.toS rp re sat fun d v ρ1 hh1 H1 e1 rp1 re1 rd sat1 => sat1 ρ1 σ H1 (Ext.refl _ _) rp1 re1
theorem SS.ret {φ : EΦ} (ha : SE X G W e φ) : SS X G W (.Return (some e) pos) (S.ret φ) := by
  refine ⟨PS.weak (ps_ret ha.pe) ?_⟩
  rintro D σ H ⟨ρ, hh, env, rp, re, sat⟩
  exact tG.toS rp re sat fun d v ρ1 hh1 H1 e1 rp1 re1 rd sat1 => sat1 v ρ1 H1 (Ext.refl _ _) rp1 rd
theorem SS.retN : SS X G W (.Return none pos) S.retN := by
  refine ⟨PS.weak ps_retN ?_⟩
  rintro D σ H ⟨ρ, hh, env, rp, re, sat⟩
  exact sat .non ρ H (Ext.refl _ _) rp (by simp only [RV])
theorem SS.ife {τ : TΦ} {α β : SΦ} {sa sb : List Stmt} (hc : ST X G W c τ) (ha : SSs X G W sa α) (hb : SSs X G W sb β) : SS X G W (.If c sa sb pos) (S.ife τ α β) := by
  refine ⟨PS.weak (ps_if hc.pt ha.ps hb.ps) ?_⟩
  rintro D σ H ⟨ρ, hh, env, rp, re, sat⟩
  refine tG.toS rp re sat fun k k' ρ1 hh1 H1 e1 rp1 re1 rk sat1 => ?_
  have : k = k' := rk
  subst this
  cases k with
  | true => exact iteT ⟨ρ1, hh1, env, rp1, re1, sat1⟩
  | false => exact iteF ⟨ρ1, hh1, env, rp1, re1, sat1⟩
theorem SS.set {i : Nat} {x : Str} {φ : EΦ} {pos' : Pos} (hN : X.N.Nodup) (hi : X.N[i]? = some x) (hx : Loc X.env.scope x) (ha : SE X G W e φ) (hs : swapsWith e (some (.Name x pos')) pos.line X.env = pure false := by rfl)
    (hf : X.fn x = true ∨ X.env.scope.names.lookup x = some .local := by first | exact .inl rfl | exact .inr rfl | assumption) : SS X G W (.Assign [.Name x pos'] e pos) (S.set i φ) := by
  refine ⟨PS.weak (ps_set hN hi hx ha.pe hs hf) ?_⟩
  rintro D σ H ⟨ρ, hh, env, rp, re, sat⟩
  exact tG.toS rp re sat fun d v ρ1 hh1 H1 e1 rp1 re1 rd sat1 => sat1 ρ1 _ H1 (Ext.refl _ _) rp1 (re1.set i rd)
theorem SS.asg {φ : EΦ} {γ : GΦ} {tg : Expr} (ha : SE X G W e φ) (hg : SG X G (RV X.K G) tg γ) (hs : swapsWithSole [tg] e pos.line X.env = pure false := by rfl) (hw : swappedStores [tg] e X.env = pure none := by rfl)
    (h1 : (assignEach [tg] X.env).map (·.2) = [assign tg X.env] := by rfl) : SS X G W (.Assign [tg] e pos) (S.asg φ γ) := by
  refine ⟨PS.weak (ps_asg ha.pe hg.pg hs hw h1) ?_⟩
  rintro D σ H ⟨ρ, hh, env, rp, re, sat⟩
  refine tG.toS rp re sat fun d v ρ1 hh1 H1 e1 rp1 re1 rd sat1 => ⟨ρ1, hh1, env, d, rp1, re1, rd, ?_⟩
  cases q : γ d env hh1 with
  | ok env1 hh2 => rw [q] at sat1; exact sat1
  | exc x hh2 => rw [q] at sat1; exact sat1
  | bad => rw [q] at sat1; exact sat1
/-- x op= e -/
theorem SS.aug {i : Nat} {x : Str} {φ : EΦ} {pos' : Pos} {op : Operator} {f : D → D → Hh → R D} (hN : X.N.Nodup) (hi : X.N[i]? = some x) (hx : Loc X.env.scope x) (ha : SE X G W e φ) (ho : PIp X op (rOp X.K G f)) (nox : ∀ x y h e h', f x y h ≠ .exc e h')
    (hf : X.fn x = true ∨ X.env.scope.names.lookup x = some .local := by first | exact .inl rfl | exact .inr rfl | assumption) : SS X G W (.AugAssign (.Name x pos') op e pos) (S.aug i f φ) := by
  refine ⟨PS.weak (ps_aug hN hi hx ha.pe ho hf) ?_⟩
  rintro D σ H ⟨ρ, hh, env, rp, re, sat⟩
  unfold S.aug at sat
  split at sat
  · rename_i d0 h0
    obtain ⟨v0, g1, g2⟩ := re.at' _ _ h0
    refine ⟨v0, g1, tG.toS rp re sat fun d v ρ1 hh1 H1 e1 rp1 re1 rd sat1 => ⟨ρ1, hh1, d0, d, rp1, RV.ext e1 _ _ g2, rd, ?_⟩⟩
    cases q : f d0 d hh1 with
    | ok d2 hh2 =>
      rw [q] at sat1
      exact fun v2 H2 ρ2 e2 rp2 r2 => sat1 ρ2 _ H2 e2 rp2 ((re1.ext e2).set i r2)
    | exc x2 hh2 => exact (nox _ _ _ _ _ q).elim
    | bad => rw [q] at sat1; exact sat1.elim
  · exact sat.elim
theorem ip_ints {op : Operator} {g : Int → Int → Int} {f : D → D → Hh → R D} (h : PIp X op (ipI g)) (hf : ∀ i j h, f (.int i) (.int j) h = .ok (.int (g i j)) h) (hb : ∀ x y h, (∀ i j, ¬ (x = .int i ∧ y = .int j)) → f x y h = .bad) : PIp X op (rOp X.K G f) := by
  intro pins s σ H x y v u Q I rx ry q
  obtain ⟨ρ, hh, dx, dy, rp, r1, r2, sat⟩ := q
  have key : (∃ i j, dx = D.int i ∧ dy = D.int j) ∨ (∀ i j, ¬ (dx = .int i ∧ dy = .int j)) := by
    cases dx <;> cases dy <;> first | exact .inl ⟨_, _, rfl, rfl⟩ | (refine .inr ?_; rintro i j ⟨h1, h2⟩; first | (cases h1; done) | (cases h1; cases h2; done))
  rcases key with ⟨i, j, rfl, rfl⟩ | n
  · have e1 := rv_int r1
    have e2 := rv_int r2
    subst e1 e2
    rw [hf] at sat
    exact h pins s σ H _ _ v u Q I rx ry ⟨i, j, rfl, rfl, sat.mk (Ext.refl _ _) rp mk_int⟩
  · rw [hb dx dy hh n] at sat
    exact sat.elim
def D.addI : D → D → Hh → R D
  | .int i, .int j, h => .ok (.int (i + j)) h
  | _, _, _ => .bad
theorem sip_add : PIp X .Add (rOp X.K G D.addI) := ip_ints ip_add (fun _ _ _ => rfl) fun x y h n => by cases x <;> cases y <;> first | rfl | exact (n _ _ ⟨rfl, rfl⟩).elim
theorem sip_sub : PIp X .Sub (rOp X.K G D.sub) := ip_ints ip_sub (fun _ _ _ => rfl) fun x y h n => by cases x <;> cases y <;> first | rfl | exact (n _ _ ⟨rfl, rfl⟩).elim
theorem nox_addI : ∀ x y h e h', D.addI x y h ≠ .exc e h' := by
  intro x y h e h' q
  cases x <;> cases y <;> cases q
theorem nox_sub : ∀ x y h e h', D.sub x y h ≠ .exc e h' := by
  intro x y h e h' q
  cases x <;> cases y <;> cases q
/-- x, y = e1, e2, two local names -/
theorem SS.par {i j : Nat} {x y : Str} {φ ψ : EΦ} {px py pt : Pos} {kt k2 pt2} (hc : X.calm = true) (hN : X.N.Nodup) (hi : X.N[i]? = some x) (hj : X.N[j]? = some y) (hij : i ≠ j)
    (hx : X.env.scope.names.lookup x = some .local) (hy : X.env.scope.names.lookup y = some .local) (ha : SE X G W a φ) (hb : SE X G W b ψ)
    (hw : swappedStores [.Tuple [.Name x px, .Name y py] kt pt] (.Tuple [a, b] k2 pt2) X.env = pure (some [x, y]))
    (hs : swapsWithSole [.Tuple [.Name x px, .Name y py] kt pt] (.Tuple [a, b] k2 pt2) pos.line X.env = pure false := by rfl)
    (na : starEach [a, b] X.env = (false, eval a X.env) :: starEach [b] X.env := by rfl) (nb : starEach [b] X.env = (false, eval b X.env) :: starEach [] X.env := by rfl) :
    SS X G W (.Assign [.Tuple [.Name x px, .Name y py] kt pt] (.Tuple [a, b] k2 pt2) pos) (S.par i j φ ψ) := by
  refine ⟨PS.weak (ps_par hc hN hi hj hij hx hy (pa_cons ha.pe (pa_cons hb.pe pa_nil nb) na) hw hs) ?_⟩
  rintro D σ H ⟨ρ, hh, env, rp, re, sat⟩
  refine tG.toS rp re sat fun d v ρ1 hh1 H1 e1 rp1 re1 rd sat1 => ?_
  refine tG.toS rp1 re1 sat1 fun d2 v2 ρ2 hh2 H2 e2 rp2 re2 rd2 sat2 => ?_
  exact ⟨v, v2, rfl, sat2 ρ2 _ H2 (Ext.refl _ _) rp2 ((re2.set i (RV.ext e2 _ _ rd)).set j rd2)⟩
/-! ### targets -/
theorem SG.name {i : Nat} {x : Str} (hN : X.N.Nodup) (hi : X.N[i]? = some x) (hx : Loc X.env.scope x) (hf : X.fn x = true ∨ X.env.scope.names.lookup x = some .local := by first | exact .inl rfl | exact .inr rfl | assumption) : SG X G (RV X.K G) (.Name x pos) (Tg.name i) := by
  refine ⟨PG.weak (pg_name hN hi hx hf) ?_⟩
  rintro v σ H Q ⟨ρ, hh, env, d, rp, re, rd, sat⟩
  exact sat ρ _ H (Ext.refl _ _) rp (re.set i rd)
theorem SGs.nil : SGs X G [] Tg.nil := by
  refine ⟨PGs.weak pgs_nil ?_⟩
  rintro vs σ H Q ⟨ρ, hh, env, ds, rp, re, rd, sat⟩
  cases ds with
  | nil => exact ⟨rd.inv_nil, sat ρ _ H (Ext.refl _ _) rp re⟩
  | cons d r => exact sat.elim
theorem SGs.cons {γ : GΦ} {γs : GsΦ} (h1 : SG X G (RV X.K G) e γ) (h2 : SGs X G es γs) (hs : (assignEach (e :: es) X.env).map (·.2) = assign e X.env :: (assignEach es X.env).map (·.2) := by rfl) : SGs X G (e :: es) (Tg.cons γ γs) := by
  refine ⟨PGs.weak (pgs_cons h1.pg h2.pg hs) ?_⟩
  rintro vs σ H Q ⟨ρ, hh, env, ds, rp, re, rd, sat⟩
  cases ds with
  | nil => exact sat.elim
  | cons d r =>
    obtain ⟨v, r', rfl, q1, q2⟩ := rd.inv_cons
    refine ⟨v, r', rfl, ρ, hh, env, d, rp, re, q1, ?_⟩
    refine R.sat_mono (R.sat_bind sat) (fun env1 hh1 q ρ1 σ1 H1 e1 rp1 re1 => ?_) fun _ _ z => z
    refine ⟨ρ1, hh1, env1, r, rp1, re1, RVs.ext e1 _ _ q2, ?_⟩
    exact R.sat_mono q (fun env2 hh2 q ρ2 σ2 H2 e2 rp2 re2 => q ρ2 σ2 H2 (e1.trans e2) rp2 re2) fun _ _ z => z
theorem SG.tup {γs : GsΦ} {k n : Nat} (hc : X.calm = true) (h : SGs X G es γs) (hn : (assignEach es X.env).length = n := by rfl) (hl : GLen γs n := by repeat constructor) (hst : (assignEach es X.env).findIdx? (·.1) = none := by rfl) :
    SG X G (RVw X.K G) (.Tuple es k pos) (Tg.tup γs) := by
  refine ⟨PG.weak (pg_tup hc h.pg hn hst) ?_⟩
  rintro v σ H Q ⟨ρ, hh, env, d, rp, re, rd, sat⟩
  cases d <;> first | exact sat.elim | skip
  rename_i l
  obtain ⟨a, xs, rfl, h1, h2⟩ := rd
  refine ⟨a, xs, rfl, h1, ?_, ρ, hh, env, l, rp, re, h2, sat⟩
  have sat' : SatG X.K G ρ H Q (γs l env hh) := sat
  cases q : γs l env hh with
  | ok e1 h1 => rw [h2.length]; exact hl.len _ _ _ _ _ q
  | exc x hh2 => rw [q] at sat'; exact sat'.elim
  | bad => rw [q] at sat'; exact sat'.elim
theorem SG.strong {γ : GΦ} (h : SG X G (RVw X.K G) e γ) : SG X G (RV X.K G) e γ := ⟨PG.weak h.pg fun v σ H Q ⟨ρ, hh, env, d, rp, re, rd, sat⟩ => ⟨ρ, hh, env, d, rp, re, RVw.of rd, sat⟩⟩
end
end DL

set_option Elab.async false
set_option linter.all false
set_option maxRecDepth 100000
set_option maxHeartbeats 4000000
/-! DL6: while, for, what is walked, comprehensions over data. -/
namespace DL
open PySem PySem.Spec PyProof.Rows L2

section
variable {X : Cx} {G : Gs} {W : WX} {e a b c tg iter : Expr} {es : List Expr} {pos : Pos} {body : List Stmt}
theorem SS.whl {τ : TΦ} {α : SΦ} {n : Nat} (hp : PassesOwn (model X.prog X.w) X.A X.env X.xe) (hc : ST X G W c τ) (hb : SSs X G W body α) : SS X G W (.While c body [] pos) (S.whl τ α n) := by
  refine ⟨PS.weak (ps_while hp hc.pt hb.ps) ?_⟩
  rintro D σ H ⟨ρ, hh, env, rp, re, sat⟩
  refine ⟨fun m σ H => ∃ ρ hh env, Rep X.K G ρ hh H ∧ RE X.K G ρ H env σ ∧ SatS X.K G W ρ H D (S.whl τ α m env hh), ⟨n, ρ, hh, env, rp, re, sat⟩, ?_⟩
  rintro m σ H ⟨ρ, hh, env, rp, re, sat⟩
  cases m with
  | zero => exact sat.elim
  | succ m =>
    have sat : SatS X.K G W ρ H D ((τ env hh).toS env fun c h => if c then (match α env h with
      | .nx env h => S.whl τ α m env h
      | .ct env h => S.whl τ α m env h
      | .bk env h => .nx env h
      | r => r) else .nx env h) := sat
    refine tG.toS rp re sat fun k k' ρ1 hh1 H1 e1 rp1 re1 rk sat1 => ?_
    have : k = k' := rk
    subst this
    cases k with
    | false => exact iteF (sat1 ρ1 σ H1 (Ext.refl _ _) rp1 re1)
    | true =>
      refine iteT ⟨fun σ' H' => ∃ ρ hh env, Rep X.K G ρ hh H' ∧ RE X.K G ρ H' env σ' ∧ SatS X.K G W ρ H' D (S.whl τ α m env hh), fun σ' H' q => ⟨m, Nat.lt_succ_self m, q⟩, ρ1, hh1, env, rp1, re1, ?_⟩
      cases q : α env hh1 with
      | nx env2 hh2 => rw [q] at sat1; exact fun ρ2 σ2 H2 e2 rp2 re2 => ⟨ρ2, hh2, env2, rp2, re2, SatS.ext e2 sat1⟩
      | ct env2 hh2 => rw [q] at sat1; exact fun ρ2 σ2 H2 e2 rp2 re2 => ⟨ρ2, hh2, env2, rp2, re2, SatS.ext e2 sat1⟩
      | bk env2 hh2 => rw [q] at sat1; exact sat1
      | rt d hh2 => rw [q] at sat1; exact sat1
      | exc x env2 hh2 => rw [q] at sat1; exact sat1
      | bad => rw [q] at sat1; exact sat1
theorem SS.for {rep : RepV} {φ : IΦ} {γ : GΦ} {α : SΦ} (hp : PassesOwn (model X.prog X.w) X.A X.env X.xe) (hc : X.calm = true) (hi : SI X G W rep tg iter φ) (hg : SG X G rep tg γ) (hb : SSs X G W body α) (mono : ∀ ρ H d v, rep ρ H d v → rep ρ H d v := by exact fun _ _ _ _ h => h)
    (hs : ∀ x, foldedSetIterable iter X.env x = pure x := by intro _; rfl) : SS X G W (.For tg iter body [] pos) (S.for φ γ α) := by
  refine ⟨PS.weak (ps_for hp hc hi.pi hg.pg hb.ps hs) ?_⟩
  rintro D σ H ⟨ρ, hh, env, rp, re, sat⟩
  refine ⟨ρ, hh, env, rp, re, ?_⟩
  unfold S.for at sat
  cases q : φ env hh with
  | exc x hh1 => rw [q] at sat; exact fun cls dx H1 ρ1 e1 rp1 xr => sat cls dx ρ1 σ H1 e1 rp1 (re.ext e1) xr
  | bad => rw [q] at sat; exact sat
  | ok s hh1 =>
    rw [q] at sat
    intro J ρ1 H1 e1 rp1 ok
    refine ⟨fun i m σ2 H2 => ∃ ρ2 hh2 env2, Ext ρ1 H1 ρ2 H2 ∧ Rep X.K G ρ2 hh2 H2 ∧ RE X.K G ρ2 H2 env2 σ2 ∧ m = s.items.length - i ∧ SatS X.K G W ρ2 H2 D (S.forGo s γ α (s.items.drop i) env2 hh2),
      ⟨_, ρ1, hh1, env, Ext.refl _ _, rp1, re.ext e1, rfl, SatS.ext e1 sat⟩, ?_⟩
    rintro i m σ2 H2 ⟨ρ2, hh2, env2, e2, rp2, re2, rfl, sat2⟩
    by_cases hi : i < s.items.length
    · rw [List.drop_eq_getElem_cons hi] at sat2
      unfold S.forGo at sat2
      split at sat2
      · rename_i hok
        refine .inr ⟨ok.go i ρ2 hh2 H2 e2 rp2 hok hi, fun σ' H' => ∃ ρ3 hh3 env3, Ext ρ1 H1 ρ3 H' ∧ Rep X.K G ρ3 hh3 H' ∧ RE X.K G ρ3 H' env3 σ' ∧ SatS X.K G W ρ3 H' D (S.forGo s γ α (s.items.drop (i + 1)) env3 hh3),
          fun σ' H' ⟨ρ3, hh3, env3, z1, z2, z3, z4⟩ => ⟨_, by omega, ρ3, hh3, env3, z1, z2, z3, rfl, z4⟩, fun x H3 hy => ?_⟩
        obtain ⟨e3, rp3, rx⟩ := ok.yld i ρ2 hh2 H2 x H3 _ e2 rp2 hok (List.getElem?_eq_getElem hi) hy
        refine ⟨ρ2, hh2, env2, s.items[i], rp3, re2.ext e3, rx, ?_⟩
        cases qg : γ s.items[i] env2 hh2 with
        | exc x h4 => rw [qg] at sat2; exact sat2
        | bad => rw [qg] at sat2; exact sat2
        | ok env4 hh4 =>
          rw [qg] at sat2
          intro ρ4 σ4 H4 e4 rp4 re4
          refine ⟨ρ4, hh4, env4, rp4, re4, ?_⟩
          have sat4 := SatS.ext (e3.trans e4) sat2
          have sat4 : SatS X.K G W ρ4 H4 D (match α env4 hh4 with
            | .nx env h => S.forGo s γ α (s.items.drop (i + 1)) env h
            | .ct env h => S.forGo s γ α (s.items.drop (i + 1)) env h
            | .bk env h => .nx env h
            | x => x) := sat4
          have eL : Ext ρ1 H1 ρ4 H4 := e2.trans (e3.trans e4)
          cases qb : α env4 hh4 with
          | nx env5 hh5 => rw [qb] at sat4; exact fun ρ5 σ5 H5 e5 rp5 re5 => ⟨ρ5, hh5, env5, eL.trans e5, rp5, re5, SatS.ext e5 sat4⟩
          | ct env5 hh5 => rw [qb] at sat4; exact fun ρ5 σ5 H5 e5 rp5 re5 => ⟨ρ5, hh5, env5, eL.trans e5, rp5, re5, SatS.ext e5 sat4⟩
          | bk env5 hh5 => rw [qb] at sat4; exact sat4
          | rt d hh5 => rw [qb] at sat4; exact sat4
          | exc x env5 hh5 => rw [qb] at sat4; exact sat4
          | bad => rw [qb] at sat4; exact sat4
      · exact sat2.elim
    · rw [List.drop_of_length_le (by omega)] at sat2
      unfold S.forGo at sat2
      split at sat2
      · rename_i hok
        exact .inl ⟨ok.stop i ρ2 hh2 H2 e2 rp2 hok (by omega), sat2 ρ2 σ2 H2 (Ext.refl _ _) rp2 re2⟩
      · exact sat2.elim

/-! ### what is walked -/
theorem PI.weak {X : Cx} {tg e : Expr} {t t' : TI} (h : PI X tg e t) (w : ∀ σ H R, t' σ H R → t σ H R) : PI X tg e t' := ⟨fun pins s σ H R I q => h.run pins s σ H R I (w σ H R q)⟩
theorem PI.or {X : Cx} {tg e : Expr} {t t' : TI} (h : PI X tg e t) (h' : PI X tg e t') : PI X tg e (fun σ H R => t σ H R ∨ t' σ H R) := ⟨fun pins s σ H R I q => by
  rcases q with q | q
  · exact h.run pins s σ H R I q
  · exact h'.run pins s σ H R I q⟩
/-- a tuple, or a list that is an object -/
def srcD (d : D) (h : Hh) : R Src := match d with
  | .tup l => .ok ⟨l, none⟩ h
  | .ref n => match h[n]? with
    | some (.lst l) => .ok ⟨l, some (n, l)⟩ h
    | some (.frz l) => .ok ⟨l, some (n, l)⟩ h
    | none => .bad
  | _ => .bad
def I.of (a : EΦ) : IΦ := fun env h => (a env h).bind srcD
theorem itOk_tup {ρ0 : List Addr} {H0 : Hp} {l : List D} {p : Addr} {xs : List V} (h1 : TupK X.K H0 p xs) (h2 : RVs X.K G ρ0 H0 l xs) : ItOk X.K G (RV X.K G) ρ0 H0 ⟨l, none⟩ (Itt X.K p) where
  go := fun i ρ hh H e rp _ hi => by
    obtain ⟨v, q, _⟩ := (RVs.ext e _ _ h2).get (List.getElem?_eq_getElem hi)
    exact ⟨xs, v, (e.tupK h1).sqT, q⟩
  yld := fun i ρ hh H x H' d e rp _ hd hy => by
    obtain ⟨rfl, hy⟩ := hy
    obtain ⟨v, q, r⟩ := (RVs.ext e _ _ h2).get hd
    have := hy xs (e.tupK h1).sqT
    rw [q] at this
    cases this
    exact ⟨Ext.refl _ _, rp, r⟩
  stop := fun i ρ hh H e rp _ hi => ⟨xs, (e.tupK h1).sqT, by rw [h2.length]; exact hi⟩
theorem src_obj {ρ : List Addr} {hh : Hh} {H : Hp} {n : Nat} {l : List D} {p : Addr} {K : PySem.W.Frag} (rp : Rep K G ρ hh H) (hok : (⟨l, some (n, l)⟩ : Src).ok hh = true) (hp : ρ[n]? = some p) : ∃ xs, SqL K H p xs ∧ RVs K G ρ H l xs := by
  unfold Src.ok at hok
  simp only at hok
  split at hok
  · rename_i m hm
    rw [← D.of_beqs _ _ hok]
    obtain ⟨p', e1, xs, e2, e3⟩ := rp.ob _ _ hm
    rw [hp] at e1; cases e1
    exact ⟨xs, .inl (.inl e2), e3⟩
  · rename_i m hm
    rw [← D.of_beqs _ _ hok]
    obtain ⟨p', e1, xs, e2, e3⟩ := rp.ob _ _ hm
    rw [hp] at e1; cases e1
    exact ⟨xs, .inl e2, e3⟩
  · cases hok
theorem itOk_obj {ρ0 : List Addr} {H0 : Hp} {l : List D} {n : Nat} {p : Addr} (hp : ρ0[n]? = some p) : ItOk X.K G (RV X.K G) ρ0 H0 ⟨l, some (n, l)⟩ (Itl X.K p) where
  go := fun i ρ hh H e rp hok hi => by
    obtain ⟨xs, h1, h2⟩ := src_obj rp hok (e.get hp)
    obtain ⟨v, q, _⟩ := h2.get (List.getElem?_eq_getElem hi)
    exact ⟨xs, v, h1, q⟩
  yld := fun i ρ hh H x H' d e rp hok hd hy => by
    obtain ⟨rfl, hy⟩ := hy
    obtain ⟨xs, h1, h2⟩ := src_obj rp hok (e.get hp)
    obtain ⟨v, q, r⟩ := h2.get hd
    have := hy xs h1
    rw [q] at this
    cases this
    exact ⟨Ext.refl _ _, rp, r⟩
  stop := fun i ρ hh H e rp hok hi => by
    obtain ⟨xs, h1, h2⟩ := src_obj rp hok (e.get hp)
    exact ⟨xs, h1, by rw [h2.length]; exact hi⟩
theorem itOk_fresh {ρ0 : List Addr} {H0 : Hp} {l : List D} {p : Addr} {xs : List V} (h1 : H0 p = some (.lst xs)) (hn : p ∉ ρ0) (h2 : RVs X.K G ρ0 H0 l xs) : ItOk X.K G (RV X.K G) ρ0 H0 ⟨l, none⟩ (Itl X.K p) where
  go := fun i ρ hh H e rp _ hi => by
    obtain ⟨v, q, _⟩ := (RVs.ext e _ _ h2).get (List.getElem?_eq_getElem hi)
    exact ⟨xs, v, .inl (.inl (e.side _ _ h1 hn (fun _ z => nomatch z))), q⟩
  yld := fun i ρ hh H x H' d e rp _ hd hy => by
    obtain ⟨rfl, hy⟩ := hy
    obtain ⟨v, q, r⟩ := (RVs.ext e _ _ h2).get hd
    have := hy xs (.inl (.inl (e.side _ _ h1 hn (fun _ z => nomatch z))))
    rw [q] at this
    cases this
    exact ⟨Ext.refl _ _, rp, r⟩
  stop := fun i ρ hh H e rp _ hi => ⟨xs, .inl (.inl (e.side _ _ h1 hn (fun _ z => nomatch z))), by rw [h2.length]; exact hi⟩
theorem SI.of {φ : EΦ} (ha : SE X G W iter φ) : SI X G W (RV X.K G) tg iter (I.of φ) := by
  refine ⟨PI.weak (PI.or (pi_list ha.pe) (pi_tup ha.pe)) ?_⟩
  rintro σ H Rr ⟨ρ, hh, env, rp, re, sat⟩
  unfold I.of at sat
  cases q : φ env hh with
  | exc x h1 =>
    rw [q] at sat
    exact .inl ⟨ρ, hh, env, rp, re, by rw [q]; exact sat⟩
  | bad => rw [q] at sat; exact sat.elim
  | ok d hh1 =>
    rw [q] at sat
    cases d <;> first | exact sat.elim | skip
    · refine .inr ⟨ρ, hh, env, rp, re, ?_⟩
      rw [q]
      intro v H1 ρ1 e1 rp1 rd
      obtain ⟨p, xs, rfl, h1, h2⟩ := rv_tup rd
      exact ⟨p, rfl, ⟨xs, h1.sqT⟩, sat _ ρ1 H1 e1 rp1 (itOk_tup h1 h2)⟩
    · rename_i n
      refine .inl ⟨ρ, hh, env, rp, re, ?_⟩
      rw [q]
      intro v H1 ρ1 e1 rp1 rd
      have rd' : RV X.K G ρ1 H1 (.ref n) v := rd
      simp only [RV] at rd'
      obtain ⟨p, rfl, hp⟩ := rd'
      have sat' : (srcD (.ref n) hh1).sat _ _ := sat
      unfold srcD at sat'
      simp only at sat'
      split at sat'
      · rename_i l hl
        obtain ⟨p', f1, xs, f2, f3⟩ := rp1.ob _ _ hl
        rw [hp] at f1; cases f1
        exact ⟨p, rfl, ⟨xs, .inl (.inl f2)⟩, sat' _ ρ1 H1 e1 rp1 (itOk_obj hp)⟩
      · rename_i l hl
        obtain ⟨p', f1, xs, f2, f3⟩ := rp1.ob _ _ hl
        rw [hp] at f1; cases f1
        exact ⟨p, rfl, ⟨xs, .inl f2⟩, sat' _ ρ1 H1 e1 rp1 (itOk_obj hp)⟩
      · exact sat'.elim
def I.ofL (a : LΦ) : IΦ := fun env h => (a env h).bind fun l h => .ok ⟨l, none⟩ h
theorem SI.ofL {φ : LΦ} (ha : SL X G W iter φ) : SI X G W (RV X.K G) tg iter (I.ofL φ) := by
  refine ⟨PI.weak (pi_list ha.pe) ?_⟩
  rintro σ H Rr ⟨ρ, hh, env, rp, re, sat⟩
  refine ⟨ρ, hh, env, rp, re, ?_⟩
  refine R.sat_mono (R.sat_bind sat) (fun l hh1 q v H1 ρ1 e1 rp1 rl => ?_) fun x h z => z
  obtain ⟨p, xs, rfl, h1, h2, h3, h4⟩ := rl
  exact ⟨p, rfl, ⟨xs, .inl (.inl h1)⟩, q _ ρ1 H1 e1 rp1 (itOk_fresh h1 h3 h4)⟩
/-- range(..) -/
def rngD (lo hi : Int) : List D := (List.range (hi - lo).toNat).map fun (i : Nat) => D.int (lo + i)
theorem rngD_length (lo hi : Int) : (rngD lo hi).length = (hi - lo).toNat := by unfold rngD; rw [List.length_map, List.length_range]
theorem rngD_get {lo hi : Int} {i : Nat} {d : D} (h : (rngD lo hi)[i]? = some d) : d = .int (lo + i) ∧ i < (hi - lo).toNat := by
  unfold rngD at h
  rw [List.getElem?_map] at h
  have hl : i < (hi - lo).toNat := by
    cases q : (List.range (hi - lo).toNat)[i]? with
    | none => rw [q] at h; cases h
    | some k => simpa using (List.getElem?_eq_some_iff.mp q).1
  rw [List.getElem?_range hl] at h
  cases h
  exact ⟨rfl, hl⟩
theorem itOk_rng {ρ0 : List Addr} {H0 : Hp} (lo hi : Int) : ItOk X.K G (RV X.K G) ρ0 H0 ⟨rngD lo hi, none⟩ (Itr lo (hi - lo).toNat) where
  go := fun i ρ hh H e rp _ h => by
    have h : i < (rngD lo hi).length := h
    rw [rngD_length] at h; exact h
  yld := fun i ρ hh H x H' d e rp _ hd hy => by
    obtain ⟨rfl, rfl⟩ := hy
    obtain ⟨rfl, _⟩ := rngD_get hd
    exact ⟨Ext.refl _ _, rp, by simp only [RV]⟩
  stop := fun i ρ hh H e rp _ h => by
    have h : (rngD lo hi).length ≤ i := h
    rw [rngD_length] at h; exact h
def rngOk (lo hi : Int) : Bool := small lo && small hi
theorem rngOk_ok {lo hi : Int} (h : rngOk lo hi = true) : ((-(2 ^ 62) ≤ lo ∧ lo < 2 ^ 62) ∧ -(2 ^ 62) ≤ hi) ∧ hi < 2 ^ 62 := by
  simp only [rngOk, Bool.and_eq_true, small_iff] at h
  omega
def rngS (i j : D) (h : Hh) : R Src := match i, j with
  | .int i, .int j => if rngOk i j then .ok ⟨rngD i j, none⟩ h else .bad
  | _, _ => .bad
def I.rng1 (a : EΦ) : IΦ := fun env h => (a env h).bind fun d h => rngS (.int 0) d h
def I.rng2 (a b : EΦ) : IΦ := fun env h => (a env h).bind fun x h => (b env h).bind fun y h => rngS x y h
theorem rngS_ok {x y : D} {h : Hh} {P : Src → Hh → Prop} {E : Ex → Hh → Prop} (q : (rngS x y h).sat P E) : ∃ i j, x = .int i ∧ y = .int j ∧ rngOk i j = true ∧ P ⟨rngD i j, none⟩ h := by
  unfold rngS at q
  split at q
  · split at q
    · rename_i hr; exact ⟨_, _, rfl, rfl, hr, q⟩
    · exact q.elim
  · exact q.elim
/-- a test of one function after another, for a source -/
theorem tG.toI {α β : Type} {rep : Hp → List Addr → Hp → α → β → Prop} {ρ : List Addr} {hh : Hh} {H : Hp} {σ : L2.St} {env : Env} {φ : Env → Hh → R α} {k : α → Hh → R Src} {rest : β → Hp → Prop} {P : Src → Hh → List Addr → Hp → Prop} (rp : Rep X.K G ρ hh H) (re : RE X.K G ρ H env σ)
    (sat : ((φ env hh).bind k).sat (fun s h => P s h ρ H) (fun x hh' => ∀ cls dx H' ρ', Ext ρ H ρ' H' → Rep X.K G ρ' hh' H' → XR X.K G ρ' H' x cls dx → W cls dx σ H')) (mono : ∀ s h ρ1 H1, Ext ρ H ρ1 H1 → P s h ρ H → P s h ρ1 H1)
    (step : ∀ a b ρ1 hh1 H1, Ext ρ H ρ1 H1 → Rep X.K G ρ1 hh1 H1 → RE X.K G ρ1 H1 env σ → rep H ρ1 H1 a b → (k a hh1).sat (fun s h => P s h ρ1 H1) (fun x hh' => ∀ cls dx H' ρ', Ext ρ1 H1 ρ' H' → Rep X.K G ρ' hh' H' → XR X.K G ρ' H' x cls dx → W cls dx σ H') → rest b H1) : tG X.K G W rep φ σ H rest := by
  refine ⟨ρ, hh, env, rp, re, ?_⟩
  refine R.sat_mono (R.sat_bind sat) (fun a hh1 q b H1 ρ1 e1 rp1 ra => ?_) fun x h z => z
  exact step a b ρ1 hh1 H1 e1 rp1 (re.ext e1) ra (R.sat_mono q (fun s h z => mono _ _ _ _ e1 z) fun x h z cls dx H' ρ' e' => z cls dx H' ρ' (e1.trans e'))
theorem SI.rng1 {φ : EΦ} {p : Pos} (hg : Gl X "range") (hm : X.mg "range" = none) (ha : SE X G W a φ) (hs : starEach [a] X.env = (false, eval a X.env) :: starEach [] X.env := by rfl) : SI X G W (RV X.K G) tg (.Call (.Name "range" p) [a] [] pos) (I.rng1 φ) := by
  refine ⟨PI.weak (pi_range1 hg hm (pa_cons ha.pe pa_nil hs) hs) ?_⟩
  rintro σ H Rr ⟨ρ, hh, env, rp, re, sat⟩
  refine tG.toI (P := fun s h ρ H => ∀ J ρ' H', Ext ρ H ρ' H' → Rep X.K G ρ' h H' → ItOk X.K G (RV X.K G) ρ' H' s J → Rr J H') rp re sat (fun s h ρ1 H1 e z J ρ' H' e' => z J ρ' H' (e.trans e')) fun d v ρ1 hh1 H1 e1 rp1 re1 rd q => ?_
  obtain ⟨i, j, ei, rfl, hr, q⟩ := rngS_ok q
  cases ei
  have rd' := rv_int rd
  subst rd'
  have hr := rngOk_ok hr
  refine ⟨j, rfl, hr.1.2, hr.2, ?_⟩
  have := itOk_rng (X := X) (G := G) (ρ0 := ρ1) (H0 := H1) 0 j
  rw [Int.sub_zero] at this
  exact q _ ρ1 H1 (Ext.refl _ _) rp1 this
theorem SI.rng2 {φ ψ : EΦ} {p : Pos} (hg : Gl X "range") (hm : X.mg "range" = none) (ha : SE X G W a φ) (hb : SE X G W b ψ) (hs : starEach [a, b] X.env = (false, eval a X.env) :: starEach [b] X.env := by rfl) (hs2 : starEach [b] X.env = (false, eval b X.env) :: starEach [] X.env := by rfl)
    (hs' : starEach [a, b] X.env = [(false, eval a X.env), (false, eval b X.env)] := by rfl) (hs2' : starEach [b] X.env = [(false, eval b X.env)] := by rfl) : SI X G W (RV X.K G) tg (.Call (.Name "range" p) [a, b] [] pos) (I.rng2 φ ψ) := by
  refine ⟨PI.weak (pi_range2 hg hm (pa_cons ha.pe (pa_cons hb.pe pa_nil hs2) hs) hs' hs2') ?_⟩
  rintro σ H Rr ⟨ρ, hh, env, rp, re, sat⟩
  refine tG.toI (P := fun s h ρ H => ∀ J ρ' H', Ext ρ H ρ' H' → Rep X.K G ρ' h H' → ItOk X.K G (RV X.K G) ρ' H' s J → Rr J H') rp re sat (fun s h ρ1 H1 e z J ρ' H' e' => z J ρ' H' (e.trans e')) fun d v ρ1 hh1 H1 e1 rp1 re1 rd q => ?_
  refine tG.toI (P := fun s h ρ H => ∀ J ρ' H', Ext ρ H ρ' H' → Rep X.K G ρ' h H' → ItOk X.K G (RV X.K G) ρ' H' s J → Rr J H') rp1 re1 q (fun s h ρ1 H1 e z J ρ' H' e' => z J ρ' H' (e.trans e')) fun d2 v2 ρ2 hh2 H2 e2 rp2 re2 rd2 q => ?_
  obtain ⟨i, j, rfl, rfl, hr, q⟩ := rngS_ok q
  have rd1' := rv_int rd
  have rd2' := rv_int rd2
  subst rd1' rd2'
  have hr := rngOk_ok hr
  exact ⟨i, j, rfl, ⟨hr.1.1.1, hr.1.1.2, hr.1.2, hr.2⟩, q _ ρ2 H2 (Ext.refl _ _) rp2 (itOk_rng i j)⟩
/-! ### list(range(..)), tuple(range(..)) -/
def lrng (x y : D) (h : Hh) : R (List D) := match x, y with
  | .int i, .int j => if rngOk i j && Nat.ble (j - i).toNat 16777216 then .ok (rngD i j) h else .bad
  | _, _ => .bad
theorem lrng_ok {x y : D} {h : Hh} {P : List D → Hh → Prop} {E : Ex → Hh → Prop} (q : (lrng x y h).sat P E) : ∃ i j, x = .int i ∧ y = .int j ∧ RgOk i j ∧ P (rngD i j) h := by
  unfold lrng at q
  split at q
  · split at q
    · rename_i hr
      simp only [Bool.and_eq_true, Nat.ble_eq] at hr
      have h2 := rngOk_ok hr.1
      exact ⟨_, _, rfl, rfl, ⟨h2.1.1.1, h2.1.1.2, h2.1.2, h2.2, by have := hr.2; omega⟩, q⟩
    · exact q.elim
  · exact q.elim
theorem rng_rvs {K : PySem.W.Frag} {ρ : List Addr} {H : Hp} (i j : Int) : RVs K G ρ H (rngD i j) (rgV i j) := by
  have e1 : rngD i j = ((List.range (j - i).toNat).map fun (k : Nat) => i + (k : Int)).map D.int := by unfold rngD; rw [List.map_map]; rfl
  have e2 : rgV i j = ((List.range (j - i).toNat).map fun (k : Nat) => i + (k : Int)).map V.int := by unfold rgV; rw [List.map_map]; rfl
  rw [e1, e2]
  exact RVs.of_ints _
def L.rng1 (a : EΦ) : LΦ := fun env h => (a env h).bind fun d h => lrng (.int 0) d h
def L.rng2 (a b : EΦ) : LΦ := fun env h => (a env h).bind fun x h => (b env h).bind fun y h => lrng x y h
theorem SL.rng1 {φ : EΦ} {p p2 pos2 : Pos} (hc : X.calm = true) (hl : Gl X "list") (hml : X.mg "list" = none) (hg : Gl X "range") (hm : X.mg "range" = none) (ha : SE X G W a φ) (na : starEach [a] X.env = (false, eval a X.env) :: starEach [] X.env := by rfl)
    (ne : starEach [.Call (.Name "range" p) [a] [] pos] X.env = (false, eval (.Call (.Name "range" p) [a] [] pos) X.env) :: starEach [] X.env := by rfl) : SL X G W (.Call (.Name "list" p2) [.Call (.Name "range" p) [a] [] pos] [] pos2) (L.rng1 φ) := by
  refine ⟨PE.weak (pe_listRg hc hl hml (prg_1 hg hm ha.pe na) ne) ?_⟩
  rintro σ H Q ⟨ρ, hh, env, rp, re, sat⟩
  refine tG.seq later_L rp re sat fun d v ρ1 hh1 H1 e1 rp1 re1 rd sat1 => ?_
  obtain ⟨i, j, ei, rfl, hr, q⟩ := lrng_ok sat1
  cases ei
  have rd' := rv_int rd
  subst rd'
  exact ⟨j, rfl, hr, fun t ht => q _ _ _ (Ext.laid ht) (rp1.side ht) ⟨t, _, rfl, upd_same, ht, rp1.notin ht, rng_rvs _ _⟩⟩
theorem SL.rng2 {φ ψ : EΦ} {p p2 pos2 : Pos} (hc : X.calm = true) (hl : Gl X "list") (hml : X.mg "list" = none) (hg : Gl X "range") (hm : X.mg "range" = none) (ha : SE X G W a φ) (hb : SE X G W b ψ) (na : starEach [a, b] X.env = (false, eval a X.env) :: starEach [b] X.env := by rfl) (nb : starEach [b] X.env = (false, eval b X.env) :: starEach [] X.env := by rfl)
    (np : (backTo pos (starEach [b] X.env)).any (·.1) = false := by rfl)
    (ne : starEach [.Call (.Name "range" p) [a, b] [] pos] X.env = (false, eval (.Call (.Name "range" p) [a, b] [] pos) X.env) :: starEach [] X.env := by rfl) : SL X G W (.Call (.Name "list" p2) [.Call (.Name "range" p) [a, b] [] pos] [] pos2) (L.rng2 φ ψ) := by
  refine ⟨PE.weak (pe_listRg hc hl hml (prg_2 hg hm ha.pe hb.pe na nb np) ne) ?_⟩
  rintro σ H Q ⟨ρ, hh, env, rp, re, sat⟩
  refine tG.seq later_L rp re sat fun d v ρ1 hh1 H1 e1 rp1 re1 rd sat1 => ?_
  refine tG.seq later_L rp1 re1 sat1 fun d2 v2 ρ2 hh2 H2 e2 rp2 re2 rd2 sat2 => ?_
  obtain ⟨i, j, rfl, rfl, hr, q⟩ := lrng_ok sat2
  have rd1' := rv_int rd
  have rd2' := rv_int rd2
  subst rd1' rd2'
  exact ⟨i, j, rfl, rfl, hr, fun t ht => q _ _ _ (Ext.laid ht) (rp2.side ht) ⟨t, _, rfl, upd_same, ht, rp2.notin ht, rng_rvs _ _⟩⟩
/-- tuple(range(n)) -/
theorem SE.trng1 {φ : EΦ} {p p2 pos2 : Pos} (hc : X.calm = true) (hl : Gl X "tuple") (hml : X.mg "tuple" = none) (hg : Gl X "range") (hm : X.mg "range" = none) (ha : SE X G W a φ) (na : starEach [a] X.env = (false, eval a X.env) :: starEach [] X.env := by rfl)
    (ne : starEach [.Call (.Name "range" p) [a] [] pos] X.env = (false, eval (.Call (.Name "range" p) [a] [] pos) X.env) :: starEach [] X.env := by rfl) : SE X G W (.Call (.Name "tuple" p2) [.Call (.Name "range" p) [a] [] pos] [] pos2) (E.tuple (L.rng1 φ)) := by
  refine ⟨PE.weak (pe_tupRgF hc hl hml (prg_1 hg hm ha.pe na) ne) ?_⟩
  rintro σ H Q ⟨ρ, hh, env, rp, re, sat⟩
  have sat : Sat X.K G W (rV X.K G) ρ H σ Q ((φ env hh).bind fun d h => (lrng (.int 0) d h).bind fun l h => .ok (.tup l) h) := by
    unfold E.tuple L.rng1 at sat
    cases q : φ env hh <;> rw [q] at sat <;> exact sat
  refine tG.seq later_V rp re sat fun d v ρ1 hh1 H1 e1 rp1 re1 rd sat1 => ?_
  obtain ⟨i, j, ei, rfl, hr, q⟩ := lrng_ok (R.sat_bind sat1)
  cases ei
  have rd' := rv_int rd
  subst rd'
  exact ⟨j, rfl, hr, newT (W := W) (σ := σ) rp1 q (rng_rvs _ _)⟩
end
end DL

set_option Elab.async false
set_option linter.all false
set_option maxRecDepth 100000
set_option maxHeartbeats 4000000
/-! DL7: comprehensions over data. -/
namespace DL
open PySem PySem.Spec PyProof.Rows L2

inductive TgC where
  | one (i : Nat) | many (is : List Nat)
def setMany : List Nat → List D → Env → Env
  | i :: is, d :: ds, env => setMany is ds (env.set i (some d))
  | _, _, env => env
def setC : TgC → D → Env → Option Env
  | .one i, d, env => some (env.set i (some d))
  | .many is, .tup l, env => if l.length = is.length then some (setMany is l env) else none
  | _, _, _ => none
def wipeE (env : Env) : List Nat → Env
  | [] => env
  | v :: vs => (wipeE env vs).set v none
def T.yes : TΦ := fun _ h => .ok true h
def compGo (s : Src) (tg : TgC) (t : TΦ) (e : EΦ) (env : Env) : List D → Hh → R (List D)
  | [], h => if s.ok h then .ok [] h else .bad
  | d :: r, h => if s.ok h then (match setC tg d env with
    | none => .bad
    | some env1 => match t env1 h with
      | .ok true h => (match e env1 h with
        | .ok y h => (compGo s tg t e env r h).bind fun l h => .ok (y :: l) h
        | _ => .bad)
      | .ok false h => compGo s tg t e env r h
      | _ => .bad) else .bad
/-- exceptions leave no comprehension -/
theorem compGo_nox (s : Src) (tg : TgC) (t : TΦ) (e : EΦ) (env : Env) : ∀ l h x h', compGo s tg t e env l h ≠ .exc x h'
  | [], h, x, h', q => by
    unfold compGo at q
    split at q <;> cases q
  | d :: r, h, x, h', q => by
    unfold compGo at q
    split at q
    · split at q
      · cases q
      · split at q
        · split at q
          · rename_i h2 _
            cases w : compGo s tg t e env r h2 with
            | ok l h3 => rw [w] at q; cases q
            | exc y h3 => exact compGo_nox s tg t e env r h2 y h3 w
            | bad => rw [w] at q; cases q
          · cases q
        · exact compGo_nox s tg t e env r _ x h' q
        · cases q
    · cases q
def L.comp (i : IΦ) (vs : List Nat) (tg : TgC) (t : TΦ) (e : EΦ) : LΦ := fun env h => (i env h).bind fun s h => (compGo s tg t e (wipeE env vs) s.items h).bind fun l h => fits l.length (.ok l h)

theorem RE.unset {K : PySem.W.Frag} {G : Gs} {ρ : List Addr} {H : Hp} {env : Env} {σ : L2.St} (r : RE K G ρ H env σ) (i : Nat) : RE K G ρ H (env.set i none) (σ.set i none) := by
  refine ⟨by rw [List.length_set, List.length_set]; exact r.len, fun j d' hj => ?_⟩
  by_cases e : i = j
  · subst e
    have hi : i < env.length := by
      have := (List.getElem?_eq_some_iff.mp hj).1
      rwa [List.length_set] at this
    rw [List.getElem?_set_self hi] at hj
    cases hj
  · rw [List.getElem?_set_ne e] at hj
    obtain ⟨u, e1, e2⟩ := r.at' j d' hj
    exact ⟨u, by rw [List.getElem?_set_ne e]; exact e1, e2⟩
theorem RE.wipe {K : PySem.W.Frag} {G : Gs} {ρ : List Addr} {H : Hp} {env : Env} {σ : L2.St} (r : RE K G ρ H env σ) : ∀ vs : List Nat, RE K G ρ H (wipeE env vs) (L2.wipe σ vs)
  | [] => r
  | v :: vs => (RE.wipe r vs).unset v
theorem wipe_set {σ : L2.St} {i : Nat} {v : Option V} : ∀ {vs : List Nat}, i ∈ vs → L2.wipe (σ.set i v) vs = L2.wipe σ vs
  | [], h => by simp at h
  | w :: vs, h => by
    unfold L2.wipe
    by_cases e : i = w
    · subst e
      by_cases hm : i ∈ vs
      · rw [wipe_set hm]
      · have : ∀ vs : List Nat, i ∉ vs → L2.wipe (σ.set i v) vs = (L2.wipe σ vs).set i v := by
          intro vs
          induction vs with
          | nil => intro _; rfl
          | cons a r ih =>
            intro hn
            simp only [List.mem_cons, not_or] at hn
            unfold L2.wipe
            rw [ih hn.2, List.set_comm _ _ hn.1]
        rw [this vs hm, List.set_set]
    · have hm : i ∈ vs := by
        rcases List.mem_cons.mp h with q | q
        · exact absurd q e
        · exact q
      rw [wipe_set hm]
theorem wipe_wipe (σ : L2.St) : ∀ vs : List Nat, L2.wipe (L2.wipe σ vs) vs = L2.wipe σ vs := by
  have key : ∀ (ws vs : List Nat) (σ : L2.St), (∀ i ∈ ws, i ∈ vs) → L2.wipe (L2.wipe σ ws) vs = L2.wipe σ vs := by
    intro ws
    induction ws with
    | nil => intro vs σ _; rfl
    | cons a r ih =>
      intro vs σ h
      show L2.wipe ((L2.wipe σ r).set a none) vs = L2.wipe σ vs
      rw [wipe_set (h a List.mem_cons_self)]
      exact ih vs σ fun i hi => h i (List.mem_cons_of_mem _ hi)
  exact fun vs => key vs vs σ fun _ h => h
mutual
theorem RV.gen {K : PySem.W.Frag} {G : Gs} {ρ ρ' : List Addr} {H H' : Hp} (e : ∀ {n : Nat} {b : Addr}, ρ[n]? = some b → ρ'[n]? = some b) (f : ∀ b o u, H b = some (.frz o u) → H' b = some (.frz o u)) : ∀ (d : D) (v : V), RV K G ρ H d v → RV K G ρ' H' d v
  | .non, v, h => by simp only [RV] at h ⊢; exact h
  | .bl b, v, h => by simp only [RV] at h ⊢; exact h
  | .int i, v, h => by simp only [RV] at h ⊢; exact h
  | .str s, v, h => by simp only [RV] at h ⊢; exact h
  | .tup l, v, h => by
    simp only [RV] at h ⊢
    obtain ⟨a, xs, e1, e2, e3⟩ := h
    refine ⟨a, xs, e1, ?_, RVs.gen e f l xs e3⟩
    rcases e2 with ⟨o, h, d⟩ | h
    · exact .inl ⟨o, f _ _ _ h, d⟩
    · exact .inr h
  | .ref n, v, h => by
    simp only [RV] at h ⊢
    obtain ⟨a, e1, e2⟩ := h
    exact ⟨a, e1, e e2⟩
  | .fn n, v, h => by simp only [RV] at h ⊢; exact h
theorem RVs.gen {K : PySem.W.Frag} {G : Gs} {ρ ρ' : List Addr} {H H' : Hp} (e : ∀ {n : Nat} {b : Addr}, ρ[n]? = some b → ρ'[n]? = some b) (f : ∀ b o u, H b = some (.frz o u) → H' b = some (.frz o u)) : ∀ (l : List D) (xs : List V), RVs K G ρ H l xs → RVs K G ρ' H' l xs
  | [], xs, h => by simp only [RVs] at h ⊢; exact h
  | d :: l, xs, h => by
    simp only [RVs] at h ⊢
    obtain ⟨v, r, e1, e2, e3⟩ := h
    exact ⟨v, r, e1, RV.gen e f d v e2, RVs.gen e f l r e3⟩
end
theorem frz_other {H : Hp} {D : Addr} {xs : List V} {o : HO} (h : H D = some (.lst xs)) : ∀ b q u, H b = some (.frz q u) → upd H D o b = some (.frz q u) := fun b q u e => by
  rw [upd_ne]
  · exact e
  · rintro rfl; rw [h] at e; cases e
theorem RO.gen {K : PySem.W.Frag} {G : Gs} {ρ ρ' : List Addr} {H H' : Hp} {a : Addr} {o : MO} (h : RO K G ρ H a o) (e : ∀ {n : Nat} {b : Addr}, ρ[n]? = some b → ρ'[n]? = some b) (f : ∀ b o u, H b = some (.frz o u) → H' b = some (.frz o u)) (k : H' a = H a) : RO K G ρ' H' a o := by
  cases o with
  | lst l => obtain ⟨xs, q, r⟩ := h; exact ⟨xs, k.trans q, RVs.gen e f _ _ r⟩
  | frz l => obtain ⟨xs, q, r⟩ := h; exact ⟨xs, q.at k, RVs.gen e f _ _ r⟩
/-- a list that isn't counted changes -/
theorem Rep.other {K : PySem.W.Frag} {G : Gs} {ρ : List Addr} {hh : Hh} {H : Hp} (rep : Rep K G ρ hh H) {D : Addr} {xs : List V} {o : HO} (h : H D = some (.lst xs)) (n : D ∉ ρ) : Rep K G ρ hh (upd H D o) := by
  refine ⟨rep.len, rep.nd, fun m ob hm => ?_, fun P hP => ?_⟩
  · obtain ⟨b, e1, e2⟩ := rep.ob m ob hm
    exact ⟨b, e1, e2.gen (fun h => h) (frz_other h) (upd_ne fun q => n (by rw [← q]; exact List.mem_of_getElem? e1))⟩
  · obtain ⟨ps, e1, e2⟩ := rep.tb P hP
    refine ⟨ps, ?_, e2⟩
    rw [upd_ne]
    · exact e1
    · rintro rfl; rw [h] at e1; cases e1
theorem Ext.other {ρ ρ' : List Addr} {H H' : Hp} (e : Ext ρ H ρ' H') {D : Addr} {xs : List V} {o : HO} (h : H' D = some (.lst xs)) (h0 : H D = none) : Ext ρ H ρ' (L2.upd H' D o) := by
  refine ⟨e.pre, fun b ys q => ?_, fun b q u r => frz_other h _ _ _ (e.frzs _ _ _ r), fun b u q n t => ?_, fun b q => ?_⟩
  · rw [upd_ne (ne_of_none q h0)]; exact e.tups _ _ q
  · rw [upd_ne (ne_of_none q h0)]; exact e.side _ _ q n t
  · by_cases z : b = D
    · subst z; exact h0
    · rw [upd_ne z] at q; exact e.dom b q
abbrev WF : WX := fun _ _ _ _ => False
/-- a comprehension's target -/
def SCg (X : Cx) (G : Gs) (rep : RepV) (scope : Scope) (tg : Expr) (vs : List Nat) (tgc : TgC) : Prop := ∃ g : TG,
  (∀ (s : Shared) (H : Hp) (C : Addr) (cl : List (Str × Addr)) (fp : List Addr), PG (X.blk s H scope (compEnvC scope cl C X.env) fp) tg g) ∧
  ∀ ρ H d x env env1 σ Q, rep ρ H d x → RE X.K G ρ H env σ → setC tgc d env = some env1 → (∀ σ1, RE X.K G ρ H env1 σ1 → L2.wipe σ1 vs = L2.wipe σ vs → Q σ1 H) → g x σ H Q
section
variable {X : Cx} {G : Gs} {W : WX} {elt tg iter : Expr} {ifs : List Expr} {pos : Pos} {scope : Scope}
theorem SCg.one {i : Nat} {x : Str} {vs : List Nat} (hN : X.N.Nodup) (hi : X.N[i]? = some x) (hm : i ∈ vs)
    (hx : ∀ (s : Shared) (H : Hp) (C : Addr) (cl : List (Str × Addr)) (fp : List Addr), Loc (X.blk s H scope (compEnvC scope cl C X.env) fp).env.scope x ∧ ((X.blk s H scope (compEnvC scope cl C X.env) fp).fn x = true ∨ (X.blk s H scope (compEnvC scope cl C X.env) fp).env.scope.names.lookup x = some .local)) :
    SCg X G (RV X.K G) scope (.Name x pos) vs (.one i) := by
  refine ⟨gName i, fun s H C cl fp => pg_name hN hi (hx s H C cl fp).1 (hx s H C cl fp).2, fun ρ H d v env env1 σ Q r re e q => ?_⟩
  cases e
  exact q _ (re.set i r) (wipe_set hm)
theorem setMany_ok {K : PySem.W.Frag} {ρ : List Addr} {H : Hp} {vs : List Nat} : ∀ {is : List Nat} {l : List D} {xs : List V} {env : Env} {σ : L2.St}, (∀ i ∈ is, i ∈ vs) → RVs K G ρ H l xs → l.length = is.length → RE K G ρ H env σ →
    ∃ σ1, RE K G ρ H (setMany is l env) σ1 ∧ L2.wipe σ1 vs = L2.wipe σ vs
  | [], [], _, env, σ, _, _, _, re => ⟨σ, re, rfl⟩
  | i :: is, d :: ds, xs, env, σ, hm, h, hl, re => by
    obtain ⟨v, r, rfl, h1, h2⟩ := h.inv_cons
    obtain ⟨σ1, q1, q2⟩ := setMany_ok (is := is) (l := ds) (fun j hj => hm j (List.mem_cons_of_mem _ hj)) h2 (by simpa using hl) (re.set i h1)
    exact ⟨σ1, q1, by rw [q2, wipe_set (hm i List.mem_cons_self)]⟩
  | [], _ :: _, _, _, _, _, _, hl, _ => by simp at hl
  | _ :: _, [], _, _, _, _, _, hl, _ => by simp at hl
def gNames : List Nat → TGs
  | [] => gNil
  | i :: is => gCons (gName i) (gNames is)
theorem gNames_ok {vs : List Nat} : ∀ {is : List Nat} {l : List D} {xs : List V} {env : Env} {σ : L2.St} {ρ : List Addr} {H : Hp} {Q : L2.St → Hp → Prop}, (∀ i ∈ is, i ∈ vs) → RVs X.K G ρ H l xs → l.length = is.length → RE X.K G ρ H env σ →
    (∀ σ1, RE X.K G ρ H (setMany is l env) σ1 → L2.wipe σ1 vs = L2.wipe σ vs → Q σ1 H) → gNames is xs σ H Q
  | [], [], _, env, σ, ρ, H, Q, _, h, _, re, q => ⟨h.inv_nil, q σ re rfl⟩
  | i :: is, d :: ds, xs, env, σ, ρ, H, Q, hm, h, hl, re, q => by
    obtain ⟨v, r, rfl, h1, h2⟩ := h.inv_cons
    exact ⟨v, r, rfl, gNames_ok (is := is) (l := ds) (fun j hj => hm j (List.mem_cons_of_mem _ hj)) h2 (by simpa using hl) (re.set i h1) fun σ1 a b => q σ1 a (by rw [b, wipe_set (hm i List.mem_cons_self)])⟩
  | [], _ :: _, _, _, _, _, _, _, _, _, hl, _, _ => by simp at hl
  | _ :: _, [], _, _, _, _, _, _, _, _, hl, _, _ => by simp at hl
theorem SCg.many {es : List Expr} {is vs : List Nat} {k n : Nat} (hc : X.calm = true) (hm : ∀ i ∈ is, i ∈ vs) (hn : is.length = n)
    (hx : ∀ (s : Shared) (H : Hp) (C : Addr) (cl : List (Str × Addr)) (fp : List Addr), PG (X.blk s H scope (compEnvC scope cl C X.env) fp) (.Tuple es k pos) (gTup X.K n (gNames is))) : SCg X G (RVw X.K G) scope (.Tuple es k pos) vs (.many is) := by
  refine ⟨gTup X.K n (gNames is), hx, fun ρ H d v env env1 σ Q r re e q => ?_⟩
  cases d <;> first | cases e | skip
  rename_i l
  obtain ⟨a, xs, rfl, h1, h2⟩ := r
  have e : (if l.length = is.length then some (setMany is l env) else none) = some env1 := e
  split at e
  · rename_i hl
    cases e
    exact ⟨a, xs, rfl, h1, by rw [h2.length, hl, hn], gNames_ok hm h2 hl re q⟩
  · cases e
theorem SCg.strong {tg : Expr} {vs : List Nat} {tgc : TgC} (h : SCg X G (RVw X.K G) scope tg vs tgc) : SCg X G (RV X.K G) scope tg vs tgc := by
  obtain ⟨g, h1, h2⟩ := h
  exact ⟨g, h1, fun ρ H d x env env1 σ Q r => h2 ρ H d x env env1 σ Q (RVw.of r)⟩
/-- the tests of a clause -/
def STs (X : Cx) (G : Gs) (scope : Scope) (ifs : List Expr) (τ : TΦ) : Prop := ∀ (s : Shared) (H : Hp) (C : Addr) (cl : List (Str × Addr)) (fp : List Addr), PTs (X.blk s H scope (compEnvC scope cl C X.env) fp) ifs (tG X.K G WF rB τ)
theorem PTs.weak {X : Cx} {ifs : List Expr} {t t' : TT} (h : PTs X ifs t) (w : ∀ σ H Q, t' σ H Q → t σ H Q) : PTs X ifs t' := ⟨fun pins s σ H Q I q => h.run pins s σ H Q I (w σ H Q q)⟩
theorem STs.nil : STs X G scope [] T.yes := fun s H C cl fp => by
  refine PTs.weak pts_nil ?_
  rintro σ H Q ⟨ρ, hh, env, rp, re, sat⟩
  exact Sat.mk sat (Ext.refl _ _) rp rfl
theorem STs.one {c : Expr} {τ : TΦ} (h : ∀ (s : Shared) (H : Hp) (C : Addr) (cl : List (Str × Addr)) (fp : List Addr), ST (X.blk s H scope (compEnvC scope cl C X.env) fp) G WF c τ) : STs X G scope [c] τ := fun s H C cl fp => pts_one (h s H C cl fp).pt

/-- the reading of a comprehension -/
theorem comp_rd {rep : RepV} {own : List (Str × Nat)} {φ : IΦ} {tgc : TgC} {τ : TΦ} {χ : EΦ} {g : TG} {σ : L2.St} {H : Hp} {Q : VK}
    (hg : ∀ ρ H d x env env1 σ Q, rep ρ H d x → RE X.K G ρ H env σ → setC tgc d env = some env1 → (∀ σ1, RE X.K G ρ H env1 σ1 → L2.wipe σ1 (own.map (·.2)) = L2.wipe σ (own.map (·.2)) → Q σ1 H) → g x σ H Q)
    (h : tG X.K G W (rL X.K G) (L.comp φ (own.map (·.2)) tgc τ χ) σ H Q) : tLc (tI X.K G W rep φ) g (tG X.K G WF rB τ) (tG X.K G WF (rV X.K G) χ) (own.map (·.2)) σ H Q := by
  generalize own.map (·.2) = vs at hg h
  obtain ⟨ρ, hh, env, rp, re, sat⟩ := h
  refine ⟨ρ, hh, env, rp, re, ?_⟩
  unfold L.comp at sat
  cases q : φ env hh with
  | exc x hh1 => rw [q] at sat; exact sat
  | bad => rw [q] at sat; exact sat
  | ok s hh1 =>
    rw [q] at sat
    intro J ρ1 H1 e1 rp1 ok D hD
    have sat : Sat X.K G W (rL X.K G) ρ H σ Q ((compGo s tgc τ χ (wipeE env vs) s.items hh1).bind fun l h => DL.fits l.length (.ok l h)) := sat
    cases qc : compGo s tgc τ χ (wipeE env vs) s.items hh1 with
    | exc x hf => exact (compGo_nox _ _ _ _ _ _ _ _ _ qc).elim
    | bad => rw [qc] at sat; exact sat.elim
    | ok L hf =>
      rw [qc] at sat
      obtain ⟨hz, sat⟩ := Sat.fits sat
      have e2 : Ext ρ1 H1 ρ1 (upd H1 D (.lst [])) := Ext.laid hD
      refine ⟨fun i m H2 => ∃ ρ2 hh2 acc accV lr, Ext ρ1 H1 ρ2 H2 ∧ Rep X.K G ρ2 hh2 H2 ∧ H2 D = some (.lst accV) ∧ D ∉ ρ2 ∧ RVs X.K G ρ2 H2 acc accV ∧ compGo s tgc τ χ (wipeE env vs) (s.items.drop i) hh2 = .ok lr hf ∧ acc ++ lr = L ∧ m = s.items.length - i,
        ⟨_, ρ1, hh1, [], [], L, e2, rp1.side hD, upd_same, rp1.notin hD, .nil, qc, rfl, rfl⟩, ?_⟩
      rintro i m H2 ⟨ρ2, hh2, acc, accV, lr, eL, rp2, hD2, nD, rA, qr, eA, rfl⟩
      by_cases hi : i < s.items.length
      · rw [List.drop_eq_getElem_cons hi] at qr
        unfold compGo at qr
        split at qr
        · rename_i hok
          refine .inr ⟨ok.go i ρ2 hh2 H2 eL rp2 hok hi, fun H' => ∃ ρ3 hh3 acc accV lr, Ext ρ1 H1 ρ3 H' ∧ Rep X.K G ρ3 hh3 H' ∧ H' D = some (.lst accV) ∧ D ∉ ρ3 ∧ RVs X.K G ρ3 H' acc accV ∧ compGo s tgc τ χ (wipeE env vs) (s.items.drop (i + 1)) hh3 = .ok lr hf ∧ acc ++ lr = L,
            fun H' ⟨ρ3, hh3, acc3, accV3, lr3, z1, z2, z3, z4, z5, z6, z7⟩ => ⟨_, by omega, ρ3, hh3, acc3, accV3, lr3, z1, z2, z3, z4, z5, z6, z7, rfl⟩, fun x H3 hy => ?_⟩
          obtain ⟨e3, rp3, rx⟩ := ok.yld i ρ2 hh2 H2 x H3 _ eL rp2 hok (List.getElem?_eq_getElem hi) hy
          have re0 : RE X.K G ρ2 H3 (wipeE env vs) (L2.wipe σ vs) := ((re.ext (e1.trans (eL.trans e3))).wipe vs)
          have hD3 : H3 D = some (.lst accV) := e3.side _ _ hD2 nD (fun _ z => nomatch z)
          split at qr
          · cases qr
          · rename_i env1 hs1
            refine hg ρ2 H3 _ x _ env1 _ _ rx re0 hs1 fun σ1 re1 hw => ⟨by rw [hw]; exact wipe_wipe σ vs, ρ2, hh2, env1, rp3, re1, ?_⟩
            cases qt : τ env1 hh2 with
            | exc y h4 => rw [qt] at qr; cases qr
            | bad => rw [qt] at qr; cases qr
            | ok k hh4 =>
              rw [qt] at qr
              intro k' H4 ρ4 e4 rp4 rk
              have : k = k' := rk
              subst this
              have hD4 := e4.side _ _ hD3 nD (fun _ z => nomatch z)
              have nD4 := e4.notin hD3 nD
              cases k with
              | false =>
                exact iteF ⟨ρ4, hh4, acc, accV, lr, eL.trans (e3.trans e4), rp4, hD4, nD4, RVs.ext (e3.trans e4) _ _ rA, qr, eA⟩
              | true =>
                refine iteT ⟨ρ4, hh4, env1, rp4, re1.ext e4, ?_⟩
                have qr : (match χ env1 hh4 with
                  | .ok y h => (compGo s tgc τ χ (wipeE env vs) (s.items.drop (i + 1)) h).bind fun l h => .ok (y :: l) h
                  | _ => .bad) = .ok lr hf := qr
                cases qe : χ env1 hh4 with
                | exc y h5 => rw [qe] at qr; cases qr
                | bad => rw [qe] at qr; cases qr
                | ok y hh5 =>
                  rw [qe] at qr
                  intro v H5 ρ5 e5 rp5 ry
                  have hD5 := e5.side _ _ hD4 nD4 (fun _ z => nomatch z)
                  have nD5 := e5.notin hD4 nD4
                  cases qn : compGo s tgc τ χ (wipeE env vs) (s.items.drop (i + 1)) hh5 with
                  | exc y2 h6 => exact (compGo_nox _ _ _ _ _ _ _ _ _ qn).elim
                  | bad => simp only [qn, R.bind_bad] at qr; cases qr
                  | ok l6 h6 =>
                    simp only [qn, R.bind_ok] at qr
                    cases qr
                    have rA5 := RVs.ext (e3.trans (e4.trans e5)) _ _ rA
                    have hlen := rA5.length
                    have hL : acc.length + (l6.length + 1) = L.length := by rw [← eA, List.length_append, List.length_cons]
                    refine ⟨accV, hD5, by rw [hlen]; omega, ρ5, hh5, acc ++ [y], accV ++ [v], l6, ?_, ?_, upd_same, nD5, ?_, qn, ?_⟩
                    · exact (eL.trans (e3.trans (e4.trans e5))).other hD5 hD
                    · exact rp5.other hD5 nD5
                    · exact RVs.gen (fun h => h) (frz_other hD5) _ _ (rA5.append (.cons ry .nil))
                    · rw [← eA, List.append_assoc]; rfl
        · cases qr
      · rw [List.drop_of_length_le (by omega)] at qr
        unfold compGo at qr
        split at qr
        · rename_i hok
          have er : lr = [] := by cases qr; rfl
          have eh : hh2 = hf := by cases qr; rfl
          subst er eh
          refine .inl ⟨ok.stop i ρ2 hh2 H2 eL rp2 hok (by omega), ?_⟩
          rw [List.append_nil] at eA
          subst eA
          exact Sat.mk sat (e1.trans eL) rp2 ⟨D, accV, rfl, hD2, e1.dom D hD, nD, rA⟩
        · cases qr
theorem SL.comp {rep : RepV} {own : List (Str × Nat)} {φ : IΦ} {tgc : TgC} {τ : TΦ} {χ : EΦ} (hc : X.calm = true) (hN : X.N.Nodup) (hi : SI X G W rep tg iter φ) (ok : BlkOk X.N X.env.scope scope own) (hg : SCg X G rep scope tg (own.map (·.2)) tgc) (ht : STs X G scope ifs τ)
    (he : ∀ (s : Shared) (H : Hp) (C : Addr) (cl : List (Str × Addr)) (fp : List Addr), SE (X.blk s H scope (compEnvC scope cl C X.env) fp) G WF elt χ) (hs : ∀ x, foldedSetIterable iter X.env x = pure x := by intro _; rfl) :
    SL X G W (.ListComp elt [⟨tg, iter, ifs, 0⟩] scope pos) (L.comp φ (own.map (·.2)) tgc τ χ) := by
  obtain ⟨g, h1, h2⟩ := hg
  exact ⟨PE.weak (pe_lc (te := tG X.K G WF (rV X.K G) χ) hc hN hi.pi ok h1 ht (fun s H C cl fp => (he s H C cl fp).pe) hs) fun σ H Q h => comp_rd h2 h⟩
/-- name = [..] on one line, the name a local -/
theorem SS.setComp {i : Nat} {y : Str} {py : Pos} {spos : Pos} {rep : RepV} {own : List (Str × Nat)} {φ : IΦ} {tgc : TgC} {τ : TΦ} {χ : EΦ} (hc : X.calm = true) (hN : X.N.Nodup) (hy : X.N[i]? = some y) (hyl : X.env.scope.names.lookup y = some .local)
    (hsw : swapsWith (.ListComp elt [⟨tg, iter, ifs, 0⟩] scope pos) (some (.Name y py)) spos.line X.env = pure true) (hi : SI X G W rep tg iter φ) (ok : BlkOk X.N X.env.scope scope own) (hg : SCg X G rep scope tg (own.map (·.2)) tgc) (ht : STs X G scope ifs τ)
    (he : ∀ (s : Shared) (H : Hp) (C : Addr) (cl : List (Str × Addr)) (fp : List Addr), SE (X.blk s H scope (compEnvC scope cl C X.env) fp) G WF elt χ) (hs : ∀ x, foldedSetIterable iter X.env x = pure x := by intro _; rfl) :
    SS X G W (.Assign [.Name y py] (.ListComp elt [⟨tg, iter, ifs, 0⟩] scope pos) spos) (S.set i (E.ofL (L.comp φ (own.map (·.2)) tgc τ χ))) := by
  obtain ⟨g, h1, h2⟩ := hg
  refine ⟨PS.weak (ps_setLc (te := tG X.K G WF (rV X.K G) χ) hc hN hy hyl hsw hi.pi ok h1 ht (fun s H C cl fp => (he s H C cl fp).pe) hs) ?_⟩
  rintro D σ H ⟨ρ, hh, env, rp, re, sat⟩
  refine comp_rd (X := X) (G := G) (W := W) h2 ⟨ρ, hh, env, rp, re, ?_⟩
  unfold S.set E.ofL at sat
  cases q : L.comp φ (own.map (·.2)) tgc τ χ env hh with
  | exc x h3 => rw [q] at sat; exact fun cls dx H' ρ' e rp1 xr => sat cls dx ρ' σ H' e rp1 (re.ext e) xr
  | bad => rw [q] at sat; exact sat
  | ok l hh1 =>
    rw [q] at sat
    intro v H1 ρ1 e1 rp1 rl
    obtain ⟨p, xs, rfl, hp, h0, hn, rxs⟩ := rl
    obtain ⟨m, em, fm⟩ := e1.pre
    have e2 : Ext ρ H (ρ1 ++ [p]) H1 := ⟨⟨m ++ [p], by rw [em, List.append_assoc], fun b hb => (List.mem_append.mp hb).elim (fm b) fun hb => by simp at hb; rw [hb]; exact h0⟩, e1.tups, e1.frzs, e1.side, e1.dom⟩
    refine sat (ρ1 ++ [p]) _ H1 e2 (rp1.count hp hn rxs) ((re.ext e2).set i ?_)
    simp only [RV]
    refine ⟨p, rfl, ?_⟩
    rw [List.getElem?_append_right (by rw [rp1.len]; exact Nat.le_refl _), rp1.len, Nat.sub_self]
    rfl
end
end DL

set_option Elab.async false
set_option linter.all false
set_option maxRecDepth 100000
set_option maxHeartbeats 4000000
/-! DL8: calls of the text's defs; a def by its body. -/
namespace DL
open PySem PySem.Spec PyProof.Rows L2

/-! ### what a call leaves behind: objects that nobody can know are dropped -/
mutual
def D.under (n : Nat) : D → Bool
  | .tup l => D.unders n l
  | .ref m => decide (m < n)
  | _ => true
def D.unders (n : Nat) : List D → Bool
  | [] => true
  | d :: l => D.under n d && D.unders n l
end
def MO.under (n : Nat) : MO → Bool
  | .lst l => D.unders n l
  | .frz l => D.unders n l
def MO.beq : MO → MO → Bool
  | .lst l, .lst m => D.beqs l m
  | .frz l, .frz m => D.beqs l m
  | _, _ => false
theorem MO.of_beq : ∀ a b : MO, MO.beq a b = true → a = b
  | .lst l, .lst m, h => by rw [D.of_beqs l m h]
  | .frz l, .frz m, h => by rw [D.of_beqs l m h]
  | .lst _, .frz _, h => nomatch h
  | .frz _, .lst _, h => nomatch h
theorem MO.beq_refl : ∀ a : MO, MO.beq a a = true
  | .lst l => D.beqs_refl l
  | .frz l => D.beqs_refl l
def agree (n : Nat) : Hh → Hh → Bool
  | [], _ => true
  | a :: as, b :: bs => (MO.beq a b || b.under n) && agree n as bs
  | _ :: _, [] => false
theorem agree_app (n : Nat) : ∀ (a g : Hh), agree n a (a ++ g) = true
  | [], _ => rfl
  | a :: as, g => by simp only [List.cons_append, agree, MO.beq_refl, Bool.true_or, Bool.true_and]; exact agree_app n as g
theorem agree_self (n : Nat) (a : Hh) : agree n a a = true := by
  have := agree_app n a []
  rwa [List.append_nil] at this
theorem agree_at {n : Nat} : ∀ {a b : Hh} {i : Nat} {o : MO}, agree n a b = true → a[i]? = some o → ∃ o', b[i]? = some o' ∧ (o = o' ∨ o'.under n = true)
  | [], _, _, _, _, h => by simp at h
  | x :: xs, [], _, _, h, _ => by simp [agree] at h
  | x :: xs, y :: ys, 0, o, h, e => by
    simp only [agree, Bool.and_eq_true, Bool.or_eq_true] at h
    simp at e
    subst e
    exact ⟨y, rfl, h.1.imp (MO.of_beq _ _) id⟩
  | x :: xs, y :: ys, i + 1, o, h, e => by
    simp only [agree, Bool.and_eq_true] at h
    obtain ⟨o', e1, e2⟩ := agree_at (i := i) h.2 (by simpa using e)
    exact ⟨o', by simpa using e1, e2⟩
theorem agree_len {n : Nat} : ∀ {a b : Hh}, agree n a b = true → a.length ≤ b.length
  | [], _, _ => Nat.zero_le _
  | x :: xs, [], h => by simp [agree] at h
  | x :: xs, y :: ys, h => by
    simp only [agree, Bool.and_eq_true] at h
    have := agree_len h.2
    simp
    exact this
def trunc (hh : Hh) (r : R D) : R D := match r with
  | .ok d h1 => if d.under hh.length && agree hh.length hh h1 then .ok d (h1.take hh.length) else .ok d h1
  | .exc x h1 => if D.unders hh.length (x.fs.map (·.2)) && agree hh.length hh h1 then .exc x (h1.take hh.length) else .exc x h1
  | .bad => .bad
mutual
theorem RV.isBelow {K : PySem.W.Frag} {G : Gs} {ρ : List Addr} {H : Hp} : ∀ (d : D) (v : V), RV K G ρ H d v → d.under ρ.length = true
  | .non, _, _ => rfl
  | .bl _, _, _ => rfl
  | .int _, _, _ => rfl
  | .str _, _, _ => rfl
  | .fn _, _, _ => rfl
  | .tup l, v, h => by
    simp only [RV] at h
    obtain ⟨_, xs, _, _, h⟩ := h
    simp only [D.under]
    exact RVs.isBelow l xs h
  | .ref n, v, h => by
    simp only [RV] at h
    obtain ⟨a, _, h⟩ := h
    simp only [D.under]
    exact decide_eq_true (List.getElem?_eq_some_iff.mp h).1
theorem RVs.isBelow {K : PySem.W.Frag} {G : Gs} {ρ : List Addr} {H : Hp} : ∀ (l : List D) (xs : List V), RVs K G ρ H l xs → D.unders ρ.length l = true
  | [], _, _ => rfl
  | d :: l, _, h => by
    obtain ⟨v, r, rfl, h1, h2⟩ := h.inv_cons
    simp only [D.unders, Bool.and_eq_true]
    exact ⟨RV.isBelow d v h1, RVs.isBelow l r h2⟩
end
mutual
theorem RV.cutρ {K : PySem.W.Frag} {G : Gs} {ρ more : List Addr} {H : Hp} : ∀ (d : D) (v : V), RV K G (ρ ++ more) H d v → d.under ρ.length = true → RV K G ρ H d v
  | .non, _, h, _ => by simpa only [RV] using h
  | .bl _, _, h, _ => by simpa only [RV] using h
  | .int _, _, h, _ => by simpa only [RV] using h
  | .str _, _, h, _ => by simpa only [RV] using h
  | .fn _, _, h, _ => by simpa only [RV] using h
  | .tup l, v, h, b => by
    simp only [RV] at h ⊢
    obtain ⟨a, xs, e1, e2, h⟩ := h
    exact ⟨a, xs, e1, e2, RVs.cutρ l xs h (by simpa only [D.under] using b)⟩
  | .ref n, v, h, b => by
    simp only [RV] at h ⊢
    obtain ⟨a, e1, h⟩ := h
    simp only [D.under, decide_eq_true_eq] at b
    exact ⟨a, e1, by rwa [List.getElem?_append_left b] at h⟩
theorem RVs.cutρ {K : PySem.W.Frag} {G : Gs} {ρ more : List Addr} {H : Hp} : ∀ (l : List D) (xs : List V), RVs K G (ρ ++ more) H l xs → D.unders ρ.length l = true → RVs K G ρ H l xs
  | [], _, h, _ => by rw [h.inv_nil]; exact .nil
  | d :: l, _, h, b => by
    obtain ⟨v, r, rfl, h1, h2⟩ := h.inv_cons
    simp only [D.unders, Bool.and_eq_true] at b
    exact .cons (RV.cutρ d v h1 b.1) (RVs.cutρ l r h2 b.2)
end
theorem RO.isBelow {K : PySem.W.Frag} {G : Gs} {ρ : List Addr} {H : Hp} {a : Addr} {o : MO} (h : RO K G ρ H a o) : o.under ρ.length = true := by
  cases o with
  | lst l => obtain ⟨xs, _, r⟩ := h; exact RVs.isBelow _ _ r
  | frz l => obtain ⟨xs, _, r⟩ := h; exact RVs.isBelow _ _ r
theorem RO.cutρ {K : PySem.W.Frag} {G : Gs} {ρ more : List Addr} {H : Hp} {a : Addr} {o : MO} (h : RO K G (ρ ++ more) H a o) (b : o.under ρ.length = true) : RO K G ρ H a o := by
  cases o with
  | lst l => obtain ⟨xs, e, r⟩ := h; exact ⟨xs, e, RVs.cutρ _ _ r b⟩
  | frz l => obtain ⟨xs, e, r⟩ := h; exact ⟨xs, e, RVs.cutρ _ _ r b⟩
theorem Rep.cutρ {K : PySem.W.Frag} {G : Gs} {ρ ρ1 : List Addr} {hh h1 : Hh} {H H1 : Hp} (rp : Rep K G ρ hh H) (e : Ext ρ H ρ1 H1) (rp1 : Rep K G ρ1 h1 H1) (ag : agree hh.length hh h1 = true) : Rep K G ρ (h1.take hh.length) H1 ∧ Ext ρ H ρ H1 := by
  obtain ⟨more, rfl, f⟩ := e.pre
  have hl := agree_len ag
  refine ⟨⟨by rw [List.length_take, Nat.min_eq_left hl]; exact rp.len, rp.nd, fun m o hm => ?_, rp1.tb⟩, ⟨⟨[], by simp, by simp⟩, e.tups, e.frzs, e.side, e.dom⟩⟩
  have hml : m < hh.length := by
    have := (List.getElem?_eq_some_iff.mp hm).1
    rw [List.length_take] at this
    omega
  have hm' : h1[m]? = some o := by rwa [List.getElem?_take_of_lt hml] at hm
  obtain ⟨a, e1, e2⟩ := rp1.ob m o hm'
  have hρ : m < ρ.length := by rw [rp.len]; exact hml
  have e1' : ρ[m]? = some a := by rwa [List.getElem?_append_left hρ] at e1
  refine ⟨a, e1', e2.cutρ ?_⟩
  obtain ⟨o', g1, g2⟩ := agree_at ag (List.getElem?_eq_getElem hml)
  rw [hm'] at g1
  cases g1
  rcases g2 with g2 | g2
  · obtain ⟨a0, _, r0⟩ := rp.ob m _ (List.getElem?_eq_getElem hml)
    rw [← g2]
    exact r0.isBelow
  · rw [rp.len]; exact g2

/-! ### a def's promise -/
def SatF (K : PySem.W.Frag) (G : Gs) (ρ : List Addr) (H : Hp) (Q : VK) (E : XK) (r : R D) : Prop :=
  r.sat (fun d hh' => ∀ v H' ρ', Ext ρ H ρ' H' → Rep K G ρ' hh' H' → RV K G ρ' H' d v → Q v H') (fun x hh' => ∀ cls dx H' ρ', Ext ρ H ρ' H' → Rep K G ρ' hh' H' → XR K G ρ' H' x cls dx → E cls dx H')
def spF (K : PySem.W.Frag) (G : Gs) (n : Nat) (m : List D → Hh → R D) : Sp := fun vs H Q E => ∃ ρ hh ds, Rep K G ρ hh H ∧ RVs K G ρ H ds vs ∧ ds.length = n ∧ SatF K G ρ H Q E (m ds hh)
structure CallOk (P : Program) (w : World) (K : PySem.W.Frag) (mg : Str → Option Value) (base : Heap) (G : Gs) (k : Nat) (x : Str) (f : Addr) (n : Nat) (m : List D → Hh → R D) : Prop where
  ex : ∃ fd ps, ps.length = n ∧ FnOk P w K mg base (L2.CX P w) k f fd ps (spF K G n m) ∧ Binds K fd ps []
  mg : mg x = some (.ref f)
  kp : PySem.W.keepIn K (.ref f) = true
def E.call (n : Nat) (m : List D → Hh → R D) (a : LΦ) : EΦ := fun env h => (a env h).bind fun ds h => if ds.length = n then m ds h else .bad
section
variable {X : Cx} {G : Gs} {W : WX} {e : Expr} {es : List Expr} {pos p : Pos} {x : Str} {f : Addr} {n k : Nat} {m : List D → Hh → R D}
theorem SE.call {φ : LΦ} (F : CallOk X.prog X.w X.K X.mg X.base G k x f n m) (hr : Room k X.A) (tk : Takes X W) (hg : Gl X x) (ha : SA X G W (e :: es) φ) (hdb : (x == ("__debug__" : Str)) = false := by decide)
    (he : starEach (e :: es) X.env = (false, eval e X.env) :: starEach es X.env := by rfl) (hpl : (backTo pos (starEach es X.env)).any (·.1) = false := by rfl) : SE X G W (.Call (.Name x p) (e :: es) [] pos) (E.call n m φ) := by
  obtain ⟨fd, ps, hn, ok, hb⟩ := F.ex
  refine ⟨PE.weak (pe_callS ok hr hg F.mg F.kp hb (fun σ => passAt tk σ) ha.pa hdb he hpl) ?_⟩
  rintro σ H Q ⟨ρ, hh, env, rp, re, sat⟩
  refine tG.seq later_V rp re sat fun ds vs ρ1 hh1 H1 e1 rp1 re1 rd sat1 => ?_
  have sat1 : Sat X.K G W (rV X.K G) ρ1 H1 σ Q (if ds.length = n then m ds hh1 else .bad) := sat1
  split at sat1
  · rename_i hl
    exact ⟨ρ1, hh1, ds, rp1, rd, hl, sat1⟩
  · exact sat1.elim
theorem CallOk.zero {P : Program} {w : World} {K : PySem.W.Frag} {mg : Str → Option Value} {base : Heap} {fd : FuncData} {ps : List Str} {k : Nat} (hp : ps.length = n) (hb : Binds K fd ps []) (hm : mg x = some (.ref f)) (kp : PySem.W.keepIn K (.ref f) = true) : CallOk P w K mg base G k x f n (fun _ _ => .bad) := by
  refine ⟨⟨fd, ps, hp, ⟨fun vs H Q E h => ?_, fun A outer s H args us vs Q E hr e0 hbt hv h => ?_⟩, hb⟩, hm, kp⟩
  · obtain ⟨_, _, _, _, _, _, z⟩ := h; exact z.elim
  · obtain ⟨_, _, _, _, _, _, z⟩ := h; exact z.elim
/-- the body's result -/
def runB (N : Nat) (ψ : SΦ) (ds : List D) (hh : Hh) : R D := match ψ (ds.map some ++ List.replicate (N - ds.length) none) hh with
  | .nx _ h => .ok .non h
  | .rt d h => .ok d h
  | .exc x _ h => .exc x h
  | _ => .bad
theorem re_start {K : PySem.W.Frag} {ρ : List Addr} {H : Hp} {N : List Str} {ds : List D} {vs : List V} (h : RVs K G ρ H ds vs) : RE K G ρ H (ds.map some ++ List.replicate (N.length - ds.length) none) (L2.start N vs) := by
  have hl := h.length
  refine ⟨by unfold L2.start; simp [hl], fun i d hi => ?_⟩
  by_cases q : i < ds.length
  · rw [List.getElem?_append_left (by simpa using q), List.getElem?_map] at hi
    cases z : ds[i]? with
    | none => rw [z] at hi; cases hi
    | some d' =>
      rw [z] at hi
      cases hi
      obtain ⟨v, e1, e2⟩ := h.get z
      refine ⟨v, ?_, e2⟩
      unfold L2.start
      rw [List.getElem?_append_left (by simpa [hl] using q), List.getElem?_map, e1]
      rfl
  · rw [List.getElem?_append_right (by simpa using q), List.getElem?_replicate] at hi
    split at hi <;> cases hi
/-- THE RULE for a def: its body's function, at every entry -/
theorem fnOk_of {P : Program} {w : World} {K : PySem.W.Frag} {mg : Str → Option Value} {base : Heap} {fd : FuncData} {ps N : List Str} {qual : Str} {st : Stmt} {k : Nat} {ψ : SΦ} (F : FunD K x qual (defArgs st) (defBody st) (defScope st) [] [] f fd) (S : FnScope N ps (defScope st)) (hp : ps.length = n)
    (body : ∀ (cdv : Value), fd.code = cdv → ∀ (A : Around) (outer : List PySem.Env) (s : Shared) (H : Hp) (E : XK), Room k (A.deeper (envOfC qual (defScope st) s.heap.objs.size f cdv)) →
      SSs (cxOf (L2.CX P w) P w K mg base N qual (defScope st) f cdv A outer s H E) G (fun cls d _ H => E cls d H) (defBody st) ψ) : FnOk P w K mg base (L2.CX P w) (k + 1) f fd ps (spF K G n fun ds hh => trunc hh (runB N.length ψ ds hh)) := by
  obtain ⟨oc, od, dV, kV, doc, pm, an, cdv, ct, osl, e1, lk, hcd, _, _⟩ := F.ex
  have e2 : fd.code = cdv := by rw [e1]
  have bd := body cdv e2
  subst e1
  refine fn_of lk hcd S (fun vs H Q E h => ?_) (fun A outer s H vs Q E hr h => ?_)
  · obtain ⟨ρ, hh, ds, _, r, hl, _⟩ := h
    rw [r.length, hl, hp]
  · obtain ⟨ρ, hh, ds, rp, r, hl, sat⟩ := h
    refine ⟨_, (bd A outer s H E hr).ps, ρ, hh, _, rp, re_start r, ?_⟩
    have okc : ∀ (d : D) (h1 : Hh), SatF K G ρ H Q E (trunc hh (.ok d h1)) → ∀ v ρ1 H1, Ext ρ H ρ1 H1 → Rep K G ρ1 h1 H1 → RV K G ρ1 H1 d v → Q v H1 := by
      intro d h1 sat v ρ1 H1 e1 rp1 rd
      unfold trunc at sat
      simp only at sat
      split at sat
      · rename_i hc
        simp only [Bool.and_eq_true] at hc
        obtain ⟨g1, g2⟩ := rp.cutρ e1 rp1 hc.2
        obtain ⟨more, rfl, _⟩ := e1.pre
        exact sat v H1 ρ g2 g1 (RV.cutρ d v rd (by rw [rp.len]; exact hc.1))
      · exact sat v H1 ρ1 e1 rp1 rd
    have sat : SatF K G ρ H Q E (trunc hh (runB N.length ψ ds hh)) := sat
    unfold runB at sat
    show SatS K G (fun cls d _ H => E cls d H) ρ H { nx := fun _ H' => Q .non H', rt := Q } (ψ (ds.map some ++ List.replicate (N.length - ds.length) none) hh)
    cases q : ψ (ds.map some ++ List.replicate (N.length - ds.length) none) hh with
    | nx env1 h1 => rw [q] at sat; exact fun ρ1 σ1 H1 e1 rp1 re1 => okc .non h1 sat .non ρ1 H1 e1 rp1 (by simp only [RV])
    | rt d h1 => rw [q] at sat; exact fun v ρ1 H1 e1 rp1 rd => okc d h1 sat v ρ1 H1 e1 rp1 rd
    | bk env1 h1 => rw [q] at sat; exact sat.elim
    | ct env1 h1 => rw [q] at sat; exact sat.elim
    | bad => rw [q] at sat; exact sat.elim
    | exc y env1 h1 =>
      rw [q] at sat
      intro cls dx ρ1 σ1 H1 e1 rp1 re1 xr
      have sat : SatF K G ρ H Q E (trunc hh (.exc y h1)) := sat
      unfold trunc at sat
      simp only at sat
      split at sat
      · rename_i hc
        simp only [Bool.and_eq_true] at hc
        obtain ⟨g1, g2⟩ := rp.cutρ e1 rp1 hc.2
        obtain ⟨more, rfl, _⟩ := e1.pre
        refine sat cls dx H1 ρ g2 g1 ⟨xr.1, ?_⟩
        have x2 := xr.2
        cases dx with
        | none => exact x2
        | some dd =>
          obtain ⟨vs, r1, r2⟩ := x2
          exact ⟨vs, RVs.cutρ _ _ r1 (by rw [rp.len]; exact hc.1), r2⟩
      · exact sat cls dx H1 ρ1 e1 rp1 xr
theorem callOk_of {P : Program} {w : World} {K : PySem.W.Frag} {mg : Str → Option Value} {base : Heap} {fd : FuncData} {ps N : List Str} {qual : Str} {st : Stmt} {k : Nat} {ψ : SΦ} (F : FunD K x qual (defArgs st) (defBody st) (defScope st) [] [] f fd) (S : FnScope N ps (defScope st)) (hp : ps.length = n) (hb : Binds K fd ps []) (hm : mg x = some (.ref f))
    (body : ∀ (cdv : Value), fd.code = cdv → ∀ (A : Around) (outer : List PySem.Env) (s : Shared) (H : Hp) (E : XK), Room k (A.deeper (envOfC qual (defScope st) s.heap.objs.size f cdv)) →
      SSs (cxOf (L2.CX P w) P w K mg base N qual (defScope st) f cdv A outer s H E) G (fun cls d _ H => E cls d H) (defBody st) ψ) : CallOk P w K mg base G (k + 1) x f n (fun ds hh => trunc hh (runB N.length ψ ds hh)) := ⟨⟨fd, ps, hp, fnOk_of F S hp body, hb⟩, hm, F.kp⟩
end
end DL

set_option Elab.async false
set_option linter.all false
set_option maxRecDepth 100000
set_option maxHeartbeats 4000000
/-! GX0: a generator expression that is walked by all or any, turn by turn, by an invariant of the whole state. -/
namespace GX
open PySem PySem.Spec PyProof.Rows
open PySem.Sem (wp)

/-! ### the list of generators never shrinks -/
theorem runs_gens {M : Model} {Γ : PySem.Ctx} {p : Pos} {t : Sem Fin} {fs : List Frame} {s s' : Shared} {e : End} (h : Runs M Γ p t fs s e s') : s.gens.size ≤ s'.gens.size := by
  induction h <;> (try simp only [Shared.setGen, Array.size_push, Array.size_setIfInBounds, Array.size_set!] at *) <;> omega
theorem wakes_gens {M : Model} {Γ : PySem.Ctx} {p : Pos} {g : Nat} {r : Resume} {s s' : Shared} {res : GenResult} (h : Wakes M Γ p g r s res s') : s.gens.size ≤ s'.gens.size := by
  have sz : ∀ (s : Shared) x, (s.setGen g x).gens.size = s.gens.size := fun s x => by simp [Shared.setGen]
  unfold Wakes at h
  split at h
  · exact h.elim
  · split at h
    · obtain ⟨e₁, s₁, hr, _, _, rfl⟩ := h
      have := runs_gens hr
      rw [sz] at this ⊢; exact this
    · rw [h.2]; exact Nat.le_refl _
    · rw [h.2, sz]; exact Nat.le_refl _
  · obtain ⟨e₁, s₁, hr, _, _, rfl⟩ := h
    have := runs_gens hr
    rw [sz] at this ⊢; exact this
  · rw [h.2]; exact Nat.le_refl _
  · rw [h.2]; exact Nat.le_refl _
theorem wp_gens {α : Type} (M : Model) (Γ : PySem.Ctx) (n : Nat) (t : Sem α) : ∀ (Q : α → Pos → Shared → Prop) (E : Value → Pos → Shared → Prop) (p : Pos) (s : Shared), n ≤ s.gens.size → wp M Γ t Q E p s →
    wp M Γ t (fun a p' s' => n ≤ s'.gens.size ∧ Q a p' s') (fun e p' s' => n ≤ s'.gens.size ∧ E e p' s') p s := by
  induction t with
  | pure a => intro Q E p s hn h; exact ⟨hn, h⟩
  | raise e => intro Q E p s hn h; exact ⟨hn, h⟩
  | unsupported _ => intro Q E p s _ h; exact h
  | finish _ => intro Q E p s _ h; exact h
  | rule _ k ih => intro Q E p s hn h; exact ih () Q E p s hn h
  | «at» p' k ih => intro Q E p s hn h; exact ih () Q E p' s hn h
  | load a _ k ih => intro Q E p s hn h; obtain ⟨o, ho, h⟩ := h; exact ⟨o, ho, ih o Q E p s hn h⟩
  | update a _ f k ih => intro Q E p s hn h; exact ⟨h.1, ih () Q E p _ hn h.2⟩
  | loadIfAlive a k ih => intro Q E p s hn h; exact ih _ Q E p s hn h
  | point _ k ih => intro Q E p s hn h; exact ih () Q E p s hn h
  | register _ _ => intro Q E p s _ h; exact h
  | alloc o k ih => intro Q E p s hn h; exact ih _ Q E p _ hn h
  | fresh k ih => intro Q E p s hn h; exact ih _ Q E p _ hn h
  | ask k ih => intro Q E p s hn h; exact ih _ Q E p s hn h
  | choose src m k ih => intro Q E p s hn h; exact ⟨h.1, ih _ Q E p _ hn h.2⟩
  | os q _ k ih => intro Q E p s hn h; exact ih _ Q E p _ hn h
  | call c hd _ _ k ih => intro Q E p s hn h; obtain ⟨r, s', hr, h⟩ := h; exact ⟨r, s', hr, ih r Q E p s' (Nat.le_trans hn (runs_gens hr)) h⟩
  | handled own k ih => intro Q E p s hn h; exact ih _ Q E p s hn h
  | genState g k ih => intro Q E p s hn h; obtain ⟨st, hs, h⟩ := h; exact ⟨st, hs, ih _ Q E p s hn h⟩
  | newGen c k ih => intro Q E p s hn h; exact ih _ Q E p _ (by show n ≤ (s.gens.push _).size; rw [Array.size_push]; omega) h
  | resume g r _ k ih => intro Q E p s hn h; obtain ⟨res, s', hw, h⟩ := h; exact ⟨res, s', hw, ih res Q E p s' (Nat.le_trans hn (wakes_gens hw)) h⟩
  | yield _ _ _ _ => intro Q E p s _ h; exact h
  | stack k ih => intro Q E p s hn h; exact ih _ Q E p s hn h
  | fork _ _ => intro Q E p s _ h; exact h
  | thread k ih => intro Q E p s hn h; exact ih _ Q E p s hn h
  | await _ _ _ _ _ => intro Q E p s _ h; exact h
theorem wpAny_gens {α : Type} {M : Model} {A : Around} {s : Shared} {t : Sem α} {Q : α → Shared → Prop} {E : Value → Shared → Prop} {n : Nat} (hn : n ≤ s.gens.size)
    (h : wpAny M A t (fun a s' => n ≤ s'.gens.size → Q a s') E s) : wpAny M A t Q E s := by
  have z : wpAny M A t (fun a s' => n ≤ s'.gens.size ∧ (n ≤ s'.gens.size → Q a s')) (fun e s' => n ≤ s'.gens.size ∧ E e s') s := fun Γ p hΓ => wp_gens M Γ n t _ _ p s hn (h Γ p hΓ)
  exact wpAny_mono z (fun _ _ x => x.2 x.1) fun _ _ x => x.2

/-! ### a generator expression's code, turn by turn -/
section
variable {prog : Program} {w : World} {A : Around}
/-- the code of the generator's loop -/
abbrev loopC (elt tg iter : Expr) (ifs : List Expr) (scope : Scope) (pos : Pos) (it : Addr) (cenv : Env) : Code := .compLoop (.GeneratorExp elt [⟨tg, iter, ifs, 0⟩] scope pos) 0 (.ref it) .none cenv
abbrev startC (elt tg iter : Expr) (ifs : List Expr) (scope : Scope) (pos : Pos) (it : Addr) (cenv : Env) : Code := .compStart (.GeneratorExp elt [⟨tg, iter, ifs, 0⟩] scope pos) 0 (.ref it) .none cenv
/-- one turn: Hd n: at the loop's head, n turns at most; Yl v m: v is handed out, m turns at most behind it; Fn: the end -/
def Turn (prog : Program) (w : World) (Ag : Around) (elt tg : Expr) (ifs : List Expr) (it : Addr) (cenv : Env) (Hd : Nat → Shared → Prop) (Yl : Value → Nat → Shared → Prop) (Fn : Shared → Prop) : Prop :=
  ∀ n s, Hd n s → wpAny (model prog w) Ag (pyNext (.ref it)) (fun r s₁ => match r with
    | none => Fn s₁
    | some v => wpAny (model prog w) Ag (letOwnedTupleGo tg (.ref it) v) (fun _ s₁' => wpAny (model prog w) Ag (assign tg cenv v) (fun _ s₂ =>
        wpAny (model prog w) Ag (forIn ifs true fun c r => if r = true then do let ok ← isTrue c cenv (eval c cenv); pure (ForInStep.yield ok) else pure (ForInStep.yield r)) (fun ok s₃ =>
          if ok = true then wpAny (model prog w) Ag (eval elt cenv) (fun y s₄ => ∃ m, m < n ∧ Yl y m s₄) (fun _ _ => False) s₃
          else ∃ m, m < n ∧ Hd m s₃) (fun _ _ => False) s₂) (fun _ _ => False) s₁') (fun _ _ => False) s₁) (fun _ _ => False) s
def protoG (Hd : Nat → Shared → Prop) (Yl : Value → Nat → Shared → Prop) : Protocol := fun _ _ v s kap => ∃ m, Yl v m s ∧ ∀ s'', Hd m s'' → kap (.send .none) s''
def endG (Fn : Shared → Prop) : GenEnd := fun _ _ r s₁ => r = .ok .next ∧ Fn s₁
variable {elt tg iter : Expr} {ifs : List Expr} {scope : Scope} {pos : Pos} {it : Addr} {cenv : Env} {Hd : Nat → Shared → Prop} {Yl : Value → Nat → Shared → Prop} {Fn : Shared → Prop}
theorem seg_loopG (hco : cenv.scope.isCoroutine = false) (T : Turn prog w (A.over (loopC elt tg iter ifs scope pos it cenv) []) elt tg ifs it cenv Hd Yl Fn) :
    ∀ (n k : Nat) (s₀ s : Shared), n ≤ k → Hd n s → Seg (model prog w) A (endG Fn) (protoG Hd Yl) k s₀ (loopC elt tg iter ifs scope pos it cenv) ((model prog w).den (loopC elt tg iter ifs scope pos it cenv)) [] s := by
  intro n
  induction n using Nat.strongRecOn with
  | ind n ih =>
    intro k s₀ s hk hs
    show Seg _ A _ _ _ s₀ _ ((compTurn (.GeneratorExp elt [⟨tg, iter, ifs, 0⟩] scope pos) 0 (.ref it) .none cenv).onRaise (leaving cenv)) [] s
    rw [compTurn_gen, Sem.onRaise_eq_wrap]
    refine seg_bind_wrap (wpAny_standAt ?_)
    refine seg_bind_wrap (wpAny_mono (T n s hs) (fun r s₁ h₁ => ?_) fun _ _ z => False.elim z)
    cases r with
    | none => exact seg_end (.ok .next) ⟨rfl, h₁⟩
    | some v =>
      refine seg_bind_wrap (wpAny_mono h₁ (fun _ s₁' h₁' => ?_) fun _ _ z => False.elim z)
      refine seg_bind_wrap (wpAny_mono h₁' (fun _ s₂ h₂ => ?_) fun _ _ z => False.elim z)
      refine seg_bind_wrap (wpAny_mono h₂ (fun ok s₃ h₃ => ?_) fun _ _ z => False.elim z)
      cases ok with
      | false =>
        simp only [Bool.false_eq_true, if_false] at h₃ ⊢
        obtain ⟨m, hm, h₃⟩ := h₃
        exact seg_again rfl (ih m hm k s₀ s₃ (by omega) h₃)
      | true =>
        simp only [if_true] at h₃ ⊢
        have hy : ∀ v, yieldOut cenv v = yieldValue v := fun v => by simp only [yieldOut, hco, Bool.false_eq_true, if_false]
        simp only [hy]
        rw [Sem.bind_eq_wrap', Sem.bind_eq_wrap', Sem.wrap_wrap, Sem.wrap_wrap]
        refine seg_wrap (wpAny_mono h₃ (fun y s₄ h₄ => ?_) fun _ _ z => False.elim z)
        obtain ⟨m, hm, h₄⟩ := h₄
        obtain ⟨k', rfl⟩ : ∃ k', k = k' + 1 := ⟨k - 1, by omega⟩
        refine seg_at (seg_yield rfl rfl rfl ⟨m, h₄, fun s'' hs'' => ?_⟩)
        exact seg_again rfl (ih m hm k' s'' s'' (by omega) hs'')
theorem seg_startG (hco : cenv.scope.isCoroutine = false) (T : Turn prog w (A.over (loopC elt tg iter ifs scope pos it cenv) []) elt tg ifs it cenv Hd Yl Fn)
    (self : ∀ n s (Q : Value → Shared → Prop) (E : Value → Shared → Prop), Hd n s → Q (.ref it) s → wpAny (model prog w) (A.over (startC elt tg iter ifs scope pos it cenv) []) (pyIter (.ref it)) Q E s)
    (n k : Nat) (s₀ s : Shared) (hk : n ≤ k) (hs : Hd n s) : Seg (model prog w) A (endG Fn) (protoG Hd Yl) k s₀ (startC elt tg iter ifs scope pos it cenv) ((model prog w).den (startC elt tg iter ifs scope pos it cenv)) [] s := by
  have loop := seg_loopG (iter := iter) (scope := scope) (pos := pos) hco T n k s₀ s hk hs
  show Seg _ A _ _ _ s₀ _ ((compStart (.GeneratorExp elt [⟨tg, iter, ifs, 0⟩] scope pos) 0 (.ref it) .none cenv).onRaise (leaving cenv)) [] s
  unfold compStart
  rw [Sem.onRaise_eq_wrap]
  show Seg _ A _ _ _ s₀ _ ((ask >>= _).wrap _ _ _ _) [] s
  refine seg_bind_wrap (wpAny_askSetting ?_)
  split
  · exact seg_again rfl loop
  · first
      | exact seg_bind_wrap (wpAny_rule (seg_bind_wrap (wpAny_standAt (seg_bind_wrap (self n s _ _ hs (seg_again rfl loop))))))
      | (refine seg_bind_wrap (wpAny_rule ?_); show Seg _ A _ _ _ s₀ _ ((standAt iter.pos >>= _).wrap _ _ _ _) [] s; exact seg_bind_wrap (wpAny_standAt (seg_bind_wrap (self n s _ _ hs (seg_again rfl loop)))))

/-! ### all and any of it -/
/-- what the walk keeps: the generator's object, the state's stability -/
structure Keep (a : Addr) (g : Nat) (Hd : Nat → Shared → Prop) (Out : Bool → Shared → Prop) : Prop where
  gen : ∀ n s, Hd n s → s.heap.IsGen a g ∧ s.heap.NoLimit
  hd : ∀ n s x, Hd n s → x.bare = true → Hd n (s.setGen g x)
  out : ∀ b s x, Out b s → x.bare = true → Out b (s.setGen g x)
  grow : ∀ b s h', Out b s → (∀ c o, s.heap.get? c = some o → h'.get? c = some o) → Out b { s with heap := h' }
/-- the generator at a is ready for its next turn -/
def Goes (prog : Program) (w : World) (A : Around) (g : Nat) (Hd : Nat → Shared → Prop) (Yl : Value → Nat → Shared → Prop) (Fn : Shared → Prop) (k n : Nat) (s : Shared) : Prop :=
  ∃ gs, s.gens[g]? = some gs ∧ ∀ s'', Hd n s'' → gs.Goes (model prog w) A.in1 (endG Fn) (protoG Hd Yl) k (.send .none) s''
/-- what is left of it behind a turn -/
def Left (prog : Program) (w : World) (A : Around) (Hd : Nat → Shared → Prop) (Yl : Value → Nat → Shared → Prop) (Fn : Shared → Prop) : Nat → GenState → Shared → Prop
  | 0, _, _ => False
  | k + 1, x, s => x.Goes (model prog w) A.in1 (endG Fn) (protoG Hd Yl) k (.send .none) s
variable {a : Addr} {g : Nat} {Out : Bool → Shared → Prop}
theorem next_G (hh : A.handled = none) (hroom : A.depth < recursionLimit) (K : Keep a g Hd Out) {E : Value → Shared → Prop} {Q : Option Value → Shared → Prop} {b : Bool} {k n : Nat} {s : Shared} (hs : Hd n s) (hg : Goes prog w A g Hd Yl (Out b) k n s)
    (hN : ∀ s', Out b s' → Q none s') (hY : ∀ v m s₁ x, Yl v m s₁ → x.bare = true → g < (s₁.setGen g x).gens.size → (∀ s'', Hd m s'' → Left prog w A Hd Yl (Out b) k x s'') → Q (some v) (s₁.setGen g x)) :
    wpAny (model prog w) A (pyNext (.ref a)) Q E s := by
  obtain ⟨gs, hgs, hgo⟩ := hg
  obtain ⟨h1, h2⟩ := K.gen n s hs
  have hlt : g + 1 ≤ s.gens.size := by
    rcases Nat.lt_or_ge g s.gens.size with h' | h'
    · exact h'
    · rw [Array.getElem?_eq_none h'] at hgs; cases hgs
  refine wpAny_gens hlt ?_
  refine wpAny_pyNext_genexpQ (P := fun _ _ s₁ => Out b s₁) hh h2 hroom h1 hgs (hgo _ (K.hd n s .running hs rfl)) (fun v s₁ gs' hb hv => ?_) (fun s₁ hp h' hk => ?_)
  · obtain ⟨m, hy, hkap⟩ := hv
    intro hsz
    refine hY v m s₁ gs' hy hb hsz fun s'' q => ?_
    cases k with
    | zero => exact hkap s'' q
    | succ k => exact hkap s'' q
  · intro _
    exact hN _ (K.grow b _ h' (K.out b s₁ .finished hp rfl) hk)

theorem all_loopG (hh : A.handled = none) (hroom : A.depth < recursionLimit) (K : Keep a g Hd Out) {R : Result → Shared → Prop} (hR : ∀ b s', Out b s' → R (.ok (.ret (.bool b))) s') :
    ∀ (k n : Nat) (s : Shared), Hd n s → Goes prog w A.in1 g Hd (fun v m s => ∃ b, v = .bool b ∧ if b = true then Hd m s else Out false s) (Out true) k n s → codeAny (model prog w) A (.builtin "all.loop" ⟨[.ref a], []⟩) R s := by
  intro k
  induction k with
  | zero =>
    intro n s hs hg
    refine codeAny_builtin F.entry_all_loop ?_
    rw [Around.under_plainId F.plain_all_loop _]
    show wpAny _ A.in1 (pyNext (.ref a) >>= _) _ _ s
    refine wpAny_bind (next_G (A := A.in1) hh hroom K hs hg (fun s' ho => ?_) fun v m s₁ x hy hb hsz hkap => ?_)
    · exact wpAny_bind (wpAny_rule (wpAny_pure (hR true s' ho)))
    · obtain ⟨b, rfl, hy⟩ := hy
      refine wpAny_bind (wpAny_holding (wpAny_truthy_bool ?_))
      refine wpAny_bind (wpAny_letGo ?_)
      cases b with
      | true => exact (hkap s₁ hy).elim
      | false =>
        simp only [Bool.false_eq_true, if_false] at hy ⊢
        exact wpAny_bind (wpAny_rule (wpAny_pure (hR false _ (K.out _ _ _ hy hb))))
  | succ k ih =>
    intro n s hs hg
    refine codeAny_builtin F.entry_all_loop ?_
    rw [Around.under_plainId F.plain_all_loop _]
    show wpAny _ A.in1 (pyNext (.ref a) >>= _) _ _ s
    refine wpAny_bind (next_G (A := A.in1) hh hroom K hs hg (fun s' ho => ?_) fun v m s₁ x hy hb hsz hkap => ?_)
    · exact wpAny_bind (wpAny_rule (wpAny_pure (hR true s' ho)))
    · obtain ⟨b, rfl, hy⟩ := hy
      refine wpAny_bind (wpAny_holding (wpAny_truthy_bool ?_))
      refine wpAny_bind (wpAny_letGo ?_)
      cases b with
      | true =>
        simp only [if_true] at hy ⊢
        refine wpAny_pure ⟨plainId_quiet F.plain_all_loop _, ih m _ (K.hd _ _ _ hy hb) ⟨x, ?_, hkap⟩⟩
        simp only [Shared.setGen, Array.size_setIfInBounds] at hsz ⊢
        simp [hsz]
      | false =>
        simp only [Bool.false_eq_true, if_false] at hy ⊢
        exact wpAny_bind (wpAny_rule (wpAny_pure (hR false _ (K.out _ _ _ hy hb))))
theorem any_loopG (hh : A.handled = none) (hroom : A.depth < recursionLimit) (K : Keep a g Hd Out) {R : Result → Shared → Prop} (hR : ∀ b s', Out b s' → R (.ok (.ret (.bool b))) s') :
    ∀ (k n : Nat) (s : Shared), Hd n s → Goes prog w A.in1 g Hd (fun v m s => ∃ b, v = .bool b ∧ if b = true then Out true s else Hd m s) (Out false) k n s → codeAny (model prog w) A (.builtin "any.loop" ⟨[.ref a], []⟩) R s := by
  intro k
  induction k with
  | zero =>
    intro n s hs hg
    refine codeAny_builtin F.entry_any_loop ?_
    rw [Around.under_plainId F.plain_any_loop _]
    show wpAny _ A.in1 (pyNext (.ref a) >>= _) _ _ s
    refine wpAny_bind (next_G (A := A.in1) hh hroom K hs hg (fun s' ho => ?_) fun v m s₁ x hy hb hsz hkap => ?_)
    · exact wpAny_bind (wpAny_rule (wpAny_pure (hR false s' ho)))
    · obtain ⟨b, rfl, hy⟩ := hy
      refine wpAny_bind (wpAny_holding (wpAny_truthy_bool ?_))
      refine wpAny_bind (wpAny_letGo ?_)
      cases b with
      | true =>
        simp only [if_true] at hy ⊢
        exact wpAny_bind (wpAny_rule (wpAny_pure (hR true _ (K.out _ _ _ hy hb))))
      | false => exact (hkap s₁ hy).elim
  | succ k ih =>
    intro n s hs hg
    refine codeAny_builtin F.entry_any_loop ?_
    rw [Around.under_plainId F.plain_any_loop _]
    show wpAny _ A.in1 (pyNext (.ref a) >>= _) _ _ s
    refine wpAny_bind (next_G (A := A.in1) hh hroom K hs hg (fun s' ho => ?_) fun v m s₁ x hy hb hsz hkap => ?_)
    · exact wpAny_bind (wpAny_rule (wpAny_pure (hR false s' ho)))
    · obtain ⟨b, rfl, hy⟩ := hy
      refine wpAny_bind (wpAny_holding (wpAny_truthy_bool ?_))
      refine wpAny_bind (wpAny_letGo ?_)
      cases b with
      | false =>
        simp only [Bool.false_eq_true, if_false] at hy ⊢
        refine wpAny_pure ⟨plainId_quiet F.plain_any_loop _, ih m _ (K.hd _ _ _ hy hb) ⟨x, ?_, hkap⟩⟩
        simp only [Shared.setGen, Array.size_setIfInBounds] at hsz ⊢
        simp [hsz]
      | true =>
        simp only [if_true] at hy ⊢
        exact wpAny_bind (wpAny_rule (wpAny_pure (hR true _ (K.out _ _ _ hy hb))))
end
end GX

set_option Elab.async false
set_option linter.all false
set_option maxRecDepth 100000
set_option maxHeartbeats 4000000
/-! GX1: all(..), any(..) of a generator expression, for the hand layer's judgements. -/
namespace GX
open PySem PySem.Spec PyProof.Rows L2 GxR

/-- the names of a generator expression: its own (with their places in N), or captured -/
structure GenOk (N : List Str) (sc scope : Scope) (own : List (Str × Nat)) : Prop where
  kind : scope.kind = .function
  co : scope.isCoroutine = false
  cell : ∀ y ∈ scope.names, y.2 ≠ .cell
  dot : scope.names.lookup (".0" : Str) = some NameKind.local
  uniq : ∀ y ∈ scope.names, scope.names.lookup y.1 = some y.2
  ix : ∀ p ∈ own, N[p.2]? = some p.1
  free : ∀ y ∈ scope.names, y.2 = .free → sc.names.lookup y.1 = some .cell ∨ sc.names.lookup y.1 = some .free
  own : ∀ y ∈ scope.names, y.2 = .local → y.1 ∈ own.map (·.1) ∨ y.1 ∉ N
abbrev cenvG (X : Cx) (scope : Scope) (C : Addr) (code : Value) : Env := genEnv scope (cloFrom X.env.cells scope.names []) C code builtinsNs X.env
/-- the context of a generator expression's frame -/
abbrev cxG (X : Cx) (s : Shared) (H : Hp) (cenv : Env) (A : Around) (fp : List Addr) : Cx := { X with A := A, s_0 := s, H_0 := H, env := cenv, outer := X.stack, stack := cenv :: X.stack, ex := fp, fn := fun _ => false, calm := true, pn := [], xe := fun _ _ => False }
section
variable {X : Cx} {pins : List (Addr × Obj)} {σ : L2.St} {H : Hp} {s : Shared}
theorem gen_start {scope : Scope} {own : List (Str × Nat)} {fp : List Addr} {code : Value} {A : Around} {s5 : Shared} {m : Str → Option Value} {a : Addr} {og : Obj} (I : Inv X pins σ H s) (ok : GenOk X.N X.env.scope scope own) (hN : X.N.Nodup)
    (hfp : ∀ b ∈ fp, FpOk X pins H b ∧ b < s.heap.objs.size) (hos : s5.os = s.os) (hbare : AllBare s5.gens) (kp : ∀ b o, s.heap.get? b = some o → s5.heap.get? b = some o) (hn : s5.heap.Ns s.heap.objs.size m) (hA : A.handled = none)
    (hfr : A.frames = some (cenvG X scope s.heap.objs.size code :: X.stack)) (ha : s5.heap.get? a = some og) (haC : s.heap.objs.size < a) (hd : ∀ v, og.data ≠ .cell v) :
    Inv (cxG X s H (cenvG X scope s.heap.objs.size code) A fp) [(a, og)] (wipe σ (own.map (·.2))) H s5 := by
  have hfree : ∀ y ∈ scope.names, y.2 = .free → ∃ c, X.env.cells.lookup y.1 = some c := fun y hy e => by
    rcases ok.free y hy e with k | k
    · exact I.ok.has _ (.inl k)
    · exact I.ok.has _ (.inr k)
  generalize hcenv : cenvG X scope s.heap.objs.size code = cenv at hfr
  have hL : cenv.locals = s.heap.objs.size := by rw [← hcenv]; rfl
  have hcl : cenv.cells = cloFrom X.env.cells scope.names [] := by rw [← hcenv]; rfl
  have hsc : cenv.scope = scope := by rw [← hcenv]; rfl
  have mem : ∀ {y c}, cenv.cells.lookup y = some c → X.env.cells.lookup y = some c ∧ c < s.heap.objs.size := fun {y c} e => by
    rw [hcl] at e
    rcases cloFrom_mem (PySem.mem_of_lookup e) with hm | ⟨h1, rfl⟩
    · cases hm
    · obtain ⟨c, hc⟩ := hfree _ h1 rfl
      rw [hc]
      obtain ⟨w, z⟩ := I.cell _ _ hc
      exact ⟨rfl, z.lt⟩
  have look : ∀ {y}, scope.names.lookup y = some .free → ∃ c, cenv.cells.lookup y = some c ∧ X.env.cells.lookup y = some c := fun {y} hl => by
    have hy : (y, NameKind.free) ∈ scope.names := PySem.mem_of_lookup hl
    obtain ⟨c', e'⟩ := mem_lookup (cloFrom_has (cells := X.env.cells) (acc := []) hy)
    rw [← hcl] at e'
    exact ⟨c', e', (mem e').1⟩
  have nocell : ∀ y, scope.names.lookup y ≠ some .cell := fun y e => ok.cell _ (PySem.mem_of_lookup e) rfl
  have okB : (cxG X s H cenv A fp).Ok := by
    refine ⟨I.ok.mod, by show cenv.scope.kind = _; rw [hsc]; exact ok.kind, by show cenv.globals = _; rw [← hcenv]; exact I.ok.glob, by show cenv.builtins = _; rw [← hcenv] <;> rfl, by show s.heap.objs.size ≤ cenv.locals; rw [hL]; exact Nat.le_refl _,
      fun y z c e1 e2 => I.ok.inj y z c (mem e1).1 (mem e2).1, fun y hy => ?_, fun y c z e => ?_, fun _ => hA, hfr, .inr ⟨rfl, by rw [← hcenv] <;> rfl⟩, fun b hb => ⟨?_, fun y c e z => ?_⟩, I.bs, Nat.le_trans I.ok.bsz I.sz, fun b o e hb => ?_, fun b hb z => ?_, I.stack, I.stkFree⟩
    · show ∃ c, cenv.cells.lookup y = some c
      have hy : cenv.scope.names.lookup y = some .cell ∨ cenv.scope.names.lookup y = some .free := hy
      rw [hsc] at hy
      rcases hy with hy | hy
      · exact absurd hy (nocell y)
      · obtain ⟨c, h1, _⟩ := look hy
        exact ⟨c, h1⟩
    · cases (show (false : Bool) = true from z)
    · show b ≠ cenv.locals
      rw [hL]; exact Nat.ne_of_lt (hfp b hb).2
    · exact (hfp b hb).1.2.2.2.2.1 y c (mem e).1 z
    · rcases (hfp b hb).1.2.2.2.1 with z | z
      · exact I.ok.noex b o e z
      · exact absurd (Nat.lt_of_lt_of_le (Heap.lt_size e) (Nat.le_trans I.ok.bsz z)) (Nat.lt_irrefl _)
    · rcases List.mem_cons.mp (I.stkSub b z) with z | z
      · exact (hfp b hb).1.2.1 z
      · exact (hfp b hb).1.2.2.1 z
  refine ⟨okB, hos, hbare, Un.kept kp, ⟨m, ?_, fun i y av e1 e2 e3 => ?_⟩, fun y c e => ?_, ?_, fun y c e => ?_, fun p hp => ?_, I.hok.kept kp, by rw [wipe_length]; exact I.len⟩
  · show Heap.Ns _ cenv.locals _
    rw [hL]; exact hn
  · obtain ⟨e2, hne⟩ := wipe_some e2
    have hfr : scope.names.lookup y = some .free := by
      have e3 : Vis cenv.scope y := e3
      rw [hsc] at e3
      rcases e3 with e3 | e3 | e3
      · exfalso
        rcases ok.own _ (PySem.mem_of_lookup e3) rfl with e' | e'
        · obtain ⟨p, hp, hpy⟩ := List.mem_map.mp e'
          have e4 := ok.ix p hp
          have : p.1 = y := hpy
          rw [this] at e4
          exact hne (List.mem_map.mpr ⟨p, hp, nodup_ix hN e4 e1⟩)
        · exact e' (List.mem_of_getElem? e1)
      · exact absurd e3 (nocell y)
      · exact e3
    obtain ⟨m', hn', hl⟩ := I.loc
    have hvis : Vis X.env.scope y := (ok.free _ (PySem.mem_of_lookup hfr) rfl).elim (fun k => .inr (.inl k)) (fun k => .inr (.inr k))
    obtain ⟨w, r, q⟩ := hl i y av e1 e2 hvis
    refine ⟨w, r, .inr ⟨.inr (by show cenv.scope.names.lookup y = _; rw [hsc]; exact hfr), ?_⟩⟩
    obtain ⟨c, h1, h2⟩ := look hfr
    rcases q with ⟨k, _⟩ | ⟨_, c', e', z⟩
    · have k : X.env.scope.names.lookup y = some .local := k
      rcases ok.free _ (PySem.mem_of_lookup hfr) rfl with k' | k' <;> rw [show X.env.scope.names.lookup y = _ from k'] at k <;> cases k
    · rw [h2] at e'; cases e'
      exact ⟨c, h1, z.keeps kp⟩
  · obtain ⟨h1, _⟩ := mem (show cenv.cells.lookup y = some c from e)
    obtain ⟨w, z⟩ := I.cell y c h1
    exact ⟨w, z.keeps kp⟩
  · show H cenv.locals = none
    rw [hL]; exact I.hok.fresh (Nat.le_refl _)
  · exact I.freeC y c (mem (show cenv.cells.lookup y = some c from e)).1
  · have hp : p ∈ [(a, og)] := hp
    have hp : p = (a, og) := by simpa using hp
    subst hp
    refine ⟨ha, I.hok.fresh (Nat.le_of_lt haC), by show a ≠ cenv.locals; rw [hL]; exact Nat.ne_of_gt haC, fun z => ?_, hd⟩
    rcases List.mem_cons.mp (I.stkSub a z) with z | z
    · rw [z] at haC
      exact absurd (Nat.lt_trans haC I.lt) (Nat.lt_irrefl _)
    · exact I.nofs (Nat.le_of_lt haC) z

/-- z: the value at which it stops (all: false; any: true) -/
def tGen (z : Bool) (P : Addr) (wi : TI) (g : TG) (tt : TT) (te : TE) (vs : List Nat) : TE := fun σ H Q => wi σ H fun J H1 => TabG H1 P ∧ ∀ H2, Tabbed P H1 H2 → ∃ W : Nat → Nat → Hp → Prop, (∃ m, W 0 m H2) ∧ ∀ i m H, W i m H →
  (J.stop i H ∧ Q (.bl (!z)) H) ∨ (J.go i H ∧ 0 < m ∧ ∀ x H', J.yld i H x H' → g x (wipe σ vs) H' fun σ2 H3 => wipe σ2 vs = wipe σ vs ∧ tt σ2 H3 fun b H4 =>
    if b = true then te σ2 H4 fun y H5 => ∃ c, y = .bl c ∧ (if c = z then Q (.bl z) H5 else ∃ m', m' < m ∧ W (i + 1) m' H5) else ∃ m', m' < m ∧ W (i + 1) m' H4)
abbrev nmG : Bool → String
  | true => "any"
  | false => "all"
/-- the Around in which the generator's code runs, walked by a built-in that is called at A -/
abbrev aroundG (A : Around) (elt tg iter : Expr) (ifs : List Expr) (scope : Scope) (pos : Pos) (it : Addr) (cenv : Env) : Around := A.in1.in1.over (loopC elt tg iter ifs scope pos it cenv) []
theorem room_G {A : Around} {k : Nat} {elt tg iter : Expr} {ifs : List Expr} {scope : Scope} {pos : Pos} {it : Addr} {cenv : Env} (r : Room (k + 1) A) : Room k (aroundG A elt tg iter ifs scope pos it cenv) :=
  ⟨r.hd, by have := r.dp; show A.depth + 1 + 3 * k + 5 < _; omega, by have := r.un; show A.units + 1 + 1 + 3 + 16 * k + 200 < _; omega⟩
theorem frames_G {A : Around} {elt tg iter : Expr} {ifs : List Expr} {scope : Scope} {pos : Pos} {it : Addr} {cenv : Env} {l : List Env} (h : A.frames = some l) : (aroundG A elt tg iter ifs scope pos it cenv).frames = some (cenv :: l) := by
  show pushEnvs [cenv] (pushEnvs [] A.frames) = _
  rw [h]
  rfl
theorem call_G {A : Around} {E : Value → Shared → Prop} {prog : Program} {w : World} {z : Bool} {a : Addr} {g : Nat} {Hd : Nat → Shared → Prop} {Out : Bool → Shared → Prop} {Q : Value → Shared → Prop} {k n : Nat} {s : Shared} (hh : A.handled = none) (hroom : A.depth < recursionLimit) (K : Keep a g Hd Out)
    (hQ : ∀ b s', Out b s' → Q (.bool b) s') (hs : Hd n s) (hg : Goes prog w A.in1 g Hd (fun v m s => ∃ b, v = .bool b ∧ if b = z then Out z s else Hd m s) (Out (!z)) k n s) : wpAny (model prog w) A (call (.builtin (nmG z)) [.ref a]) Q E s := by
  obtain ⟨h1, h2⟩ := K.gen n s hs
  cases z with
  | false =>
    refine call_function_tree F.kind_all F.plain_all F.entry_all (F.args_all1 _) ?_
    unfold Builtin.«all»
    refine wpAny_bind (m := oneArg "all" _) (wpAny_pure ?_)
    refine wpAny_bind (wpAny_pyIter_gen h1 ?_)
    refine wpAny_pure ⟨plainId_quiet F.plain_all_loop _, all_loopG (A := A) hh hroom K (fun b s' ho => hQ b s' ho) k n s hs ?_⟩
    have e : (fun (v : Value) m s => ∃ b, v = .bool b ∧ if b = true then Hd m s else Out false s) = fun v m s => ∃ b, v = .bool b ∧ if b = false then Out false s else Hd m s := by
      funext v m s
      apply propext
      constructor
      · rintro ⟨b, e, q⟩; exact ⟨b, e, by cases b <;> simpa using q⟩
      · rintro ⟨b, e, q⟩; exact ⟨b, e, by cases b <;> simpa using q⟩
    rw [e]
    exact hg
  | true =>
    refine call_function_tree F.kind_any F.plain_any F.entry_any (F.args_any1 _) ?_
    unfold Builtin.«any»
    refine wpAny_bind (m := oneArg "any" _) (wpAny_pure ?_)
    refine wpAny_bind (wpAny_pyIter_gen h1 ?_)
    exact wpAny_pure ⟨plainId_quiet F.plain_any_loop _, any_loopG (A := A) hh hroom K (fun b s' ho => hQ b s' ho) k n s hs hg⟩

theorem inv_set {g : Nat} {x : GenState} (I : Inv X pins σ H s) (hx : x.bare = true) : Inv X pins σ H (s.setGen g x) :=
  I.call (g' := s.gens.setIfInBounds g x) (d' := s.drawn) (t' := s.toks) (ch := []) (h' := s.heap) Un.refl I.hok (fun y hy => (Array.mem_or_eq_of_mem_setIfInBounds hy).elim (I.bare y) fun e => e ▸ hx) (fun b z => absurd z (by simp))
theorem gen_core {z : Bool} {Q : VK} {c P : Addr} {elt tg iter : Expr} {ifs : List Expr} {scope : Scope} {own : List (Str × Nat)} {gpos : Pos} {wi : TI} {g : TG} {tt : TT} {te : TE} {k : Nat}
    (hr : Room (k + 1) X.A) (hc : X.calm = true) (hN : X.N.Nodup) (TB : TabB X.base X.mg c P) (hcode : X.env.code = .ref c) (ok : GenOk X.N X.env.scope scope own) (hi : PI X tg iter wi)
    (hg : ∀ (s : Shared) (H : Hp) (C : Addr) (code : Value) (A : Around) (fp : List Addr), PG (cxG X s H (cenvG X scope C code) A fp) tg g)
    (ht : ∀ (s : Shared) (H : Hp) (C : Addr) (code : Value) (A : Around) (fp : List Addr), Room k A → PTs (cxG X s H (cenvG X scope C code) A fp) ifs tt)
    (he : ∀ (s : Shared) (H : Hp) (C : Addr) (code : Value) (A : Around) (fp : List Addr), Room k A → PE (cxG X s H (cenvG X scope C code) A fp) elt te)
    (hs : ∀ v, genFold iter X.env v = pure v) (I : Inv X pins σ H s) (h : tGen z P wi g tt te (own.map (·.2)) σ H Q) :
    wpAny (model X.prog X.w) X.A (eval (.GeneratorExp elt [⟨tg, iter, ifs, 0⟩] scope gpos) X.env) (fun v s5 => wpAny (model X.prog X.w) X.A (call (.builtin (nmG z)) [v]) (EP X pins σ Q) X.xe s5) X.xe s := by
  have hfree : ∀ y ∈ scope.names, y.2 = .free → ∃ c, X.env.cells.lookup y.1 = some c := fun y hy e => by
    rcases ok.free y hy e with k | k
    · exact I.ok.has _ (.inl k)
    · exact I.ok.has _ (.inr k)
  refine wpAny_GeneratorExp_make ok.co (closure_ok hfree) ok.cell ok.dot ok.kind hr.depth ?_ hs
  refine thn (hi.run pins s σ H _ I h) fun xv s1 hx => thn hx fun itv s2 h2 => ?_
  obtain ⟨it, fp, tn, J, H2, e, I2, T, st2, f2, ⟨ps, hP, htr⟩, q⟩ := h2
  subst e
  have hPs : s2.heap.get? P = some { cls := .none, data := .fields ps } := I2.hok P _ hP
  have cd : PySem.W.CodeHd s2.heap c P := TB.code.keeps fun b u e => I2.bk b u e
  refine ⟨I2.nolimit, ?_⟩
  have cont : ∀ (code : Value) (h3 : Heap) (tk : Nat) (ps' : Array Value), Heap.ExtBut P s2.heap h3 → s2.heap.objs.size ≤ h3.objs.size → h3.get? P = some { cls := .none, data := .fields ps' } → (∃ more, ps' = ps ++ more) → TriplesOk ps'.toList →
      wpAny (model X.prog X.w) X.A (builtinsFor X.env.globals X.env.builtins) (fun bi s₄ => ∀ h', h'.Ns s₄.heap.objs.size (fun y => if y = ".0" then some (.ref it) else none) → Heap.SameBut s₄.heap.objs.size (s₄.heap.push { cls := .type "frame", data := .dict #[] }) h' →
        (fun v s5 => wpAny (model X.prog X.w) X.A (call (.builtin (nmG z)) [v]) (EP X pins σ Q) X.xe s5) (.ref h'.objs.size) { s₄ with
            gens := s₄.gens.push (.fresh (.compStart (.GeneratorExp elt [⟨tg, iter, ifs, 0⟩] scope gpos) 0 (.ref it) .none (genEnv scope (cloFrom X.env.cells scope.names []) s₄.heap.objs.size code bi X.env))),
            toks := s₄.toks + 1 + 1 + 1,
            heap := h'.push { cls := .type "generator", data := .fields #[.int s₄.gens.size 0, .str "<genexpr>" (s₄.toks + 1), .str (X.env.qual ++ "<genexpr>") (s₄.toks + 1 + 1)] } }) X.xe { s2 with heap := h3, toks := tk } := by
    intro code h3 tk ps' hx hsz hP3 hmore ht3
    obtain ⟨bm, ob, e1, e2, e3, e4, e5, e6, e7, e8⟩ := TB.bm
    have keep3 : ∀ b u, b ≠ P → s2.heap.get? b = some u → h3.get? b = some u := fun b u hb e => hx b u hb e
    refine wpAny_builtinsFor (m := X.mg) (by rw [I2.ok.glob]; exact (I2.mod.glob.keeps I2.bk).extBut hx TB.gP) e1 e2 (keep3 _ _ e4 (I2.bk _ _ e5)) e6 e7 e8 ?_
    obtain ⟨more, rfl⟩ := hmore
    have I4 : Inv X pins σ (upd H2 P (.tbl (ps ++ more))) { s2 with heap := h3, toks := tk } := inv_tab (g' := s2.gens) (d' := s2.drawn) I2 hP keep3 hP3 I2.bare
    have tb : Tabbed P H2 (upd H2 P (.tbl (ps ++ more))) := ⟨⟨ps ++ more, upd_same, ht3⟩, fun b hb => upd_ne hb⟩
    obtain ⟨W, ⟨m0, w0⟩, turn⟩ := q _ tb
    have fpP : ∀ b ∈ fp, b ≠ P := fun b hb z => by
      have := (f2 b hb).1
      rw [z, hP] at this; cases this
    generalize upd H2 P (.tbl (ps ++ more)) = H4 at I4 tb w0
    have nfp : ∀ b ∈ fp, H4 b = none := fun b hb => by rw [tb.2 b (fpP b hb)]; exact (f2 b hb).1
    have st4 : tn 0 h3 := T.keep _ _ _ st2 fun b hb o e => keep3 b o (fpP b hb) e
    have f4 : ∀ b ∈ fp, FpOk X pins H4 b ∧ b < h3.objs.size := fun b hb => ⟨⟨nfp b hb, (f2 b hb).2⟩, by
      obtain ⟨o, e, _⟩ := T.obj _ _ st4 b hb
      exact Heap.lt_size e⟩
    generalize hs4 : ({ s2 with heap := h3, toks := tk } : Shared) = s4 at I4
    have hh4 : s4.heap = h3 := by rw [← hs4]
    rw [← hh4] at f4 st4
    intro h' hn' hs'
    generalize hgo : ({ cls := .type "generator", data := .fields #[.int s4.gens.size 0, .str "<genexpr>" (s4.toks + 1), .str (X.env.qual ++ "<genexpr>") (s4.toks + 1 + 1)] } : Obj) = og
    generalize hs5 : ({ s4 with
            gens := s4.gens.push (.fresh (.compStart (.GeneratorExp elt [⟨tg, iter, ifs, 0⟩] scope gpos) 0 (.ref it) .none (genEnv scope (cloFrom X.env.cells scope.names []) s4.heap.objs.size code builtinsNs X.env))),
            toks := s4.toks + 1 + 1 + 1,
            heap := h'.push og } : Shared) = s5
    show wpAny (model X.prog X.w) X.A (call (.builtin (nmG z)) [.ref h'.objs.size]) (EP X pins σ Q) X.xe s5
    have hszh : h'.objs.size = s4.heap.objs.size + 1 := by rw [hs'.1, Heap.size_push]
    have kp : ∀ b o, s4.heap.get? b = some o → s5.heap.get? b = some o := fun b o e => by
      rw [← hs5]
      exact Heap.get?_push_of_some _ (hs'.extBut b o (Nat.ne_of_lt (Heap.lt_size e)) (Heap.get?_push_of_some _ e))
    have ha : s5.heap.get? h'.objs.size = some og := by
      rw [← hs5]
      exact Heap.get?_push_size _ (by rw [← hgo]; rfl)
    have hgens : s5.gens = s4.gens.push (.fresh (startC elt tg iter ifs scope gpos it (cenvG X scope s4.heap.objs.size code))) := by rw [← hs5]
    have bare5 : AllBare s5.gens := by rw [hgens]; exact I4.bare.push rfl
    have I5 := gen_start (A := aroundG X.A elt tg iter ifs scope gpos it (cenvG X scope s4.heap.objs.size code)) I4 ok hN f4 (by rw [← hs5]) bare5 kp (by rw [← hs5]; exact hn'.push _) hr.hd (frames_G I4.ok.frames) ha (by rw [hszh]; exact Nat.lt_succ_self _) (fun v => by rw [← hgo]; exact fun z => nomatch z)
    have rG : Room k (aroundG X.A elt tg iter ifs scope gpos it (cenvG X scope s4.heap.objs.size code)) := room_G hr
    have pg := hg s4 H4 s4.heap.objs.size code (aroundG X.A elt tg iter ifs scope gpos it (cenvG X scope s4.heap.objs.size code)) fp
    have pt := ht s4 H4 s4.heap.objs.size code (aroundG X.A elt tg iter ifs scope gpos it (cenvG X scope s4.heap.objs.size code)) fp rG
    have pe := he s4 H4 s4.heap.objs.size code (aroundG X.A elt tg iter ifs scope gpos it (cenvG X scope s4.heap.objs.size code)) fp rG
    have hgen : ∀ {h : Heap}, h.get? h'.objs.size = some og → h.IsGen h'.objs.size s4.gens.size := fun {h} e => ⟨_, _, _, e, by rw [← hgo], by rw [← hgo], by rw [← hgo]⟩
    have hga : s5.gens[s4.gens.size]? = some (.fresh (startC elt tg iter ifs scope gpos it (cenvG X scope s4.heap.objs.size code))) := by rw [hgens]; exact Array.getElem?_push_size ..
    have haC : s4.heap.objs.size < h'.objs.size := by rw [hszh]; exact Nat.lt_succ_self _
    have st5 : tn 0 s5.heap := T.keep _ _ _ st4 fun b _ o e => kp b o e
    have hco : (cenvG X scope s4.heap.objs.size code).scope.isCoroutine = false := ok.co
    generalize cenvG X scope s4.heap.objs.size code = cenv at I5 rG pg pt pe hga hco
    generalize h'.objs.size = a at I5 hgen haC
    have back : ∀ {pl : List (Addr × Obj)} {σ' : L2.St} {H' : Hp} {s' : Shared}, Inv (cxG X s4 H4 cenv (aroundG X.A elt tg iter ifs scope gpos it cenv) fp) pl σ' H' s' → Inv X pins σ H' s' := fun {pl σ' H' s'} I' =>
      I4.call' (ch := fp) I'.os I'.base I'.hok I'.bare fun b hb => ⟨(f4 b hb).1.2.2.2.1, (f4 b hb).1.2.1, (f4 b hb).1.2.2.2.2.1, (f4 b hb).1.2.2.2.2.2⟩
    have stat : ∀ {σ' : L2.St} {H' : Hp} {s' : Shared}, Inv (cxG X s4 H4 cenv (aroundG X.A elt tg iter ifs scope gpos it cenv) fp) [(a, og)] σ' H' s' → (∀ b ∈ fp, H' b = none) → ∀ b ∈ fp, FpOk (cxG X s4 H4 cenv (aroundG X.A elt tg iter ifs scope gpos it cenv) fp) [(a, og)] H' b := fun {σ' H' s'} I' hn b hb =>
      ⟨hn b hb, (I'.ok.exf b hb).1, I'.ok.exfs b hb, .inl hb, fun x c e => (I'.ok.exf b hb).2 x c e, fun p hp => by
        have hp : p ∈ [(a, og)] := hp
        have hp : p = (a, og) := by simpa using hp
        subst hp
        exact Nat.ne_of_gt (Nat.lt_trans (f4 b hb).2 haC)⟩
    refine call_G (z := z) (g := s4.gens.size) (n := m0) (k := m0) (Hd := fun n s' => ∃ i H', Inv (cxG X s4 H4 cenv (aroundG X.A elt tg iter ifs scope gpos it cenv) fp) [(a, og)] (wipe σ (own.map (·.2))) H' s' ∧ tn i s'.heap ∧ (∀ b ∈ fp, H' b = none) ∧ W i n H')
      (Out := fun b s' => ∃ H', Inv X pins σ H' s' ∧ Q (.bl b) H') hr.hd hr.depth ⟨?_, ?_, ?_, ?_⟩ ?_ ⟨0, H4, I5, st5, nfp, w0⟩ ⟨_, hga, fun s'' hs'' => ⟨rfl, seg_startG (A := X.A.in1.in1) hco ?_ ?_ m0 m0 s'' s'' (Nat.le_refl _) hs''⟩⟩
    · rintro n s' ⟨i, H', I', _⟩
      exact ⟨hgen (I'.pin (a, og) (by simp)).1, I'.nolimit⟩
    · rintro n s' x ⟨i, H', I', r1, r2, r3⟩ hx
      exact ⟨i, H', inv_set I' hx, r1, r2, r3⟩
    · rintro b s' x ⟨H', I', r⟩ hx
      exact ⟨H', inv_set I' hx, r⟩
    · rintro b s' h ⟨H', I', r⟩ hk
      exact ⟨H', I'.kept (t' := s'.toks) hk, r⟩
    · rintro b s' ⟨H', I', r⟩
      exact ⟨.bl b, H', I', rfl, r⟩
    · rintro n s6 ⟨i, H6, I6, st6, n6, w6⟩
      rcases turn i n H6 w6 with ⟨stop, qq⟩ | ⟨go, hm0, step⟩
      · refine thnF (T.done (cxG X s4 H4 cenv (aroundG X.A elt tg iter ifs scope gpos it cenv) fp) rfl rfl rfl rfl i _ s6 _ H6 (fun _ _ => False) I6 (stat I6 n6) st6 stop) fun r s7 ⟨hr, I7⟩ => ?_
        subst hr
        exact ⟨H6, back I7, qq⟩
      · refine thnF (T.item (cxG X s4 H4 cenv (aroundG X.A elt tg iter ifs scope gpos it cenv) fp) rfl rfl rfl rfl i _ s6 _ H6 (fun _ _ => False) I6 (stat I6 n6) st6 go) fun r s7 ⟨u, hr, h7⟩ => ?_
        subst hr
        refine thnF h7 fun _ s8 ⟨x, H8, I8, r8, y8, st8, n8⟩ => ?_
        have I8' := I8.pinned (stat I8 n8) (T.obj _ _ st8)
        refine thnF (pg.run _ s8 _ H8 x u _ I8' r8 (step x H8 y8)) fun _ s9 ⟨σ9, H9, I9, hw9, q9⟩ => ?_
        refine thnF (pt.run _ s9 σ9 H9 _ I9 q9) fun b s10 ⟨H10, I10, q10⟩ => ?_
        have fin : ∀ {s' : Shared} {H' : Hp} {m : Nat}, Inv (cxG X s4 H4 cenv (aroundG X.A elt tg iter ifs scope gpos it cenv) fp) ([(a, og)] ++ pinsAt fp s8.heap) σ9 H' s' → W (i + 1) m H' → ∃ i H', Inv (cxG X s4 H4 cenv (aroundG X.A elt tg iter ifs scope gpos it cenv) fp) [(a, og)] (wipe σ (own.map (·.2))) H' s' ∧ tn i s'.heap ∧ (∀ b ∈ fp, H' b = none) ∧ W i m H' := fun {s' H' m} I' w' => by
          have pin' : ∀ b ∈ fp, ∀ o, s8.heap.get? b = some o → s'.heap.get? b = some o ∧ H' b = none := fun b hb o e =>
            let z := I'.pin (b, o) (List.mem_append_right _ (List.mem_append_right _ (mem_pinsAt hb e)))
            ⟨z.1, z.2.1⟩
          have hl : (wipe σ (own.map (·.2))).length = σ9.length := by rw [← hw9, wipe_length]
          refine ⟨i + 1, H', (I'.unpinned (pins := [(a, og)])).weak hl (fun j v e => ?_), T.keep _ _ _ st8 fun b hb o e => (pin' b hb o e).1, fun b hb => ?_, w'⟩
          · rw [← hw9] at e
            exact (wipe_some e).1
          · obtain ⟨o, e, _⟩ := T.obj _ _ st8 b hb
            exact (pin' b hb o e).2
        cases b with
        | false =>
          simp only [Bool.false_eq_true, if_false] at q10 ⊢
          obtain ⟨m', hm, w'⟩ := q10
          exact ⟨m', hm, fin I10 w'⟩
        | true =>
          simp only [if_true] at q10 ⊢
          refine thnF (pe.run _ s10 σ9 H10 _ I10 q10) fun y s11 ⟨yv, H11, I11, r11, bb, eb, q11⟩ => ?_
          subst eb
          cases (show y = Value.bool bb from r11)
          by_cases hb : bb = z
          · subst hb
            rw [if_pos rfl] at q11
            exact ⟨0, hm0, bb, rfl, by rw [if_pos rfl]; exact ⟨H11, back I11, q11⟩⟩
          · rw [if_neg hb] at q11
            obtain ⟨m', hm, w'⟩ := q11
            exact ⟨m', hm, bb, rfl, by rw [if_neg hb]; exact fin I11 w'⟩
    · rintro n s6 Q' E' ⟨i, H6, I6, st6, _⟩ hq
      exact T.self _ i s6 Q' E' st6 hq
  cases hf : codeAmong gpos ps.toList with
  | none =>
    refine wpAny_genexprCodeX hcode (cd.code hPs htr) (cd.tab hPs) hf fun c' h' tk hx hge hlt hco' _ htab' _ => ?_
    obtain ⟨o1, vs, f1, tf, fl, tg, inF, tx, tt, op, _, _, _, _, _, _, _, _, _, htr, _⟩ := hco'
    exact cont _ h' tk _ hx (Nat.le_trans hge (Nat.le_of_lt hlt)) htab'.2 ⟨_, rfl⟩ htr
  | some cv =>
    refine wpAny_genexprCode_hit hcode (cd.code hPs htr) hf ?_
    exact cont cv s2.heap s2.toks ps (Heap.ExtBut.refl _ _) (Nat.le_refl _) hPs ⟨#[], by simp⟩ htr
theorem pe_genG {z : Bool} {c P : Addr} {elt tg iter : Expr} {ifs : List Expr} {scope : Scope} {own : List (Str × Nat)} {gpos p pos : Pos} {wi : TI} {g : TG} {tt : TT} {te : TE} {k : Nat} {x : Str}
    (hr : Room (k + 1) X.A) (hc : X.calm = true) (hN : X.N.Nodup) (hgl : Gl X x) (hm : X.mg x = none) (hb : bootBuiltins x = some (.builtin (nmG z))) (TB : TabB X.base X.mg c P) (hcode : X.env.code = .ref c) (ok : GenOk X.N X.env.scope scope own) (hi : PI X tg iter wi)
    (hg : ∀ (s : Shared) (H : Hp) (C : Addr) (code : Value) (A : Around) (fp : List Addr), PG (cxG X s H (cenvG X scope C code) A fp) tg g)
    (ht : ∀ (s : Shared) (H : Hp) (C : Addr) (code : Value) (A : Around) (fp : List Addr), Room k A → PTs (cxG X s H (cenvG X scope C code) A fp) ifs tt)
    (he : ∀ (s : Shared) (H : Hp) (C : Addr) (code : Value) (A : Around) (fp : List Addr), Room k A → PE (cxG X s H (cenvG X scope C code) A fp) elt te)
    (hs : ∀ v, genFold iter X.env v = pure v) (hn : x ≠ "__name__" := by decide) (hdb : (x == ("__debug__" : Str)) = false := by decide)
    (hst : starEach [.GeneratorExp elt [⟨tg, iter, ifs, 0⟩] scope gpos] X.env = (false, eval (.GeneratorExp elt [⟨tg, iter, ifs, 0⟩] scope gpos) X.env) :: starEach [] X.env := by rfl) :
    PE X (.Call (.Name x p) [.GeneratorExp elt [⟨tg, iter, ifs, 0⟩] scope gpos] [] pos) (tGen z P wi g tt te (own.map (·.2))) := by
  refine ⟨fun pins s σ H Q I h => ?_⟩
  refine wpAny_Call_Name_kw (ld_blt I hgl hm hb ?_ hn hdb)
  refine PyProof.Rows.callWith_builtin1 ?_ hst (by rfl)
  rw [hst]
  show wpAny _ _ (spliced ((false, eval (.GeneratorExp elt [⟨tg, iter, ifs, 0⟩] scope gpos) X.env) :: backTo pos (starEach [] X.env))) _ _ s
  refine Calls.spliced_cons (thn (gen_core hr hc hN TB hcode ok hi hg ht he hs I h) fun v s5 q => ?_)
  exact Calls.spliced_nil q
/-- the names, checked -/
def genC (N : List Str) (sc scope : Scope) (own : List (Str × Nat)) : Bool :=
  (match scope.kind with | .function => true | _ => false) && !scope.isCoroutine && (match scope.names.lookup (".0" : Str) with | some .local => true | _ => false) && (scope.names.all fun y => decide (scope.names.lookup y.1 = some y.2)) && (own.all fun p => decide (N[p.2]? = some p.1)) &&
    (scope.names.all fun y => match y.2 with
      | .free => (match sc.names.lookup y.1 with | some .cell => true | some .free => true | _ => false)
      | .local => decide (y.1 ∈ own.map (·.1)) || decide (y.1 ∉ N)
      | .cell => false
      | _ => true)
theorem genOk_by {N : List Str} {sc scope : Scope} {own : List (Str × Nat)} (h : genC N sc scope own = true) : GenOk N sc scope own := by
  unfold genC at h
  simp only [Bool.and_eq_true, List.all_eq_true, decide_eq_true_eq, Bool.not_eq_true'] at h
  obtain ⟨⟨⟨⟨⟨h1, h0⟩, hd⟩, h2⟩, h3⟩, h4⟩ := h
  refine ⟨?_, h0, fun y hy e => ?_, ?_, h2, h3, fun y hy e => ?_, fun y hy e => ?_⟩
  · split at h1
    · assumption
    · cases h1
  · have q := h4 y hy
    simp only [e] at q
    cases q
  · split at hd
    · assumption
    · cases hd
  · have q := h4 y hy
    simp only [e] at q
    split at q <;> first | exact .inl (by assumption) | exact .inr (by assumption) | cases q
  · have q := h4 y hy
    simp only [e, Bool.or_eq_true, decide_eq_true_eq] at q; exact q
end
end GX

set_option Elab.async false
set_option linter.all false
set_option maxRecDepth 100000
set_option maxHeartbeats 4000000
/-! DL9: all, any of generator expressions over data; a def whose code has a table. -/
namespace DL
open PySem PySem.Spec PyProof.Rows L2 GX GxR

def genGo (z : Bool) (s : Src) (tg : TgC) (t : TΦ) (e : EΦ) (env : Env) : List D → Hh → R D
  | [], h => if s.ok h then .ok (.bl (!z)) h else .bad
  | d :: r, h => if s.ok h then (match setC tg d env with
    | none => .bad
    | some env1 => match t env1 h with
      | .ok true h => (match e env1 h with
        | .ok (.bl c) h => if c = z then .ok (.bl z) h else genGo z s tg t e env r h
        | _ => .bad)
      | .ok false h => genGo z s tg t e env r h
      | _ => .bad) else .bad
def E.gen (z : Bool) (i : IΦ) (vs : List Nat) (tg : TgC) (t : TΦ) (e : EΦ) : EΦ := fun env h => (i env h).bind fun s h => genGo z s tg t e (wipeE env vs) s.items h
theorem genGo_nox (z : Bool) (s : Src) (tg : TgC) (t : TΦ) (e : EΦ) (env : Env) : ∀ l h x h', genGo z s tg t e env l h ≠ .exc x h'
  | [], h, x, h', q => by
    unfold genGo at q
    split at q <;> cases q
  | d :: r, h, x, h', q => by
    unfold genGo at q
    split at q
    · split at q
      · cases q
      · split at q
        · split at q
          · split at q
            · cases q
            · exact genGo_nox z s tg t e env r _ x h' q
          · cases q
        · exact genGo_nox z s tg t e env r _ x h' q
        · cases q
    · cases q

section
variable {K : PySem.W.Frag} {G : Gs} {ρ : List Addr} {hh : Hh} {H H' : Hp} {P : Addr}
theorem Ext.tabbed (hT : TabG H P) (t : Tabbed P H H') : Ext ρ H ρ H' := by
  obtain ⟨ps, hP, _⟩ := hT
  have ne : ∀ b u, H b = some u → (∀ q, u ≠ .tbl q) → b ≠ P := fun b u e q z => by
    rw [z, hP] at e
    exact q ps (Option.some.inj e).symm
  refine ⟨⟨[], by simp, by simp⟩, fun b ys e => ?_, fun b o u e => ?_, fun b u e _ hu => ?_, fun b e => ?_⟩
  · rw [t.2 b (ne b _ e fun q z => by cases z)]; exact e
  · rw [t.2 b (ne b _ e fun q z => by cases z)]; exact e
  · rw [t.2 b (ne b _ e hu)]; exact e
  · by_cases q : b = P
    · obtain ⟨ps', h', _⟩ := t.1
      rw [q, h'] at e; cases e
    · rwa [t.2 b q] at e
theorem Rep.tabbed (rp : Rep K G ρ hh H) (hT : TabG H P) (t : Tabbed P H H') : Rep K G ρ hh H' := by
  refine ⟨rp.len, rp.nd, fun m ob hm => ?_, fun Q hQ => ?_⟩
  · obtain ⟨b, e1, e2⟩ := rp.ob m ob hm
    refine ⟨b, e1, e2.ext (Ext.tabbed hT t) (t.2 b fun z => ?_)⟩
    obtain ⟨ps, hP, _⟩ := hT
    obtain ⟨u, hu, h3⟩ := e2.at
    rw [z, hP] at hu
    rcases h3 with ⟨xs, h3⟩ | ⟨o, xs, h3⟩
    · rw [h3] at hu; cases hu
    · rw [h3] at hu; cases hu
  · by_cases q : Q = P
    · rw [q]; exact t.1
    · obtain ⟨ps, e1, e2⟩ := rp.tb Q hQ
      exact ⟨ps, by rw [t.2 Q q]; exact e1, e2⟩
end
/-- a generator expression's target -/
def GCg (X : Cx) (G : Gs) (rep : RepV) (scope : Scope) (tg : Expr) (vs : List Nat) (tgc : TgC) : Prop := ∃ g : TG,
  (∀ (s : Shared) (H : Hp) (C : Addr) (code : Value) (A : Around) (fp : List Addr), PG (cxG X s H (cenvG X scope C code) A fp) tg g) ∧
  ∀ ρ H d x env env1 σ Q, rep ρ H d x → RE X.K G ρ H env σ → setC tgc d env = some env1 → (∀ σ1, RE X.K G ρ H env1 σ1 → L2.wipe σ1 vs = L2.wipe σ vs → Q σ1 H) → g x σ H Q
section
variable {X : Cx} {G : Gs} {W : WX} {elt tg iter : Expr} {ifs : List Expr} {pos : Pos} {scope : Scope}
theorem GCg.one {i : Nat} {x : Str} {vs : List Nat} (hN : X.N.Nodup) (hi : X.N[i]? = some x) (hm : i ∈ vs) (hx : scope.names.lookup x = some .local) : GCg X G (RV X.K G) scope (.Name x pos) vs (.one i) := by
  refine ⟨gName i, fun s H C code A fp => pg_name hN hi (.inl hx) (.inr hx), fun ρ H d v env env1 σ Q r re e q => ?_⟩
  cases e
  exact q _ (re.set i r) (wipe_set hm)
theorem GCg.many {es : List Expr} {is vs : List Nat} {k n : Nat} (hm : ∀ i ∈ is, i ∈ vs) (hn : is.length = n)
    (hx : ∀ (s : Shared) (H : Hp) (C : Addr) (code : Value) (A : Around) (fp : List Addr), PG (cxG X s H (cenvG X scope C code) A fp) (.Tuple es k pos) (gTup X.K n (gNames is))) : GCg X G (RVw X.K G) scope (.Tuple es k pos) vs (.many is) := by
  refine ⟨gTup X.K n (gNames is), hx, fun ρ H d v env env1 σ Q r re e q => ?_⟩
  cases d <;> first | cases e | skip
  rename_i l
  obtain ⟨a, xs, rfl, h1, h2⟩ := r
  have e : (if l.length = is.length then some (setMany is l env) else none) = some env1 := e
  split at e
  · rename_i hl
    cases e
    exact ⟨a, xs, rfl, h1, by rw [h2.length, hl, hn], gNames_ok hm h2 hl re q⟩
  · cases e
theorem GCg.strong {tg : Expr} {vs : List Nat} {tgc : TgC} (h : GCg X G (RVw X.K G) scope tg vs tgc) : GCg X G (RV X.K G) scope tg vs tgc := by
  obtain ⟨g, h1, h2⟩ := h
  exact ⟨g, h1, fun ρ H d x env env1 σ Q r => h2 ρ H d x env env1 σ Q (RVw.of r)⟩
def GTs (X : Cx) (G : Gs) (k : Nat) (scope : Scope) (ifs : List Expr) (τ : TΦ) : Prop := ∀ (s : Shared) (H : Hp) (C : Addr) (code : Value) (A : Around) (fp : List Addr), Room k A → PTs (cxG X s H (cenvG X scope C code) A fp) ifs (tG X.K G WF rB τ)
theorem GTs.nil {k : Nat} : GTs X G k scope [] T.yes := fun s H C code A fp _ => by
  refine PTs.weak pts_nil ?_
  rintro σ H Q ⟨ρ, hh, env, rp, re, sat⟩
  exact Sat.mk sat (Ext.refl _ _) rp rfl
theorem GTs.one {k : Nat} {c : Expr} {τ : TΦ} (h : ∀ (s : Shared) (H : Hp) (C : Addr) (code : Value) (A : Around) (fp : List Addr), Room k A → ST (cxG X s H (cenvG X scope C code) A fp) G WF c τ) : GTs X G k scope [c] τ := fun s H C code A fp hr => pts_one (h s H C code A fp hr).pt

theorem gen_rd {z : Bool} {P : Addr} {rep : RepV} {own : List (Str × Nat)} {φ : IΦ} {tgc : TgC} {τ : TΦ} {χ : EΦ} {g : TG} {σ : L2.St} {H : Hp} {Q : VK} (hP : P ∈ G.tabs)
    (hg : ∀ ρ H d x env env1 σ Q, rep ρ H d x → RE X.K G ρ H env σ → setC tgc d env = some env1 → (∀ σ1, RE X.K G ρ H env1 σ1 → L2.wipe σ1 (own.map (·.2)) = L2.wipe σ (own.map (·.2)) → Q σ1 H) → g x σ H Q)
    (h : tG X.K G W (rV X.K G) (E.gen z φ (own.map (·.2)) tgc τ χ) σ H Q) : tGen z P (tI X.K G W rep φ) g (tG X.K G WF rB τ) (tG X.K G WF (rV X.K G) χ) (own.map (·.2)) σ H Q := by
  generalize own.map (·.2) = vs at hg h
  obtain ⟨ρ, hh, env, rp, re, sat⟩ := h
  refine ⟨ρ, hh, env, rp, re, ?_⟩
  unfold E.gen at sat
  cases q : φ env hh with
  | exc x hh1 => rw [q] at sat; exact sat
  | bad => rw [q] at sat; exact sat
  | ok s hh1 =>
    rw [q] at sat
    intro J ρ1 H1 e1 rp1 ok
    have hT : TabG H1 P := rp1.tb P hP
    refine ⟨hT, fun H2 tb => ?_⟩
    have sat : Sat X.K G W (rV X.K G) ρ H σ Q (genGo z s tgc τ χ (wipeE env vs) s.items hh1) := sat
    have eT : Ext ρ1 H1 ρ1 H2 := Ext.tabbed hT tb
    refine ⟨fun i m H3 => ∃ ρ2 hh2, Ext ρ1 H1 ρ2 H3 ∧ Rep X.K G ρ2 hh2 H3 ∧ Sat X.K G W (rV X.K G) ρ H σ Q (genGo z s tgc τ χ (wipeE env vs) (s.items.drop i) hh2) ∧ m = s.items.length - i,
      ⟨_, ρ1, hh1, eT, rp1.tabbed hT tb, sat, rfl⟩, ?_⟩
    rintro i m H3 ⟨ρ2, hh2, eL, rp2, sat2, rfl⟩
    by_cases hi : i < s.items.length
    · rw [List.drop_eq_getElem_cons hi] at sat2
      unfold genGo at sat2
      split at sat2
      · rename_i hok
        refine .inr ⟨ok.go i ρ2 hh2 H3 eL rp2 hok hi, by omega, fun x H4 hy => ?_⟩
        obtain ⟨e3, rp3, rx⟩ := ok.yld i ρ2 hh2 H3 x H4 _ eL rp2 hok (List.getElem?_eq_getElem hi) hy
        have re0 : RE X.K G ρ2 H4 (wipeE env vs) (L2.wipe σ vs) := ((re.ext (e1.trans (eL.trans e3))).wipe vs)
        split at sat2
        · exact sat2.elim
        · rename_i env1 hs1
          refine hg ρ2 H4 _ x _ env1 _ _ rx re0 hs1 fun σ1 re1 hw => ⟨by rw [hw]; exact wipe_wipe σ vs, ρ2, hh2, env1, rp3, re1, ?_⟩
          cases qt : τ env1 hh2 with
          | exc y h4 => rw [qt] at sat2; exact sat2.elim
          | bad => rw [qt] at sat2; exact sat2.elim
          | ok k hh4 =>
            rw [qt] at sat2
            intro k' H5 ρ4 e4 rp4 rk
            have : k = k' := rk
            subst this
            cases k with
            | false => exact iteF ⟨_, by omega, ρ4, hh4, eL.trans (e3.trans e4), rp4, sat2, rfl⟩
            | true =>
              refine iteT ⟨ρ4, hh4, env1, rp4, re1.ext e4, ?_⟩
              have sat2 : Sat X.K G W (rV X.K G) ρ H σ Q (match χ env1 hh4 with
                | .ok (.bl c) h => if c = z then .ok (.bl z) h else genGo z s tgc τ χ (wipeE env vs) (s.items.drop (i + 1)) h
                | _ => .bad) := sat2
              cases qe : χ env1 hh4 with
              | exc y h5 => rw [qe] at sat2; exact sat2.elim
              | bad => rw [qe] at sat2; exact sat2.elim
              | ok y hh5 =>
                rw [qe] at sat2
                intro v H6 ρ5 e5 rp5 ry
                cases y with
                | bl c =>
                  have sat2 : Sat X.K G W (rV X.K G) ρ H σ Q (if c = z then .ok (.bl z) hh5 else genGo z s tgc τ χ (wipeE env vs) (s.items.drop (i + 1)) hh5) := sat2
                  have rv := rv_bl ry
                  refine ⟨c, rv, ?_⟩
                  by_cases hc : c = z
                  · rw [if_pos hc] at sat2 ⊢
                    exact Sat.mk sat2 (e1.trans (eL.trans (e3.trans (e4.trans e5)))) rp5 mk_bl
                  · rw [if_neg hc] at sat2 ⊢
                    exact ⟨_, by omega, ρ5, hh5, eL.trans (e3.trans (e4.trans e5)), rp5, sat2, rfl⟩
                | _ => exact sat2.elim
      · exact sat2.elim
    · rw [List.drop_of_length_le (by omega)] at sat2
      unfold genGo at sat2
      split at sat2
      · rename_i hok
        exact .inl ⟨ok.stop i ρ2 hh2 H3 eL rp2 hok (by omega), Sat.mk sat2 (e1.trans eL) rp2 mk_bl⟩
      · exact sat2.elim
theorem SE.gen {z : Bool} {c P : Addr} {rep : RepV} {own : List (Str × Nat)} {gpos p : Pos} {k : Nat} {x : Str} {φ : IΦ} {tgc : TgC} {τ : TΦ} {χ : EΦ}
    (hr : Room (k + 1) X.A) (hc : X.calm = true) (hN : X.N.Nodup) (hgl : Gl X x) (hm : X.mg x = none) (hb : bootBuiltins x = some (.builtin (nmG z))) (TB : TabB X.base X.mg c P) (hP : P ∈ G.tabs) (hcode : X.env.code = .ref c) (ok : GenOk X.N X.env.scope scope own)
    (hi : SI X G W rep tg iter φ) (hg : GCg X G rep scope tg (own.map (·.2)) tgc) (ht : GTs X G k scope ifs τ)
    (he : ∀ (s : Shared) (H : Hp) (C : Addr) (code : Value) (A : Around) (fp : List Addr), Room k A → SE (cxG X s H (cenvG X scope C code) A fp) G WF elt χ)
    (hs : ∀ v, genFold iter X.env v = pure v := by intro _; rfl) (hn : x ≠ "__name__" := by decide) (hdb : (x == ("__debug__" : Str)) = false := by decide)
    (hst : starEach [.GeneratorExp elt [⟨tg, iter, ifs, 0⟩] scope gpos] X.env = (false, eval (.GeneratorExp elt [⟨tg, iter, ifs, 0⟩] scope gpos) X.env) :: starEach [] X.env := by rfl) :
    SE X G W (.Call (.Name x p) [.GeneratorExp elt [⟨tg, iter, ifs, 0⟩] scope gpos] [] pos) (E.gen z φ (own.map (·.2)) tgc τ χ) := by
  obtain ⟨g, h1, h2⟩ := hg
  exact ⟨PE.weak (pe_genG (te := tG X.K G WF (rV X.K G) χ) hr hc hN hgl hm hb TB hcode ok hi.pi h1 ht (fun s H C code A fp hr => (he s H C code A fp hr).pe) hs hn hdb hst) fun σ H Q h => gen_rd hP h2 h⟩
end
end DL

set_option Elab.async false
set_option linter.all false
set_option maxRecDepth 100000
set_option maxHeartbeats 4000000
/-! DL10: isinstance, int, max, min, methods of lists and tuples, stores into lists. -/
namespace DL
open PySem PySem.Spec PyProof.Rows L2 GX GxR

/-! ### isinstance -/
def tyNm : D → Hh → Option String
  | .non, _ => some "NoneType"
  | .bl _, _ => some "bool"
  | .int _, _ => some "int"
  | .str _, _ => some "str"
  | .tup _, _ => some "tuple"
  | .ref n, h => (match h[n]? with
    | some (.lst _) => some "list"
    | some (.frz _) => some "list"
    | none => none)
  | .fn _, _ => none
def isiB (T n : String) : Bool := n == T || (T == "int" && n == "bool")
def nms : List String := ["NoneType", "bool", "int", "str", "tuple", "list"]
def IsiT (T : String) : Prop := ∀ n ∈ nms, kitB n T = some (isiB T n)
theorem isi_int : IsiT "int" := by unfold IsiT nms; decide +kernel
theorem isi_bool : IsiT "bool" := by unfold IsiT nms; decide +kernel
theorem isi_str : IsiT "str" := by unfold IsiT nms; decide +kernel
theorem isi_tuple : IsiT "tuple" := by unfold IsiT nms; decide +kernel
theorem isi_list : IsiT "list" := by unfold IsiT nms; decide +kernel
theorem isi_dict : IsiT "dict" := by unfold IsiT nms; decide +kernel
theorem tyNm_mem {d : D} {h : Hh} {n : String} (e : tyNm d h = some n) : n ∈ nms := by
  unfold tyNm at e
  cases d <;> simp at e <;> first
    | (subst e; simp [nms]; done)
    | (split at e <;> simp at e <;> subst e <;> simp [nms])
section
variable {K : PySem.W.Frag} {G : Gs} {ρ : List Addr} {hh : Hh} {H : Hp}
theorem tyX_of {d : D} {v : V} {n : String} (rp : Rep K G ρ hh H) (r : RV K G ρ H d v) (e : tyNm d hh = some n) : TyX K H v (.type n) := by
  unfold tyNm at e
  cases d with
  | non => cases e; rw [rv_non r]; exact .base .non
  | bl b => cases e; rw [rv_bl r]; exact .base (.bl b)
  | int i => cases e; rw [rv_int r]; exact .base (.int i)
  | str x => cases e; rw [rv_str r]; exact .base (.str x)
  | tup l =>
    cases e
    obtain ⟨a, xs, rfl, h1, _⟩ := rv_tup r
    rcases h1 with ⟨o, h, _⟩ | ⟨o, its, m, h1, h2, _⟩
    · exact .fTuple h
    · exact .kTuple h1 h2
  | ref m =>
    have r' := r
    simp only [RV] at r'
    obtain ⟨a, rfl, ha⟩ := r'
    simp only at e
    split at e
    · rename_i l hl
      cases e
      obtain ⟨b, e1, xs, e2, _⟩ := rp.ob _ _ hl
      rw [ha] at e1; cases e1
      exact .base (.lst e2)
    · rename_i l hl
      cases e
      obtain ⟨b, e1, xs, e2, _⟩ := rp.ob _ _ hl
      rw [ha] at e1; cases e1
      rcases e2 with e2 | ⟨o, e2⟩
      · exact .base (.lst e2)
      · exact .base (.frz e2)
    · cases e
  | fn m => cases e
end
def isiD (Ts : List String) (d : D) (h : Hh) : R D := match tyNm d h with
  | some n => .ok (.bl (Ts.any fun T => isiB T n)) h
  | none => .bad
def E.isi (Ts : List String) (a : EΦ) : EΦ := E.op1 (isiD Ts) a
section
variable {X : Cx} {G : Gs} {W : WX} {e a b c o i : Expr} {es : List Expr} {pos : Pos}
theorem SE.isi {T x : String} {φ : EΦ} {p px : Pos} (hT : IsiT T) (hg : Gl X "isinstance") (hm : X.mg "isinstance" = none) (hgx : Gl X x) (hmx : X.mg x = none) (hv : bootBuiltins x = some (.type T)) (ha : SE X G W a φ) (hn : (x : Str) ≠ "__name__" := by decide) (hd : ((x : Str) == ("__debug__" : Str)) = false := by decide)
    (na : starEach [a, .Name x px] X.env = (false, eval a X.env) :: starEach [.Name x px] X.env := by rfl) (nb : starEach [.Name x px] X.env = (false, eval (.Name x px) X.env) :: starEach [] X.env := by rfl) :
    SE X G W (.Call (.Name "isinstance" p) [a, .Name x px] [] pos) (E.isi [T] φ) := by
  refine ⟨PE.weak (pe_callB call_isi hg hm PyProof.Rows.boot_isinstance (pa_cons ha.pe (pa_cons (pe_bltn (v := .ty T) hgx hmx hv rfl hn hd) pa_nil nb) na) (he := na) (hpl := by rw [nb]; rfl)) ?_⟩
  rintro σ H Q ⟨ρ, hh, env, rp, re, sat⟩
  refine tG.seq later_V rp re sat fun d v ρ1 hh1 H1 e1 rp1 re1 rd sat1 => ?_
  unfold isiD at sat1
  split at sat1
  · rename_i n hn
    refine ⟨v, .ty T, .type n, .type T, isiB T n, rfl, .ty T, tyX_of rp1 rd hn, kit_ty (hT n (tyNm_mem hn)), sat1.mk (Ext.refl _ _) rp1 ?_⟩
    simp only [List.any_cons, List.any_nil, Bool.or_false]
    exact mk_bl
  · exact sat1.elim
theorem kitAny_ty {K : PySem.W.Frag} {n : String} (hn : n ∈ nms) : ∀ {Ts : List String}, (∀ T ∈ Ts, IsiT T) → PySem.W.kitAny K (.type n) (Ts.map Value.type) = some (Ts.any fun T => isiB T n)
  | [], _ => kitAny_nil
  | T :: Ts, h => by
    refine kitAny_cons (kit_ty (h T List.mem_cons_self n hn)) (fun e => ?_) fun e => ?_
    · rw [List.any_cons, e, Bool.false_or]
      exact kitAny_ty hn fun T hT => h T (List.mem_cons_of_mem _ hT)
    · rw [List.any_cons, e, Bool.true_or]
theorem paired_ty : ∀ Ts : List String, Paired ClsV (Ts.map V.ty) (Ts.map Value.type)
  | [] => .nil
  | T :: Ts => .cons (.ty T) (paired_ty Ts)
/-- isinstance(x, (T1, T2)) -/
theorem SE.isi2 {T1 T2 x1 x2 : String} {φ : EΦ} {p p1 p2 tp : Pos} {k : Nat} (hT1 : IsiT T1) (hT2 : IsiT T2) (hg : Gl X "isinstance") (hm : X.mg "isinstance" = none) (hg1 : Gl X x1) (hm1 : X.mg x1 = none) (hv1 : bootBuiltins x1 = some (.type T1)) (hg2 : Gl X x2) (hm2 : X.mg x2 = none) (hv2 : bootBuiltins x2 = some (.type T2)) (ha : SE X G W a φ)
    (hn1 : (x1 : Str) ≠ "__name__" := by decide) (hd1 : ((x1 : Str) == ("__debug__" : Str)) = false := by decide) (hn2 : (x2 : Str) ≠ "__name__" := by decide) (hd2 : ((x2 : Str) == ("__debug__" : Str)) = false := by decide)
    (na : starEach [a, .Tuple [.Name x1 p1, .Name x2 p2] k tp] X.env = (false, eval a X.env) :: starEach [.Tuple [.Name x1 p1, .Name x2 p2] k tp] X.env := by rfl) (nb : starEach [.Tuple [.Name x1 p1, .Name x2 p2] k tp] X.env = (false, eval (.Tuple [.Name x1 p1, .Name x2 p2] k tp) X.env) :: starEach [] X.env := by rfl)
    (n1 : starEach [.Name x1 p1, .Name x2 p2] X.env = (false, eval (.Name x1 p1) X.env) :: starEach [.Name x2 p2] X.env := by rfl) (n2 : starEach [.Name x2 p2] X.env = (false, eval (.Name x2 p2) X.env) :: starEach [] X.env := by rfl) :
    SE X G W (.Call (.Name "isinstance" p) [a, .Tuple [.Name x1 p1, .Name x2 p2] k tp] [] pos) (E.isi [T1, T2] φ) := by
  refine ⟨PE.weak (pe_callB call_isiT hg hm PyProof.Rows.boot_isinstance (pa_cons ha.pe (pa_cons (pe_tup (pa_cons (pe_bltn (v := .ty T1) hg1 hm1 hv1 rfl hn1 hd1) (pa_cons (pe_bltn (v := .ty T2) hg2 hm2 hv2 rfl hn2 hd2) pa_nil n2) n1)) pa_nil nb) na) (he := na) (hpl := by rw [nb]; rfl)) ?_⟩
  rintro σ H Q ⟨ρ, hh, env, rp, re, sat⟩
  refine tG.seq later_V rp re sat fun d v ρ1 hh1 H1 e1 rp1 re1 rd sat1 => ?_
  refine ⟨by show 2 ≤ sizeLine; rw [sizeLine_eq]; omega, fun q hq => ?_⟩
  have eq : Ext ρ1 H1 ρ1 (L2.upd H1 q (.tup [.ty T1, .ty T2])) := Ext.laid hq
  unfold isiD at sat1
  split at sat1
  · rename_i n hn
    have rp2 : Rep X.K G ρ1 hh1 (L2.upd H1 q (.tup [.ty T1, .ty T2])) := rp1.side hq
    refine ⟨v, q, _, .type n, _, _, rfl, upd_same, paired_ty [T1, T2], tyX_of rp2 (RV.ext eq _ _ rd) hn, kitAny_ty (tyNm_mem hn) (fun T h => ?_), sat1.mk eq rp2 mk_bl⟩
    rcases List.mem_cons.mp h with rfl | h
    · exact hT1
    · rcases List.mem_cons.mp h with rfl | h
      · exact hT2
      · cases h
  · exact sat1.elim

/-! ### int, max, min -/
def D.toInt : List D → Hh → R D
  | [.int i], h => .ok (.int i) h
  | [.bl b], h => .ok (.int (if b then 1 else 0)) h
  | _, _ => .bad
def D.max2 : List D → Hh → R D
  | [.int i, .int j], h => .ok (.int (if j > i then j else i)) h
  | _, _ => .bad
def D.min2 : List D → Hh → R D
  | [.int i, .int j], h => .ok (.int (if j < i then j else i)) h
  | _, _ => .bad
theorem RVs.one {K : PySem.W.Frag} {ρ : List Addr} {H : Hp} {d : D} {vs : List V} (h : RVs K G ρ H [d] vs) : ∃ v, vs = [v] ∧ RV K G ρ H d v := by
  obtain ⟨v, r, rfl, h1, h2⟩ := h.inv_cons
  rw [h2.inv_nil]
  exact ⟨v, rfl, h1⟩
theorem RVs.two {K : PySem.W.Frag} {ρ : List Addr} {H : Hp} {d e : D} {vs : List V} (h : RVs K G ρ H [d, e] vs) : ∃ v w, vs = [v, w] ∧ RV K G ρ H d v ∧ RV K G ρ H e w := by
  obtain ⟨v, r, rfl, h1, h2⟩ := h.inv_cons
  obtain ⟨w, rfl, h3⟩ := h2.one
  exact ⟨v, w, rfl, h1, h3⟩
theorem sc_int : SCall X G (.type "int") D.toInt := by
  refine ⟨fun pins s σ H xs us Q I r h => ?_, fun ds h e h' q => ?_⟩
  · obtain ⟨ρ, hh, ds, rp, rs, sat⟩ := h
    unfold D.toInt at sat
    split at sat
    · obtain ⟨v, rfl, r1⟩ := rs.one
      rw [rv_int r1] at r
      exact call_int1 pins s σ H _ us Q I r (.inl ⟨_, rfl, sat.mk (Ext.refl _ _) rp mk_int⟩)
    · obtain ⟨v, rfl, r1⟩ := rs.one
      rw [rv_bl r1] at r
      exact call_int1 pins s σ H _ us Q I r (.inr ⟨_, rfl, sat.mk (Ext.refl _ _) rp mk_int⟩)
    · exact sat.elim
  · unfold D.toInt at q
    split at q <;> cases q
theorem sc_max (hc : X.calm = true) : SCall X G (.builtin "max") D.max2 := by
  refine ⟨fun pins s σ H xs us Q I r h => ?_, fun ds h e h' q => ?_⟩
  · obtain ⟨ρ, hh, ds, rp, rs, sat⟩ := h
    unfold D.max2 at sat
    split at sat
    · obtain ⟨v, w, rfl, r1, r2⟩ := rs.two
      rw [rv_int r1, rv_int r2] at r
      exact call_max2 hc pins s σ H _ us Q I r ⟨_, _, rfl, sat.mk (Ext.refl _ _) rp mk_int⟩
    · exact sat.elim
  · unfold D.max2 at q
    split at q <;> cases q
theorem sc_min (hc : X.calm = true) : SCall X G (.builtin "min") D.min2 := by
  refine ⟨fun pins s σ H xs us Q I r h => ?_, fun ds h e h' q => ?_⟩
  · obtain ⟨ρ, hh, ds, rp, rs, sat⟩ := h
    unfold D.min2 at sat
    split at sat
    · obtain ⟨v, w, rfl, r1, r2⟩ := rs.two
      rw [rv_int r1, rv_int r2] at r
      exact call_min2 hc pins s σ H _ us Q I r ⟨_, _, rfl, sat.mk (Ext.refl _ _) rp mk_int⟩
    · exact sat.elim
  · unfold D.min2 at q
    split at q <;> cases q

/-! ### methods -/
def tyD (K : PySem.W.Frag) (G : Gs) (chk : D → Hh → Bool) : V → Hp → Prop := fun x H => ∃ ρ hh d, Rep K G ρ hh H ∧ RV K G ρ H d x ∧ chk d hh = true
def isL : D → Hh → Bool
  | .ref n, h => (match h[n]? with
    | some (.lst _) => true
    | some (.frz _) => true
    | none => false)
  | _, _ => false
def isT : D → Hh → Bool
  | .tup _, _ => true
  | _, _ => false
def isS : D → Hh → Bool
  | .str _, _ => true
  | _, _ => false
theorem ty_L : TyOk X "list" (tyD X.K G isL) := by
  intro pins σ H s x v I r h
  obtain ⟨ρ, hh, d, rp, rd, hc⟩ := h
  cases d <;> first | (cases hc; done) | skip
  rename_i n
  simp only [RV] at rd
  obtain ⟨a, rfl, ha⟩ := rd
  have hq : ∃ xs, SqL X.K H a xs := by
    simp only [isL] at hc
    split at hc
    · rename_i l hl
      obtain ⟨b, e1, xs, e2, _⟩ := rp.ob _ _ hl
      rw [ha] at e1; cases e1
      exact ⟨xs, .inl (.inl e2)⟩
    · rename_i l hl
      obtain ⟨b, e1, xs, e2, _⟩ := rp.ob _ _ hl
      rw [ha] at e1; cases e1
      exact ⟨xs, .inl e2⟩
    · cases hc
  obtain ⟨xs, hq⟩ := hq
  exact tyV_is I r (T := "list") (.inl ⟨rfl, xs, hq⟩)
theorem ty_T : TyOk X "tuple" (tyD X.K G isT) := by
  intro pins σ H s x v I r h
  obtain ⟨ρ, hh, d, rp, rd, hc⟩ := h
  cases d <;> first | (cases hc; done) | skip
  obtain ⟨a, xs, rfl, h1, _⟩ := rv_tup rd
  cases r
  rcases h1 with ⟨o, h1, hd⟩ | ⟨o, its, n, hk, hc, hd, _⟩
  · obtain ⟨e, _, its, rv, o', e', c, _⟩ := I.hok a _ h1
    refine ⟨⟨o', e', c⟩, fun b z => ?_⟩
    cases z
    exact ⟨o, e, hd⟩
  · refine ⟨⟨o, I.kIn a o hk, hc⟩, fun b z => ?_⟩
    cases z
    exact ⟨o, I.kIn a o hk, hd⟩
theorem ty_S : TyOk X "str" (tyD X.K G isS) := by
  intro pins σ H s x v I r h
  obtain ⟨ρ, hh, d, rp, rd, hc⟩ := h
  cases d <;> first | (cases hc; done) | skip
  rw [rv_str rd] at r
  exact tyV_is I r (T := "str") rfl
def rM (K : PySem.W.Frag) (G : Gs) (m : D → List D → Hh → R D) : V → List V → Hp → VK → Prop := fun x vs H Q => ∃ ρ hh d ds, Rep K G ρ hh H ∧ RV K G ρ H d x ∧ RVs K G ρ H ds vs ∧ Sat K G WF (rV K G) ρ H [] Q (m d ds hh)
structure SMet (X : Cx) (G : Gs) (id : String) (m : D → List D → Hh → R D) : Prop where
  ok : MtR X id (rM X.K G m)
  nox : ∀ d ds h e h', m d ds h ≠ .exc e h'
def E.met (chk : D → Hh → Bool) (m : D → List D → Hh → R D) (a : EΦ) (as : LΦ) : EΦ := fun env h => (a env h).bind fun d h => if chk d h then (as env h).bind fun ds h => m d ds h else .bad
theorem SE.met {T id : String} {name : Str} {chk : D → Hh → Bool} {m : D → List D → Hh → R D} {φ : EΦ} {ψ : LΦ} {apos cpos : Pos} (ht : TyOk X T (tyD X.K G chk)) (pa : PlainAttrs T) (slot : Slot T name id) (hty : typeOf (.builtin id) = pure (.type "method_descriptor")) (hm : SMet X G id m) (ho : SE X G W o φ) (ha : SA X G W (e :: es) ψ)
    (hbase : attributeBase o name X.env (eval o X.env) = eval o X.env := by rfl)
    (hfew : ((backTo cpos (starEach (e :: es) X.env)).all (fun x => !x.1) && (backToKw cpos (keywordEach [] X.env)).all (fun x => x.1.isSome)
      && decide ((e :: es).length + ([] : List Keyword).length + (if ([] : List Keyword).isEmpty then 0 else 1) < 30)) = true := by rfl)
    (hline : (apos.endLine == cpos.line) = true := by rfl) (hs : starEach (e :: es) X.env = (false, eval e X.env) :: starEach es X.env := by rfl) (hplain : (backTo cpos (starEach es X.env)).any (·.1) = false := by rfl) :
    SE X G W (.Call (.Attribute o name apos) (e :: es) [] cpos) (E.met chk m φ ψ) := by
  refine ⟨PE.weak (pe_mG ht pa slot hty hm.ok ho.pe ha.pa hbase hfew hline hs hplain) ?_⟩
  rintro σ H Q ⟨ρ, hh, env, rp, re, sat⟩
  refine tG.seq later_V rp re sat fun d v ρ1 hh1 H1 e1 rp1 re1 rd sat1 => ?_
  split at sat1
  · rename_i hc
    refine ⟨⟨ρ1, hh1, d, rp1, rd, hc⟩, ?_⟩
    refine tG.seq later_V rp1 re1 sat1 fun ds vs ρ2 hh2 H2 e2 rp2 re2 rds sat2 => ?_
    exact ⟨ρ2, hh2, d, ds, rp2, RV.ext e2 _ _ rd, rds, sat2.nox (hm.nox _ _ _)⟩
  · exact sat1.elim
theorem SE.met0 {T id : String} {name : Str} {chk : D → Hh → Bool} {m : D → List D → Hh → R D} {φ : EΦ} {apos cpos : Pos} (ht : TyOk X T (tyD X.K G chk)) (pa : PlainAttrs T) (slot : Slot T name id) (hty : typeOf (.builtin id) = pure (.type "method_descriptor")) (hm : SMet X G id m) (ho : SE X G W o φ)
    (hbase : attributeBase o name X.env (eval o X.env) = eval o X.env := by rfl) (hline : (apos.endLine == cpos.line) = true := by rfl) :
    SE X G W (.Call (.Attribute o name apos) [] [] cpos) (E.met chk m φ L.nil) := by
  refine ⟨PE.weak (pe_mG0 ht pa slot hty hm.ok ho.pe hbase hline) ?_⟩
  rintro σ H Q ⟨ρ, hh, env, rp, re, sat⟩
  refine tG.seq later_V rp re sat fun d v ρ1 hh1 H1 e1 rp1 re1 rd sat1 => ?_
  split at sat1
  · rename_i hc
    exact ⟨⟨ρ1, hh1, d, rp1, rd, hc⟩, ρ1, hh1, d, [], rp1, rd, .nil, Sat.nox sat1 (hm.nox _ _ _)⟩
  · exact sat1.elim
/-- a list that may be written -/
def lstAt (h : Hh) : D → Option (Nat × List D)
  | .ref n => (match h[n]? with
    | some (.lst l) => some (n, l)
    | _ => none)
  | _ => none
theorem lstAt_ok {K : PySem.W.Frag} {ρ : List Addr} {hh : Hh} {H : Hp} {d : D} {v : V} {n : Nat} {l : List D} (rp : Rep K G ρ hh H) (r : RV K G ρ H d v) (h : lstAt hh d = some (n, l)) : ∃ a xs, v = .ref a ∧ ρ[n]? = some a ∧ H a = some (.lst xs) ∧ RVs K G ρ H l xs ∧ hh[n]? = some (.lst l) := by
  unfold lstAt at h
  split at h
  · split at h
    · rename_i l' hl
      cases h
      simp only [RV] at r
      obtain ⟨a, rfl, ha⟩ := r
      obtain ⟨b, xs, e1, e2, e3⟩ := rp.lst hl
      rw [ha] at e1; cases e1
      exact ⟨a, xs, rfl, ha, e2, e3, hl⟩
    · cases h
  · cases h
/-- a method that changes a list -/
def mutL (f : List D → List D → Option (D × List D)) (d : D) (ds : List D) (h : Hh) : R D := match lstAt h d with
  | some (n, l) => (match f l ds with
    | some (y, l') => fits l'.length (.ok y (h.set n (.lst l')))
    | none => .bad)
  | none => .bad
theorem nox_mutL {f : List D → List D → Option (D × List D)} : ∀ d ds h e h', mutL f d ds h ≠ .exc e h' := by
  intro d ds h e h' q
  unfold mutL at q
  split at q
  · split at q
    · unfold fits at q
      split at q <;> cases q
    · cases q
  · cases q
theorem sm_mut {id : String} {r : V → List V → Hp → VK → Prop} {f : List D → List D → Option (D × List D)} (hm : MtR X id r)
    (hf : ∀ ρ H l ds y l' a xs vs Q, H a = some (.lst xs) → RVs X.K G ρ H l xs → RVs X.K G ρ H ds vs → f l ds = some (y, l') → l'.length < sizeLine → (∀ v ys, RV X.K G ρ H y v → RVs X.K G ρ H l' ys → Q v (upd H a (.lst ys))) → r (.ref a) vs H Q) : SMet X G id (mutL f) := by
  refine ⟨fun pins s σ H x xs v us Q I rx rs h => ?_, nox_mutL⟩
  obtain ⟨ρ, hh, d, ds, rp, rd, rds, sat⟩ := h
  unfold mutL at sat
  split at sat
  · rename_i n l hl
    obtain ⟨a, ys, rfl, ha, e2, e3, hn⟩ := lstAt_ok rp rd hl
    split at sat
    · rename_i y l' hy
      obtain ⟨hz, sat⟩ := Sat.fits sat
      refine hm pins s σ H _ xs v us Q I rx rs (hf ρ H l ds y l' a ys xs Q e2 e3 rds hy hz fun v zs rv rz => ?_)
      obtain ⟨g1, g2⟩ := rp.set hn ha e2 rz
      exact sat.mk g2 g1 (RV.ext g2 _ _ rv)
    · exact sat.elim
  · exact sat.elim
def fAppend : List D → List D → Option (D × List D)
  | l, [y] => some (.non, l ++ [y])
  | _, _ => none
theorem sm_append : SMet X G "list.append" (mutL fAppend) := sm_mut mt_append fun ρ H l ds y l' a xs vs Q h1 h2 h3 h4 h5 h6 => by
  unfold fAppend at h4
  split at h4
  · cases h4
    obtain ⟨v, rfl, r1⟩ := h3.one
    rw [List.length_append, List.length_singleton] at h5
    exact ⟨a, xs, v, rfl, rfl, h1, by rw [h2.length]; omega, h6 _ _ (by simp only [RV]) (h2.append (.cons r1 .nil))⟩
  · cases h4
def fPopAt : List D → List D → Option (D × List D)
  | l, [.int i] => (match ixN l.length i with
    | some k => (match l[k]? with
      | some y => some (y, l.eraseIdx k)
      | none => none)
    | none => none)
  | _, _ => none
theorem sm_popAt : SMet X G "list.pop" (mutL fPopAt) := sm_mut mt_popAt fun ρ H l ds y l' a xs vs Q h1 h2 h3 h4 h5 h6 => by
  unfold fPopAt at h4
  split at h4
  · rename_i i
    split at h4
    · rename_i k hk
      split at h4
      · rename_i z hz
        cases h4
        obtain ⟨v, rfl, r1⟩ := h3.one
        have e := rv_int r1
        subst e
        obtain ⟨u, g1, g2⟩ := h2.get hz
        have hl := h2.length
        rw [← hl] at hk
        obtain ⟨q1, q2, q3, q4⟩ := ixN_seq hk
        have hx : xs.length < sizeLine + 1 := by
          have h9 := (List.getElem?_eq_some_iff.mp hz).1
          rw [List.length_eraseIdx] at h5
          split at h5 <;> omega
        have hs := line63
        have hs2 := sizeLine_eq
        refine ⟨a, xs, i, k, u, rfl, rfl, h1, ?_, ?_, q1, g1, h6 _ _ g2 (h2.eraseIdx k)⟩
        · omega
        · omega
      · cases h4
    · cases h4
  · cases h4
def fPop : List D → List D → Option (D × List D)
  | l, [] => (match l[l.length - 1]? with
    | some y => some (y, l.dropLast)
    | none => none)
  | _, _ => none
theorem RVs.dropLast {K : PySem.W.Frag} {ρ : List Addr} {H : Hp} {l : List D} {xs : List V} (h : RVs K G ρ H l xs) : RVs K G ρ H l.dropLast xs.dropLast := by
  rw [List.dropLast_eq_take, List.dropLast_eq_take, h.length]
  exact h.take _
theorem sm_pop : SMet X G "list.pop" (mutL fPop) := sm_mut mt_pop fun ρ H l ds y l' a xs vs Q h1 h2 h3 h4 h5 h6 => by
  unfold fPop at h4
  split at h4
  · split at h4
    · rename_i z hz
      cases h4
      rw [h3.inv_nil]
      rw [← h2.length] at hz
      obtain ⟨u, g1, g2⟩ := h2.get hz
      exact ⟨a, xs, u, rfl, rfl, h1, g1, h6 _ _ g2 h2.dropLast⟩
    · cases h4
  · cases h4
end
end DL

set_option Elab.async false
set_option linter.all false
set_option maxRecDepth 100000
set_option maxHeartbeats 4000000
/-! DL11: enumerate, index, stores, equality of lists, len(set(..)). -/
namespace DL
open PySem PySem.Spec PyProof.Rows L2 GX GxR

/-! ### enumerate(tuple) -/
theorem meets_enumerate_newT (l : Addr) (items : Array Value) (n : Nat) (dct : Option Addr) (sl : Array (Option Value)) :
    Meets (Builtin.«enumerate.__new__» ⟨[.type "enumerate", .ref l], []⟩) (fun _ R s => s.heap.get? l = some { cls := .type "tuple", dict := dct, data := .seq items n, slots := sl } ∧
      R (.ok (.ret (.ref (s.heap.push { cls := .type "tuple_iterator", data := .fields #[.ref l, .int 0 0] }).objs.size)))
        { s with heap := (s.heap.push { cls := .type "tuple_iterator", data := .fields #[.ref l, .int 0 0] }).push { cls := .type "enumerate", data := .fields #[.none, .bool false, .ref s.heap.objs.size, rawInt 0, .none, .none] } }) :=
  .of_wp fun prog w A R s h => by
    obtain ⟨hp, g, d, tk, os⟩ := s; obtain ⟨hl, h⟩ := h
    have hsub := sub_enumerate
    have hL : Heap.IsTuple (Shared.heap ⟨hp, g, d, tk, os⟩) l items := ⟨_, hl, rfl, n, rfl⟩
    wp_walk using AutoSeq1.wpAny_loadPart' hl
    refine wpAny_stack_any fun st => wpAny_pure ?_
    split
    · rename_i c _ _ _ _ _
      cases (c == Value.type "enumerate")
      · wp_walk using AutoSeq1.wpAny_loadPart' hl, wpAny_pyIter_tuple hL
        exact ⟨_, rfl, h⟩
      · wp_walk using AutoSeq1.wpAny_loadPart' hl, wpAny_pyIter_tuple hL
        exact ⟨_, rfl, h⟩
    · wp_walk using AutoSeq1.wpAny_loadPart' hl, wpAny_pyIter_tuple hL
      exact ⟨_, rfl, h⟩
theorem call_enumerate_tuple {prog : Program} {w : World} {A : Around} {E : Value → Shared → Prop} {s : Shared} {l : Addr} {items : Array Value} {Q : Value → Shared → Prop} (hL : s.heap.IsTuple l items)
    (h : ∀ h', IsEnum h' (s.heap.objs.size + 1) s.heap.objs.size 0 .none → h'.IsTupleIter s.heap.objs.size l 0 → h'.objs.size = s.heap.objs.size + 2 →
      (∀ b o, s.heap.get? b = some o → h'.get? b = some o) → Q (.ref (s.heap.objs.size + 1)) { s with heap := h' }) :
    wpAny (model prog w) A (call (.type "enumerate") [.ref l]) Q E s := by
  obtain ⟨⟨c, dct, dt, sl⟩, hl, hc, n, hd⟩ := hL
  replace hc : c = .type "tuple" := hc
  replace hd : dt = .seq items n := hd
  subst hc hd
  refine callType_new F.called_enumerate (by decide) (F.typeCall_enumerate_1 _) (F.newCall_enumerate_1 _) (fun obj => F.args_object_init_2 obj _) F.entry_enumerate_new
    (meets_enumerate_newT l items n dct sl) ⟨hl, ?_⟩
  have hz : (s.heap.push { cls := .type "tuple_iterator", data := .fields #[.ref l, .int 0 0] }).objs.size = s.heap.objs.size + 1 := Heap.size_push ..
  show _ ∧ _
  rw [hz]
  have he : IsEnum ((s.heap.push { cls := .type "tuple_iterator", data := .fields #[.ref l, .int 0 0] }).push
      { cls := .type "enumerate", data := .fields #[.none, .bool false, .ref s.heap.objs.size, rawInt 0, .none, .none] }) (s.heap.objs.size + 1) s.heap.objs.size 0 .none := by
    have := Heap.get?_push_size (s.heap.push { cls := .type "tuple_iterator", data := .fields #[.ref l, .int 0 0] })
      (o := { cls := .type "enumerate", data := .fields #[.none, .bool false, .ref s.heap.objs.size, rawInt 0, .none, .none] }) rfl
    rw [hz] at this; exact this
  refine ⟨⟨_, he, rfl⟩, h _ he ⟨_, Heap.get?_push_of_some _ (Heap.get?_push_size _ rfl), rfl, rfl⟩ (by rw [Heap.size_push, hz]) fun b o x => Heap.get?_push_of_some _ (Heap.get?_push_of_some _ x)⟩
theorem wpAny_pyNext_enum_endT {prog : Program} {w : World} {A : Around} {E : Value → Shared → Prop} {s : Shared} {e it l : Addr} {i : Nat} {items : Array Value} {old : Value} {Q : Option Value → Shared → Prop} (hh : A.handled = none)
    (he : IsEnum s.heap e it i old) (hit : s.heap.IsTupleIter it l i) (hl : s.heap.IsTuple l items) (hx : items[i]? = none)
    (hQ : ∀ h', Heap.ExtBut it s.heap h' → Q none { s with heap := h' }) : wpAny (model prog w) A (pyNext (.ref e)) Q E s := by
  have hT : s.TypeIs (.ref e) "enumerate" := ⟨_, he, rfl⟩
  unfold pyNext
  refine wpAny_bind (wpAny_attempt (wpAny_callSpecial?_slot (name := Str.ofString "__next__") hT F.slot_enumerate_next
    (wpAny_call_entry F.slot_enumerate_next hT F.entry_enumerate_next ?_ (F.args_enumerate_next_1 _))))
  show wpAny _ _ (field (.ref e) 2 >>= _) _ _ _
  refine wpAny_bind (wpAny_field he rfl (x := .ref it) rfl ?_)
  refine wpAny_bind (wpAny_nextOf_tuple_end hh hit hl hx fun h' x he' hx' => ?_)
  obtain ⟨o, ho, hc⟩ := hx'
  refine wpAny_bind (wpAny_isInstance (T := "StopIteration") (b := true) ⟨o, ho, hc⟩ isSubtype_stop ?_)
  exact wpAny_pure (hQ _ he')
def IteT (K : PySem.W.Frag) (a : Addr) : It :=
  ⟨fun i H => ∃ (xs : List V) (x : V), SqT K H a xs ∧ xs[i]? = some x, fun i H v H' => ∃ T x, v = .ref T ∧ H T = none ∧ H' = upd H T (.tup [.int (i : Nat), x]) ∧ ∀ xs, SqT K H a xs → xs[i]? = some x, fun i H => ∃ xs : List V, SqT K H a xs ∧ xs.length ≤ i⟩
theorem turn_enumT {P : Program} {w : World} {K : PySem.W.Frag} {elts : List Expr} {kk : Nat} {tpos : Pos} (a e it : Addr) (hai : a ≠ it) (hae : a ≠ e) (hne : e ≠ it) :
    L2.Turn P w K (.Tuple elts kk tpos) (IteT K a) [e, it] e (fun i h => (∃ old, IsEnum h e it ((i : Nat) : Int) old) ∧ h.IsTupleIter it a i) where
  mem := by simp
  obj := fun i h st b hb => by
    obtain ⟨⟨old, he⟩, ⟨o, ho, hc, hd⟩⟩ := st
    have e' : b = e ∨ b = it := by simpa using hb
    rcases e' with z | z
    · rw [z]; exact ⟨_, he, fun v q => nomatch q⟩
    · rw [z]; exact ⟨o, ho, fun v q => by rw [hd] at q; cases q⟩
  keep := fun i h h' st k => let ⟨⟨old, he⟩, hi⟩ := st; ⟨⟨old, k e (by simp) _ he⟩, hi.at fun o q => k it (by simp) o q⟩
  item := by
    intro X hP hw hK hc i pins s σ H E I hf st hg
    subst hP hw hK
    obtain ⟨⟨old, he⟩, hit⟩ := st
    obtain ⟨xs, x, hq, hx⟩ := hg
    obtain ⟨its, rv, p, hz⟩ := I.tuple hq
    obtain ⟨u, hu, ru⟩ := rv.get hx
    have hel : e < s.heap.objs.size := Heap.lt_size he
    have hil : it < s.heap.objs.size := by obtain ⟨_, q, _⟩ := hit; exact Heap.lt_size q
    have hlt : i < its.toArray.size := by
      have := (List.getElem?_eq_some_iff.mp hu).1
      simpa using this
    refine wpAny_pyNext_enum_itemD (Draws.tuple (A := X.A.in1) (I.ok.hd hc) it a hai its.toArray) he ⟨hit, p⟩ hlt hne (by simp; exact ⟨hne, Ne.symm hae⟩) fun y h' tk hy ho hst' hT hsz hk => ?_
    obtain ⟨hit', _⟩ := hst'
    have hyu : y = u := by
      have q : its[i]? = some y := by simpa using hy
      rw [hu] at q
      exact (Option.some.inj q).symm
    subst hyu
    refine ⟨_, rfl, wpAny_letOwnedTupleGo_enum (s := { s with heap := h', toks := tk + 1 }) ho fun h'' he' sb => ?_⟩
    have hT2 : h''.get? s.heap.objs.size = some { cls := .type "tuple", data := .seq #[.int i tk, y] } := (sb.2 _ (Nat.ne_of_gt hel)).trans hT
    have new : ObjOk X.prog X.w (upd H s.heap.objs.size (.tup [.int (i : Nat), x])) h'' s.heap.objs.size (.tup [.int (i : Nat), x]) :=
      ⟨by show 2 ≤ sizeLine; decide, [.int i tk, y], .cons ⟨_, rfl⟩ (.cons ru .nil), ⟨_, hT2, rfl, _, rfl⟩⟩
    have I1 : Inv X pins σ (upd H s.heap.objs.size (.tup [.int (i : Nat), x])) { s with heap := h'', toks := tk + 1 } :=
      I.turnedNew (ch := [e, it]) (fun b ob hb q => (sb.2 b (fun z => hb (by simp [z]))).trans (hk b ob (fun z => hb (by simp [z])) (fun z => hb (by simp [z])) q)) hf (Nat.le_refl _) new
    refine ⟨.ref s.heap.objs.size, _, I1, rfl, ⟨_, x, rfl, I.hok.fresh (Nat.le_refl _), rfl, fun ys hy => by rw [I.tuple_inj hy hq]; exact hx⟩, ⟨⟨y, ?_⟩, hit'.at fun o q => (sb.2 it (Ne.symm hne)).trans q⟩, fun b hb => ?_⟩
    · have e1 : ((i + 1 : Nat) : Int) = (i : Int) + 1 := by omega
      rw [e1]; exact he'
    · have hb' : b < s.heap.objs.size := by
        have e' : b = e ∨ b = it := by simpa using hb
        rcases e' with z | z
        · rw [z]; exact hel
        · rw [z]; exact hil
      rw [upd_ne (Nat.ne_of_lt hb')]
      exact (hf b hb).1
  done := by
    intro X hP hw hK hc i pins s σ H E I hf st hg
    subst hP hw hK
    obtain ⟨⟨old, he⟩, hit⟩ := st
    obtain ⟨xs, hq, hx⟩ := hg
    obtain ⟨its, rv, p, hz⟩ := I.tuple hq
    obtain ⟨f0, f1, f2, f3, f4, f5⟩ := hf it (by simp)
    have hl := rv.length
    exact wpAny_pyNext_enum_endT (I.ok.hd hc) he hit p (by simp; omega) fun h' eb => ⟨rfl, I.turned (t' := s.toks) (fun b o hb q => eb b o hb q) f0 f1 f3 f4 f5⟩
  self := fun A i s Q E st h => let ⟨⟨_, he⟩, _⟩ := st; wpAny_pyIter_enum he h
section
variable {X : Cx} {G : Gs} {W : WX} {e a b c o i : Expr} {es : List Expr} {pos : Pos}
def iEnumT (K : PySem.W.Frag) (ta : TA) : TI := fun σ H R => ta σ H fun vs H1 => ∃ a xs, vs = [.ref a] ∧ SqT K H1 a xs ∧ R (IteT K a) H1
theorem pi_enumT {ta : TA} {p tpos : Pos} {elts : List Expr} {kk : Nat} (hg : Gl X "enumerate") (hm : X.mg "enumerate" = none) (ha : PA X [e] ta) (hs : starEach [e] X.env = [(false, eval e X.env)] := by rfl) :
    PI X (.Tuple elts kk tpos) (.Call (.Name "enumerate" p) [e] [] pos) (iEnumT X.K ta) := by
  refine ⟨fun pins s σ H R I h => ?_⟩
  refine Call_ (ld_blt I hg hm boot_enumerate (PyProof.Rows.callWith_type1 (thn (ha.run pos pins s σ H _ I h) fun us s1 ⟨vs, H1, I1, r1, q1⟩ => ?_) hs rfl))
  obtain ⟨a, xs, ex, hq, q⟩ := q1
  subst ex
  cases r1 with
  | cons r rr =>
    cases rr
    cases r
    obtain ⟨its, rv, p', hz⟩ := I1.tuple hq
    have hlt : a < s1.heap.objs.size := by obtain ⟨_, e, _⟩ := p'; exact Heap.lt_size e
    refine call_enumerate_tuple p' fun h' he hit hsz hk => wpAny_pyIter_enum he ?_
    have I2 : Inv X pins σ H1 { s1 with heap := h' } := I1.kept (t' := s1.toks) hk
    refine ⟨s1.heap.objs.size + 1, [s1.heap.objs.size + 1, s1.heap.objs.size], _, _, H1, rfl, I2, turn_enumT a (s1.heap.objs.size + 1) s1.heap.objs.size (Nat.ne_of_lt hlt) (Nat.ne_of_lt (Nat.lt_succ_of_lt hlt)) (Nat.succ_ne_self _), ⟨⟨.none, he⟩, hit⟩, fun b hb => ?_, q⟩
    have e' : b = s1.heap.objs.size + 1 ∨ b = s1.heap.objs.size := by simpa using hb
    have hle : s1.heap.objs.size ≤ b := by
      rcases e' with z | z
      · rw [z]; exact Nat.le_add_right _ _
      · rw [z]; exact Nat.le_refl _
    exact I1.fpOk hle (I1.hok.fresh hle)
def enumD : Nat → List D → List D
  | _, [] => []
  | k, d :: r => .tup [.int k, d] :: enumD (k + 1) r
theorem enumD_length : ∀ (l : List D) (k : Nat), (enumD k l).length = l.length
  | [], _ => rfl
  | _ :: r, k => by show (enumD (k + 1) r).length + 1 = r.length + 1; rw [enumD_length r (k + 1)]
theorem enumD_get : ∀ (l : List D) (k i : Nat) (d : D), (enumD k l)[i]? = some d → ∃ x, l[i]? = some x ∧ d = .tup [.int ((k + i : Nat) : Int), x]
  | [], _, _, _, h => by simp [enumD] at h
  | x :: r, k, 0, d, h => by
    simp [enumD] at h
    exact ⟨x, rfl, h.symm⟩
  | x :: r, k, i + 1, d, h => by
    have h : (enumD (k + 1) r)[i]? = some d := by simpa [enumD] using h
    obtain ⟨y, h1, h2⟩ := enumD_get r (k + 1) i d h
    exact ⟨y, by simpa using h1, by rw [h2, show k + 1 + i = k + (i + 1) by omega]⟩
theorem rvw_pair {K : PySem.W.Frag} {ρ : List Addr} {H : Hp} {T : Addr} {k : Int} {d : D} {x : V} (hT : H T = none) (r : RV K G ρ H d x) : RVw K G ρ (L2.upd H T (.tup [.int k, x])) (.tup [.int k, d]) (.ref T) :=
  ⟨T, _, rfl, .inl (.inl upd_same), .cons (by simp only [RV]) (.cons (RV.ext (Ext.laid hT) _ _ r) .nil)⟩
theorem itOk_enumT {ρ0 : List Addr} {H0 : Hp} {l : List D} {p : Addr} {xs : List V} (h1 : TupK X.K H0 p xs) (h2 : RVs X.K G ρ0 H0 l xs) : ItOk X.K G (RVw X.K G) ρ0 H0 ⟨enumD 0 l, none⟩ (IteT X.K p) where
  go := fun i ρ hh H e rp _ hi => by
    have hi : i < (enumD 0 l).length := hi
    rw [enumD_length] at hi
    obtain ⟨v, q, _⟩ := (RVs.ext e _ _ h2).get (List.getElem?_eq_getElem hi)
    exact ⟨xs, v, (e.tupK h1).sqT, q⟩
  yld := fun i ρ hh H x H' d e rp _ hd hy => by
    obtain ⟨T, y, rfl, hT, rfl, hy⟩ := hy
    obtain ⟨z, g1, rfl⟩ := enumD_get _ _ _ _ hd
    obtain ⟨v, q, r⟩ := (RVs.ext e _ _ h2).get g1
    have := hy xs (e.tupK h1).sqT
    rw [q] at this
    cases this
    rw [Nat.zero_add]
    exact ⟨Ext.laid hT, rp.side hT, rvw_pair hT r⟩
  stop := fun i ρ hh H e rp _ hi => by
    have hi : (enumD 0 l).length ≤ i := hi
    rw [enumD_length] at hi
    exact ⟨xs, (e.tupK h1).sqT, by rw [h2.length]; exact hi⟩
theorem itOk_enumL {ρ0 : List Addr} {H0 : Hp} {l : List D} {n : Nat} {p : Addr} (hp : ρ0[n]? = some p) : ItOk X.K G (RVw X.K G) ρ0 H0 ⟨enumD 0 l, some (n, l)⟩ (Ite X.K p) where
  go := fun i ρ hh H e rp hok hi => by
    have hi : i < (enumD 0 l).length := hi
    rw [enumD_length] at hi
    obtain ⟨xs, h1, h2⟩ := src_obj (l := l) rp hok (e.get hp)
    obtain ⟨v, q, _⟩ := h2.get (List.getElem?_eq_getElem hi)
    exact ⟨xs, v, h1, q⟩
  yld := fun i ρ hh H x H' d e rp hok hd hy => by
    obtain ⟨T, y, rfl, hT, rfl, hy⟩ := hy
    obtain ⟨z, g1, rfl⟩ := enumD_get _ _ _ _ hd
    obtain ⟨xs, h1, h2⟩ := src_obj (l := l) rp hok (e.get hp)
    obtain ⟨v, q, r⟩ := h2.get g1
    have := hy xs h1
    rw [q] at this
    cases this
    rw [Nat.zero_add]
    exact ⟨Ext.laid hT, rp.side hT, rvw_pair hT r⟩
  stop := fun i ρ hh H e rp hok hi => by
    have hi : (enumD 0 l).length ≤ i := hi
    rw [enumD_length] at hi
    obtain ⟨xs, h1, h2⟩ := src_obj (l := l) rp hok (e.get hp)
    exact ⟨xs, h1, by rw [h2.length]; exact hi⟩
def srcE (d : D) (h : Hh) : R Src := (srcD d h).bind fun s h => .ok ⟨enumD 0 s.items, s.guard⟩ h
def I.enum (a : EΦ) : IΦ := fun env h => (a env h).bind srcE
theorem SI.enum {φ : EΦ} {p tpos : Pos} {elts : List Expr} {kk : Nat} (hg : Gl X "enumerate") (hm : X.mg "enumerate" = none) (ha : SE X G W a φ) (hs : starEach [a] X.env = (false, eval a X.env) :: starEach [] X.env := by rfl) : SI X G W (RVw X.K G) (.Tuple elts kk tpos) (.Call (.Name "enumerate" p) [a] [] pos) (I.enum φ) := by
  refine ⟨PI.weak (PI.or (pi_enum hg hm (pa_cons ha.pe pa_nil hs) hs) (pi_enumT hg hm (pa_cons ha.pe pa_nil hs) hs)) ?_⟩
  rintro σ H Rr ⟨ρ, hh, env, rp, re, sat⟩
  unfold I.enum at sat
  cases q : φ env hh with
  | exc x h1 =>
    rw [q] at sat
    exact .inl ⟨ρ, hh, env, rp, re, by rw [q]; exact sat⟩
  | bad => rw [q] at sat; exact sat.elim
  | ok d hh1 =>
    rw [q] at sat
    cases d <;> first | exact sat.elim | skip
    · refine .inr ⟨ρ, hh, env, rp, re, ?_⟩
      rw [q]
      intro v H1 ρ1 e1 rp1 rd
      obtain ⟨p, xs, rfl, h1, h2⟩ := rv_tup rd
      exact ⟨p, xs, rfl, h1.sqT, sat _ ρ1 H1 e1 rp1 (itOk_enumT h1 h2)⟩
    · rename_i n
      refine .inl ⟨ρ, hh, env, rp, re, ?_⟩
      rw [q]
      intro v H1 ρ1 e1 rp1 rd
      have rd' : RV X.K G ρ1 H1 (.ref n) v := rd
      simp only [RV] at rd'
      obtain ⟨p, rfl, hp⟩ := rd'
      have sat' : (srcE (.ref n) hh1).sat _ _ := sat
      unfold srcE srcD at sat'
      simp only at sat'
      cases hl : hh1[n]? with
      | none => rw [hl] at sat'; exact sat'.elim
      | some ob =>
        rw [hl] at sat'
        cases ob with
        | lst l =>
          obtain ⟨p', f1, xs, f2, f3⟩ := rp1.ob _ _ hl
          rw [hp] at f1; cases f1
          exact ⟨p, xs, rfl, .inl (.inl f2), sat' _ ρ1 H1 e1 rp1 (itOk_enumL hp)⟩
        | frz l =>
          obtain ⟨p', f1, xs, f2, f3⟩ := rp1.ob _ _ hl
          rw [hp] at f1; cases f1
          exact ⟨p, xs, rfl, .inl f2, sat' _ ρ1 H1 e1 rp1 (itOk_enumL hp)⟩
end
end DL

set_option Elab.async false
set_option linter.all false
set_option maxRecDepth 100000
set_option maxHeartbeats 4000000
/-! DL12: index, stores, equality of lists, in, len(set(..)). -/
namespace DL
open PySem PySem.Spec PyProof.Rows L2 GX GxR

/-! ### index -/
def firstD (p : D → Bool) : List D → Option Nat
  | [] => none
  | d :: l => if p d then some 0 else (firstD p l).map (· + 1)
theorem firstD_some {p : D → Bool} : ∀ {l : List D} {j : Nat}, firstD p l = some j → ∃ z, l[j]? = some z ∧ p z = true ∧ ∀ m z', m < j → l[m]? = some z' → p z' = false
  | [], _, h => by cases h
  | d :: l, j, h => by
    unfold firstD at h
    by_cases hp : p d = true
    · rw [if_pos hp] at h
      cases h
      exact ⟨d, rfl, hp, fun m z' hm => absurd hm (Nat.not_lt_zero _)⟩
    · rw [if_neg hp] at h
      cases q : firstD p l with
      | none => rw [q] at h; cases h
      | some k =>
        rw [q] at h
        cases h
        obtain ⟨z, h1, h2, h3⟩ := firstD_some q
        refine ⟨z, by simpa using h1, h2, fun m z' hm hz => ?_⟩
        cases m with
        | zero =>
          simp at hz
          subst hz
          simpa using hp
        | succ m => exact h3 m z' (Nat.lt_of_succ_lt_succ hm) (by simpa using hz)
theorem pys_get : ∀ {l : List D} {m : Nat} {z : PyData}, (D.pys l)[m]? = some z → ∃ d, l[m]? = some d ∧ z = D.py d
  | [], m, z, h => by simp [D.pys] at h
  | d :: l, 0, z, h => by simp [D.pys] at h; exact ⟨d, rfl, h.symm⟩
  | d :: l, m + 1, z, h => by
    simp only [D.pys, List.getElem?_cons_succ] at h
    obtain ⟨y, h1, h2⟩ := pys_get h
    exact ⟨y, by simpa using h1, h2⟩
theorem pys_at : ∀ {l : List D} {m : Nat} {d : D}, l[m]? = some d → (D.pys l)[m]? = some (D.py d)
  | [], m, d, h => by simp at h
  | x :: l, 0, d, h => by simp at h; simp [D.pys, h]
  | x :: l, m + 1, d, h => by simp only [D.pys, List.getElem?_cons_succ]; exact pys_at (by simpa using h)
theorem flats_at {n : Nat} : ∀ {l : List D} {m : Nat} {d : D}, D.flats n l = true → l[m]? = some d → D.flat n d = true
  | [], m, d, _, h => by simp at h
  | x :: l, 0, d, f, h => by
    simp at h
    subst h
    simp only [D.flats, Bool.and_eq_true] at f
    exact f.1
  | x :: l, m + 1, d, f, h => by
    simp only [D.flats, Bool.and_eq_true] at f
    exact flats_at f.2 (by simpa using h)
theorem pys_shaped {n : Nat} {l : List D} (h : D.flats n l = true) (hn : n < 64) : SeqAt.shaped (.list (D.pys l)) = true ∧ SeqAt.shaped (.tuple (D.pys l)) = true := by
  unfold SeqAt.shaped
  have h1 := pys_lay n l h
  have h2 := pys_depth n l h
  have e1 : (PyData.list (D.pys l)).canLay0 = true := by simp only [PyData.canLay0]; exact h1
  have e2 : (PyData.tuple (D.pys l)).canLay0 = true := by simp only [PyData.canLay0]; exact h1
  have d1 : (PyData.list (D.pys l)).depth ≤ 64 := by simp only [PyData.depth]; omega
  have d2 : (PyData.tuple (D.pys l)).depth ≤ 64 := by simp only [PyData.depth]; omega
  rw [e1, e2, Bool.true_and, Bool.true_and]
  exact ⟨decide_eq_true d1, decide_eq_true d2⟩
/-- the place of the first equal one -/
def ixOf (l : List D) (y : D) (h : Hh) : R D := if D.flats 31 l && D.flat 31 y then (match firstD (fun z => D.eqv z y) l with
  | some j => .ok (.int (j : Nat)) h
  | none => .bad) else .bad
def D.index (d : D) (ds : List D) (h : Hh) : R D := match ds with
  | [y] => (match d with
    | .tup l => ixOf l y h
    | d => (match rdL h d with
      | .ok l _ => ixOf l y h
      | _ => .bad))
  | _ => .bad
theorem nox_index : ∀ d ds h e h', D.index d ds h ≠ .exc e h' := by
  have key : ∀ l y h e h', ixOf l y h ≠ .exc e h' := fun l y h e h' q => by
    unfold ixOf at q
    split at q
    · split at q <;> cases q
    · cases q
  intro d ds h e h' q
  unfold D.index at q
  split at q
  · split at q
    · exact key _ _ _ _ _ q
    · split at q
      · exact key _ _ _ _ _ q
      · cases q
  · cases q
theorem ixOf_ok {l : List D} {y : D} {h : Hh} {P : D → Hh → Prop} {E : Ex → Hh → Prop} (q : (ixOf l y h).sat P E) : D.flats 31 l = true ∧ D.flat 31 y = true ∧ ∃ j z, l[j]? = some z ∧ D.eqv z y = true ∧ (∀ m z', m < j → l[m]? = some z' → D.eqv z' y = false) ∧ P (.int (j : Nat)) h := by
  unfold ixOf at q
  split at q
  · rename_i hf
    simp only [Bool.and_eq_true] at hf
    split at q
    · rename_i j hj
      obtain ⟨z, h1, h2, h3⟩ := firstD_some hj
      exact ⟨hf.1, hf.2, j, z, h1, h2, h3, q⟩
    · exact q.elim
  · exact q.elim
section
variable {X : Cx} {G : Gs} {W : WX} {e a b c o i : Expr} {es : List Expr} {pos : Pos}
/-- t.index(x): the first place of an equal one -/
def rTIndexD (K : PySem.W.Frag) : V → List V → Hp → VK → Prop := fun x xs H Q => ∃ (a : Addr) (y : V) (d : PyData) (ds : List PyData) (j : Nat) (z : PyData), x = V.ref a ∧ xs = [y] ∧ Dp K H (V.ref a) (.tuple ds) ∧ Dp K H y d ∧
  SeqAt.shaped (.tuple ds) = true ∧ SeqAt.shaped d = true ∧ ds[j]? = some z ∧ PyData.eqv z d = true ∧ (∀ (m : Nat) (z' : PyData), m < j → ds[m]? = some z' → PyData.eqv z' d = false) ∧ Q (.int (j : Nat)) H
theorem mt_tindexD (hu : X.A.units + 65 < cLine) : MtR X "tuple.index" (rTIndexD X.K) := by
  intro pins s σ H x xs v us Q I rx rxs h
  obtain ⟨a, y, d, ds, j, z, rfl, rfl, hl, hy, sl, sd, hz, hzj, hno, q⟩ := h
  cases rx
  cases rxs with
  | cons ry rt =>
    rename_i uy ut
    cases rt
    obtain ⟨bs, r1⟩ := Dp.reads I d y uy hy ry
    have hxs : PyData.canLayAll0 ds = true := SeqAt.canLay_of_shaped sl
    have hroom : X.A.units + 1 + min (PyData.depthAll ds) d.depth < cLine := room_in_shaped sd hu
    cases hl with
    | tup hs ha =>
      obtain ⟨its, rv, ⟨⟨cls, dd, data, sls⟩, ho, hc, n, hdt⟩, hlen⟩ := I.tuple hs
      simp only at hc hdt
      subst hc hdt
      obtain ⟨as, h4⟩ := Dp.readsAll I ds _ its ha rv
      have hn : its.length = ds.length := SeqAt.ReadsAll.length ds its as h4
      have hmap : its.map (SeqAt.readOf s.heap) = ds := SeqAt.readsAll_map ds its as hxs h4
      obtain ⟨hjd, _⟩ := List.getElem?_eq_some_iff.mp hz
      have hjl : j < its.length := by omega
      have hj : j < its.toArray.size := by simpa using hjl
      have at_ : ∀ (m : Nat) (hm : m < its.toArray.size) (z' : PyData), ds[m]? = some z' → SeqAt.readOf s.heap its.toArray[m] = z' := by
        intro m hm z' hz'
        have hml : m < its.length := by simpa using hm
        rw [← hmap, List.getElem?_map, List.getElem?_eq_getElem hml] at hz'
        have e1 : SeqAt.readOf s.heap its[m] = z' := Option.some.inj (show some (SeqAt.readOf s.heap its[m]) = some z' from hz')
        simpa using e1
      refine call_meets PySem.F.slot_tuple_index ⟨_, ho, rfl⟩ PySem.F.entry_tuple_index (PySem.F.args_tuple_index_2 _ _)
        (TI.tuple_indexAt a its.toArray n dd sls uy (fun u => PyData.eqv (SeqAt.readOf s.heap u) d) j hj ?_ ?_) ⟨ho, SeqAt.items_eqAt (vs := its.toArray) (show ReadsAll s.heap its.toArray.toList ds as from h4) r1 hxs (SeqAt.canLay_of_shaped sd) hroom, ?_⟩
      · show PyData.eqv (SeqAt.readOf s.heap its.toArray[j]) d = true
        rw [at_ j hj z hz]
        exact hzj
      · intro m hm hmj
        have hmd : m < ds.length := by
          have : m < its.length := by simpa using hm
          omega
        have hz' : ds[m]? = some ds[m] := List.getElem?_eq_getElem hmd
        show PyData.eqv (SeqAt.readOf s.heap its.toArray[m]) d = false
        rw [at_ m hm _ hz']
        exact hno m _ hmj hz'
      · exact ⟨.int (j : Nat), H, I.tok _, ⟨_, rfl⟩, q⟩
theorem ix_facts {l : List D} {y z : D} {j : Nat} (f1 : D.flats 31 l = true) (f2 : D.flat 31 y = true) (h1 : l[j]? = some z) (h2 : D.eqv z y = true) (h3 : ∀ m z', m < j → l[m]? = some z' → D.eqv z' y = false) :
    (D.pys l)[j]? = some (D.py z) ∧ PyData.eqv (D.py z) (D.py y) = true ∧ ∀ (m : Nat) (z' : PyData), m < j → (D.pys l)[m]? = some z' → PyData.eqv z' (D.py y) = false := by
  refine ⟨pys_at h1, by rw [py_eqv 31 _ _ (flats_at f1 h1) f2]; exact h2, fun m z' hm hz => ?_⟩
  obtain ⟨d, g1, rfl⟩ := pys_get hz
  rw [py_eqv 31 _ _ (flats_at f1 g1) f2]
  exact h3 m d hm g1
def D.lindex (d : D) (ds : List D) (h : Hh) : R D := match d with
  | .tup _ => .bad
  | d => D.index d ds h
def D.tindex (d : D) (ds : List D) (h : Hh) : R D := match d, ds with
  | .tup l, [y] => ixOf l y h
  | _, _ => .bad
theorem sm_lindex (hu : X.A.units + 65 < cLine) : SMet X G "list.index" D.lindex := by
  refine ⟨fun pins s σ H x xs v us Q I rx rs h => ?_, fun d ds h e h' q => ?_⟩
  · obtain ⟨ρ, hh, d, ds, rp, rd, rds, sat⟩ := h
    have key : (∀ l, d ≠ .tup l) → Sat X.K G WF (rV X.K G) ρ H [] Q (D.index d ds hh) → wpAny (model X.prog X.w) X.A (call (.builtin "list.index") (v :: us)) (EP X pins σ Q) X.xe s := fun nt sat => by
      unfold D.index at sat
      split at sat
      · rename_i y
        split at sat
        · exact (nt _ rfl).elim
        · split at sat
          · rename_i l h2 hq
            have hs : (rdL hh d).sat (fun a h' => a = l ∧ h' = h2) (fun _ _ => True) := by rw [hq]; exact ⟨rfl, rfl⟩
            obtain ⟨l', a, ys, rfl, g1, g2, g3, g4⟩ := rdL_ok (α := Unit) (β := Unit) rp rd hs
            subst g3
            obtain ⟨f1, f2, j, z, q1, q2, q3, q4⟩ := ixOf_ok sat
            obtain ⟨w, rfl, rw'⟩ := rds.one
            obtain ⟨k1, k2, k3⟩ := ix_facts f1 f2 q1 q2 q3
            exact mt_indexD hu pins s σ H _ _ v us Q I rx rs ⟨a, w, _, _, j, _, rfl, rfl, .lst g1 (dps_of 31 _ _ f1 g2), dp_of 31 _ _ f2 rw', (pys_shaped f1 (by decide)).1, py_shaped f2 (by decide), k1, k2, k3, q4 _ _ _ (Ext.refl _ _) rp mk_int⟩
          · exact sat.elim
      · exact sat.elim
    cases d <;> first | exact sat.elim | exact key (fun l z => by cases z) sat
  · cases d <;> first | (cases q; done) | (unfold D.lindex at q; exact nox_index _ _ _ _ _ q)
theorem sm_tindex (hu : X.A.units + 65 < cLine) : SMet X G "tuple.index" D.tindex := by
  refine ⟨fun pins s σ H x xs v us Q I rx rs h => ?_, fun d ds h e h' q => ?_⟩
  · obtain ⟨ρ, hh, d, ds, rp, rd, rds, sat⟩ := h
    unfold D.tindex at sat
    split at sat
    · rename_i l y
      obtain ⟨a, ys, rfl, g1, g2⟩ := rv_tup rd
      obtain ⟨f1, f2, j, z, q1, q2, q3, q4⟩ := ixOf_ok sat
      obtain ⟨w, rfl, rw'⟩ := rds.one
      obtain ⟨k1, k2, k3⟩ := ix_facts f1 f2 q1 q2 q3
      exact mt_tindexD hu pins s σ H _ _ v us Q I rx rs ⟨a, w, _, _, j, _, rfl, rfl, .tup g1.sqT (dps_of 31 _ _ f1 g2), dp_of 31 _ _ f2 rw', (pys_shaped f1 (by decide)).2, py_shaped f2 (by decide), k1, k2, k3, q4 _ _ _ (Ext.refl _ _) rp mk_int⟩
    · exact sat.elim
  · unfold D.tindex at q
    split at q
    · unfold ixOf at q
      split at q
      · split at q <;> cases q
      · cases q
    · cases q

/-! ### o[i] = v -/
def setL (x y d : D) (env : Env) (h : Hh) : R Env := match y with
  | .int k => (match lstAt h x with
    | some (n, l) => (match ixN l.length k with
      | some j => .ok env (h.set n (.lst (l.set j d)))
      | none => .bad)
    | none => .bad)
  | _ => .bad
def Tg.sub (a b : EΦ) : GΦ := fun d env h => (a env h).bind fun x h => (b env h).bind fun y h => setL x y d env h
theorem SG.sub {φ ψ : EΦ} (ho : SE X G WF o φ) (hi : SE X G WF i ψ)
    (ha : ∀ v, assign (.Subscript o i pos) X.env v = (do
      let ov ← holding [v] (eval o X.env)
      let iv ← holding [v, ov] (eval i X.env)
      standAt pos
      holding [v, ov, iv] (setItem ov iv v)
      release [v, ov, iv] []) := by intro _; rfl) : SG X G (RV X.K G) (.Subscript o i pos) (Tg.sub φ ψ) := by
  refine ⟨PG.weak (pg_sub ho.pe hi.pe set_list ha) ?_⟩
  rintro v σ H Q ⟨ρ, hh, env, d, rp, re, rd, sat⟩
  refine ⟨ρ, hh, env, rp, re, R.sat_mono (R.sat_bind sat) (fun x hh1 q vx H1 ρ1 e1 rp1 rx => ?_) fun _ _ z => z.elim⟩
  refine ⟨ρ1, hh1, env, rp1, re.ext e1, R.sat_mono (R.sat_bind q) (fun y hh2 q2 vy H2 ρ2 e2 rp2 ry => ?_) fun _ _ z => z.elim⟩
  have rx2 := RV.ext e2 _ _ rx
  unfold setL at q2
  cases y <;> first | exact q2.elim | skip
  rename_i k
  simp only at q2
  split at q2
  · rename_i n l hl
    obtain ⟨a, ys, rfl, g1, g2, g3, g4⟩ := lstAt_ok rp2 rx2 hl
    split at q2
    · rename_i j hj
      have ek := rv_int ry
      subst ek
      obtain ⟨s1, s2⟩ := rp2.set g4 g1 g2 (RVs.set (RV.ext (e1.trans e2) _ _ rd) j g3)
      exact ⟨a, ys, k, j, rfl, rfl, g2, by rw [g3.length]; exact hj, q2 ρ2 σ _ (e1.trans (e2.trans s2)) s1 (re.ext (e1.trans (e2.trans s2)))⟩
    · exact q2.elim
  · exact q2.elim

/-! ### == of values or lists -/
/-- a value or a list that was made on the way -/
inductive DX where
  | d (x : D) | l (xs : List D)
abbrev XΦ := Env → Hh → R DX
def rX (K : PySem.W.Frag) (G : Gs) : Hp → List Addr → Hp → DX → V → Prop := fun H0 ρ H x v => match x with
  | .d d => RV K G ρ H d v
  | .l xs => rL K G H0 ρ H xs v
theorem later_X {K : PySem.W.Frag} : Later (rX K G) := fun ρ H ρ1 H1 ρ' H' a b e e' h => by
  cases a with
  | d x => exact h
  | l xs => exact later_L _ _ _ _ _ _ _ _ e e' h
structure SX (X : Cx) (G : Gs) (W : WX) (e : Expr) (φ : XΦ) : Prop where
  pe : PE X e (tG X.K G W (rX X.K G) φ)
def XX.of (a : EΦ) : XΦ := fun env h => (a env h).bind fun d h => .ok (.d d) h
def XX.ofL (a : LΦ) : XΦ := fun env h => (a env h).bind fun l h => .ok (.l l) h
theorem SX.of {φ : EΦ} (ha : SE X G W a φ) : SX X G W a (XX.of φ) := by
  refine ⟨PE.weak ha.pe ?_⟩
  rintro σ H Q ⟨ρ, hh, env, rp, re, sat⟩
  exact ⟨ρ, hh, env, rp, re, R.sat_mono (R.sat_bind sat) (fun d hh1 q v H1 ρ1 e1 rp1 rd => q v H1 ρ1 e1 rp1 rd) fun _ _ z => z⟩
theorem SX.ofL {φ : LΦ} (ha : SL X G W a φ) : SX X G W a (XX.ofL φ) := by
  refine ⟨PE.weak ha.pe ?_⟩
  rintro σ H Q ⟨ρ, hh, env, rp, re, sat⟩
  exact ⟨ρ, hh, env, rp, re, R.sat_mono (R.sat_bind sat) (fun d hh1 q v H1 ρ1 e1 rp1 rd => q v H1 ρ1 e1 rp1 rd) fun _ _ z => z⟩
/-- its data: a list's items, or a value without objects -/
inductive DV where
  | v (d : D) | ls (l : List D)
def dvOf (h : Hh) : DX → Option DV
  | .l xs => if D.flats 31 xs then some (.ls xs) else none
  | .d (.ref n) => (match h[n]? with
    | some (.lst l) => if D.flats 31 l then some (.ls l) else none
    | some (.frz l) => if D.flats 31 l then some (.ls l) else none
    | none => none)
  | .d d => if D.flat 32 d then some (.v d) else none
def DV.py : DV → PyData
  | .v d => D.py d
  | .ls l => .list (D.pys l)
def DV.eqv : DV → DV → Bool
  | .v a, .v b => D.eqv a b
  | .ls a, .ls b => D.eqvs a b
  | _, _ => false
def DV.ok : DV → Bool
  | .v d => D.flat 32 d
  | .ls l => D.flats 31 l
theorem DV.py_eqv {a b : DV} (ha : a.ok = true) (hb : b.ok = true) : PyData.eqv a.py b.py = a.eqv b := by
  cases a with
  | v x => cases b with
    | v y => exact DL.py_eqv 32 x y ha hb
    | ls y => cases x <;> simp [DV.py, DV.eqv, D.py, PyData.eqv]
  | ls x => cases b with
    | v y => cases y <;> simp [DV.py, DV.eqv, D.py, PyData.eqv]
    | ls y =>
      show PyData.eqv (.list (D.pys x)) (.list (D.pys y)) = D.eqvs x y
      simp only [PyData.eqv]
      exact pys_eqv 31 x y ha hb
theorem DV.shaped {a : DV} (ha : a.ok = true) : SeqAt.shaped a.py = true := by
  cases a with
  | v x => exact py_shaped ha (by decide)
  | ls x => exact (pys_shaped ha (by decide)).1
theorem dvOf_ok {K : PySem.W.Frag} {ρ : List Addr} {hh : Hh} {H0 H : Hp} {x : DX} {v : V} {z : DV} (rp : Rep K G ρ hh H) (r : rX K G H0 ρ H x v) (e : dvOf hh x = some z) : z.ok = true ∧ Dp K H v z.py := by
  cases x with
  | l xs =>
    simp only [dvOf] at e
    split at e
    · rename_i hf
      cases e
      obtain ⟨a, ys, rfl, h1, h2, h3, h4⟩ := r
      exact ⟨hf, .lst (.inl (.inl h1)) (dps_of 31 _ _ hf h4)⟩
    · cases e
  | d x =>
    have r' : RV K G ρ H x v := r
    cases x with
    | ref n =>
      simp only [dvOf] at e
      simp only [RV] at r'
      obtain ⟨a, rfl, ha⟩ := r'
      split at e
      · rename_i l hl
        obtain ⟨b, e1, ys, e2, e3⟩ := rp.ob _ _ hl
        rw [ha] at e1; cases e1
        split at e
        · rename_i hf
          cases e
          exact ⟨hf, .lst (.inl (.inl e2)) (dps_of 31 _ _ hf e3)⟩
        · cases e
      · rename_i l hl
        obtain ⟨b, e1, ys, e2, e3⟩ := rp.ob _ _ hl
        rw [ha] at e1; cases e1
        split at e
        · rename_i hf
          cases e
          exact ⟨hf, .lst (.inl e2) (dps_of 31 _ _ hf e3)⟩
        · cases e
      · cases e
    | _ =>
      simp only [dvOf] at e
      split at e
      · rename_i hf
        cases e
        exact ⟨hf, dp_of 32 _ _ hf r'⟩
      · cases e
/-- == (neg: !=) -/
def T.eqX (neg : Bool) (a b : XΦ) : TΦ := fun env h => (a env h).bind fun x h => (b env h).bind fun y h => match dvOf h x, dvOf h y with
  | some u, some v => .ok (if neg then !u.eqv v else u.eqv v) h
  | _, _ => .bad
abbrev eqOp : Bool → CmpOp
  | true => .NotEq
  | false => .Eq
def rEqX (K : PySem.W.Frag) (neg : Bool) : R2 := fun x y H Q => ∃ d e, Dp K H x d ∧ Dp K H y e ∧ SeqAt.shaped d = true ∧ SeqAt.shaped e = true ∧ Q (.bl (if neg then !PyData.eqv d e else PyData.eqv d e)) H
theorem op_eqX {neg : Bool} (hu : X.A.units + 64 < cLine) : OpR X (compareOp (eqOp neg)) (rEqX X.K neg) := by
  cases neg with
  | false =>
    intro pins s σ H x y v u Q I rx ry ⟨d, e, h1, h2, h3, h4, q⟩
    exact op_eqD hu pins s σ H x y v u Q I rx ry ⟨d, e, h1, h2, h3, h4, q⟩
  | true =>
    intro pins s σ H x y v u Q I rx ry ⟨d, e, h1, h2, h3, h4, q⟩
    exact op_neD hu pins s σ H x y v u Q I rx ry ⟨d, e, h1, h2, h3, h4, q⟩
theorem rX_ext {K : PySem.W.Frag} {ρ ρ' : List Addr} {H0 H H' : Hp} {x : DX} {v : V} (e : Ext ρ H ρ' H') (r : rX K G H0 ρ H x v) : rX K G H0 ρ' H' x v := by
  cases x with
  | d x => exact RV.ext e _ _ r
  | l xs =>
    obtain ⟨a, ys, rfl, h1, h2, h3, h4⟩ := r
    exact ⟨a, ys, rfl, e.side _ _ h1 h3 (fun _ z => nomatch z), h2, e.notin h1 h3, RVs.ext e _ _ h4⟩
theorem eqX_core {neg : Bool} {ρ : List Addr} {hh : Hh} {H H0 H1 : Hp} {σ : L2.St} {x y : DX} {v u : V} {Q : Bool → Hp → Prop} (rp : Rep X.K G ρ hh H) (rx : rX X.K G H0 ρ H x v) (ry : rX X.K G H1 ρ H y u)
    (sat : Sat X.K G W rB ρ H σ Q (match dvOf hh x, dvOf hh y with
      | some u, some v => .ok (if neg then !u.eqv v else u.eqv v) hh
      | _, _ => .bad)) : ∃ d e, Dp X.K H v d ∧ Dp X.K H u e ∧ SeqAt.shaped d = true ∧ SeqAt.shaped e = true ∧ Q (if neg then !PyData.eqv d e else PyData.eqv d e) H := by
  split at sat
  · rename_i z w hz hw
    obtain ⟨k1, p1⟩ := dvOf_ok rp rx hz
    obtain ⟨k2, p2⟩ := dvOf_ok rp ry hw
    refine ⟨_, _, p1, p2, DV.shaped k1, DV.shaped k2, ?_⟩
    rw [DV.py_eqv k1 k2]
    exact Sat.mk sat (Ext.refl _ _) rp rfl
  · exact sat.elim
theorem ST.eqX {neg : Bool} {φ ψ : XΦ} (hu : X.A.units + 64 < cLine) (ha : SX X G W a φ) (hb : SX X G W b ψ) (hm : behindInMarks (eqOp neg) b = false := by first | exact nomark _ | rfl) : ST X G W (.Compare a [eqOp neg] [b] pos) (T.eqX neg φ ψ) := by
  refine ⟨PT.weak (pt_cmpR (op_eqX (neg := neg) hu) ha.pe hb.pe hm) ?_⟩
  rintro σ H Q ⟨ρ, hh, env, rp, re, sat⟩
  refine tG.seq later_B rp re sat fun x v ρ1 hh1 H1 e1 rp1 re1 rx sat1 => ?_
  refine tG.seq later_B rp1 re1 sat1 fun y u ρ2 hh2 H2 e2 rp2 re2 ry sat2 => ?_
  obtain ⟨d, e, h1, h2, h3, h4, q⟩ := eqX_core (neg := neg) rp2 (rX_ext e2 rx) ry sat2
  exact ⟨d, e, h1, h2, h3, h4, _, rfl, q⟩
theorem SE.eqX {neg : Bool} {φ ψ : XΦ} (hu : X.A.units + 64 < cLine) (ha : SX X G W a φ) (hb : SX X G W b ψ) (hm : behindInMarks (eqOp neg) b = false := by first | exact nomark _ | rfl) : SE X G W (.Compare a [eqOp neg] [b] pos) (E.ofT (T.eqX neg φ ψ)) := by
  refine ⟨PE.weak (pe_cmpR (op_eqX (neg := neg) hu) ha.pe hb.pe hm) ?_⟩
  rintro σ H Q ⟨ρ, hh, env, rp, re, sat⟩
  have sat : Sat X.K G W (rV X.K G) ρ H σ Q ((φ env hh).bind fun x h => (ψ env h).bind fun y h => (match dvOf h x, dvOf h y with
      | some u, some v => (.ok (if neg then !u.eqv v else u.eqv v) h : R Bool)
      | _, _ => .bad).bind fun c h => .ok (.bl c) h) := by
    have : ∀ {α β γ : Type} (r : R α) (k : α → Hh → R β) (l : β → Hh → R γ), (r.bind k).bind l = r.bind fun a h => (k a h).bind l := by
      intro α β γ r k l; cases r <;> rfl
    unfold E.ofT T.eqX at sat
    simp only [this] at sat
    exact sat
  refine tG.seq later_V rp re sat fun x v ρ1 hh1 H1 e1 rp1 re1 rx sat1 => ?_
  refine tG.seq later_V rp1 re1 sat1 fun y u ρ2 hh2 H2 e2 rp2 re2 ry sat2 => ?_
  have sat3 : Sat X.K G W rB ρ2 H2 σ (fun b H => Q (.bl b) H) (match dvOf hh2 x, dvOf hh2 y with
      | some u, some v => .ok (if neg then !u.eqv v else u.eqv v) hh2
      | _, _ => .bad) := by
    revert sat2
    cases dvOf hh2 x with
    | none => exact fun s => s
    | some z =>
      cases dvOf hh2 y with
      | none => exact fun s => s
      | some w =>
        intro s b H' ρ' e' rp' rb
        have rb : (if neg then !z.eqv w else z.eqv w) = b := rb
        have s : Sat X.K G W (rV X.K G) ρ2 H2 σ Q (.ok (.bl (if neg then !z.eqv w else z.eqv w)) hh2) := s
        rw [rb] at s
        exact Sat.mk s e' rp' mk_bl
  obtain ⟨d, e, h1, h2, h3, h4, q⟩ := eqX_core (W := W) (σ := σ) (neg := neg) rp2 (rX_ext e2 rx) ry sat3
  exact ⟨d, e, h1, h2, h3, h4, q⟩
end
end DL

set_option Elab.async false
set_option linter.all false
set_option maxRecDepth 100000
set_option maxHeartbeats 4000000
/-! DL13: len(set(..)) of ints. -/
namespace DL
open PySem PySem.Spec PyProof.Rows L2 GX GxR
def intsOf : List D → Option (List Int)
  | [] => some []
  | .int i :: r => (intsOf r).map (i :: ·)
  | _ :: _ => none
theorem intsOf_ok : ∀ {l : List D} {ns : List Int}, intsOf l = some ns → l = ns.map D.int
  | [], _, h => by cases h; rfl
  | .int i :: r, ns, h => by
    simp only [intsOf] at h
    cases q : intsOf r with
    | none => rw [q] at h; cases h
    | some ms =>
      rw [q] at h
      cases h
      rw [List.map_cons, ← intsOf_ok q]
  | .non :: _, _, h => by cases h
  | .bl _ :: _, _, h => by cases h
  | .str _ :: _, _, h => by cases h
  | .tup _ :: _, _, h => by cases h
  | .ref _ :: _, _, h => by cases h
  | .fn _ :: _, _, h => by cases h
theorem intsOf_map (ns : List Int) : intsOf (ns.map D.int) = some ns := by
  induction ns with
  | nil => rfl
  | cons n r ih => rw [List.map_cons]; simp only [intsOf, ih]; rfl
/-- each number once -/
def once : List Int → List Int
  | [] => []
  | n :: r => if n ∈ r then once r else n :: once r
theorem mem_once {k : Int} : ∀ {l : List Int}, k ∈ once l ↔ k ∈ l
  | [] => Iff.rfl
  | n :: r => by
    unfold once
    by_cases h : n ∈ r
    · rw [if_pos h, mem_once (l := r), List.mem_cons]
      exact ⟨.inr, fun q => q.elim (fun e => e ▸ h) id⟩
    · rw [if_neg h, List.mem_cons, List.mem_cons, mem_once (l := r)]
theorem nodup_once : ∀ l : List Int, (once l).Nodup
  | [] => List.nodup_nil
  | n :: r => by
    unfold once
    by_cases h : n ∈ r
    · rw [if_pos h]; exact nodup_once r
    · rw [if_neg h]; exact List.nodup_cons.mpr ⟨fun q => h (mem_once.mp q), nodup_once r⟩
theorem once_of_nodup : ∀ {l : List Int}, l.Nodup → once l = l
  | [], _ => rfl
  | n :: r, h => by
    obtain ⟨h1, h2⟩ := List.nodup_cons.mp h
    unfold once
    rw [if_neg h1, once_of_nodup h2]
theorem len_of_mem {l m : List Int} (hl : l.Nodup) (hm : m.Nodup) (h : ∀ k, k ∈ l ↔ k ∈ m) : l.length = m.length := (List.perm_ext_iff_of_nodup hl hm |>.mpr h).length_eq
theorem firstMet_nd (val : Nat → Int) : ∀ i, (firstMet val i).Nodup
  | 0 => List.nodup_nil
  | i + 1 => by
    rw [firstMet_succ]
    unfold step_dedup
    split
    · exact firstMet_nd val i
    · rename_i h
      refine List.nodup_append.mpr ⟨firstMet_nd val i, by simp, fun x hx y hy e => h ?_⟩
      simp at hy
      rw [List.any_eq_true]
      exact ⟨x, hx, by rw [e, hy]; simp⟩
theorem firstMet_len (ns : List Int) : (firstMet (fun i => ns.getD i 0) ns.length).length = (once ns).length := by
  refine len_of_mem (firstMet_nd _ _) (nodup_once _) fun k => ?_
  rw [mem_once]
  have h := firstMet_any (fun i => ns.getD i 0) ns.length k
  have e : (List.range ns.length).map (fun i => ns.getD i 0) = ns := by
    refine List.ext_getElem (by simp) fun i h1 h2 => ?_
    simp [List.getD_eq_getElem?_getD, List.getElem?_eq_getElem h2]
  rw [e] at h
  have a1 : ∀ l : List Int, l.any (· == k) = true ↔ k ∈ l := fun l => by
    rw [List.any_eq_true]
    constructor
    · rintro ⟨x, hx, e⟩; rw [← beq_iff_eq.mp e]; exact hx
    · exact fun hx => ⟨k, hx, by simp⟩
  rw [← a1, ← a1, h]
def lenSetI (l : List D) (h : Hh) : R D := match intsOf l with
  | some ns => if ns.length ≤ 4000 then .ok (.int (once ns).length) h else .bad
  | none => .bad
def E.lenSet (a : LΦ) : EΦ := fun env h => (a env h).bind lenSetI
def tLenSetD (K : PySem.W.Frag) (ta : TE) : TE := fun σ H Q => ta σ H fun x H1 => ∃ (l : Addr) (ns : List Int), x = V.ref l ∧ (SqL K H1 l (ns.map V.int) ∨ SqT K H1 l (ns.map V.int)) ∧ ns.length ≤ 4000 ∧ Q (.int ((once ns).length : Nat)) H1
section
variable {X : Cx} {G : Gs} {W : WX} {a : Expr}
theorem pe_lenSetD {ta : TE} {p p2 q pos : Pos} (hc : X.calm = true) (hg : Gl X "len") (hm : X.mg "len" = none) (hg2 : Gl X "set") (hm2 : X.mg "set" = none) (ha : PE X a ta)
    (na : starEach [a] X.env = (false, eval a X.env) :: starEach [] X.env := by rfl) : PE X (.Call (.Name "len" p) [.Call (.Name "set" p2) [a] [] q] [] pos) (tLenSetD X.K ta) := by
  refine ⟨fun pins s σ H Q I h => ?_⟩
  refine Call_ (ld_blt I hg hm boot_len ?_)
  refine PyProof.Rows.callWith_builtin1 (PyProof.Rows.args_cons ?_ rfl) rfl rfl
  refine Call_ (ld_blt I hg2 hm2 PyProof.Rows.boot_set ?_)
  refine PyProof.Rows.callWith_type1 (PyProof.Rows.args_cons (thn (ha.run pins s σ H _ I h) fun v s1 ⟨x, H1, I1, r1, q1⟩ => PyProof.Rows.args_nil ?_) na) na rfl
  obtain ⟨l, ns, rfl, hq, hl, q1⟩ := q1
  cases r1
  rcases hq with hq | hq
  · obtain ⟨its, r, pl, hz⟩ := I1.list hq
    have hlen : its.toArray.size = ns.length := by rw [List.size_toArray, ← r.length, List.length_map]
    refine call_set_list (I1.ok.hd hc) pl.isList (by simpa using RZ.intsAre_vals r) (by rw [hlen]; unfold scanBound; omega) fun h' tk hS hk => ?_
    refine PyProof.Rows.args_nil ?_
    rw [hlen] at hS
    obtain ⟨o, es, ep, t, ho, hex, hd, _, _, hb, hf, hn⟩ := hS
    have I2 : Inv X pins σ H1 { s1 with heap := h', toks := tk } := I1.kept fun b o e => hk b o (Heap.lt_size e) e
    refine call_len_set ho hex hd hf (by unfold scanBound at hb; omega) ⟨.int ((once ns).length : Nat), H1, I2.tok _, ⟨_, by rw [hn, firstMet_len]⟩, q1⟩
  · obtain ⟨its, r, pl, hz⟩ := I1.tuple hq
    refine call_set_tupI ns (I1.ok.hd hc) pl (by simpa using RZ.intsAre_vals r) (by unfold scanBound; omega) fun h' tk c hS hc hk => ?_
    refine PyProof.Rows.args_nil ?_
    obtain ⟨o, es, ep, t, ho, hex, hd, hge, hnd, hmem, hb, hf, hn, _⟩ := hS
    have I2 : Inv X pins σ H1 { s1 with heap := h', toks := tk } := I1.kept hk
    have e : es.size = (once ns).length := by
      have : (es.toList.map L2.keyOf).length = (once ns).length := len_of_mem hnd (nodup_once _) fun k => by
        rw [mem_once, ← hmem k]
        exact ⟨fun z => by simpa using z, fun z => by simpa using z⟩
      simpa using this
    refine call_len_set ho hex hd hf (by unfold scanBound at hb; omega) ⟨.int ((once ns).length : Nat), H1, I2.tok _, ⟨_, by rw [e]⟩, q1⟩
theorem SE.lenSet {φ : LΦ} {p p2 q pos : Pos} (hc : X.calm = true) (hg : Gl X "len") (hm : X.mg "len" = none) (hg2 : Gl X "set") (hm2 : X.mg "set" = none) (ha : SQ X G W a φ)
    (na : starEach [a] X.env = (false, eval a X.env) :: starEach [] X.env := by rfl) : SE X G W (.Call (.Name "len" p) [.Call (.Name "set" p2) [a] [] q] [] pos) (E.lenSet φ) := by
  refine ⟨PE.weak (pe_lenSetD hc hg hm hg2 hm2 ha.pe na) ?_⟩
  rintro σ H Q ⟨ρ, hh, env, rp, re, sat⟩
  refine tG.seq later_V rp re sat fun l v ρ1 hh1 H1 e1 rp1 re1 rl sat1 => ?_
  obtain ⟨q, xs, rfl, h1, h2⟩ := rl
  unfold lenSetI at sat1
  split at sat1
  · rename_i ns hn
    have e := intsOf_ok hn
    subst e
    have e2 := RVs.ints h2
    subst e2
    split at sat1
    · rename_i hl
      exact ⟨q, ns, rfl, h1, hl, sat1.mk (Ext.refl _ _) rp1 mk_int⟩
    · exact sat1.elim
  · exact sat1.elim
end
end DL

set_option Elab.async false
set_option linter.all false
set_option maxRecDepth 100000
set_option maxHeartbeats 4000000
/-! DL14: what the printed texts need. -/
namespace DL
open PySem PySem.Spec PyProof.Rows L2 GX GxR
section
variable {X : Cx} {G : Gs} {W : WX} {e a b c : Expr} {es : List Expr} {pos : Pos}
theorem SE.globI {x : Str} {i : Int} (h : ∃ t, X.mg x = some (.int i t)) (hg : Gl X x) (hd : (x == ("__debug__" : Str)) = false := by decide) : SE X G W (.Name x pos) (E.con (.int i)) := by
  obtain ⟨t, h⟩ := h
  exact SE.glob (v := .int i) (d := .int i) hg h ⟨t, rfl⟩ (fun _ _ => by simp only [RV]) hd
theorem takes_wf : L2.Takes X WF := fun u s' ⟨a, B, sI, pins, σ, H, cls, d, e, I, nb, up, sky, na, os, ag, w⟩ => w.elim
theorem SE.chainP {op op' : CmpOp} {f g : D → D → Hh → R D} {φ ψ χ : EΦ} (ho : SOp X G (compareOp op) f) (ho' : SOp X G (compareOp op') g) (ha : SE X G W a φ) (hb : SE X G W b ψ) (hc : SE X G W c χ)
    (hm : lastMarks [op, op'] [b, c] = false := by with_unfolding_all rfl) : SE X G W (.Compare a [op, op'] [b, c] pos) (E.chain f g φ ψ χ) :=
  SE.chain ho ho' ha hb hc (pe_chain ho.op ho'.op ha.pe hb.pe hc.pe hm)
theorem ST.chain {op op' : CmpOp} {f g : D → D → Hh → R D} {φ ψ χ : EΦ} (ho : SOp X G (compareOp op) f) (ho' : SOp X G (compareOp op') g) (ha : SE X G W a φ) (hb : SE X G W b ψ) (hc : SE X G W c χ)
    (hm : lastMarks [op, op'] [b, c] = false := by with_unfolding_all rfl) : ST X G W (.Compare a [op, op'] [b, c] pos) (T.val (E.chain f g φ ψ χ)) := by
  refine ⟨PT.weak (pt_chain ho.op ho'.op ha.pe hb.pe hc.pe hm) ?_⟩
  rintro σ H Q ⟨ρ, hh, env, rp, re, sat⟩
  have as : ∀ {α β γ : Type} (r : R α) (k : α → Hh → R β) (l : β → Hh → R γ), (r.bind k).bind l = r.bind fun a h => (k a h).bind l := by
    intro α β γ r k l; cases r <;> rfl
  have sat : Sat X.K G W rB ρ H σ Q ((φ env hh).bind fun x h => (ψ env h).bind fun y h => (f x y h).bind fun d h => (match d with
      | .bl true => (χ env h).bind fun z h => g y z h
      | .bl false => .ok (.bl false) h
      | _ => .bad : R D).bind fun d h => match d with
        | .bl b => .ok b h
        | _ => .bad) := by
    unfold T.val E.chain at sat
    simp only [as] at sat
    exact sat
  refine tG.seq later_B rp re sat fun x v ρ1 hh1 H1 e1 rp1 re1 rx sat1 => ?_
  refine tG.seq later_B rp1 re1 sat1 fun y u ρ2 hh2 H2 e2 rp2 re2 ry sat2 => ?_
  refine ⟨ρ2, hh2, x, y, rp2, RV.ext e2 _ _ rx, ry, ?_⟩
  cases q : f x y hh2 with
  | ok d hh3 =>
    rw [q] at sat2
    intro v3 H3 ρ3 e3 rp3 r3
    cases d with
    | bl k =>
      have r3' : v3 = .bl k := by simpa [rV, RV] using r3
      refine ⟨k, r3', ?_⟩
      cases k with
      | true =>
        refine iteT ?_
        have sat3 : Sat X.K G W rB ρ3 H3 σ Q ((χ env hh3).bind fun z h => (g y z h).bind fun d h => match d with
          | .bl b => .ok b h
          | _ => .bad) := by
          have := Sat.later later_B e3 sat2
          simp only [R.bind_ok, as] at this
          exact this
        refine tG.seq later_B rp3 (re2.ext e3) sat3 fun z w ρ4 hh4 H4 e4 rp4 re4 rz sat4 => ?_
        refine ⟨ρ4, hh4, y, z, rp4, RV.ext e4 _ _ (RV.ext e3 _ _ ry), rz, ?_⟩
        cases q2 : g y z hh4 with
        | ok d2 hh5 =>
          rw [q2] at sat4
          intro v5 H5 ρ5 e5 rp5 r5
          cases d2 with
          | bl k2 =>
            have r5' : v5 = .bl k2 := by simpa [rV, RV] using r5
            exact ⟨k2, r5', sat4 k2 H5 ρ5 e5 rp5 rfl⟩
          | _ => exact sat4.elim
        | exc x2 hh5 => exact (ho'.nox _ _ _ _ _ q2).elim
        | bad => rw [q2] at sat4; exact sat4.elim
      | false =>
        refine iteF ?_
        exact ⟨false, rfl, sat2 false H3 ρ3 e3 rp3 rfl⟩
    | _ => exact sat2.elim
  | exc x2 hh3 => exact (ho.nox _ _ _ _ _ q).elim
  | bad => rw [q] at sat2; exact sat2.elim
end
abbrev T.isN (a : EΦ) : TΦ := fun env h => (a env h).bind fun d h => .ok d.isN h
abbrev T.notN (a : EΦ) : TΦ := fun env h => (a env h).bind fun d h => .ok (!d.isN) h
abbrev L.slE (a : EΦ) (l u : OΦ) : LΦ := fun env h => (a env h).bind fun d h => (l env h).bind fun i h => (u env h).bind fun j h => (rdL h d).bind fun xs h => .ok (cutD xs i j) h
theorem units65 {k : Nat} {A : Around} (r : Room k A) : A.units + 65 < cLine := by have := r.un; omega
/-- the functions of a text, called d deep -/
abbrev Calls := Nat → List D → Hh → R D
def runF (bd : Nat → Option (Nat × (Calls → SΦ))) : Nat → Calls
  | 0 => fun _ _ _ => .bad
  | d + 1 => fun i ds hh => match bd i with
    | some (n, b) => trunc hh (runB n (b (runF bd d)) ds hh)
    | none => .bad
theorem code_ref {K : PySem.W.Frag} {x qual : Str} {params : Arguments} {body : List Stmt} {scope : Scope} {fd : FuncData} (F : FunD K x qual params body scope [] [] (He.fAd K (x, none)) fd) : fd.code = .ref (He.cT K (x, none)).1 := by
  obtain ⟨oc, od, dV, kV, doc, pm, an, cdv, ct, osl, e, lk, hcd, _, _⟩ := F.ex
  obtain ⟨c, hc⟩ := He.codeIn_ref hcd
  have e2 : fd.code = .ref c := by rw [e]; exact hc
  rw [e2]
  show Value.ref c = Value.ref (He.codeOf K (x, none))
  rw [He.codeOf_eq (p := (x, none)) lk e2]
end DL

set_option Elab.async false
set_option linter.all false
set_option maxRecDepth 100000
set_option maxHeartbeats 4000000
/-! DL15: a law's end. -/
namespace DL
open PySem PySem.Spec PyProof.Rows L2 GX GxR
theorem cx_none {P : Program} {w : World} {H : Hp} {s : Shared} {e : Value} {s' : Shared} (z : L2.CX P w [] H s (fun _ _ _ => False) e s') : False := by
  obtain ⟨_, _, _, _, _, _, _, _, _, _, _, _, z⟩ := z
  exact z
/-- no plain list stands in the written part -/
def noLst (o : Obj) : Bool := match o.cls with
  | .type n => n != "list"
  | _ => true
theorem noLst_ok {K : PySem.W.Frag} (h : (K.all fun q => noLst q.2) = true) {a : Addr} {o : Obj} (e : K.lookup a = some o) : o.cls ≠ .type "list" := fun z => by
  have q := List.all_eq_true.mp h _ (He.lookup_mem e)
  have q : noLst o = true := q
  unfold noLst at q
  rw [z] at q
  simp at q
theorem law_end {l : PySem.W.OpenLaw} {w : World} {K : PySem.W.Frag} {mg : Str → Option Value} {h : Heap} {fa : Addr} {fas : List He.Fa} {fn : List He.DefD} {tf : List He.Defn} {x : Str} {st : Stmt} {d i : Nat} {bd : Nat → Option (Nat × (Calls → SΦ))} {FF : Heap → Prop} {gs : Gs}
    (X : K.In h) (G : h.Ns mainGlobals mg) (hmg : mg "law" = some (.ref fa)) (c : He.SaysX fas fn [] tf (fun K => K.all fun q => noLst q.2) w h K) (hglo : He.Fa.glo "law" ∈ fas) (hfd : ∃ fd, FunD K "law" "law" (defArgs st) (defBody st) (defScope st) [] [] (He.fAd K ("law", none)) fd)
    (facts : ∀ base, K.In base → base.Ns mainGlobals mg → (∀ p ∈ tf.map (He.cT K), TabB base mg p.1 p.2) → FF base)
    (fnl : ∀ base, FF base → ∀ fd, FunD K "law" "law" (defArgs st) (defBody st) (defScope st) [] [] (He.fAd K ("law", none)) fd → FnOk l.prog w K mg base (L2.CX l.prog w) (2 * (d + 1) + 1) (He.fAd K ("law", none)) fd [x] (spF K gs 1 (runF bd (d + 1) i)))
    (hb : ∀ fd, FunD K "law" "law" (defArgs st) (defBody st) (defScope st) [] [] (He.fAd K ("law", none)) fd → ∀ (s : Shared) (u : Value), BindsTo s fd ⟨[u], []⟩ [(x, u)])
    (tabs : gs.tabs = (tf.map (He.cT K)).map (·.2))
    (level2 : ∀ ns : List Int, ns.length ≤ 63 → (∀ z ∈ ns, Builtin.Int.intBits z ≤ 1048576) → ∃ hh, runF bd (d + 1) i [.ref 0] [.frz (ns.map D.int)] = .ok (.bl true) hh) :
    LamX.LawAtS l w K (L2.CX l.prog w) (2 * (d + 1) + 1) 63 x mg fa h := by
  obtain ⟨fd, FD⟩ := hfd
  have e : fa = He.fAd K ("law", none) := by
    have e1 := hmg.symm.trans (He.glo_ok X G (He.SaysD.facts c.t.d hglo))
    cases e1
    rfl
  subst e
  refine ⟨fd, tf.map (He.cT K), spF K gs 1 (runF bd (d + 1) i), fun p hp => ?_, fun p hp => ?_, fun p hp => ?_, hb fd FD, fun H a ns hl hbits hT hS => ?_, fun base hK hG TB => fnl base (facts base hK hG fun p hp => ⟨(TB p hp).code, (TB p hp).bm, (TB p hp).gP⟩) fd FD⟩
  · obtain ⟨q, hq, rfl⟩ := List.mem_map.mp hp
    exact c.empty q hq
  · obtain ⟨q, hq, rfl⟩ := List.mem_map.mp hp
    exact c.out q hq
  · obtain ⟨q, hq, rfl⟩ := List.mem_map.mp hp
    exact PySem.W.codeHd_of_K X (c.hd q hq)
  · have hq : SqH H a (ns.map V.int) := by
      rcases hS with hS | ⟨o, its, n, hk, hc, _⟩
      · exact hS
      · exact (noLst_ok c.more hk hc).elim
    obtain ⟨hh, e⟩ := level2 ns hl hbits
    refine ⟨[a], [.frz (ns.map D.int)], [.ref 0], ⟨rfl, by simp, fun m o hm => ?_, fun P hP => ?_⟩, .cons (by simp only [RV]; exact ⟨a, rfl, rfl⟩) .nil, rfl, ?_⟩
    · cases m with
      | zero =>
        cases hm
        exact ⟨a, rfl, _, hq, RVs.of_ints ns⟩
      | succ m => simp at hm
    · rw [tabs] at hP
      obtain ⟨p, hp, rfl⟩ := List.mem_map.mp hP
      exact ⟨#[], hT p hp, by first | trivial | simp [TriplesOk]⟩
    · rw [e]
      intro v H' ρ' e' rp rv
      exact rv_bl rv
end DL

set_option Elab.async false
set_option linter.all false
set_option maxRecDepth 100000
set_option maxHeartbeats 4000000
/-! DL16: in, not in over tuples of ints; a try whose body raises nothing. -/
namespace DL
open PySem PySem.Spec PyProof.Rows L2 GX GxR
def D.isIn (neg : Bool) : D → D → Hh → R D
  | .int i, .tup l, h => (match intsOf l with
    | some ns => .ok (.bl (if neg then !ns.contains i else ns.contains i)) h
    | none => .bad)
  | _, _, _ => .bad
theorem inV_ints (i : Int) : ∀ ns : List Int, inV (.int i) (ns.map V.int) = ns.contains i
  | [] => rfl
  | n :: r => by
    have ih := inV_ints i r
    unfold inV at ih ⊢
    rw [List.map_cons, List.any_cons, ih, List.contains_cons]
    congr 1
    simp [eqV, Bool.beq_eq_decide_eq, eq_comm]
theorem flat_ints : ∀ ns : List Int, (ns.map V.int).all flatV = true
  | [] => rfl
  | n :: r => by rw [List.map_cons, List.all_cons, flat_ints r]; rfl
section
variable {X : Cx} {G : Gs} {W : WX}
theorem sop_isIn {op : CmpOp} {neg : Bool} (ho : OpR X (compareOp op) (rIn X.K neg)) : SOp X G (compareOp op) (D.isIn neg) := by
  refine ⟨?_, fun x y h e h' q => ?_⟩
  · intro pins s σ H x y v u Q I rx ry h
    obtain ⟨ρ, hh, dx, dy, rp, r1, r2, sat⟩ := h
    cases dx <;> cases dy <;> first | exact sat.elim | skip
    have e1 := rv_int r1
    subst e1
    obtain ⟨p, xs, rfl, h1, h2⟩ := rv_tup r2
    unfold D.isIn at sat
    simp only at sat
    split at sat
    · rename_i ns hn
      have e := intsOf_ok hn
      subst e
      have e2 := RVs.ints h2
      subst e2
      refine ho pins s σ H _ _ v u Q I rx ry ⟨p, _, rfl, .inr h1.sqT, rfl, flat_ints ns, ?_⟩
      rw [inV_ints]
      exact sat.mk (Ext.refl _ _) rp (by show RV _ _ _ _ _ _; simp only [RV])
    · exact sat.elim
  · cases x <;> cases y <;> first | (cases q; done) | (simp only [D.isIn] at q; split at q <;> cases q)
theorem sop_in : SOp X G (compareOp .In) (D.isIn false) := sop_isIn op_in_seq
theorem sop_notIn : SOp X G (compareOp .NotIn) (D.isIn true) := sop_isIn op_notIn_seq
end
/-- a statement that raises nothing -/
def S.thru (ψ : SΦ) : SΦ := fun env h => match ψ env h with
  | .exc _ _ _ => .bad
  | r => r
theorem SS.thru {X : Cx} {G : Gs} {W : WX} {body : List Stmt} {h0 : ExceptHandler} {hs : List ExceptHandler} {pos : Pos} {ψ : SΦ} (hb : SSs X.nox G WF body ψ) : SS X G W (.Try body (h0 :: hs) [] [] pos) (S.thru ψ) := by
  refine ⟨PS.weak (ps_try_thru0 hb.ps) ?_⟩
  rintro D σ H ⟨ρ, hh, env, rp, re, sat⟩
  refine ⟨ρ, hh, env, rp, re, ?_⟩
  unfold S.thru at sat
  cases q : ψ env hh with
  | exc x e h => rw [q] at sat; exact sat.elim
  | _ => rw [q] at sat; exact sat
end DL

set_option Elab.async false
set_option linter.all false
set_option maxRecDepth 100000
set_option maxHeartbeats 4000000
/-! DL17: zip of two tuples. -/
namespace DL
open PySem PySem.Spec PyProof.Rows L2 GX GxR RZ
def zipD : List D → List D → List D
  | a :: l, b :: m => .tup [a, b] :: zipD l m
  | _, _ => []
theorem zipD_length : ∀ (l m : List D), (zipD l m).length = min l.length m.length
  | [], m => by simp [zipD]
  | _ :: _, [] => by simp [zipD]
  | a :: l, b :: m => by simp only [zipD, List.length_cons, zipD_length l m]; omega
theorem zipD_get : ∀ (l m : List D) (i : Nat) (d : D), (zipD l m)[i]? = some d → ∃ x y, l[i]? = some x ∧ m[i]? = some y ∧ d = .tup [x, y]
  | [], _, _, _, h => by simp [zipD] at h
  | _ :: _, [], _, _, h => by simp [zipD] at h
  | a :: l, b :: m, 0, d, h => by
    simp [zipD] at h
    exact ⟨a, b, rfl, rfl, h.symm⟩
  | a :: l, b :: m, i + 1, d, h => by
    obtain ⟨x, y, h1, h2, h3⟩ := zipD_get l m i d (by simpa [zipD] using h)
    exact ⟨x, y, by simpa using h1, by simpa using h2, h3⟩
section
variable {X : Cx} {G : Gs} {W : WX} {a b : Expr} {pos : Pos}
theorem rvw_two {K : PySem.W.Frag} {ρ : List Addr} {H : Hp} {T : Addr} {c d : D} {x y : V} (hT : H T = none) (r1 : RV K G ρ H c x) (r2 : RV K G ρ H d y) : RVw K G ρ (L2.upd H T (.tup [x, y])) (.tup [c, d]) (.ref T) :=
  ⟨T, _, rfl, .inl (.inl upd_same), .cons (RV.ext (Ext.laid hT) _ _ r1) (.cons (RV.ext (Ext.laid hT) _ _ r2) .nil)⟩
theorem itOk_zipT {ρ0 : List Addr} {H0 : Hp} {l m : List D} {p q : Addr} {xs ys : List V} (h1 : TupK X.K H0 p xs) (h2 : RVs X.K G ρ0 H0 l xs) (h3 : TupK X.K H0 q ys) (h4 : RVs X.K G ρ0 H0 m ys) : ItOk X.K G (RVw X.K G) ρ0 H0 ⟨zipD l m, none⟩ (ItzT X.K p q) where
  go := fun i ρ hh H e rp _ hi => by
    have hi : i < (zipD l m).length := hi
    rw [zipD_length] at hi
    obtain ⟨v, q1, _⟩ := (RVs.ext e _ _ h2).get (List.getElem?_eq_getElem (show i < l.length by omega))
    obtain ⟨u, q2, _⟩ := (RVs.ext e _ _ h4).get (List.getElem?_eq_getElem (show i < m.length by omega))
    exact ⟨xs, ys, v, u, (e.tupK h1).sqT, (e.tupK h3).sqT, q1, q2⟩
  yld := fun i ρ hh H x H' d e rp _ hd hy => by
    obtain ⟨T, x, y, rfl, hT, rfl, hx, hy⟩ := hy
    obtain ⟨c, z, g1, g2, rfl⟩ := zipD_get _ _ _ _ hd
    obtain ⟨v, q1, r1⟩ := (RVs.ext e _ _ h2).get g1
    obtain ⟨u, q2, r2⟩ := (RVs.ext e _ _ h4).get g2
    have a1 := hx xs (e.tupK h1).sqT
    rw [q1] at a1
    cases a1
    have a2 := hy ys (e.tupK h3).sqT
    rw [q2] at a2
    cases a2
    exact ⟨Ext.laid hT, rp.side hT, rvw_two hT r1 r2⟩
  stop := fun i ρ hh H e rp _ hi => by
    have hi : (zipD l m).length ≤ i := hi
    rw [zipD_length] at hi
    exact ⟨xs, ys, (e.tupK h1).sqT, (e.tupK h3).sqT, by rw [h2.length, h4.length]; omega⟩
def srcZ : D → D → Hh → R Src
  | .tup l, .tup m, h => .ok ⟨zipD l m, none⟩ h
  | _, _, _ => .bad
def I.zip (a b : EΦ) : IΦ := fun env h => (a env h).bind fun x h => (b env h).bind fun y h => srcZ x y h
theorem SI.zip {φ ψ : EΦ} {p tpos : Pos} {elts : List Expr} {kk : Nat} (hg : Gl X "zip") (hm : X.mg "zip" = none) (ha : SE X G W a φ) (hb : SE X G W b ψ) (hs : starEach [a, b] X.env = (false, eval a X.env) :: starEach [b] X.env := by rfl) (hs2 : starEach [b] X.env = (false, eval b X.env) :: starEach [] X.env := by rfl) (hs3 : ((backTo pos (starEach [b] X.env)).any fun x => x.fst) = false := by rfl) : SI X G W (RVw X.K G) (.Tuple elts kk tpos) (.Call (.Name "zip" p) [a, b] [] pos) (I.zip φ ψ) := by
  refine ⟨PI.weak (pi_zipA hg hm (pa_cons ha.pe (pa_cons hb.pe pa_nil hs2) hs) hs hs3) ?_⟩
  rintro σ H Rr ⟨ρ, hh, env, rp, re, sat⟩
  unfold I.zip at sat
  cases q1 : φ env hh with
  | bad => rw [q1] at sat; exact sat.elim
  | exc x h1 =>
    rw [q1] at sat
    exact ⟨ρ, hh, env, rp, re, by rw [q1]; exact sat⟩
  | ok x h1 =>
    rw [q1, R.bind_ok] at sat
    refine ⟨ρ, hh, env, rp, re, ?_⟩
    rw [q1]
    intro v H1 ρ1 e1 rp1 rd1
    cases q2 : ψ env h1 with
    | bad => rw [q2] at sat; exact sat.elim
    | exc y h2 =>
      rw [q2] at sat
      exact ⟨ρ1, h1, env, rp1, re.ext e1, by rw [q2]; exact fun cls dx H' ρ' e' => sat cls dx H' ρ' (e1.trans e')⟩
    | ok y h2 =>
      rw [q2, R.bind_ok] at sat
      refine ⟨ρ1, h1, env, rp1, re.ext e1, ?_⟩
      rw [q2]
      intro u H2 ρ2 e2 rp2 rd2
      cases x <;> cases y <;> first | exact sat.elim | skip
      obtain ⟨p1, xs, rfl, t1, t2⟩ := rv_tup rd1
      obtain ⟨p2, ys, rfl, t3, t4⟩ := rv_tup rd2
      exact ⟨p1, p2, xs, ys, rfl, .inr ⟨(e2.tupK t1).sqT, t3.sqT, sat _ ρ2 H2 (e1.trans e2) rp2 (itOk_zipT (e2.tupK t1) (RVs.ext e2 _ _ t2) t3 t4)⟩⟩
end
end DL

set_option Elab.async false
set_option linter.all false
set_option maxRecDepth 100000
set_option maxHeartbeats 1000000
/-! LV: the second level: what the functions of data compute; tools. -/
namespace DL
open PySem
/-- a tuple of ints -/
abbrev tl (l : List Int) : D := .tup (l.map D.int)
/-- 0 .. m-1 -/
def rg (m : Nat) : List Int := (List.range m).map fun (i : Nat) => (i : Int)
/-! ### results -/
theorem trunc_keep {hh h1 : Hh} {d : D} (h : h1.length = hh.length) : trunc hh (.ok d h1) = .ok d h1 := by
  unfold trunc
  simp only
  split
  · rw [← h, List.take_length]
  · rfl
theorem trunc_drop {hh g : Hh} {d : D} (h : d.under hh.length = true) : trunc hh (.ok d (hh ++ g)) = .ok d hh := by
  unfold trunc
  simp only
  rw [if_pos (by rw [h, agree_app]; rfl), List.take_left']
  rfl
theorem trunc_drop' {hh h1 g : Hh} {d : D} (h : d.under hh.length = true) (hl : h1.length = hh.length) (ha : agree hh.length hh (h1 ++ g) = true) : trunc hh (.ok d (h1 ++ g)) = .ok d h1 := by
  unfold trunc
  simp only
  rw [if_pos (by rw [h, ha]; rfl), ← hl, List.take_left']
  rfl
theorem trunc_ref {hh h1 : Hh} {d : D} (h : d.under hh.length = false) : trunc hh (.ok d h1) = .ok d h1 := by
  unfold trunc
  simp only
  rw [h]
  rfl
theorem unders_ints (n : Nat) (l : List Int) : D.unders n (l.map D.int) = true := by
  induction l with
  | nil => rfl
  | cons a r ih => simp only [List.map_cons, D.unders, D.under, ih, Bool.and_self]
theorem under_tl (n : Nat) (l : List Int) : (tl l).under n = true := by
  simp only [tl, D.under, unders_ints]
theorem unders_tl (n : Nat) (l : List (List Int)) : D.unders n (l.map tl) = true := by
  induction l with
  | nil => rfl
  | cons a r ih => simp only [List.map_cons, D.unders, under_tl, ih, Bool.and_self]
theorem flats_ints (n : Nat) (l : List Int) : D.flats n (l.map D.int) = true := by
  induction l with
  | nil => simp [D.flats]
  | cons a r ih => simp only [List.map_cons, D.flats, ih, D.flat, Bool.and_self]
theorem flat_tl (n : Nat) (l : List Int) : D.flat (n + 1) (tl l) = true := by
  simp only [tl, D.flat, flats_ints]
theorem eqvs_ints : ∀ l m : List Int, D.eqvs (l.map D.int) (m.map D.int) = decide (l = m)
  | [], [] => by simp [D.eqvs]
  | [], _ :: _ => by simp [D.eqvs]
  | _ :: _, [] => by simp [D.eqvs]
  | a :: l, b :: m => by
    simp only [List.map_cons, D.eqvs, D.eqv, eqvs_ints l m, List.cons.injEq, Bool.decide_and]
    rfl
/-! ### loops -/
theorem forGo_nil {s : Src} {g : GΦ} {b : SΦ} {env : Env} {h : Hh} (hok : s.ok h = true) : S.forGo s g b [] env h = .nx env h := by
  unfold S.forGo
  rw [if_pos hok]
theorem forGo_cons {s : Src} {g : GΦ} {b : SΦ} {env env1 env2 : Env} {h h1 h2 : Hh} {d : D} {r : List D} (hok : s.ok h = true) (hg : g d env h = .ok env1 h1) (hb : b env1 h1 = .nx env2 h2) : S.forGo s g b (d :: r) env h = S.forGo s g b r env2 h2 := by
  rw [S.forGo, if_pos hok, hg]
  simp only [R.toG_ok, hb]
theorem forGo_ret {s : Src} {g : GΦ} {b : SΦ} {env env1 : Env} {h h1 h2 : Hh} {d v : D} {r : List D} (hok : s.ok h = true) (hg : g d env h = .ok env1 h1) (hb : b env1 h1 = .rt v h2) : S.forGo s g b (d :: r) env h = .rt v h2 := by
  rw [S.forGo, if_pos hok, hg]
  simp only [R.toG_ok, hb]
theorem compGo_map {s : Src} {tg : TgC} {t : TΦ} {e : EΦ} {env : Env} {h : Hh} {f : D → D} (hok : s.ok h = true) : ∀ {l : List D}, (∀ d ∈ l, ∃ env1, setC tg d env = some env1 ∧ t env1 h = .ok true h ∧ e env1 h = .ok (f d) h) → compGo s tg t e env l h = .ok (l.map f) h
  | [], _ => by unfold compGo; rw [if_pos hok]; rfl
  | d :: r, hd => by
    obtain ⟨env1, h1, h2, h3⟩ := hd d List.mem_cons_self
    have ih := compGo_map (f := f) hok (l := r) fun x hx => hd x (List.mem_cons_of_mem _ hx)
    rw [compGo, if_pos hok, h1]
    simp only [h2, h3, ih, R.bind_ok, List.map_cons]
/-- with a test -/
theorem compGo_filter {s : Src} {tg : TgC} {t : TΦ} {e : EΦ} {env : Env} {h : Hh} {p : D → Bool} {f : D → D} (hok : s.ok h = true) : ∀ {l : List D}, (∀ d ∈ l, ∃ env1, setC tg d env = some env1 ∧ t env1 h = .ok (p d) h ∧ (p d = true → e env1 h = .ok (f d) h)) → compGo s tg t e env l h = .ok ((l.filter p).map f) h
  | [], _ => by unfold compGo; rw [if_pos hok]; rfl
  | d :: r, hd => by
    obtain ⟨env1, h1, h2, h3⟩ := hd d List.mem_cons_self
    have ih := compGo_filter (p := p) (f := f) hok (l := r) fun x hx => hd x (List.mem_cons_of_mem _ hx)
    rw [compGo, if_pos hok, h1]
    cases q : p d with
    | true => simp only [h2, q, h3 q, ih, R.bind_ok, List.filter_cons, List.map_cons, if_true]
    | false => simp only [h2, q, ih, List.filter_cons, Bool.false_eq_true, if_false]
theorem genGo_all {s : Src} {tg : TgC} {t : TΦ} {e : EΦ} {env : Env} {h : Hh} (hok : s.ok h = true) : ∀ {l : List D}, (∀ d ∈ l, ∃ env1, setC tg d env = some env1 ∧ t env1 h = .ok true h ∧ e env1 h = .ok (.bl true) h) → genGo false s tg t e env l h = .ok (.bl true) h
  | [], _ => by unfold genGo; rw [if_pos hok]; rfl
  | d :: r, hd => by
    obtain ⟨env1, h1, h2, h3⟩ := hd d List.mem_cons_self
    have ih := genGo_all hok (l := r) fun x hx => hd x (List.mem_cons_of_mem _ hx)
    rw [genGo, if_pos hok, h1]
    simp only [h2, h3, ih]
    rfl
theorem ok_none (l : List D) (h : Hh) : (⟨l, none⟩ : Src).ok h = true := rfl
/-! ### subscripts -/
theorem ixN_nat {n i : Nat} (h : i < n) : L2.ixN n (i : Int) = some i := by
  unfold L2.ixN
  rw [if_pos (by omega), if_pos (by omega)]
  simp
theorem ixL_ints {l : List Int} {i : Int} (h0 : 0 ≤ i) (h1 : i < l.length) (h : Hh) : ixL (l.map D.int) i h = .ok (.int (l.getD i.toNat 0)) h := by
  obtain ⟨k, rfl⟩ : ∃ k : Nat, i = k := ⟨i.toNat, by omega⟩
  have hk : k < l.length := by omega
  unfold ixL L2.atI
  rw [List.length_map, ixN_nat hk]
  simp [hk]
theorem ixL_rows {l : List (List Int)} {i : Int} (h0 : 0 ≤ i) (h1 : i < l.length) (h : Hh) : ixL (l.map fun r => tl r) i h = .ok (tl (l.getD i.toNat [])) h := by
  obtain ⟨k, rfl⟩ : ∃ k : Nat, i = k := ⟨i.toNat, by omega⟩
  have hk : k < l.length := by omega
  unfold ixL L2.atI
  rw [List.length_map, ixN_nat hk]
  simp [hk]
theorem cut_take {α : Type} {l : List α} {k : Nat} (h : k ≤ l.length) : cutD l none (some (k : Int)) = l.take k := by
  unfold cutD
  rw [HT.sIx_none, HT.sIx_nat, Nat.min_eq_left h]
  simp
theorem cut_drop {α : Type} {l : List α} {k : Nat} (h : k ≤ l.length) : cutD l (some (k : Int)) none = l.drop k := by
  unfold cutD
  rw [HT.sIx_none, HT.sIx_nat, Nat.min_eq_left h]
  rw [List.take_of_length_le (by simp)]
theorem cut_takeI {l : List Int} {k : Nat} (h : k ≤ l.length) : cutD (l.map D.int) none (some (k : Int)) = (l.take k).map D.int := by
  rw [cut_take (by simpa using h), List.map_take]
theorem cut_dropI {l : List Int} {k : Nat} (h : k + 1 ≤ l.length) : cutD (l.map D.int) (some ((k : Int) + 1)) none = (l.drop (k + 1)).map D.int := by
  rw [show (k : Int) + 1 = ((k + 1 : Nat) : Int) by omega, cut_drop (by simpa using h), List.map_drop]
theorem rngD_rg (n : Nat) : rngD 0 (n : Int) = (rg n).map D.int := by
  unfold rngD rg
  rw [List.map_map]
  simp
theorem lrng_rg {n : Nat} (hn : n ≤ 1000) (h : Hh) : lrng (.int 0) (.int n) h = .ok ((rg n).map D.int) h := by
  unfold lrng
  simp only
  rw [if_pos (by simp only [rngOk, Bool.and_eq_true, small_iff, Nat.ble_eq]; omega), rngD_rg]
theorem rngS_rg {n : Nat} (hn : n ≤ 1000) (h : Hh) : rngS (.int 0) (.int n) h = .ok ⟨(rg n).map D.int, none⟩ h := by
  unfold rngS
  simp only
  rw [if_pos (by simp only [rngOk, Bool.and_eq_true, small_iff]; omega), rngD_rg]
theorem first_ints {l : List Int} {p : Int} (h : p ∈ l) : firstD (fun z => D.eqv z (.int p)) (l.map D.int) = some (l.idxOf p) := by
  induction l with
  | nil => cases h
  | cons a r ih =>
    rw [List.map_cons, firstD]
    by_cases e : a = p
    · subst e
      simp [D.eqv]
    · have hp : p ∈ r := (List.mem_cons.mp h).resolve_left fun z => e z.symm
      have ne : (a == p) = false := by simpa using e
      simp only [D.eqv, ne, Bool.false_eq_true, if_false, ih hp, Option.map_some]
      rw [List.idxOf_cons, ne]
      rfl
theorem ixOf_ints {l : List Int} {p : Int} (hp : p ∈ l) (h : Hh) : ixOf (l.map D.int) (.int p) h = .ok (.int (l.idxOf p : Nat)) h := by
  unfold ixOf
  rw [flats_ints, first_ints hp]
  rfl
theorem get_last (g : Hh) (x : MO) : (g ++ [x])[g.length]? = some x := by simp
theorem set_last (g : Hh) (x y : MO) : (g ++ [x]).set g.length y = g ++ [y] := by simp
theorem mut_last {f : List D → List D → Option (D × List D)} {g : Hh} {l l' ds : List D} {y : D} (hf : f l ds = some (y, l')) (hl : l'.length ≤ 16000000) : mutL f (.ref g.length) ds (g ++ [.lst l]) = .ok y (g ++ [.lst l']) := by
  unfold mutL lstAt
  simp only [get_last, hf, fits_ok hl, set_last]
theorem mut_at {f : List D → List D → Option (D × List D)} {h : Hh} {n : Nat} {l l' ds : List D} {y : D} (hn : h[n]? = some (.lst l)) (hf : f l ds = some (y, l')) (hl : l'.length ≤ 16000000) : mutL f (.ref n) ds h = .ok y (h.set n (.lst l')) := by
  unfold mutL lstAt
  simp only [hn, hf, fits_ok hl]
theorem app_ints (l : List Int) (x : Int) : fAppend (l.map D.int) [.int x] = some (.non, (l ++ [x]).map D.int) := by simp [fAppend]
theorem seq_nx {a b : SΦ} {env env1 : Env} {h h1 : Hh} (e : a env h = .nx env1 h1) : S.seq a b env h = b env1 h1 := by
  unfold S.seq
  rw [e]
theorem seq_rt {a b : SΦ} {env : Env} {h h1 : Hh} {d : D} (e : a env h = .rt d h1) : S.seq a b env h = .rt d h1 := by
  unfold S.seq
  rw [e]
theorem runB_rt {n : Nat} {ψ : SΦ} {ds : List D} {hh h1 : Hh} {d : D} (e : ψ (ds.map some ++ List.replicate (n - ds.length) none) hh = .rt d h1) : runB n ψ ds hh = .ok d h1 := by
  unfold runB
  rw [e]
theorem runB_nx {n : Nat} {ψ : SΦ} {ds : List D} {hh h1 : Hh} {env : Env} (e : ψ (ds.map some ++ List.replicate (n - ds.length) none) hh = .nx env h1) : runB n ψ ds hh = .ok .non h1 := by
  unfold runB
  rw [e]
theorem for_of {i : IΦ} {g : GΦ} {b : SΦ} {env : Env} {h h1 : Hh} {s : Src} {r : RS} (e : i env h = .ok s h1) (q : S.forGo s g b s.items env h1 = r) : S.for i g b env h = r := by
  unfold S.for
  rw [e]
  exact q
theorem whl_stop {t : TΦ} {b : SΦ} {n : Nat} {env : Env} {h h1 : Hh} (ht : t env h = .ok false h1) : S.whl t b (n + 1) env h = .nx env h1 := by
  rw [S.whl, ht]
  rfl
theorem whl_step {t : TΦ} {b : SΦ} {n : Nat} {env env2 : Env} {h h1 h2 : Hh} (ht : t env h = .ok true h1) (hb : b env h1 = .nx env2 h2) : S.whl t b (n + 1) env h = S.whl t b n env2 h2 := by
  rw [S.whl, ht]
  simp only [R.toS_ok, if_true, hb]
theorem get_a (f r x y : MO) (g : Hh) : (f :: r :: (g ++ [x, y]))[g.length + 2]? = some x := by simp
theorem get_b (f r x y : MO) (g : Hh) : (f :: r :: (g ++ [x, y]))[g.length + 3]? = some y := by simp
theorem set_a (f r x y z : MO) (g : Hh) : (f :: r :: (g ++ [x, y])).set (g.length + 2) z = f :: r :: (g ++ [z, y]) := by simp
theorem set_b (f r x y z : MO) (g : Hh) : (f :: r :: (g ++ [x, y])).set (g.length + 3) z = f :: r :: (g ++ [x, z]) := by simp
theorem map_erase {α β : Type} (f : α → β) : ∀ (l : List α) (i : Nat), (l.map f).eraseIdx i = (l.eraseIdx i).map f
  | [], _ => rfl
  | _ :: _, 0 => rfl
  | a :: l, i + 1 => by simp only [List.map_cons, List.eraseIdx_cons_succ, map_erase f l i]
theorem pop_ints {l : List Int} {v : Int} (h0 : 0 ≤ v) (h1 : v < l.length) : fPopAt (l.map D.int) [.int v] = some (.int (l.getD v.toNat 0), (l.eraseIdx v.toNat).map D.int) := by
  obtain ⟨k, rfl⟩ : ∃ k : Nat, v = k := ⟨v.toNat, by omega⟩
  have hk : k < l.length := by omega
  unfold fPopAt
  simp only [List.length_map, ixN_nat hk, Int.toNat_natCast]
  simp [hk, map_erase]
theorem perm_pop : ∀ {l : List Int} {k : Nat}, k < l.length → (l.getD k 0 :: l.eraseIdx k).Perm l
  | [], _, h => by simp at h
  | a :: l, 0, _ => by simp
  | a :: l, k + 1, h => by
    have ih := perm_pop (l := l) (k := k) (by simpa using h)
    simp only [List.getD_cons_succ, List.eraseIdx_cons_succ]
    exact (List.Perm.swap _ _ _).trans (ih.cons a)
theorem compGo_ints {s : Src} {tg : TgC} {t : TΦ} {e : EΦ} {env : Env} {h : Hh} {f : Int → Int} (hok : s.ok h = true) {l : List Int} (hd : ∀ x ∈ l, ∃ env1, setC tg (.int x) env = some env1 ∧ t env1 h = .ok true h ∧ e env1 h = .ok (.int (f x)) h) : compGo s tg t e env (l.map D.int) h = .ok ((l.map f).map D.int) h := by
  have q : (l.map f).map D.int = (l.map D.int).map fun d => match d with
      | .int x => D.int (f x)
      | d => d := by
    rw [List.map_map, List.map_map]
    rfl
  rw [q]
  refine compGo_map hok fun d hd' => ?_
  obtain ⟨x, hx, rfl⟩ := List.mem_map.mp hd'
  exact hd x hx
theorem app2 {f r : MO} {L : List D} {X : D} {j : Hh} (h : L.length ≤ 100) : mutL fAppend (.ref 2) [X] (f :: r :: .lst L :: j) = .ok .non (f :: r :: .lst (L ++ [X]) :: j) := mut_at (n := 2) rfl rfl (by simp; omega)
theorem get_j (f r x y : MO) (j : Hh) : (f :: r :: x :: (j ++ [y]))[j.length + 3]? = some y := by simp
theorem set_j {f r x : MO} {j : Hh} {l : List D} {k : Nat} {v : D} {env : Env} (hk : k < l.length) : setL (.ref (j.length + 3)) (.int k) v env (f :: r :: x :: (j ++ [.lst l])) = .ok env (f :: r :: x :: (j ++ [.lst (l.set k v)])) := by
  unfold setL lstAt
  simp only [get_j, ixN_nat hk]
  simp
theorem ife_t {t : TΦ} {a b : SΦ} {env : Env} {h h1 : Hh} (ht : t env h = .ok true h1) : S.ife t a b env h = a env h1 := by
  unfold S.ife
  rw [ht]
  rfl
theorem ife_f {t : TΦ} {a b : SΦ} {env : Env} {h h1 : Hh} (ht : t env h = .ok false h1) : S.ife t a b env h = b env h1 := by
  unfold S.ife
  rw [ht]
  rfl
/-! ### unfolding -/
end DL

set_option Elab.async false
set_option linter.all false
set_option maxRecDepth 100000
set_option maxHeartbeats 4000000
namespace K15
open PySem PySem.Spec PyProof.Rows L2 GX GxR DL
def topS (i : Nat) : Stmt := PySem.Challenge.pw_restlesshelf_k15_whole_left.main.body.getD i (.Pass ⟨0, 0, 0, 0⟩)
def fuel : Nat := 64
abbrev s_is_number : Stmt := topS 9
abbrev N_is_number : List Str := ["value", "low", "high"]
def b_is_number (c : Calls) : SΦ := (S.ret (E.and (E.isi ["int"] (E.var 0)) (E.and (E.ofT (T.not (T.val (E.isi ["bool"] (E.var 0))))) (E.chain D.le D.le (E.var 1) (E.var 0) (E.var 2)))))
abbrev s_is_permutation : Stmt := topS 10
abbrev N_is_permutation : List Str := ["value", "many", "place"]
def b_is_permutation (c : Calls) : SΦ := (S.seq (S.ife (T.or (T.not (T.val (E.isi ["tuple"] (E.var 0)))) (T.val (E.op2 D.ne (E.len (Q.of (E.var 0))) (E.var 1)))) (S.ret (E.con (.bl false))) S.nil) (S.ret (E.and (E.gen false (I.of (E.var 0)) [2] (.one 2) T.yes (E.call 3 (c 0) (L.cons (E.var 2) (L.cons (E.con (.int 0)) (L.cons (E.op2 D.sub (E.var 1) (E.con (.int 1))) L.nil))))) (E.op2 D.eq (E.lenSet (Q.of (E.var 0))) (E.var 1)))))
abbrev s_need_habit : Stmt := topS 11
abbrev N_need_habit : List Str := ["value", "place", "moved"]
def b_need_habit (c : Calls) : SΦ := (S.seq (S.ife (T.or (T.not (T.val (E.isi ["tuple"] (E.var 0)))) (T.not (T.val (E.chain D.le D.le (E.con (.int 2)) (E.len (Q.of (E.var 0))) (E.con (.int 5)))))) S.bad S.nil) (S.for (I.enum (E.var 0)) (Tg.tup (Tg.cons (Tg.name 1) (Tg.cons (Tg.name 2) Tg.nil))) (S.ife (T.not (T.val (E.call 2 (c 1) (L.cons (E.var 2) (L.cons (E.len (Q.of (E.var 0))) L.nil))))) S.bad S.nil)))
abbrev s_need_habits : Stmt := topS 14
abbrev N_need_habits : List Str := ["value", "index", "habit"]
def b_need_habits (c : Calls) : SΦ := (S.seq (S.ife (T.or (T.not (T.val (E.isi ["tuple"] (E.var 0)))) (T.not (T.val (E.chain D.le D.le (E.con (.int 1)) (E.len (Q.of (E.var 0))) (E.con (.int 3)))))) S.bad S.nil) (S.for (I.enum (E.var 0)) (Tg.tup (Tg.cons (Tg.name 1) (Tg.cons (Tg.name 2) Tg.nil))) (S.seq (S.thru (S.expr (E.call 1 (c 2) (L.cons (E.var 2) L.nil)))) (S.ife (T.val (E.op2 D.ne (E.len (Q.of (E.var 2))) (E.len (Q.of (E.op2 D.ix (E.var 0) (E.con (.int 0))))))) S.bad S.nil))))
abbrev s_need_lot : Stmt := topS 16
abbrev N_need_lot : List Str := ["habit", "value", "one", "later", "place"]
def b_need_lot (c : Calls) : SΦ := (S.seq (S.ife (T.or (T.not (T.val (E.isi ["tuple"] (E.var 1)))) (T.or (T.not (T.tru (E.var 1))) (T.not (T.val (E.gen false (I.of (E.var 1)) [4] (.one 4) T.yes (E.call 3 (c 0) (L.cons (E.var 4) (L.cons (E.con (.int 0)) (L.cons (E.op2 D.sub (E.len (Q.of (E.var 0))) (E.con (.int 1))) L.nil))))))))) S.bad S.nil) (S.ife (T.not (T.val (E.gen false (I.zip (E.var 1) (E.sl (E.var 1) (O.some (E.con (.int 1))) O.none)) [2, 3] (.many [2, 3]) T.yes (E.op2 D.lt (E.var 2) (E.var 3))))) S.bad S.nil))
abbrev s_habits_left : Stmt := topS 17
abbrev N_habits_left : List Str := ["habits", "lot", "place", "word", "read", "is_marked", "found", "index", "habit", "stands", "spot"]
def b_habits_left (c : Calls) : SΦ := (S.seq (S.expr (E.call 1 (c 3) (L.cons (E.var 0) L.nil))) (S.seq (S.expr (E.call 2 (c 4) (L.cons (E.op2 D.ix (E.var 0) (E.con (.int 0))) (L.cons (E.var 1) L.nil)))) (S.seq (S.ife (T.not (T.val (E.gen false (I.of (E.tup (L.cons (E.var 2) (L.cons (E.var 4) L.nil)))) [10] (.one 10) T.yes (E.and (E.call 3 (c 0) (L.cons (E.var 10) (L.cons (E.con (.int 0)) (L.cons (E.op2 D.sub (E.len (Q.of (E.op2 D.ix (E.var 0) (E.con (.int 0))))) (E.con (.int 1))) L.nil)))) (E.op2 (D.isIn false) (E.var 10) (E.var 1)))))) S.bad S.nil) (S.seq (S.ife (T.or (T.not (T.val (E.isi ["tuple"] (E.var 3)))) (T.not (T.val (E.gen false (I.of (E.var 3)) [10] (.one 10) T.yes (E.and (E.call 3 (c 0) (L.cons (E.var 10) (L.cons (E.con (.int 0)) (L.cons (E.op2 D.sub (E.len (Q.of (E.op2 D.ix (E.var 0) (E.con (.int 0))))) (E.con (.int 1))) L.nil)))) (E.op2 (D.isIn false) (E.var 10) (E.var 1))))))) S.bad S.nil) (S.seq (S.ife (T.not (T.val (E.isi ["bool"] (E.var 5)))) S.bad S.nil) (S.seq (S.set 6 (E.ofL (L.disp L.nil))) (S.seq (S.for (I.enum (E.var 0)) (Tg.tup (Tg.cons (Tg.name 7) (Tg.cons (Tg.name 8) Tg.nil))) (S.seq (S.set 9 (E.op2 D.ix (E.op2 D.ix (E.var 8) (E.var 2)) (E.var 2))) (S.seq (S.for (I.of (E.var 3)) (Tg.name 10) (S.set 9 (E.op2 D.ix (E.op2 D.ix (E.var 8) (E.var 10)) (E.var 9)))) (S.ife (T.val (E.op2 D.eq (E.op2 D.eq (E.var 9) (E.var 4)) (E.var 5))) (S.expr (E.met isL (mutL fAppend) (E.var 6) (L.cons (E.var 7) L.nil))) S.nil)))) (S.ret (E.tuple (R.of (E.var 6)))))))))))
abbrev s__law_taken : Stmt := topS 19
abbrev N__law_taken : List Str := ["_law_row", "_law_many", "_law_cell", "_law_found"]
def b__law_taken (c : Calls) : SΦ := (S.seq (S.ife (T.val (E.op2 D.gt (E.op2 D.ix (E.var 0) (E.con (.int 3))) (E.con (.int 0)))) (S.seq (S.set 3 (E.op2 D.mod (E.app D.toInt (L.cons (E.op2 D.ix (E.var 0) (E.con (.int 3))) L.nil)) (E.var 1))) (S.seq (S.asg (E.op2 D.fdiv (E.op2 D.ix (E.var 0) (E.con (.int 3))) (E.var 1)) (Tg.sub (E.var 0) (E.con (.int 3)))) (S.ret (E.var 3)))) S.nil) (S.seq (S.asg (E.op2 D.add (E.op2 D.ix (E.var 0) (E.con (.int 1))) (E.con (.int 1))) (Tg.sub (E.var 0) (E.con (.int 1)))) (S.seq (S.ife (T.val (E.op2 D.gt (E.op2 D.ix (E.var 0) (E.con (.int 1))) (E.len (Q.of (E.op2 D.ix (E.var 0) (E.con (.int 0))))))) (S.seq (S.asg (E.op2 D.mod (E.app D.toInt (L.cons (E.op2 D.add (E.op2 D.mul (E.op2 D.ix (E.var 0) (E.con (.int 2))) (E.con (.int 48271))) (E.con (.int 11))) L.nil)) (E.con (.int 2147483647))) (Tg.sub (E.var 0) (E.con (.int 2)))) (S.ret (E.op2 D.mod (E.app D.toInt (L.cons (E.op2 D.fdiv (E.op2 D.ix (E.var 0) (E.con (.int 2))) (E.con (.int 7))) L.nil)) (E.var 1)))) S.nil) (S.seq (S.set 2 (E.op2 D.ix (E.op2 D.ix (E.var 0) (E.con (.int 0))) (E.op2 D.sub (E.op2 D.ix (E.var 0) (E.con (.int 1))) (E.con (.int 1))))) (S.seq (S.asg (E.op2 D.mod (E.app D.toInt (L.cons (E.op2 D.add (E.op2 D.add (E.op2 D.mul (E.op2 D.ix (E.var 0) (E.con (.int 2))) (E.con (.int 48271))) (E.var 2)) (E.con (.int 11))) L.nil)) (E.con (.int 2147483647))) (Tg.sub (E.var 0) (E.con (.int 2)))) (S.seq (S.ife (T.val (E.op2 D.ge (E.var 2) (E.op2 D.pow (E.con (.int 10)) (E.con (.int 18))))) (S.asg (E.op2 D.fdiv (E.var 2) (E.var 1)) (Tg.sub (E.var 0) (E.con (.int 3)))) S.nil) (S.ret (E.op2 D.mod (E.app D.toInt (L.cons (E.var 2) L.nil)) (E.var 1)))))))))
abbrev s__law_order : Stmt := topS 20
abbrev N__law_order : List Str := ["_law_row", "_law_many", "_law_left", "_law_found"]
def b__law_order (c : Calls) : SΦ := (S.seq (S.par 2 3 (E.ofL (L.rng1 (E.var 1))) (E.ofL (L.disp L.nil))) (S.seq (S.whl (T.eqX true (XX.of (E.var 2)) (XX.ofL (L.disp L.nil))) (S.expr (E.met isL (mutL fAppend) (E.var 3) (L.cons (E.met isL (mutL fPopAt) (E.var 2) (L.cons (E.call 2 (c 6) (L.cons (E.var 0) (L.cons (E.len (Q.of (E.var 2))) L.nil))) L.nil)) L.nil))) fuel) (S.ret (E.tuple (R.of (E.var 3))))))
abbrev s__law_habit : Stmt := topS 21
abbrev N__law_habit : List Str := ["_law_row", "_law_places", "_law_place", "_law_way", "_law_found", "_law_moved", "_law_other", "_law_spot"]
def b__law_habit (c : Calls) : SΦ := (S.seq (S.par 3 4 (E.call 2 (c 6) (L.cons (E.var 0) (L.cons (E.con (.int 5)) L.nil))) (E.ofL (L.disp L.nil))) (S.seq (S.for (I.rng1 (E.var 1)) (Tg.name 2) (S.ife (T.val (E.op2 D.eq (E.var 3) (E.con (.int 0)))) (S.expr (E.met isL (mutL fAppend) (E.var 4) (L.cons (E.tuple (L.comp (I.rng1 (E.var 1)) [7] (.one 7) T.yes (E.op2 D.mod (E.op2 D.add (E.var 7) (E.var 2)) (E.var 1)))) L.nil))) (S.ife (T.val (E.op2 D.eq (E.var 3) (E.con (.int 1)))) (S.seq (S.set 5 (E.ofL (L.comp (I.rng1 (E.var 1)) [7] (.one 7) T.yes (E.op2 D.add (E.var 7) (E.app D.toInt (L.cons (E.op2 D.lt (E.var 7) (E.var 2)) L.nil)))))) (S.expr (E.met isL (mutL fAppend) (E.var 4) (L.cons (E.tuple (L.cat (L.cat (L.slE (E.var 5) O.none (O.some (E.var 2))) (L.disp (L.cons (E.con (.int 0)) L.nil))) (L.slE (E.var 5) (O.some (E.op2 D.add (E.var 2) (E.con (.int 1)))) O.none))) L.nil)))) (S.ife (T.val (E.op2 D.eq (E.var 3) (E.con (.int 2)))) (S.seq (S.set 6 (E.app D.max2 (L.cons (E.con (.int 0)) (L.cons (E.op2 D.sub (E.var 2) (E.con (.int 1))) L.nil)))) (S.seq (S.set 5 (E.ofL (L.rng1 (E.var 1)))) (S.seq (S.asg (E.tup (L.cons (E.var 6) (L.cons (E.var 2) L.nil))) (Tg.tup (Tg.cons (Tg.sub (E.var 5) (E.var 2)) (Tg.cons (Tg.sub (E.var 5) (E.var 6)) Tg.nil)))) (S.expr (E.met isL (mutL fAppend) (E.var 4) (L.cons (E.tuple (R.of (E.var 5))) L.nil)))))) (S.ife (T.and (T.val (E.op2 D.eq (E.var 3) (E.con (.int 3)))) (T.val (E.op2 D.eq (E.call 2 (c 6) (L.cons (E.var 0) (L.cons (E.con (.int 2)) L.nil))) (E.con (.int 0))))) (S.expr (E.met isL (mutL fAppend) (E.var 4) (L.cons (E.tuple (L.rng1 (E.var 1))) L.nil))) (S.expr (E.met isL (mutL fAppend) (E.var 4) (L.cons (E.call 2 (c 7) (L.cons (E.var 0) (L.cons (E.var 1) L.nil))) L.nil)))))))) (S.ret (E.tuple (R.of (E.var 4))))))
abbrev s__law_lot : Stmt := topS 22
abbrev N__law_lot : List Str := ["_law_row", "_law_places", "_law_found", "_law_place"]
def b__law_lot (c : Calls) : SΦ := (S.seq (S.set 2 (E.ofL (L.comp (I.rng1 (E.var 1)) [3] (.one 3) (T.val (E.op2 D.gt (E.call 2 (c 6) (L.cons (E.var 0) (L.cons (E.con (.int 3)) L.nil))) (E.con (.int 0)))) (E.var 3)))) (S.ret (E.ifx (T.eqX true (XX.of (E.var 2)) (XX.ofL (L.disp L.nil))) (E.tuple (R.of (E.var 2))) (E.tuple (L.rng1 (E.var 1))))))
abbrev s__law_pick : Stmt := topS 23
abbrev N__law_pick : List Str := ["_law_row", "_law_things"]
def b__law_pick (c : Calls) : SΦ := (S.ret (E.op2 D.ix (E.var 1) (E.call 2 (c 6) (L.cons (E.var 0) (L.cons (E.len (Q.of (E.var 1))) L.nil)))))
abbrev s__law_alike : Stmt := topS 24
abbrev N__law_alike : List Str := ["_law_found", "_law_due", "_law_k"]
def b__law_alike (c : Calls) : SΦ := (S.seq (S.ife (T.val (E.isi ["tuple", "list"] (E.var 1))) (S.seq (S.ife (T.or (T.not (T.val (E.isi ["tuple", "list"] (E.var 0)))) (T.val (E.op2 D.ne (E.isi ["list"] (E.var 0)) (E.isi ["list"] (E.var 1))))) (S.ret (E.con (.bl false))) S.nil) (S.seq (S.ife (T.val (E.op2 D.ne (E.len (Q.of (E.var 0))) (E.len (Q.of (E.var 1))))) (S.ret (E.con (.bl false))) S.nil) (S.ret (E.ofT (T.eqX false (XX.ofL (L.comp (I.rng1 (E.len (Q.of (E.var 1)))) [2] (.one 2) (T.not (T.val (E.call 2 (c 11) (L.cons (E.op2 D.ix (E.var 0) (E.var 2)) (L.cons (E.op2 D.ix (E.var 1) (E.var 2)) L.nil))))) (E.var 2))) (XX.ofL (L.disp L.nil))))))) S.nil) (S.seq (S.ife (T.or (T.isN (E.var 1)) (T.val (E.isi ["str"] (E.var 1)))) (S.ret (E.and (E.op2 D.eq (E.var 0) (E.var 1)) (E.op2 D.eq (E.isi ["str"] (E.var 0)) (E.isi ["str"] (E.var 1))))) S.nil) (S.ret (E.and (E.isi ["int"] (E.var 0)) (E.and (E.op2 D.eq (E.isi ["bool"] (E.var 0)) (E.isi ["bool"] (E.var 1))) (E.op2 D.eq (E.var 0) (E.var 1)))))))
abbrev s_law : Stmt := topS 25
abbrev N_law : List Str := ["_law_script", "_law_row", "_law_places", "_law_habits", "_law_lot_here", "_law_word", "_law_ends", "_law_habit_here", "_law_marked", "_law_place", "_law_read", "_law_stands", "_law_spot", "_law_due", "_law_turn", "_law_step", "_law_at"]
def b_law (c : Calls) : SΦ := (S.seq (S.set 1 (E.ofL (L.disp (L.cons (E.var 0) (L.cons (E.con (.int 0)) (L.cons (E.con (.int 5015)) (L.cons (E.con (.int 0)) L.nil))))))) (S.seq (S.set 2 (E.op2 D.add (E.con (.int 2)) (E.call 2 (c 6) (L.cons (E.var 1) (L.cons (E.con (.int 4)) L.nil))))) (S.seq (S.set 3 (E.tuple (L.comp (I.rng1 (E.op2 D.add (E.con (.int 1)) (E.call 2 (c 6) (L.cons (E.var 1) (L.cons (E.con (.int 3)) L.nil))))) [14] (.one 14) T.yes (E.call 2 (c 8) (L.cons (E.var 1) (L.cons (E.var 2) L.nil)))))) (S.seq (S.set 4 (E.call 2 (c 9) (L.cons (E.var 1) (L.cons (E.var 2) L.nil)))) (S.seq (S.for (I.rng1 (E.con (.int 4))) (Tg.name 14) (S.seq (S.par 9 10 (E.call 2 (c 10) (L.cons (E.var 1) (L.cons (E.ofL (Q.of (E.var 4))) L.nil))) (E.call 2 (c 10) (L.cons (E.var 1) (L.cons (E.ofL (Q.of (E.var 4))) L.nil)))) (S.seq (S.set 5 (E.tuple (L.comp (I.rng1 (E.call 2 (c 6) (L.cons (E.var 1) (L.cons (E.con (.int 6)) L.nil)))) [15] (.one 15) T.yes (E.call 2 (c 10) (L.cons (E.var 1) (L.cons (E.ofL (Q.of (E.var 4))) L.nil)))))) (S.seq (S.set 6 (E.ofL (L.disp L.nil))) (S.seq (S.for (I.of (E.var 3)) (Tg.name 7) (S.seq (S.set 11 (E.op2 D.ix (E.op2 D.ix (E.var 7) (E.var 9)) (E.var 9))) (S.seq (S.for (I.of (E.var 5)) (Tg.name 12) (S.set 11 (E.op2 D.ix (E.op2 D.ix (E.var 7) (E.var 12)) (E.var 11)))) (S.expr (E.met isL (mutL fAppend) (E.var 6) (L.cons (E.op2 D.eq (E.var 11) (E.var 10)) L.nil)))))) (S.for (I.ofL (L.disp (L.cons (E.con (.bl true)) (L.cons (E.con (.bl false)) L.nil)))) (Tg.name 8) (S.seq (S.set 13 (E.tuple (L.comp (I.rng1 (E.len (Q.of (E.var 3)))) [16] (.one 16) (T.val (E.op2 D.eq (E.op2 D.ix (E.var 6) (E.var 16)) (E.var 8))) (E.var 16)))) (S.ife (T.not (T.val (E.call 2 (c 11) (L.cons (E.call 6 (c 5) (L.cons (E.var 3) (L.cons (E.var 4) (L.cons (E.var 9) (L.cons (E.var 5) (L.cons (E.var 10) (L.cons (E.var 8) L.nil))))))) (L.cons (E.var 13) L.nil))))) (S.ret (E.con (.bl false))) S.nil)))))))) (S.ret (E.con (.bl true))))))))
def bd : Nat → Option (Nat × (Calls → SΦ))
  | 0 => some (3, b_is_number)
  | 1 => some (3, b_is_permutation)
  | 2 => some (3, b_need_habit)
  | 3 => some (3, b_need_habits)
  | 4 => some (5, b_need_lot)
  | 5 => some (11, b_habits_left)
  | 6 => some (4, b__law_taken)
  | 7 => some (4, b__law_order)
  | 8 => some (8, b__law_habit)
  | 9 => some (4, b__law_lot)
  | 10 => some (2, b__law_pick)
  | 11 => some (3, b__law_alike)
  | 12 => some (17, b_law)
  | _ => none
abbrev run (d : Nat) : Calls := runF bd d
theorem run_is_number (d : Nat) (ds : List D) (hh : Hh) : run (d + 1) 0 ds hh = trunc hh (runB 3 (b_is_number (run d)) ds hh) := rfl
theorem run_is_permutation (d : Nat) (ds : List D) (hh : Hh) : run (d + 1) 1 ds hh = trunc hh (runB 3 (b_is_permutation (run d)) ds hh) := rfl
theorem run_need_habit (d : Nat) (ds : List D) (hh : Hh) : run (d + 1) 2 ds hh = trunc hh (runB 3 (b_need_habit (run d)) ds hh) := rfl
theorem run_need_habits (d : Nat) (ds : List D) (hh : Hh) : run (d + 1) 3 ds hh = trunc hh (runB 3 (b_need_habits (run d)) ds hh) := rfl
theorem run_need_lot (d : Nat) (ds : List D) (hh : Hh) : run (d + 1) 4 ds hh = trunc hh (runB 5 (b_need_lot (run d)) ds hh) := rfl
theorem run_habits_left (d : Nat) (ds : List D) (hh : Hh) : run (d + 1) 5 ds hh = trunc hh (runB 11 (b_habits_left (run d)) ds hh) := rfl
theorem run__law_taken (d : Nat) (ds : List D) (hh : Hh) : run (d + 1) 6 ds hh = trunc hh (runB 4 (b__law_taken (run d)) ds hh) := rfl
theorem run__law_order (d : Nat) (ds : List D) (hh : Hh) : run (d + 1) 7 ds hh = trunc hh (runB 4 (b__law_order (run d)) ds hh) := rfl
theorem run__law_habit (d : Nat) (ds : List D) (hh : Hh) : run (d + 1) 8 ds hh = trunc hh (runB 8 (b__law_habit (run d)) ds hh) := rfl
theorem run__law_lot (d : Nat) (ds : List D) (hh : Hh) : run (d + 1) 9 ds hh = trunc hh (runB 4 (b__law_lot (run d)) ds hh) := rfl
theorem run__law_pick (d : Nat) (ds : List D) (hh : Hh) : run (d + 1) 10 ds hh = trunc hh (runB 2 (b__law_pick (run d)) ds hh) := rfl
theorem run__law_alike (d : Nat) (ds : List D) (hh : Hh) : run (d + 1) 11 ds hh = trunc hh (runB 3 (b__law_alike (run d)) ds hh) := rfl
theorem run_law (d : Nat) (ds : List D) (hh : Hh) : run (d + 1) 12 ds hh = trunc hh (runB 17 (b_law (run d)) ds hh) := rfl
structure Facts (K : PySem.W.Frag) (mg : Str → Option Value) (base : Heap) : Prop where
  d_is_number : ∃ fd, FunD K "is_number" "is_number" (defArgs s_is_number) (defBody s_is_number) (defScope s_is_number) [] [] (He.fAd K ("is_number", none)) fd
  g_is_number : mg "is_number" = some (.ref (He.fAd K ("is_number", none)))
  d_is_permutation : ∃ fd, FunD K "is_permutation" "is_permutation" (defArgs s_is_permutation) (defBody s_is_permutation) (defScope s_is_permutation) [] [] (He.fAd K ("is_permutation", none)) fd
  g_is_permutation : mg "is_permutation" = some (.ref (He.fAd K ("is_permutation", none)))
  t_is_permutation : TabB base mg (He.cT K ("is_permutation", none)).1 (He.cT K ("is_permutation", none)).2
  d_need_habit : ∃ fd, FunD K "need_habit" "need_habit" (defArgs s_need_habit) (defBody s_need_habit) (defScope s_need_habit) [] [] (He.fAd K ("need_habit", none)) fd
  g_need_habit : mg "need_habit" = some (.ref (He.fAd K ("need_habit", none)))
  d_need_habits : ∃ fd, FunD K "need_habits" "need_habits" (defArgs s_need_habits) (defBody s_need_habits) (defScope s_need_habits) [] [] (He.fAd K ("need_habits", none)) fd
  g_need_habits : mg "need_habits" = some (.ref (He.fAd K ("need_habits", none)))
  d_need_lot : ∃ fd, FunD K "need_lot" "need_lot" (defArgs s_need_lot) (defBody s_need_lot) (defScope s_need_lot) [] [] (He.fAd K ("need_lot", none)) fd
  g_need_lot : mg "need_lot" = some (.ref (He.fAd K ("need_lot", none)))
  t_need_lot : TabB base mg (He.cT K ("need_lot", none)).1 (He.cT K ("need_lot", none)).2
  d_habits_left : ∃ fd, FunD K "habits_left" "habits_left" (defArgs s_habits_left) (defBody s_habits_left) (defScope s_habits_left) [] [] (He.fAd K ("habits_left", none)) fd
  g_habits_left : mg "habits_left" = some (.ref (He.fAd K ("habits_left", none)))
  t_habits_left : TabB base mg (He.cT K ("habits_left", none)).1 (He.cT K ("habits_left", none)).2
  d__law_taken : ∃ fd, FunD K "_law_taken" "_law_taken" (defArgs s__law_taken) (defBody s__law_taken) (defScope s__law_taken) [] [] (He.fAd K ("_law_taken", none)) fd
  g__law_taken : mg "_law_taken" = some (.ref (He.fAd K ("_law_taken", none)))
  d__law_order : ∃ fd, FunD K "_law_order" "_law_order" (defArgs s__law_order) (defBody s__law_order) (defScope s__law_order) [] [] (He.fAd K ("_law_order", none)) fd
  g__law_order : mg "_law_order" = some (.ref (He.fAd K ("_law_order", none)))
  d__law_habit : ∃ fd, FunD K "_law_habit" "_law_habit" (defArgs s__law_habit) (defBody s__law_habit) (defScope s__law_habit) [] [] (He.fAd K ("_law_habit", none)) fd
  g__law_habit : mg "_law_habit" = some (.ref (He.fAd K ("_law_habit", none)))
  d__law_lot : ∃ fd, FunD K "_law_lot" "_law_lot" (defArgs s__law_lot) (defBody s__law_lot) (defScope s__law_lot) [] [] (He.fAd K ("_law_lot", none)) fd
  g__law_lot : mg "_law_lot" = some (.ref (He.fAd K ("_law_lot", none)))
  d__law_pick : ∃ fd, FunD K "_law_pick" "_law_pick" (defArgs s__law_pick) (defBody s__law_pick) (defScope s__law_pick) [] [] (He.fAd K ("_law_pick", none)) fd
  g__law_pick : mg "_law_pick" = some (.ref (He.fAd K ("_law_pick", none)))
  d__law_alike : ∃ fd, FunD K "_law_alike" "_law_alike" (defArgs s__law_alike) (defBody s__law_alike) (defScope s__law_alike) [] [] (He.fAd K ("_law_alike", none)) fd
  g__law_alike : mg "_law_alike" = some (.ref (He.fAd K ("_law_alike", none)))
  d_law : ∃ fd, FunD K "law" "law" (defArgs s_law) (defBody s_law) (defScope s_law) [] [] (He.fAd K ("law", none)) fd
  g_law : mg "law" = some (.ref (He.fAd K ("law", none)))
  n_all : mg "all" = none
  n_bool : mg "bool" = none
  n_enumerate : mg "enumerate" = none
  n_int : mg "int" = none
  n_isinstance : mg "isinstance" = none
  n_len : mg "len" = none
  n_list : mg "list" = none
  n_max : mg "max" = none
  n_range : mg "range" = none
  n_set : mg "set" = none
  n_str : mg "str" = none
  n_tuple : mg "tuple" = none
  n_zip : mg "zip" = none
  i_LEAST_PLACES : ∃ t, mg "LEAST_PLACES" = some (.int (2) t)
  i_MOST_HABITS : ∃ t, mg "MOST_HABITS" = some (.int (3) t)
  i_MOST_PLACES : ∃ t, mg "MOST_PLACES" = some (.int (5) t)
def gs (K : PySem.W.Frag) : Gs := ⟨[(He.cT K ("is_permutation", none)).2, (He.cT K ("need_lot", none)).2, (He.cT K ("habits_left", none)).2], fun _ => 0, fun _ => 0⟩
structure Cs (P : Program) (w : World) (K : PySem.W.Frag) (mg : Str → Option Value) (base : Heap) (d : Nat) : Prop where
  c0 : CallOk P w K mg base (gs K) (2 * d + 1) "is_number" (He.fAd K ("is_number", none)) 3 (run d 0)
  c1 : CallOk P w K mg base (gs K) (2 * d + 1) "is_permutation" (He.fAd K ("is_permutation", none)) 2 (run d 1)
  c2 : CallOk P w K mg base (gs K) (2 * d + 1) "need_habit" (He.fAd K ("need_habit", none)) 1 (run d 2)
  c3 : CallOk P w K mg base (gs K) (2 * d + 1) "need_habits" (He.fAd K ("need_habits", none)) 1 (run d 3)
  c4 : CallOk P w K mg base (gs K) (2 * d + 1) "need_lot" (He.fAd K ("need_lot", none)) 2 (run d 4)
  c5 : CallOk P w K mg base (gs K) (2 * d + 1) "habits_left" (He.fAd K ("habits_left", none)) 6 (run d 5)
  c6 : CallOk P w K mg base (gs K) (2 * d + 1) "_law_taken" (He.fAd K ("_law_taken", none)) 2 (run d 6)
  c7 : CallOk P w K mg base (gs K) (2 * d + 1) "_law_order" (He.fAd K ("_law_order", none)) 2 (run d 7)
  c8 : CallOk P w K mg base (gs K) (2 * d + 1) "_law_habit" (He.fAd K ("_law_habit", none)) 2 (run d 8)
  c9 : CallOk P w K mg base (gs K) (2 * d + 1) "_law_lot" (He.fAd K ("_law_lot", none)) 2 (run d 9)
  c10 : CallOk P w K mg base (gs K) (2 * d + 1) "_law_pick" (He.fAd K ("_law_pick", none)) 2 (run d 10)
  c11 : CallOk P w K mg base (gs K) (2 * d + 1) "_law_alike" (He.fAd K ("_law_alike", none)) 2 (run d 11)
  c12 : CallOk P w K mg base (gs K) (2 * d + 1) "law" (He.fAd K ("law", none)) 1 (run d 12)
theorem sc_is_number : FnScope N_is_number ["value", "low", "high"] (defScope s_is_number) := ⟨rfl, rfl, rfl, by decide +kernel, rfl, by decide +kernel, by decide +kernel⟩
theorem sc_is_permutation : FnScope N_is_permutation ["value", "many"] (defScope s_is_permutation) := ⟨rfl, rfl, rfl, by decide +kernel, rfl, by decide +kernel, by decide +kernel⟩
theorem sc_need_habit : FnScope N_need_habit ["value"] (defScope s_need_habit) := ⟨rfl, rfl, rfl, by decide +kernel, rfl, by decide +kernel, by decide +kernel⟩
theorem sc_need_habits : FnScope N_need_habits ["value"] (defScope s_need_habits) := ⟨rfl, rfl, rfl, by decide +kernel, rfl, by decide +kernel, by decide +kernel⟩
theorem sc_need_lot : FnScope N_need_lot ["habit", "value"] (defScope s_need_lot) := ⟨rfl, rfl, rfl, by decide +kernel, rfl, by decide +kernel, by decide +kernel⟩
theorem sc_habits_left : FnScope N_habits_left ["habits", "lot", "place", "word", "read", "is_marked"] (defScope s_habits_left) := ⟨rfl, rfl, rfl, by decide +kernel, rfl, by decide +kernel, by decide +kernel⟩
theorem sc__law_taken : FnScope N__law_taken ["_law_row", "_law_many"] (defScope s__law_taken) := ⟨rfl, rfl, rfl, by decide +kernel, rfl, by decide +kernel, by decide +kernel⟩
theorem sc__law_order : FnScope N__law_order ["_law_row", "_law_many"] (defScope s__law_order) := ⟨rfl, rfl, rfl, by decide +kernel, rfl, by decide +kernel, by decide +kernel⟩
theorem sc__law_habit : FnScope N__law_habit ["_law_row", "_law_places"] (defScope s__law_habit) := ⟨rfl, rfl, rfl, by decide +kernel, rfl, by decide +kernel, by decide +kernel⟩
theorem sc__law_lot : FnScope N__law_lot ["_law_row", "_law_places"] (defScope s__law_lot) := ⟨rfl, rfl, rfl, by decide +kernel, rfl, by decide +kernel, by decide +kernel⟩
theorem sc__law_pick : FnScope N__law_pick ["_law_row", "_law_things"] (defScope s__law_pick) := ⟨rfl, rfl, rfl, by decide +kernel, rfl, by decide +kernel, by decide +kernel⟩
theorem sc__law_alike : FnScope N__law_alike ["_law_found", "_law_due"] (defScope s__law_alike) := ⟨rfl, rfl, rfl, by decide +kernel, rfl, by decide +kernel, by decide +kernel⟩
theorem sc_law : FnScope N_law ["_law_script"] (defScope s_law) := ⟨rfl, rfl, rfl, by decide +kernel, rfl, by decide +kernel, by decide +kernel⟩
section
variable {P : Program} {w : World} {K : PySem.W.Frag} {mg : Str → Option Value} {base : Heap}
theorem bi_is_number {fd : FuncData} (F : FunD K "is_number" "is_number" (defArgs s_is_number) (defBody s_is_number) (defScope s_is_number) [] [] (He.fAd K ("is_number", none)) fd) : Binds K fd ["value", "low", "high"] [] := F.bindsN (fun _ _ _ _ _ _ us hl => match us, hl with | [_, _, _], _ => rfl)
theorem ok_is_number (Fa : Facts K mg base) {d : Nat} (C : Cs P w K mg base d) : CallOk P w K mg base (gs K) (2 * (d + 1) + 1) "is_number" (He.fAd K ("is_number", none)) 3 (run (d + 1) 0) := by
  obtain ⟨fd, FD⟩ := Fa.d_is_number
  have S := sc_is_number
  refine callOk_of (k := 2 * d + 2) (N := N_is_number) (ψ := b_is_number (run d)) FD S rfl (bi_is_number FD) Fa.g_is_number fun cdv hcd A outer s H E hr => ?_
  have tk : L2.Takes (cxOf (L2.CX P w) P w K mg base N_is_number "is_number" (defScope s_is_number) (He.fAd K ("is_number", none)) cdv A outer s H E) (fun cls d _ H => E cls d H) := takes_of rfl rfl rfl rfl
  unfold b_is_number
  exact (SSs.one (SS.ret (SE.and (SE.isi isi_int rfl Fa.n_isinstance rfl Fa.n_int (by decide +kernel) (SE.var (i := 0))) (SE.and (SE.not (SE.isi isi_bool rfl Fa.n_isinstance rfl Fa.n_bool (by decide +kernel) (SE.var (i := 0)))) (SE.one (SE.chainP sop_le sop_le (SE.var (i := 1)) (SE.var (i := 0)) (SE.var (i := 2))))))))
theorem bi_is_permutation {fd : FuncData} (F : FunD K "is_permutation" "is_permutation" (defArgs s_is_permutation) (defBody s_is_permutation) (defScope s_is_permutation) [] [] (He.fAd K ("is_permutation", none)) fd) : Binds K fd ["value", "many"] [] := F.bindsN (fun _ _ _ _ _ _ us hl => match us, hl with | [_, _], _ => rfl)
theorem ok_is_permutation (Fa : Facts K mg base) {d : Nat} (C : Cs P w K mg base d) : CallOk P w K mg base (gs K) (2 * (d + 1) + 1) "is_permutation" (He.fAd K ("is_permutation", none)) 2 (run (d + 1) 1) := by
  obtain ⟨fd, FD⟩ := Fa.d_is_permutation
  have TB := Fa.t_is_permutation
  have hc0 := code_ref FD
  have hP : (He.cT K ("is_permutation", none)).2 ∈ (gs K).tabs := by unfold gs; simp
  have S := sc_is_permutation
  refine callOk_of (k := 2 * d + 2) (N := N_is_permutation) (ψ := b_is_permutation (run d)) FD S rfl (bi_is_permutation FD) Fa.g_is_permutation fun cdv hcd A outer s H E hr => ?_
  have tk : L2.Takes (cxOf (L2.CX P w) P w K mg base N_is_permutation "is_permutation" (defScope s_is_permutation) (He.fAd K ("is_permutation", none)) cdv A outer s H E) (fun cls d _ H => E cls d H) := takes_of rfl rfl rfl rfl
  have hcode : (cxOf (L2.CX P w) P w K mg base N_is_permutation "is_permutation" (defScope s_is_permutation) (He.fAd K ("is_permutation", none)) cdv A outer s H E).env.code = .ref (He.cT K ("is_permutation", none)).1 := hcd.symm.trans hc0
  unfold b_is_permutation
  exact (SSs.cons (SS.ife (SW.st (SW.or (ST.not (ST.val (SE.isi isi_tuple rfl Fa.n_isinstance rfl Fa.n_tuple (by decide +kernel) (SE.var (i := 0))))) (SW.or1 (ST.cmp (sop_ne hr.units) (SE.len (SQ.ofE (SE.var (i := 0))) rfl Fa.n_len) (SE.var (i := 1)))))) (SSs.one (SS.ret SE.bl)) SSs.nil) (SSs.one (SS.ret (SE.and (SE.gen (z := false) (own := [("place", 2)]) hr rfl S.nd rfl Fa.n_all PyProof.Rows.boot_all TB hP hcode (genOk_by rfl) (SI.of (SE.var (i := 0))) (GCg.one S.nd rfl (by decide) rfl) GTs.nil (fun _ _ _ _ _ _ hr => (SE.call (C.c0) (hr.mono (by omega)) takes_wf rfl (SA.cons (SE.var (i := 2)) (SA.cons SE.int (SA.cons (SE.bin sop_sub (SE.var (i := 1)) SE.int) SA.nil)))))) (SE.one (SE.cmp (sop_eq hr.units) (SE.lenSet rfl rfl Fa.n_len rfl Fa.n_set (SQ.ofE (SE.var (i := 0)))) (SE.var (i := 1))))))))
theorem bi_need_habit {fd : FuncData} (F : FunD K "need_habit" "need_habit" (defArgs s_need_habit) (defBody s_need_habit) (defScope s_need_habit) [] [] (He.fAd K ("need_habit", none)) fd) : Binds K fd ["value"] [] := F.bindsN (fun _ _ _ _ _ _ us hl => match us, hl with | [_], _ => rfl)
theorem ok_need_habit (Fa : Facts K mg base) {d : Nat} (C : Cs P w K mg base d) : CallOk P w K mg base (gs K) (2 * (d + 1) + 1) "need_habit" (He.fAd K ("need_habit", none)) 1 (run (d + 1) 2) := by
  obtain ⟨fd, FD⟩ := Fa.d_need_habit
  have S := sc_need_habit
  refine callOk_of (k := 2 * d + 2) (N := N_need_habit) (ψ := b_need_habit (run d)) FD S rfl (bi_need_habit FD) Fa.g_need_habit fun cdv hcd A outer s H E hr => ?_
  have tk : L2.Takes (cxOf (L2.CX P w) P w K mg base N_need_habit "need_habit" (defScope s_need_habit) (He.fAd K ("need_habit", none)) cdv A outer s H E) (fun cls d _ H => E cls d H) := takes_of rfl rfl rfl rfl
  unfold b_need_habit
  exact (SSs.cons (SS.ife (SW.st (SW.or (ST.not (ST.val (SE.isi isi_tuple rfl Fa.n_isinstance rfl Fa.n_tuple (by decide +kernel) (SE.var (i := 0))))) (SW.or1 (ST.not (ST.chain sop_le sop_le (SE.globI Fa.i_LEAST_PLACES rfl) (SE.len (SQ.ofE (SE.var (i := 0))) rfl Fa.n_len) (SE.globI Fa.i_MOST_PLACES rfl)))))) (SSs.one SS.bad) SSs.nil) (SSs.one (SS.for (passes_of rfl) rfl (SI.enum rfl Fa.n_enumerate (SE.var (i := 0))) (SG.tup (n := 2) rfl (SGs.cons (SG.name S.nd (i := 1) rfl (.inl rfl)) (SGs.cons (SG.name S.nd (i := 2) rfl (.inl rfl)) SGs.nil))) (SSs.one (SS.ife (ST.not (ST.val (SE.call (C.c1) (hr.mono (by omega)) tk rfl (SA.cons (SE.var (i := 2)) (SA.cons (SE.len (SQ.ofE (SE.var (i := 0))) rfl Fa.n_len) SA.nil))))) (SSs.one SS.bad) SSs.nil)))))
theorem bi_need_habits {fd : FuncData} (F : FunD K "need_habits" "need_habits" (defArgs s_need_habits) (defBody s_need_habits) (defScope s_need_habits) [] [] (He.fAd K ("need_habits", none)) fd) : Binds K fd ["value"] [] := F.bindsN (fun _ _ _ _ _ _ us hl => match us, hl with | [_], _ => rfl)
theorem ok_need_habits (Fa : Facts K mg base) {d : Nat} (C : Cs P w K mg base d) : CallOk P w K mg base (gs K) (2 * (d + 1) + 1) "need_habits" (He.fAd K ("need_habits", none)) 1 (run (d + 1) 3) := by
  obtain ⟨fd, FD⟩ := Fa.d_need_habits
  have S := sc_need_habits
  refine callOk_of (k := 2 * d + 2) (N := N_need_habits) (ψ := b_need_habits (run d)) FD S rfl (bi_need_habits FD) Fa.g_need_habits fun cdv hcd A outer s H E hr => ?_
  have tk : L2.Takes (cxOf (L2.CX P w) P w K mg base N_need_habits "need_habits" (defScope s_need_habits) (He.fAd K ("need_habits", none)) cdv A outer s H E) (fun cls d _ H => E cls d H) := takes_of rfl rfl rfl rfl
  unfold b_need_habits
  exact (SSs.cons (SS.ife (SW.st (SW.or (ST.not (ST.val (SE.isi isi_tuple rfl Fa.n_isinstance rfl Fa.n_tuple (by decide +kernel) (SE.var (i := 0))))) (SW.or1 (ST.not (ST.chain sop_le sop_le SE.int (SE.len (SQ.ofE (SE.var (i := 0))) rfl Fa.n_len) (SE.globI Fa.i_MOST_HABITS rfl)))))) (SSs.one SS.bad) SSs.nil) (SSs.one (SS.for (passes_of rfl) rfl (SI.enum rfl Fa.n_enumerate (SE.var (i := 0))) (SG.tup (n := 2) rfl (SGs.cons (SG.name S.nd (i := 1) rfl (.inl rfl)) (SGs.cons (SG.name S.nd (i := 2) rfl (.inl rfl)) SGs.nil))) (SSs.cons (SS.thru (SSs.one (SS.expr (SE.call (C.c2) (hr.mono (by omega)) takes_wf rfl (SA.cons (SE.var (i := 2)) SA.nil))))) (SSs.one (SS.ife (ST.cmp (sop_ne hr.units) (SE.len (SQ.ofE (SE.var (i := 2))) rfl Fa.n_len) (SE.len (SQ.ofE (SE.ix (SE.var (i := 0)) SE.int)) rfl Fa.n_len)) (SSs.one SS.bad) SSs.nil))))))
theorem bi_need_lot {fd : FuncData} (F : FunD K "need_lot" "need_lot" (defArgs s_need_lot) (defBody s_need_lot) (defScope s_need_lot) [] [] (He.fAd K ("need_lot", none)) fd) : Binds K fd ["habit", "value"] [] := F.bindsN (fun _ _ _ _ _ _ us hl => match us, hl with | [_, _], _ => rfl)
theorem ok_need_lot (Fa : Facts K mg base) {d : Nat} (C : Cs P w K mg base d) : CallOk P w K mg base (gs K) (2 * (d + 1) + 1) "need_lot" (He.fAd K ("need_lot", none)) 2 (run (d + 1) 4) := by
  obtain ⟨fd, FD⟩ := Fa.d_need_lot
  have TB := Fa.t_need_lot
  have hc0 := code_ref FD
  have hP : (He.cT K ("need_lot", none)).2 ∈ (gs K).tabs := by unfold gs; simp
  have S := sc_need_lot
  refine callOk_of (k := 2 * d + 2) (N := N_need_lot) (ψ := b_need_lot (run d)) FD S rfl (bi_need_lot FD) Fa.g_need_lot fun cdv hcd A outer s H E hr => ?_
  have tk : L2.Takes (cxOf (L2.CX P w) P w K mg base N_need_lot "need_lot" (defScope s_need_lot) (He.fAd K ("need_lot", none)) cdv A outer s H E) (fun cls d _ H => E cls d H) := takes_of rfl rfl rfl rfl
  have hcode : (cxOf (L2.CX P w) P w K mg base N_need_lot "need_lot" (defScope s_need_lot) (He.fAd K ("need_lot", none)) cdv A outer s H E).env.code = .ref (He.cT K ("need_lot", none)).1 := hcd.symm.trans hc0
  unfold b_need_lot
  exact (SSs.cons (SS.ife (SW.st (SW.or (ST.not (ST.val (SE.isi isi_tuple rfl Fa.n_isinstance rfl Fa.n_tuple (by decide +kernel) (SE.var (i := 1))))) (SW.or (ST.not (ST.tru (SE.var (i := 1)))) (SW.or1 (ST.not (ST.val (SE.gen (z := false) (own := [("place", 4)]) hr rfl S.nd rfl Fa.n_all PyProof.Rows.boot_all TB hP hcode (genOk_by rfl) (SI.of (SE.var (i := 1))) (GCg.one S.nd rfl (by decide) rfl) GTs.nil (fun _ _ _ _ _ _ hr => (SE.call (C.c0) (hr.mono (by omega)) takes_wf rfl (SA.cons (SE.var (i := 4)) (SA.cons SE.int (SA.cons (SE.bin sop_sub (SE.len (SQ.ofE (SE.var (i := 0))) rfl Fa.n_len) SE.int) SA.nil)))))))))))) (SSs.one SS.bad) SSs.nil) (SSs.one (SS.ife (ST.not (ST.val (SE.gen (z := false) (own := [("one", 2), ("later", 3)]) hr rfl S.nd rfl Fa.n_all PyProof.Rows.boot_all TB hP hcode (genOk_by rfl) (SI.zip rfl Fa.n_zip (SE.var (i := 1)) (SE.sl (SE.var (i := 1)) (SO.some SE.int) SO.none)) (GCg.many (n := 2) (by decide) rfl (fun _ _ _ _ _ _ => pg_tup rfl (pgs_cons (pg_name S.nd (i := 2) rfl (.inl rfl) (.inr rfl)) (pgs_cons (pg_name S.nd (i := 3) rfl (.inl rfl) (.inr rfl)) (pgs_nil))))) GTs.nil (fun _ _ _ _ _ _ hr => (SE.cmp sop_lt (SE.var (i := 2)) (SE.var (i := 3))))))) (SSs.one SS.bad) SSs.nil)))
theorem bi_habits_left {fd : FuncData} (F : FunD K "habits_left" "habits_left" (defArgs s_habits_left) (defBody s_habits_left) (defScope s_habits_left) [] [] (He.fAd K ("habits_left", none)) fd) : Binds K fd ["habits", "lot", "place", "word", "read", "is_marked"] [] := F.bindsN (fun _ _ _ _ _ _ us hl => match us, hl with | [_, _, _, _, _, _], _ => rfl)
theorem ok_habits_left (Fa : Facts K mg base) {d : Nat} (C : Cs P w K mg base d) : CallOk P w K mg base (gs K) (2 * (d + 1) + 1) "habits_left" (He.fAd K ("habits_left", none)) 6 (run (d + 1) 5) := by
  obtain ⟨fd, FD⟩ := Fa.d_habits_left
  have TB := Fa.t_habits_left
  have hc0 := code_ref FD
  have hP : (He.cT K ("habits_left", none)).2 ∈ (gs K).tabs := by unfold gs; simp
  have S := sc_habits_left
  refine callOk_of (k := 2 * d + 2) (N := N_habits_left) (ψ := b_habits_left (run d)) FD S rfl (bi_habits_left FD) Fa.g_habits_left fun cdv hcd A outer s H E hr => ?_
  have tk : L2.Takes (cxOf (L2.CX P w) P w K mg base N_habits_left "habits_left" (defScope s_habits_left) (He.fAd K ("habits_left", none)) cdv A outer s H E) (fun cls d _ H => E cls d H) := takes_of rfl rfl rfl rfl
  have hcode : (cxOf (L2.CX P w) P w K mg base N_habits_left "habits_left" (defScope s_habits_left) (He.fAd K ("habits_left", none)) cdv A outer s H E).env.code = .ref (He.cT K ("habits_left", none)).1 := hcd.symm.trans hc0
  unfold b_habits_left
  exact (SSs.cons (SS.expr (SE.call (C.c3) (hr.mono (by omega)) tk rfl (SA.cons (SE.var (i := 0)) SA.nil))) (SSs.cons (SS.expr (SE.call (C.c4) (hr.mono (by omega)) tk rfl (SA.cons (SE.ix (SE.var (i := 0)) SE.int) (SA.cons (SE.var (i := 1)) SA.nil)))) (SSs.cons (SS.ife (ST.not (ST.val (SE.gen (z := false) (own := [("spot", 10)]) hr rfl S.nd rfl Fa.n_all PyProof.Rows.boot_all TB hP hcode (genOk_by rfl) (SI.of (SE.tup (SA.cons (SE.var (i := 2)) (SA.cons (SE.var (i := 4)) SA.nil)))) (GCg.one S.nd rfl (by decide) rfl) GTs.nil (fun _ _ _ _ _ _ hr => (SE.and (SE.call (C.c0) (hr.mono (by omega)) takes_wf rfl (SA.cons (SE.var (i := 10)) (SA.cons SE.int (SA.cons (SE.bin sop_sub (SE.len (SQ.ofE (SE.ix (SE.var (i := 0)) SE.int)) rfl Fa.n_len) SE.int) SA.nil)))) (SE.one (SE.cmp sop_in (SE.var (i := 10)) (SE.var (i := 1))))))))) (SSs.one SS.bad) SSs.nil) (SSs.cons (SS.ife (SW.st (SW.or (ST.not (ST.val (SE.isi isi_tuple rfl Fa.n_isinstance rfl Fa.n_tuple (by decide +kernel) (SE.var (i := 3))))) (SW.or1 (ST.not (ST.val (SE.gen (z := false) (own := [("spot", 10)]) hr rfl S.nd rfl Fa.n_all PyProof.Rows.boot_all TB hP hcode (genOk_by rfl) (SI.of (SE.var (i := 3))) (GCg.one S.nd rfl (by decide) rfl) GTs.nil (fun _ _ _ _ _ _ hr => (SE.and (SE.call (C.c0) (hr.mono (by omega)) takes_wf rfl (SA.cons (SE.var (i := 10)) (SA.cons SE.int (SA.cons (SE.bin sop_sub (SE.len (SQ.ofE (SE.ix (SE.var (i := 0)) SE.int)) rfl Fa.n_len) SE.int) SA.nil)))) (SE.one (SE.cmp sop_in (SE.var (i := 10)) (SE.var (i := 1)))))))))))) (SSs.one SS.bad) SSs.nil) (SSs.cons (SS.ife (ST.not (ST.val (SE.isi isi_bool rfl Fa.n_isinstance rfl Fa.n_bool (by decide +kernel) (SE.var (i := 5))))) (SSs.one SS.bad) SSs.nil) (SSs.cons (SS.set (i := 6) S.nd rfl (.inl rfl) (SE.ofL (SL.disp SA.nil))) (SSs.cons (SS.for (passes_of rfl) rfl (SI.enum rfl Fa.n_enumerate (SE.var (i := 0))) (SG.tup (n := 2) rfl (SGs.cons (SG.name S.nd (i := 7) rfl (.inl rfl)) (SGs.cons (SG.name S.nd (i := 8) rfl (.inl rfl)) SGs.nil))) (SSs.cons (SS.set (i := 9) S.nd rfl (.inl rfl) (SE.ix (SE.ix (SE.var (i := 8)) (SE.var (i := 2))) (SE.var (i := 2)))) (SSs.cons (SS.for (passes_of rfl) rfl (SI.of (SE.var (i := 3))) (SG.name S.nd (i := 10) rfl (.inl rfl)) (SSs.one (SS.set (i := 9) S.nd rfl (.inl rfl) (SE.ix (SE.ix (SE.var (i := 8)) (SE.var (i := 10))) (SE.var (i := 9)))))) (SSs.one (SS.ife (ST.cmp (sop_eq hr.units) (SE.cmp (sop_eq hr.units) (SE.var (i := 9)) (SE.var (i := 4))) (SE.var (i := 5))) (SSs.one (SS.expr (SE.met ty_L F.plainAttrs_list F.slot_list_append F.type_list_append sm_append (SE.var (i := 6)) (SA.cons (SE.var (i := 7)) SA.nil)))) SSs.nil))))) (SSs.one (SS.ret (SE.tupleR (SR.ofE (SE.var (i := 6))) rfl Fa.n_tuple))))))))))
theorem bi__law_taken {fd : FuncData} (F : FunD K "_law_taken" "_law_taken" (defArgs s__law_taken) (defBody s__law_taken) (defScope s__law_taken) [] [] (He.fAd K ("_law_taken", none)) fd) : Binds K fd ["_law_row", "_law_many"] [] := F.bindsN (fun _ _ _ _ _ _ us hl => match us, hl with | [_, _], _ => rfl)
theorem ok__law_taken (Fa : Facts K mg base) {d : Nat} (C : Cs P w K mg base d) : CallOk P w K mg base (gs K) (2 * (d + 1) + 1) "_law_taken" (He.fAd K ("_law_taken", none)) 2 (run (d + 1) 6) := by
  obtain ⟨fd, FD⟩ := Fa.d__law_taken
  have S := sc__law_taken
  refine callOk_of (k := 2 * d + 2) (N := N__law_taken) (ψ := b__law_taken (run d)) FD S rfl (bi__law_taken FD) Fa.g__law_taken fun cdv hcd A outer s H E hr => ?_
  have tk : L2.Takes (cxOf (L2.CX P w) P w K mg base N__law_taken "_law_taken" (defScope s__law_taken) (He.fAd K ("_law_taken", none)) cdv A outer s H E) (fun cls d _ H => E cls d H) := takes_of rfl rfl rfl rfl
  unfold b__law_taken
  exact (SSs.cons (SS.ife (ST.cmp sop_gt (SE.ix (SE.var (i := 0)) SE.int) SE.int) (SSs.cons (SS.set (i := 3) S.nd rfl (.inl rfl) (SE.bin sop_mod (SE.callTy sc_int (SA.cons (SE.ix (SE.var (i := 0)) SE.int) SA.nil) rfl Fa.n_int PyProof.Rows.boot_int) (SE.var (i := 1)))) (SSs.cons (SS.asg (SE.bin sop_fdiv (SE.ix (SE.var (i := 0)) SE.int) (SE.var (i := 1))) (SG.sub (SE.var (i := 0)) SE.int)) (SSs.one (SS.ret (SE.var (i := 3)))))) SSs.nil) (SSs.cons (SS.asg (SE.bin sop_add (SE.ix (SE.var (i := 0)) SE.int) SE.int) (SG.sub (SE.var (i := 0)) SE.int)) (SSs.cons (SS.ife (ST.cmp sop_gt (SE.ix (SE.var (i := 0)) SE.int) (SE.len (SQ.ofE (SE.ix (SE.var (i := 0)) SE.int)) rfl Fa.n_len)) (SSs.cons (SS.asg (SE.bin sop_mod (SE.callTy sc_int (SA.cons (SE.bin sop_add (SE.bin sop_mul (SE.ix (SE.var (i := 0)) SE.int) SE.int) SE.int) SA.nil) rfl Fa.n_int PyProof.Rows.boot_int) SE.int) (SG.sub (SE.var (i := 0)) SE.int)) (SSs.one (SS.ret (SE.bin sop_mod (SE.callTy sc_int (SA.cons (SE.bin sop_fdiv (SE.ix (SE.var (i := 0)) SE.int) SE.int) SA.nil) rfl Fa.n_int PyProof.Rows.boot_int) (SE.var (i := 1)))))) SSs.nil) (SSs.cons (SS.set (i := 2) S.nd rfl (.inl rfl) (SE.ix (SE.ix (SE.var (i := 0)) SE.int) (SE.bin sop_sub (SE.ix (SE.var (i := 0)) SE.int) SE.int))) (SSs.cons (SS.asg (SE.bin sop_mod (SE.callTy sc_int (SA.cons (SE.bin sop_add (SE.bin sop_add (SE.bin sop_mul (SE.ix (SE.var (i := 0)) SE.int) SE.int) (SE.var (i := 2))) SE.int) SA.nil) rfl Fa.n_int PyProof.Rows.boot_int) SE.int) (SG.sub (SE.var (i := 0)) SE.int)) (SSs.cons (SS.ife (ST.cmp sop_ge (SE.var (i := 2)) (SE.bin sop_pow SE.int SE.int)) (SSs.one (SS.asg (SE.bin sop_fdiv (SE.var (i := 2)) (SE.var (i := 1))) (SG.sub (SE.var (i := 0)) SE.int))) SSs.nil) (SSs.one (SS.ret (SE.bin sop_mod (SE.callTy sc_int (SA.cons (SE.var (i := 2)) SA.nil) rfl Fa.n_int PyProof.Rows.boot_int) (SE.var (i := 1)))))))))))
theorem bi__law_order {fd : FuncData} (F : FunD K "_law_order" "_law_order" (defArgs s__law_order) (defBody s__law_order) (defScope s__law_order) [] [] (He.fAd K ("_law_order", none)) fd) : Binds K fd ["_law_row", "_law_many"] [] := F.bindsN (fun _ _ _ _ _ _ us hl => match us, hl with | [_, _], _ => rfl)
theorem ok__law_order (Fa : Facts K mg base) {d : Nat} (C : Cs P w K mg base d) : CallOk P w K mg base (gs K) (2 * (d + 1) + 1) "_law_order" (He.fAd K ("_law_order", none)) 2 (run (d + 1) 7) := by
  obtain ⟨fd, FD⟩ := Fa.d__law_order
  have S := sc__law_order
  refine callOk_of (k := 2 * d + 2) (N := N__law_order) (ψ := b__law_order (run d)) FD S rfl (bi__law_order FD) Fa.g__law_order fun cdv hcd A outer s H E hr => ?_
  have tk : L2.Takes (cxOf (L2.CX P w) P w K mg base N__law_order "_law_order" (defScope s__law_order) (He.fAd K ("_law_order", none)) cdv A outer s H E) (fun cls d _ H => E cls d H) := takes_of rfl rfl rfl rfl
  unfold b__law_order
  exact (SSs.cons (SS.par (i := 2) (j := 3) rfl S.nd rfl rfl (by decide) rfl rfl (SE.ofL (SL.rng1 rfl rfl Fa.n_list rfl Fa.n_range (SE.var (i := 1)))) (SE.ofL (SL.disp SA.nil)) rfl) (SSs.cons (SS.whl (n := fuel) (passes_of rfl) (ST.eqX (neg := true) hr.units (SX.of (SE.var (i := 2))) (SX.ofL (SL.disp SA.nil))) (SSs.one (SS.expr (SE.met ty_L F.plainAttrs_list F.slot_list_append F.type_list_append sm_append (SE.var (i := 3)) (SA.cons (SE.met ty_L F.plainAttrs_list F.slot_list_pop F.type_list_pop sm_popAt (SE.var (i := 2)) (SA.cons (SE.call (C.c6) (hr.mono (by omega)) tk rfl (SA.cons (SE.var (i := 0)) (SA.cons (SE.len (SQ.ofE (SE.var (i := 2))) rfl Fa.n_len) SA.nil))) SA.nil)) SA.nil))))) (SSs.one (SS.ret (SE.tupleR (SR.ofE (SE.var (i := 3))) rfl Fa.n_tuple)))))
theorem bi__law_habit {fd : FuncData} (F : FunD K "_law_habit" "_law_habit" (defArgs s__law_habit) (defBody s__law_habit) (defScope s__law_habit) [] [] (He.fAd K ("_law_habit", none)) fd) : Binds K fd ["_law_row", "_law_places"] [] := F.bindsN (fun _ _ _ _ _ _ us hl => match us, hl with | [_, _], _ => rfl)
theorem ok__law_habit (Fa : Facts K mg base) {d : Nat} (C : Cs P w K mg base d) : CallOk P w K mg base (gs K) (2 * (d + 1) + 1) "_law_habit" (He.fAd K ("_law_habit", none)) 2 (run (d + 1) 8) := by
  obtain ⟨fd, FD⟩ := Fa.d__law_habit
  have S := sc__law_habit
  refine callOk_of (k := 2 * d + 2) (N := N__law_habit) (ψ := b__law_habit (run d)) FD S rfl (bi__law_habit FD) Fa.g__law_habit fun cdv hcd A outer s H E hr => ?_
  have tk : L2.Takes (cxOf (L2.CX P w) P w K mg base N__law_habit "_law_habit" (defScope s__law_habit) (He.fAd K ("_law_habit", none)) cdv A outer s H E) (fun cls d _ H => E cls d H) := takes_of rfl rfl rfl rfl
  unfold b__law_habit
  exact (SSs.cons (SS.par (i := 3) (j := 4) rfl S.nd rfl rfl (by decide) rfl rfl (SE.call (C.c6) (hr.mono (by omega)) tk rfl (SA.cons (SE.var (i := 0)) (SA.cons SE.int SA.nil))) (SE.ofL (SL.disp SA.nil)) rfl) (SSs.cons (SS.for (passes_of rfl) rfl (SI.rng1 rfl Fa.n_range (SE.var (i := 1))) (SG.name S.nd (i := 2) rfl (.inr rfl)) (SSs.one (SS.ife (ST.cmp (sop_eq hr.units) (SE.var (i := 3)) SE.int) (SSs.one (SS.expr (SE.met ty_L F.plainAttrs_list F.slot_list_append F.type_list_append sm_append (SE.var (i := 4)) (SA.cons (SE.tupleR (SR.ofL (SL.comp (own := [("_law_spot", 7)]) rfl S.nd (SI.rng1 rfl Fa.n_range (SE.var (i := 1))) (blkOk_by rfl) (SCg.one S.nd rfl (by decide) (fun _ _ _ _ _ => ⟨.inl rfl, .inr rfl⟩)) STs.nil (fun _ _ _ _ _ => (SE.bin sop_mod (SE.bin sop_add (SE.var (i := 7)) (SE.var (i := 2))) (SE.var (i := 1)))))) rfl Fa.n_tuple) SA.nil)))) (SSs.one (SS.ife (ST.cmp (sop_eq hr.units) (SE.var (i := 3)) SE.int) (SSs.cons (SS.setComp (i := 5) (own := [("_law_spot", 7)]) rfl S.nd rfl rfl (L2.sw_true rfl rfl rfl rfl) (SI.rng1 rfl Fa.n_range (SE.var (i := 1))) (blkOk_by rfl) (SCg.one S.nd rfl (by decide) (fun _ _ _ _ _ => ⟨.inl rfl, .inr rfl⟩)) STs.nil (fun _ _ _ _ _ => (SE.bin sop_add (SE.var (i := 7)) (SE.callTy sc_int (SA.cons (SE.cmp sop_lt (SE.var (i := 7)) (SE.var (i := 2))) SA.nil) rfl Fa.n_int PyProof.Rows.boot_int)))) (SSs.one (SS.expr (SE.met ty_L F.plainAttrs_list F.slot_list_append F.type_list_append sm_append (SE.var (i := 4)) (SA.cons (SE.tupleR (SR.ofL (SL.cat (SL.cat (SL.slE (SE.var (i := 5)) SO.none (SO.some (SE.var (i := 2)))) (SL.disp (SA.cons SE.int SA.nil))) (SL.slE (SE.var (i := 5)) (SO.some (SE.bin sop_add (SE.var (i := 2)) SE.int)) SO.none))) rfl Fa.n_tuple) SA.nil))))) (SSs.one (SS.ife (ST.cmp (sop_eq hr.units) (SE.var (i := 3)) SE.int) (SSs.cons (SS.set (i := 6) S.nd rfl (.inl rfl) (SE.callB (sc_max rfl) (SA.cons SE.int (SA.cons (SE.bin sop_sub (SE.var (i := 2)) SE.int) SA.nil)) rfl Fa.n_max PyProof.Rows.boot_max)) (SSs.cons (SS.set (i := 5) S.nd rfl (.inl rfl) (SE.ofL (SL.rng1 rfl rfl Fa.n_list rfl Fa.n_range (SE.var (i := 1))))) (SSs.cons (SS.asg (SE.tup (SA.cons (SE.var (i := 6)) (SA.cons (SE.var (i := 2)) SA.nil))) (SG.strong (SG.tup (n := 2) rfl (SGs.cons (SG.sub (SE.var (i := 5)) (SE.var (i := 2))) (SGs.cons (SG.sub (SE.var (i := 5)) (SE.var (i := 6))) SGs.nil))))) (SSs.one (SS.expr (SE.met ty_L F.plainAttrs_list F.slot_list_append F.type_list_append sm_append (SE.var (i := 4)) (SA.cons (SE.tupleR (SR.ofE (SE.var (i := 5))) rfl Fa.n_tuple) SA.nil))))))) (SSs.one (SS.ife (SW.st (SW.and (ST.cmp (sop_eq hr.units) (SE.var (i := 3)) SE.int) (SW.and1 (ST.cmp (sop_eq hr.units) (SE.call (C.c6) (hr.mono (by omega)) tk rfl (SA.cons (SE.var (i := 0)) (SA.cons SE.int SA.nil))) SE.int)))) (SSs.one (SS.expr (SE.met ty_L F.plainAttrs_list F.slot_list_append F.type_list_append sm_append (SE.var (i := 4)) (SA.cons (SE.trng1 rfl rfl Fa.n_tuple rfl Fa.n_range (SE.var (i := 1))) SA.nil)))) (SSs.one (SS.expr (SE.met ty_L F.plainAttrs_list F.slot_list_append F.type_list_append sm_append (SE.var (i := 4)) (SA.cons (SE.call (C.c7) (hr.mono (by omega)) tk rfl (SA.cons (SE.var (i := 0)) (SA.cons (SE.var (i := 1)) SA.nil))) SA.nil))))))))))))) (SSs.one (SS.ret (SE.tupleR (SR.ofE (SE.var (i := 4))) rfl Fa.n_tuple)))))
theorem bi__law_lot {fd : FuncData} (F : FunD K "_law_lot" "_law_lot" (defArgs s__law_lot) (defBody s__law_lot) (defScope s__law_lot) [] [] (He.fAd K ("_law_lot", none)) fd) : Binds K fd ["_law_row", "_law_places"] [] := F.bindsN (fun _ _ _ _ _ _ us hl => match us, hl with | [_, _], _ => rfl)
theorem ok__law_lot (Fa : Facts K mg base) {d : Nat} (C : Cs P w K mg base d) : CallOk P w K mg base (gs K) (2 * (d + 1) + 1) "_law_lot" (He.fAd K ("_law_lot", none)) 2 (run (d + 1) 9) := by
  obtain ⟨fd, FD⟩ := Fa.d__law_lot
  have S := sc__law_lot
  refine callOk_of (k := 2 * d + 2) (N := N__law_lot) (ψ := b__law_lot (run d)) FD S rfl (bi__law_lot FD) Fa.g__law_lot fun cdv hcd A outer s H E hr => ?_
  have tk : L2.Takes (cxOf (L2.CX P w) P w K mg base N__law_lot "_law_lot" (defScope s__law_lot) (He.fAd K ("_law_lot", none)) cdv A outer s H E) (fun cls d _ H => E cls d H) := takes_of rfl rfl rfl rfl
  unfold b__law_lot
  exact (SSs.cons (SS.setComp (i := 2) (own := [("_law_place", 3)]) rfl S.nd rfl rfl (L2.sw_true rfl rfl rfl rfl) (SI.rng1 rfl Fa.n_range (SE.var (i := 1))) (blkOk_by rfl) (SCg.one S.nd rfl (by decide) (fun _ _ _ _ _ => ⟨.inl rfl, .inr rfl⟩)) (STs.one (fun _ _ _ _ _ => (ST.cmp sop_gt (SE.call (C.c6) (hr.mono (by omega)) takes_wf rfl (SA.cons (SE.var (i := 0)) (SA.cons SE.int SA.nil))) SE.int))) (fun _ _ _ _ _ => (SE.var (i := 3)))) (SSs.one (SS.ret (SE.ifx (ST.eqX (neg := true) hr.units (SX.of (SE.var (i := 2))) (SX.ofL (SL.disp SA.nil))) (SE.tupleR (SR.ofE (SE.var (i := 2))) rfl Fa.n_tuple) (SE.trng1 rfl rfl Fa.n_tuple rfl Fa.n_range (SE.var (i := 1)))))))
theorem bi__law_pick {fd : FuncData} (F : FunD K "_law_pick" "_law_pick" (defArgs s__law_pick) (defBody s__law_pick) (defScope s__law_pick) [] [] (He.fAd K ("_law_pick", none)) fd) : Binds K fd ["_law_row", "_law_things"] [] := F.bindsN (fun _ _ _ _ _ _ us hl => match us, hl with | [_, _], _ => rfl)
theorem ok__law_pick (Fa : Facts K mg base) {d : Nat} (C : Cs P w K mg base d) : CallOk P w K mg base (gs K) (2 * (d + 1) + 1) "_law_pick" (He.fAd K ("_law_pick", none)) 2 (run (d + 1) 10) := by
  obtain ⟨fd, FD⟩ := Fa.d__law_pick
  have S := sc__law_pick
  refine callOk_of (k := 2 * d + 2) (N := N__law_pick) (ψ := b__law_pick (run d)) FD S rfl (bi__law_pick FD) Fa.g__law_pick fun cdv hcd A outer s H E hr => ?_
  have tk : L2.Takes (cxOf (L2.CX P w) P w K mg base N__law_pick "_law_pick" (defScope s__law_pick) (He.fAd K ("_law_pick", none)) cdv A outer s H E) (fun cls d _ H => E cls d H) := takes_of rfl rfl rfl rfl
  unfold b__law_pick
  exact (SSs.one (SS.ret (SE.ix (SE.var (i := 1)) (SE.call (C.c6) (hr.mono (by omega)) tk rfl (SA.cons (SE.var (i := 0)) (SA.cons (SE.len (SQ.ofE (SE.var (i := 1))) rfl Fa.n_len) SA.nil))))))
theorem bi__law_alike {fd : FuncData} (F : FunD K "_law_alike" "_law_alike" (defArgs s__law_alike) (defBody s__law_alike) (defScope s__law_alike) [] [] (He.fAd K ("_law_alike", none)) fd) : Binds K fd ["_law_found", "_law_due"] [] := F.bindsN (fun _ _ _ _ _ _ us hl => match us, hl with | [_, _], _ => rfl)
theorem ok__law_alike (Fa : Facts K mg base) {d : Nat} (C : Cs P w K mg base d) : CallOk P w K mg base (gs K) (2 * (d + 1) + 1) "_law_alike" (He.fAd K ("_law_alike", none)) 2 (run (d + 1) 11) := by
  obtain ⟨fd, FD⟩ := Fa.d__law_alike
  have S := sc__law_alike
  refine callOk_of (k := 2 * d + 2) (N := N__law_alike) (ψ := b__law_alike (run d)) FD S rfl (bi__law_alike FD) Fa.g__law_alike fun cdv hcd A outer s H E hr => ?_
  have tk : L2.Takes (cxOf (L2.CX P w) P w K mg base N__law_alike "_law_alike" (defScope s__law_alike) (He.fAd K ("_law_alike", none)) cdv A outer s H E) (fun cls d _ H => E cls d H) := takes_of rfl rfl rfl rfl
  unfold b__law_alike
  exact (SSs.cons (SS.ife (ST.val (SE.isi2 isi_tuple isi_list rfl Fa.n_isinstance rfl Fa.n_tuple (by decide +kernel) rfl Fa.n_list (by decide +kernel) (SE.var (i := 1)))) (SSs.cons (SS.ife (SW.st (SW.or (ST.not (ST.val (SE.isi2 isi_tuple isi_list rfl Fa.n_isinstance rfl Fa.n_tuple (by decide +kernel) rfl Fa.n_list (by decide +kernel) (SE.var (i := 0))))) (SW.or1 (ST.cmp (sop_ne hr.units) (SE.isi isi_list rfl Fa.n_isinstance rfl Fa.n_list (by decide +kernel) (SE.var (i := 0))) (SE.isi isi_list rfl Fa.n_isinstance rfl Fa.n_list (by decide +kernel) (SE.var (i := 1))))))) (SSs.one (SS.ret SE.bl)) SSs.nil) (SSs.cons (SS.ife (ST.cmp (sop_ne hr.units) (SE.len (SQ.ofE (SE.var (i := 0))) rfl Fa.n_len) (SE.len (SQ.ofE (SE.var (i := 1))) rfl Fa.n_len)) (SSs.one (SS.ret SE.bl)) SSs.nil) (SSs.one (SS.ret (SE.eqX (neg := false) hr.units (SX.ofL (SL.comp (own := [("_law_k", 2)]) rfl S.nd (SI.rng1 rfl Fa.n_range (SE.len (SQ.ofE (SE.var (i := 1))) rfl Fa.n_len)) (blkOk_by rfl) (SCg.one S.nd rfl (by decide) (fun _ _ _ _ _ => ⟨.inl rfl, .inr rfl⟩)) (STs.one (fun _ _ _ _ _ => (ST.not (ST.val (SE.call (C.c11) (hr.mono (by omega)) takes_wf rfl (SA.cons (SE.ix (SE.var (i := 0)) (SE.var (i := 2))) (SA.cons (SE.ix (SE.var (i := 1)) (SE.var (i := 2))) SA.nil))))))) (fun _ _ _ _ _ => (SE.var (i := 2))))) (SX.ofL (SL.disp SA.nil))))))) SSs.nil) (SSs.cons (SS.ife (SW.st (SW.or (ST.isN (SE.var (i := 1))) (SW.or1 (ST.val (SE.isi isi_str rfl Fa.n_isinstance rfl Fa.n_str (by decide +kernel) (SE.var (i := 1))))))) (SSs.one (SS.ret (SE.and (SE.cmp (sop_eq hr.units) (SE.var (i := 0)) (SE.var (i := 1))) (SE.one (SE.cmp (sop_eq hr.units) (SE.isi isi_str rfl Fa.n_isinstance rfl Fa.n_str (by decide +kernel) (SE.var (i := 0))) (SE.isi isi_str rfl Fa.n_isinstance rfl Fa.n_str (by decide +kernel) (SE.var (i := 1)))))))) SSs.nil) (SSs.one (SS.ret (SE.and (SE.isi isi_int rfl Fa.n_isinstance rfl Fa.n_int (by decide +kernel) (SE.var (i := 0))) (SE.and (SE.cmp (sop_eq hr.units) (SE.isi isi_bool rfl Fa.n_isinstance rfl Fa.n_bool (by decide +kernel) (SE.var (i := 0))) (SE.isi isi_bool rfl Fa.n_isinstance rfl Fa.n_bool (by decide +kernel) (SE.var (i := 1)))) (SE.one (SE.cmp (sop_eq hr.units) (SE.var (i := 0)) (SE.var (i := 1))))))))))
theorem bi_law {fd : FuncData} (F : FunD K "law" "law" (defArgs s_law) (defBody s_law) (defScope s_law) [] [] (He.fAd K ("law", none)) fd) : Binds K fd ["_law_script"] [] := F.bindsN (fun _ _ _ _ _ _ us hl => match us, hl with | [_], _ => rfl)
theorem ok_law (Fa : Facts K mg base) {d : Nat} (C : Cs P w K mg base d) : CallOk P w K mg base (gs K) (2 * (d + 1) + 1) "law" (He.fAd K ("law", none)) 1 (run (d + 1) 12) := by
  obtain ⟨fd, FD⟩ := Fa.d_law
  have S := sc_law
  refine callOk_of (k := 2 * d + 2) (N := N_law) (ψ := b_law (run d)) FD S rfl (bi_law FD) Fa.g_law fun cdv hcd A outer s H E hr => ?_
  have tk : L2.Takes (cxOf (L2.CX P w) P w K mg base N_law "law" (defScope s_law) (He.fAd K ("law", none)) cdv A outer s H E) (fun cls d _ H => E cls d H) := takes_of rfl rfl rfl rfl
  unfold b_law
  exact (SSs.cons (SS.set (i := 1) S.nd rfl (.inr rfl) (SE.ofL (SL.disp (SA.cons (SE.var (i := 0)) (SA.cons SE.int (SA.cons SE.int (SA.cons SE.int SA.nil))))))) (SSs.cons (SS.set (i := 2) S.nd rfl (.inr rfl) (SE.bin sop_add SE.int (SE.call (C.c6) (hr.mono (by omega)) tk rfl (SA.cons (SE.var (i := 1)) (SA.cons SE.int SA.nil))))) (SSs.cons (SS.set (i := 3) S.nd rfl (.inl rfl) (SE.tupleR (SR.ofL (SL.comp (own := [("_law_turn", 14)]) rfl S.nd (SI.rng1 rfl Fa.n_range (SE.bin sop_add SE.int (SE.call (C.c6) (hr.mono (by omega)) tk rfl (SA.cons (SE.var (i := 1)) (SA.cons SE.int SA.nil))))) (blkOk_by rfl) (SCg.one S.nd rfl (by decide) (fun _ _ _ _ _ => ⟨.inl rfl, .inr rfl⟩)) STs.nil (fun _ _ _ _ _ => (SE.call (C.c8) (hr.mono (by omega)) takes_wf rfl (SA.cons (SE.var (i := 1)) (SA.cons (SE.var (i := 2)) SA.nil)))))) rfl Fa.n_tuple)) (SSs.cons (SS.set (i := 4) S.nd rfl (.inr rfl) (SE.call (C.c9) (hr.mono (by omega)) tk rfl (SA.cons (SE.var (i := 1)) (SA.cons (SE.var (i := 2)) SA.nil)))) (SSs.cons (SS.for (passes_of rfl) rfl (SI.rng1 rfl Fa.n_range SE.int) (SG.name S.nd (i := 14) rfl (.inl rfl)) (SSs.cons (SS.par (i := 9) (j := 10) rfl S.nd rfl rfl (by decide) rfl rfl (SE.call (C.c10) (hr.mono (by omega)) tk rfl (SA.cons (SE.var (i := 1)) (SA.cons (SE.ofL (SL.list (SQ.ofE (SE.var (i := 4))) rfl Fa.n_list)) SA.nil))) (SE.call (C.c10) (hr.mono (by omega)) tk rfl (SA.cons (SE.var (i := 1)) (SA.cons (SE.ofL (SL.list (SQ.ofE (SE.var (i := 4))) rfl Fa.n_list)) SA.nil))) rfl) (SSs.cons (SS.set (i := 5) S.nd rfl (.inl rfl) (SE.tupleR (SR.ofL (SL.comp (own := [("_law_step", 15)]) rfl S.nd (SI.rng1 rfl Fa.n_range (SE.call (C.c6) (hr.mono (by omega)) tk rfl (SA.cons (SE.var (i := 1)) (SA.cons SE.int SA.nil)))) (blkOk_by rfl) (SCg.one S.nd rfl (by decide) (fun _ _ _ _ _ => ⟨.inl rfl, .inr rfl⟩)) STs.nil (fun _ _ _ _ _ => (SE.call (C.c10) (hr.mono (by omega)) takes_wf rfl (SA.cons (SE.var (i := 1)) (SA.cons (SE.ofL (SL.list (SQ.ofE (SE.var (i := 4))) rfl Fa.n_list)) SA.nil)))))) rfl Fa.n_tuple)) (SSs.cons (SS.set (i := 6) S.nd rfl (.inr rfl) (SE.ofL (SL.disp SA.nil))) (SSs.cons (SS.for (passes_of rfl) rfl (SI.of (SE.var (i := 3))) (SG.name S.nd (i := 7) rfl (.inl rfl)) (SSs.cons (SS.set (i := 11) S.nd rfl (.inl rfl) (SE.ix (SE.ix (SE.var (i := 7)) (SE.var (i := 9))) (SE.var (i := 9)))) (SSs.cons (SS.for (passes_of rfl) rfl (SI.of (SE.var (i := 5))) (SG.name S.nd (i := 12) rfl (.inl rfl)) (SSs.one (SS.set (i := 11) S.nd rfl (.inl rfl) (SE.ix (SE.ix (SE.var (i := 7)) (SE.var (i := 12))) (SE.var (i := 11)))))) (SSs.one (SS.expr (SE.met ty_L F.plainAttrs_list F.slot_list_append F.type_list_append sm_append (SE.var (i := 6)) (SA.cons (SE.cmp (sop_eq hr.units) (SE.var (i := 11)) (SE.var (i := 10))) SA.nil))))))) (SSs.one (SS.for (passes_of rfl) rfl (SI.ofL (SL.disp (SA.cons SE.bl (SA.cons SE.bl SA.nil)))) (SG.name S.nd (i := 8) rfl (.inr rfl)) (SSs.cons (SS.set (i := 13) S.nd rfl (.inl rfl) (SE.tupleR (SR.ofL (SL.comp (own := [("_law_at", 16)]) rfl S.nd (SI.rng1 rfl Fa.n_range (SE.len (SQ.ofE (SE.var (i := 3))) rfl Fa.n_len)) (blkOk_by rfl) (SCg.one S.nd rfl (by decide) (fun _ _ _ _ _ => ⟨.inl rfl, .inr rfl⟩)) (STs.one (fun _ _ _ _ _ => (ST.cmp (sop_eq hr.units) (SE.ix (SE.var (i := 6)) (SE.var (i := 16))) (SE.var (i := 8))))) (fun _ _ _ _ _ => (SE.var (i := 16))))) rfl Fa.n_tuple)) (SSs.one (SS.ife (ST.not (ST.val (SE.call (C.c11) (hr.mono (by omega)) tk rfl (SA.cons (SE.call (C.c5) (hr.mono (by omega)) tk rfl (SA.cons (SE.var (i := 3)) (SA.cons (SE.var (i := 4)) (SA.cons (SE.var (i := 9)) (SA.cons (SE.var (i := 5)) (SA.cons (SE.var (i := 10)) (SA.cons (SE.var (i := 8)) SA.nil))))))) (SA.cons (SE.var (i := 13)) SA.nil))))) (SSs.one (SS.ret SE.bl)) SSs.nil)))))))))) (SSs.one (SS.ret SE.bl)))))))
theorem fn_law (Fa : Facts K mg base) {d : Nat} (C : Cs P w K mg base d) {fd : FuncData} (FD : FunD K "law" "law" (defArgs s_law) (defBody s_law) (defScope s_law) [] [] (He.fAd K ("law", none)) fd) : FnOk P w K mg base (L2.CX P w) (2 * (d + 1) + 1) (He.fAd K ("law", none)) fd ["_law_script"] (spF K (gs K) 1 (run (d + 1) 12)) := by
  have S := sc_law
  refine fnOk_of (k := 2 * d + 2) (N := N_law) (ψ := b_law (run d)) FD S rfl fun cdv hcd A outer s H E hr => ?_
  have tk : L2.Takes (cxOf (L2.CX P w) P w K mg base N_law "law" (defScope s_law) (He.fAd K ("law", none)) cdv A outer s H E) (fun cls d _ H => E cls d H) := takes_of rfl rfl rfl rfl
  unfold b_law
  exact (SSs.cons (SS.set (i := 1) S.nd rfl (.inr rfl) (SE.ofL (SL.disp (SA.cons (SE.var (i := 0)) (SA.cons SE.int (SA.cons SE.int (SA.cons SE.int SA.nil))))))) (SSs.cons (SS.set (i := 2) S.nd rfl (.inr rfl) (SE.bin sop_add SE.int (SE.call (C.c6) (hr.mono (by omega)) tk rfl (SA.cons (SE.var (i := 1)) (SA.cons SE.int SA.nil))))) (SSs.cons (SS.set (i := 3) S.nd rfl (.inl rfl) (SE.tupleR (SR.ofL (SL.comp (own := [("_law_turn", 14)]) rfl S.nd (SI.rng1 rfl Fa.n_range (SE.bin sop_add SE.int (SE.call (C.c6) (hr.mono (by omega)) tk rfl (SA.cons (SE.var (i := 1)) (SA.cons SE.int SA.nil))))) (blkOk_by rfl) (SCg.one S.nd rfl (by decide) (fun _ _ _ _ _ => ⟨.inl rfl, .inr rfl⟩)) STs.nil (fun _ _ _ _ _ => (SE.call (C.c8) (hr.mono (by omega)) takes_wf rfl (SA.cons (SE.var (i := 1)) (SA.cons (SE.var (i := 2)) SA.nil)))))) rfl Fa.n_tuple)) (SSs.cons (SS.set (i := 4) S.nd rfl (.inr rfl) (SE.call (C.c9) (hr.mono (by omega)) tk rfl (SA.cons (SE.var (i := 1)) (SA.cons (SE.var (i := 2)) SA.nil)))) (SSs.cons (SS.for (passes_of rfl) rfl (SI.rng1 rfl Fa.n_range SE.int) (SG.name S.nd (i := 14) rfl (.inl rfl)) (SSs.cons (SS.par (i := 9) (j := 10) rfl S.nd rfl rfl (by decide) rfl rfl (SE.call (C.c10) (hr.mono (by omega)) tk rfl (SA.cons (SE.var (i := 1)) (SA.cons (SE.ofL (SL.list (SQ.ofE (SE.var (i := 4))) rfl Fa.n_list)) SA.nil))) (SE.call (C.c10) (hr.mono (by omega)) tk rfl (SA.cons (SE.var (i := 1)) (SA.cons (SE.ofL (SL.list (SQ.ofE (SE.var (i := 4))) rfl Fa.n_list)) SA.nil))) rfl) (SSs.cons (SS.set (i := 5) S.nd rfl (.inl rfl) (SE.tupleR (SR.ofL (SL.comp (own := [("_law_step", 15)]) rfl S.nd (SI.rng1 rfl Fa.n_range (SE.call (C.c6) (hr.mono (by omega)) tk rfl (SA.cons (SE.var (i := 1)) (SA.cons SE.int SA.nil)))) (blkOk_by rfl) (SCg.one S.nd rfl (by decide) (fun _ _ _ _ _ => ⟨.inl rfl, .inr rfl⟩)) STs.nil (fun _ _ _ _ _ => (SE.call (C.c10) (hr.mono (by omega)) takes_wf rfl (SA.cons (SE.var (i := 1)) (SA.cons (SE.ofL (SL.list (SQ.ofE (SE.var (i := 4))) rfl Fa.n_list)) SA.nil)))))) rfl Fa.n_tuple)) (SSs.cons (SS.set (i := 6) S.nd rfl (.inr rfl) (SE.ofL (SL.disp SA.nil))) (SSs.cons (SS.for (passes_of rfl) rfl (SI.of (SE.var (i := 3))) (SG.name S.nd (i := 7) rfl (.inl rfl)) (SSs.cons (SS.set (i := 11) S.nd rfl (.inl rfl) (SE.ix (SE.ix (SE.var (i := 7)) (SE.var (i := 9))) (SE.var (i := 9)))) (SSs.cons (SS.for (passes_of rfl) rfl (SI.of (SE.var (i := 5))) (SG.name S.nd (i := 12) rfl (.inl rfl)) (SSs.one (SS.set (i := 11) S.nd rfl (.inl rfl) (SE.ix (SE.ix (SE.var (i := 7)) (SE.var (i := 12))) (SE.var (i := 11)))))) (SSs.one (SS.expr (SE.met ty_L F.plainAttrs_list F.slot_list_append F.type_list_append sm_append (SE.var (i := 6)) (SA.cons (SE.cmp (sop_eq hr.units) (SE.var (i := 11)) (SE.var (i := 10))) SA.nil))))))) (SSs.one (SS.for (passes_of rfl) rfl (SI.ofL (SL.disp (SA.cons SE.bl (SA.cons SE.bl SA.nil)))) (SG.name S.nd (i := 8) rfl (.inr rfl)) (SSs.cons (SS.set (i := 13) S.nd rfl (.inl rfl) (SE.tupleR (SR.ofL (SL.comp (own := [("_law_at", 16)]) rfl S.nd (SI.rng1 rfl Fa.n_range (SE.len (SQ.ofE (SE.var (i := 3))) rfl Fa.n_len)) (blkOk_by rfl) (SCg.one S.nd rfl (by decide) (fun _ _ _ _ _ => ⟨.inl rfl, .inr rfl⟩)) (STs.one (fun _ _ _ _ _ => (ST.cmp (sop_eq hr.units) (SE.ix (SE.var (i := 6)) (SE.var (i := 16))) (SE.var (i := 8))))) (fun _ _ _ _ _ => (SE.var (i := 16))))) rfl Fa.n_tuple)) (SSs.one (SS.ife (ST.not (ST.val (SE.call (C.c11) (hr.mono (by omega)) tk rfl (SA.cons (SE.call (C.c5) (hr.mono (by omega)) tk rfl (SA.cons (SE.var (i := 3)) (SA.cons (SE.var (i := 4)) (SA.cons (SE.var (i := 9)) (SA.cons (SE.var (i := 5)) (SA.cons (SE.var (i := 10)) (SA.cons (SE.var (i := 8)) SA.nil))))))) (SA.cons (SE.var (i := 13)) SA.nil))))) (SSs.one (SS.ret SE.bl)) SSs.nil)))))))))) (SSs.one (SS.ret SE.bl)))))))
theorem cs (F : Facts K mg base) : ∀ d, Cs P w K mg base d
  | 0 => ⟨(let ⟨_, FD⟩ := F.d_is_number; CallOk.zero rfl (bi_is_number FD) F.g_is_number FD.kp), (let ⟨_, FD⟩ := F.d_is_permutation; CallOk.zero rfl (bi_is_permutation FD) F.g_is_permutation FD.kp), (let ⟨_, FD⟩ := F.d_need_habit; CallOk.zero rfl (bi_need_habit FD) F.g_need_habit FD.kp), (let ⟨_, FD⟩ := F.d_need_habits; CallOk.zero rfl (bi_need_habits FD) F.g_need_habits FD.kp), (let ⟨_, FD⟩ := F.d_need_lot; CallOk.zero rfl (bi_need_lot FD) F.g_need_lot FD.kp), (let ⟨_, FD⟩ := F.d_habits_left; CallOk.zero rfl (bi_habits_left FD) F.g_habits_left FD.kp), (let ⟨_, FD⟩ := F.d__law_taken; CallOk.zero rfl (bi__law_taken FD) F.g__law_taken FD.kp), (let ⟨_, FD⟩ := F.d__law_order; CallOk.zero rfl (bi__law_order FD) F.g__law_order FD.kp), (let ⟨_, FD⟩ := F.d__law_habit; CallOk.zero rfl (bi__law_habit FD) F.g__law_habit FD.kp), (let ⟨_, FD⟩ := F.d__law_lot; CallOk.zero rfl (bi__law_lot FD) F.g__law_lot FD.kp), (let ⟨_, FD⟩ := F.d__law_pick; CallOk.zero rfl (bi__law_pick FD) F.g__law_pick FD.kp), (let ⟨_, FD⟩ := F.d__law_alike; CallOk.zero rfl (bi__law_alike FD) F.g__law_alike FD.kp), (let ⟨_, FD⟩ := F.d_law; CallOk.zero rfl (bi_law FD) F.g_law FD.kp)⟩
  | d + 1 => have C := cs F d; ⟨ok_is_number F C, ok_is_permutation F C, ok_need_habit F C, ok_need_habits F C, ok_need_lot F C, ok_habits_left F C, ok__law_taken F C, ok__law_order F C, ok__law_habit F C, ok__law_lot F C, ok__law_pick F C, ok__law_alike F C, ok_law F C⟩
end
end K15

set_option Elab.async false
set_option linter.all false
set_option maxRecDepth 100000
set_option maxHeartbeats 0
namespace K15
open PySem PySem.Spec PyProof.Rows L2 GX GxR DL
def fa : List He.Fa := [.glo "is_number", .glo "is_permutation", .glo "need_habit", .glo "need_habits", .glo "need_lot", .glo "habits_left", .glo "_law_taken", .glo "_law_order", .glo "_law_habit", .glo "_law_lot", .glo "_law_pick", .glo "_law_alike", .glo "law"]
def fb : List He.Fa := [.free "all", .free "bool", .free "enumerate", .free "int", .free "isinstance", .free "len", .free "list", .free "max", .free "range", .free "set", .free "str", .free "tuple", .free "zip", .int "LEAST_PLACES" (2), .int "MOST_HABITS" (3), .int "MOST_PLACES" (5)]
def dd_is_number : He.DefD := ⟨("is_number", none), "is_number", "is_number", defArgs s_is_number, defBody s_is_number, defScope s_is_number, [], []⟩
def dd_is_permutation : He.DefD := ⟨("is_permutation", none), "is_permutation", "is_permutation", defArgs s_is_permutation, defBody s_is_permutation, defScope s_is_permutation, [], []⟩
def dd_need_habit : He.DefD := ⟨("need_habit", none), "need_habit", "need_habit", defArgs s_need_habit, defBody s_need_habit, defScope s_need_habit, [], []⟩
def dd_need_habits : He.DefD := ⟨("need_habits", none), "need_habits", "need_habits", defArgs s_need_habits, defBody s_need_habits, defScope s_need_habits, [], []⟩
def dd_need_lot : He.DefD := ⟨("need_lot", none), "need_lot", "need_lot", defArgs s_need_lot, defBody s_need_lot, defScope s_need_lot, [], []⟩
def dd_habits_left : He.DefD := ⟨("habits_left", none), "habits_left", "habits_left", defArgs s_habits_left, defBody s_habits_left, defScope s_habits_left, [], []⟩
def dd__law_taken : He.DefD := ⟨("_law_taken", none), "_law_taken", "_law_taken", defArgs s__law_taken, defBody s__law_taken, defScope s__law_taken, [], []⟩
def dd__law_order : He.DefD := ⟨("_law_order", none), "_law_order", "_law_order", defArgs s__law_order, defBody s__law_order, defScope s__law_order, [], []⟩
def dd__law_habit : He.DefD := ⟨("_law_habit", none), "_law_habit", "_law_habit", defArgs s__law_habit, defBody s__law_habit, defScope s__law_habit, [], []⟩
def dd__law_lot : He.DefD := ⟨("_law_lot", none), "_law_lot", "_law_lot", defArgs s__law_lot, defBody s__law_lot, defScope s__law_lot, [], []⟩
def dd__law_pick : He.DefD := ⟨("_law_pick", none), "_law_pick", "_law_pick", defArgs s__law_pick, defBody s__law_pick, defScope s__law_pick, [], []⟩
def dd__law_alike : He.DefD := ⟨("_law_alike", none), "_law_alike", "_law_alike", defArgs s__law_alike, defBody s__law_alike, defScope s__law_alike, [], []⟩
def dd_law : He.DefD := ⟨("law", none), "law", "law", defArgs s_law, defBody s_law, defScope s_law, [], []⟩
def fn : List He.DefD := [dd_is_number, dd_is_permutation, dd_need_habit, dd_need_habits, dd_need_lot, dd_habits_left, dd__law_taken, dd__law_order, dd__law_habit, dd__law_lot, dd__law_pick, dd__law_alike, dd_law]
def tf : List He.Defn := [("is_permutation", none), ("need_lot", none), ("habits_left", none)]
abbrev ex : PySem.W.Frag → Bool := fun K => K.all fun q => noLst q.2
abbrev Rr : PySem.W.OpenRow := PySem.W.OpenLaw.row PySem.Challenge.rw_restlesshelf_k15_whole_left
abbrev hk : PySem.W.Hook := He.hookX 4 (fa ++ fb) fn [] tf ex
def ob (s : PySem.W.SharedT) : He.AlX := He.obsX 4 (fa ++ fb) fn [] tf ex (HandSHeadRun.getT s)
theorem ob_eq (s : PySem.W.SharedT) : ob s = hk.obs s.abs := He.obsX_eq (HandSHeadRun.getT_eq s)
def ln0 : List PySem.Str := ["ShelfError", "BadHabit", "BadPlace", "BadHabits", "BadAnswer", "LEAST_PLACES", "MOST_PLACES", "is_number", "is_permutation", "need_habit", "MOST_HABITS", "need_habits", "need_lot", "habits_left", "_law_taken", "_law_order", "_law_habit", "_law_lot", "_law_pick", "_law_alike"]
def ln : List PySem.Str := ln0
theorem runT (w : World) : HandSHeadRun.RunEq Rr (PySem.W.view Rr.prog [25]) hk ob 20000 ln w := by
  intro os
  kernel_rfl
end K15

set_option Elab.async false
set_option linter.all false
set_option maxRecDepth 100000
set_option maxHeartbeats 0
namespace K15
open PySem PySem.Spec PyProof.Rows L2 GX GxR DL
theorem d_law {K : PySem.W.Frag} {h : Heap} {ww : World} (c : He.SaysX (fa ++ fb) fn [] tf ex ww h K) : ∃ fd, FunD K "law" "law" (defArgs s_law) (defBody s_law) (defScope s_law) [] [] (He.fAd K ("law", none)) fd := He.SaysD.defs (d := dd_law) c.t.d (.tail _ (.tail _ (.tail _ (.tail _ (.tail _ (.tail _ (.tail _ (.tail _ (.tail _ (.tail _ (.tail _ (.tail _ (.head _)))))))))))))
theorem facts {K : PySem.W.Frag} {h : Heap} {mg : Str → Option Value} {base : Heap} {ww : World} (X : K.In h) (G : h.Ns mainGlobals mg) (c : He.SaysX (fa ++ fb) fn [] tf ex ww h K) (TB : ∀ p ∈ tf.map (He.cT K), TabB base mg p.1 p.2) : Facts K mg base := by
  have D : ∀ d ∈ fn, ∃ fd, FunD K d.name d.qual d.params d.body d.scope (d.dvs K) (d.kws K) (He.fAd K d.at_) fd := fun d hd => He.SaysD.defs c.t.d hd
  have FF : ∀ f ∈ fa ++ fb, f.ok K = true := fun f hf => He.SaysD.facts c.t.d hf
  exact ⟨D dd_is_number (.head _),
    He.glo_ok X G (FF (.glo "is_number") (List.mem_append_left _ (.head _))),
    D dd_is_permutation (.tail _ (.head _)),
    He.glo_ok X G (FF (.glo "is_permutation") (List.mem_append_left _ (.tail _ (.head _)))),
    TB _ (List.mem_map.mpr ⟨("is_permutation", none), .head _, rfl⟩),
    D dd_need_habit (.tail _ (.tail _ (.head _))),
    He.glo_ok X G (FF (.glo "need_habit") (List.mem_append_left _ (.tail _ (.tail _ (.head _))))),
    D dd_need_habits (.tail _ (.tail _ (.tail _ (.head _)))),
    He.glo_ok X G (FF (.glo "need_habits") (List.mem_append_left _ (.tail _ (.tail _ (.tail _ (.head _)))))),
    D dd_need_lot (.tail _ (.tail _ (.tail _ (.tail _ (.head _))))),
    He.glo_ok X G (FF (.glo "need_lot") (List.mem_append_left _ (.tail _ (.tail _ (.tail _ (.tail _ (.head _))))))),
    TB _ (List.mem_map.mpr ⟨("need_lot", none), .tail _ (.head _), rfl⟩),
    D dd_habits_left (.tail _ (.tail _ (.tail _ (.tail _ (.tail _ (.head _)))))),
    He.glo_ok X G (FF (.glo "habits_left") (List.mem_append_left _ (.tail _ (.tail _ (.tail _ (.tail _ (.tail _ (.head _)))))))),
    TB _ (List.mem_map.mpr ⟨("habits_left", none), .tail _ (.tail _ (.head _)), rfl⟩),
    D dd__law_taken (.tail _ (.tail _ (.tail _ (.tail _ (.tail _ (.tail _ (.head _))))))),
    He.glo_ok X G (FF (.glo "_law_taken") (List.mem_append_left _ (.tail _ (.tail _ (.tail _ (.tail _ (.tail _ (.tail _ (.head _))))))))),
    D dd__law_order (.tail _ (.tail _ (.tail _ (.tail _ (.tail _ (.tail _ (.tail _ (.head _)))))))),
    He.glo_ok X G (FF (.glo "_law_order") (List.mem_append_left _ (.tail _ (.tail _ (.tail _ (.tail _ (.tail _ (.tail _ (.tail _ (.head _)))))))))),
    D dd__law_habit (.tail _ (.tail _ (.tail _ (.tail _ (.tail _ (.tail _ (.tail _ (.tail _ (.head _))))))))),
    He.glo_ok X G (FF (.glo "_law_habit") (List.mem_append_left _ (.tail _ (.tail _ (.tail _ (.tail _ (.tail _ (.tail _ (.tail _ (.tail _ (.head _))))))))))),
    D dd__law_lot (.tail _ (.tail _ (.tail _ (.tail _ (.tail _ (.tail _ (.tail _ (.tail _ (.tail _ (.head _)))))))))),
    He.glo_ok X G (FF (.glo "_law_lot") (List.mem_append_left _ (.tail _ (.tail _ (.tail _ (.tail _ (.tail _ (.tail _ (.tail _ (.tail _ (.tail _ (.head _)))))))))))),
    D dd__law_pick (.tail _ (.tail _ (.tail _ (.tail _ (.tail _ (.tail _ (.tail _ (.tail _ (.tail _ (.tail _ (.head _))))))))))),
    He.glo_ok X G (FF (.glo "_law_pick") (List.mem_append_left _ (.tail _ (.tail _ (.tail _ (.tail _ (.tail _ (.tail _ (.tail _ (.tail _ (.tail _ (.tail _ (.head _))))))))))))),
    D dd__law_alike (.tail _ (.tail _ (.tail _ (.tail _ (.tail _ (.tail _ (.tail _ (.tail _ (.tail _ (.tail _ (.tail _ (.head _)))))))))))),
    He.glo_ok X G (FF (.glo "_law_alike") (List.mem_append_left _ (.tail _ (.tail _ (.tail _ (.tail _ (.tail _ (.tail _ (.tail _ (.tail _ (.tail _ (.tail _ (.tail _ (.head _)))))))))))))),
    D dd_law (.tail _ (.tail _ (.tail _ (.tail _ (.tail _ (.tail _ (.tail _ (.tail _ (.tail _ (.tail _ (.tail _ (.tail _ (.head _))))))))))))),
    He.glo_ok X G (FF (.glo "law") (List.mem_append_left _ (.tail _ (.tail _ (.tail _ (.tail _ (.tail _ (.tail _ (.tail _ (.tail _ (.tail _ (.tail _ (.tail _ (.tail _ (.head _))))))))))))))),
    He.free_ok X G (FF (.free "all") (List.mem_append_right _ (.head _))),
    He.free_ok X G (FF (.free "bool") (List.mem_append_right _ (.tail _ (.head _)))),
    He.free_ok X G (FF (.free "enumerate") (List.mem_append_right _ (.tail _ (.tail _ (.head _))))),
    He.free_ok X G (FF (.free "int") (List.mem_append_right _ (.tail _ (.tail _ (.tail _ (.head _)))))),
    He.free_ok X G (FF (.free "isinstance") (List.mem_append_right _ (.tail _ (.tail _ (.tail _ (.tail _ (.head _))))))),
    He.free_ok X G (FF (.free "len") (List.mem_append_right _ (.tail _ (.tail _ (.tail _ (.tail _ (.tail _ (.head _)))))))),
    He.free_ok X G (FF (.free "list") (List.mem_append_right _ (.tail _ (.tail _ (.tail _ (.tail _ (.tail _ (.tail _ (.head _))))))))),
    He.free_ok X G (FF (.free "max") (List.mem_append_right _ (.tail _ (.tail _ (.tail _ (.tail _ (.tail _ (.tail _ (.tail _ (.head _)))))))))),
    He.free_ok X G (FF (.free "range") (List.mem_append_right _ (.tail _ (.tail _ (.tail _ (.tail _ (.tail _ (.tail _ (.tail _ (.tail _ (.head _))))))))))),
    He.free_ok X G (FF (.free "set") (List.mem_append_right _ (.tail _ (.tail _ (.tail _ (.tail _ (.tail _ (.tail _ (.tail _ (.tail _ (.tail _ (.head _)))))))))))),
    He.free_ok X G (FF (.free "str") (List.mem_append_right _ (.tail _ (.tail _ (.tail _ (.tail _ (.tail _ (.tail _ (.tail _ (.tail _ (.tail _ (.tail _ (.head _))))))))))))),
    He.free_ok X G (FF (.free "tuple") (List.mem_append_right _ (.tail _ (.tail _ (.tail _ (.tail _ (.tail _ (.tail _ (.tail _ (.tail _ (.tail _ (.tail _ (.tail _ (.head _)))))))))))))),
    He.free_ok X G (FF (.free "zip") (List.mem_append_right _ (.tail _ (.tail _ (.tail _ (.tail _ (.tail _ (.tail _ (.tail _ (.tail _ (.tail _ (.tail _ (.tail _ (.tail _ (.head _))))))))))))))),
    He.int_ok X G (FF (.int "LEAST_PLACES" (2)) (List.mem_append_right _ (.tail _ (.tail _ (.tail _ (.tail _ (.tail _ (.tail _ (.tail _ (.tail _ (.tail _ (.tail _ (.tail _ (.tail _ (.tail _ (.head _)))))))))))))))),
    He.int_ok X G (FF (.int "MOST_HABITS" (3)) (List.mem_append_right _ (.tail _ (.tail _ (.tail _ (.tail _ (.tail _ (.tail _ (.tail _ (.tail _ (.tail _ (.tail _ (.tail _ (.tail _ (.tail _ (.tail _ (.head _))))))))))))))))),
    He.int_ok X G (FF (.int "MOST_PLACES" (5)) (List.mem_append_right _ (.tail _ (.tail _ (.tail _ (.tail _ (.tail _ (.tail _ (.tail _ (.tail _ (.tail _ (.tail _ (.tail _ (.tail _ (.tail _ (.tail _ (.tail _ (.head _))))))))))))))))))⟩
end K15
open PySem PySem.W PySem.Calls PyProof.Rows
theorem K15_of (level2 : ∀ (ns : List Int), ns.length ≤ 63 → (∀ z ∈ ns, Builtin.Int.intBits z ≤ 1048576) → ∃ hh, K15.run 12 12 [.ref 0] [.frz (ns.map DL.D.int)] = .ok (.bl true) hh) : PySem.Challenge.rw_restlesshelf_k15_whole_left.Holds := by
  w_on; o_law
  refine HandSHeadRun.head_any (r := OpenLaw.row PySem.Challenge.rw_restlesshelf_k15_whole_left) (q := view (OpenLaw.row PySem.Challenge.rw_restlesshelf_k15_whole_left).prog [25]) (H := K15.hk) (ob := K15.ob) (M := 20000) (loose := K15.ln) (d := HandSHeadRun.topDef (OpenLaw.row PySem.Challenge.rw_restlesshelf_k15_whole_left).prog 25) (kwd := []) K15.ob_eq
    (by kernel_rfl) (fun s => by kernel_rfl) K15.runT (by kernel_rfl) (by kernel_rfl) (by kernel_rfl) (by rfl) (by first | assumption | decide +kernel) (by decide +kernel) ⟨rfl, rfl, rfl, rfl, rfl, by decide +kernel⟩ ?hw ?hc
  case hw => w_witness2
  case hc =>
    refine LamX.walk_ofTsE (l := PySem.Challenge.rw_restlesshelf_k15_whole_left) (n := 63) (k := 25) (x := "_law_script") (CX := fun w => L2.CX PySem.Challenge.pw_restlesshelf_k15_whole_left w) rfl (by decide) (by kernel_rfl) ⟨rfl, by decide, by decide⟩ ?F (fun w H s e s' z => DL.cx_none z)
    intro w mg fa h Y G hmg0
    obtain ⟨K, KX, c⟩ := Y
    have hmg : mg ("law" : PySem.Str) = some (.ref fa) := by
      have e : (HandSHeadRun.topDef (OpenLaw.row PySem.Challenge.rw_restlesshelf_k15_whole_left).prog 25).name = ("law" : PySem.Str) := by kernel_rfl
      rw [← e]
      exact hmg0
    refine ⟨K, KX, DL.law_end (st := K15.s_law) (d := 11) (i := 12) (bd := K15.bd) (gs := K15.gs K) (FF := fun base => K15.Facts K mg base) KX G hmg c ?_ (K15.d_law c) (fun base hK hG TB => K15.facts KX G c TB) (fun base Fa fd FD => K15.fn_law Fa (K15.cs Fa 11) FD) (fun fd FD s u => L2.FunD.bindsA (ps := ["_law_script"]) FD (fun _ _ _ _ _ _ us hl => match us, hl with | [_], _ => rfl) s [u] rfl) rfl level2⟩
    exact List.mem_append_left _ (.tail _ (.tail _ (.tail _ (.tail _ (.tail _ (.tail _ (.tail _ (.tail _ (.tail _ (.tail _ (.tail _ (.tail _ (.head _)))))))))))))

set_option Elab.async false
set_option linter.all false
set_option maxRecDepth 100000
set_option maxHeartbeats 1000000
namespace K15
open PySem DL
theorem rg_length (m : Nat) : (rg m).length = m := by simp [rg]
theorem mem_rg {m : Nat} {x : Int} : x ∈ rg m ↔ 0 ≤ x ∧ x < m := by
  simp only [rg, List.mem_map, List.mem_range]
  constructor
  · rintro ⟨i, hi, rfl⟩; omega
  · rintro ⟨h1, h2⟩; exact ⟨x.toNat, by omega, by omega⟩
theorem nodup_rg (m : Nat) : (rg m).Nodup := by
  unfold rg
  exact List.pairwise_map.mpr (List.Pairwise.imp (fun h e => h (by omega)) (List.nodup_range (n := m)))
/-- the order of m things -/
abbrev Prm (m : Nat) (l : List Int) : Prop := l.Perm (rg m)
theorem Prm.len {m : Nat} {l : List Int} (h : Prm m l) : l.length = m := by rw [h.length_eq, rg_length]
theorem Prm.mem {m : Nat} {l : List Int} (h : Prm m l) {x : Int} : x ∈ l ↔ 0 ≤ x ∧ x < m := by rw [h.mem_iff, mem_rg]
theorem Prm.nd {m : Nat} {l : List Int} (h : Prm m l) : l.Nodup := h.nodup_iff.mpr (nodup_rg m)

theorem is_number_ok (d : Nat) (v lo hi : Int) (h : Hh) (h1 : lo ≤ v) (h2 : v ≤ hi) : run (d + 1) 0 [.int v, .int lo, .int hi] h = .ok (.bl true) h := by
  rw [run_is_number]
  unfold b_is_number
  simp [E.var, E.con, E.op2, E.op1, E.and, E.or, E.ofT, E.isi, isiD, tyNm, isiB, T.not, T.val, T.and, T.or, T.isN, T.notN, T.yes, T.tru, truthD, D.isN, E.chain, E.ifx, D.le, D.lt, D.ge, D.gt, D.add, D.sub, D.mul, D.mod, D.fdiv, D.pow, D.neg, D.eq, D.ne, D.flat, D.eqv, E.call, L.cons, L.nil, L.disp, E.tup, E.tuple, E.ofL, E.len, E.lenSet, Q.of, R.of, rdQ, rdL, E.app, D.toInt, D.max2, D.min2, R.toS, R.toG, R.bind, S.ret, S.retN, S.seq, S.ife, S.nil, S.expr, S.set, S.par, S.asg, S.bad, S.for, E.gen, I.of, I.enum, srcE, srcD, L.comp, D.ix, E.sl, O.none, O.some, slD, E.met, isT, isL, D.tindex, wipeE, setC, Tg.name, Tg.cons, Tg.nil, Tg.tup, fits, runB, -List.map_take, -List.map_drop, -List.map_set, h1, h2, trunc_keep]
theorem lenSet_tl {l : List Int} (hp : l.Nodup) (hm : l.length ≤ 4000) (h : Hh) : lenSetI (l.map D.int) h = .ok (.int l.length) h := by
  unfold lenSetI
  rw [intsOf_map]
  simp only
  rw [if_pos hm, once_of_nodup hp]
theorem is_permutation_ok (d : Nat) {m : Nat} {l : List Int} (hp : Prm m l) (hm : m ≤ 100) (h : Hh) : run (d + 2) 1 [tl l, .int m] h = .ok (.bl true) h := by
  rw [run_is_permutation]
  unfold b_is_permutation
  have hg : genGo false ⟨l.map .int, none⟩ (.one 2) T.yes (E.call 3 (run (d + 1) 0) (L.cons (E.var 2) (L.cons (E.con (.int 0)) (L.cons (E.op2 D.sub (E.var 1) (E.con (.int 1))) L.nil)))) [some (.tup (l.map .int)), some (.int m), none] (l.map .int) h = .ok (.bl true) h := by
    refine genGo_all rfl fun x hx => ?_
    obtain ⟨v, hv, rfl⟩ := List.mem_map.mp hx
    have := hp.mem.mp hv
    refine ⟨_, rfl, rfl, ?_⟩
    have e := is_number_ok d v 0 (m - 1) h this.1 (by omega)
    simp [E.var, E.con, E.op2, E.op1, E.and, E.or, E.ofT, E.isi, isiD, tyNm, isiB, T.not, T.val, T.and, T.or, T.isN, T.notN, T.yes, T.tru, truthD, D.isN, E.chain, E.ifx, D.le, D.lt, D.ge, D.gt, D.add, D.sub, D.mul, D.mod, D.fdiv, D.pow, D.neg, D.eq, D.ne, D.flat, D.eqv, E.call, L.cons, L.nil, L.disp, E.tup, E.tuple, E.ofL, E.len, E.lenSet, Q.of, R.of, rdQ, rdL, E.app, D.toInt, D.max2, D.min2, R.toS, R.toG, R.bind, S.ret, S.retN, S.seq, S.ife, S.nil, S.expr, S.set, S.par, S.asg, S.bad, S.for, E.gen, I.of, I.enum, srcE, srcD, L.comp, D.ix, E.sl, O.none, O.some, slD, E.met, isT, isL, D.tindex, wipeE, setC, Tg.name, Tg.cons, Tg.nil, Tg.tup, fits, runB, -List.map_take, -List.map_drop, -List.map_set, e]
  simp [E.var, E.con, E.op2, E.op1, E.and, E.or, E.ofT, E.isi, isiD, tyNm, isiB, T.not, T.val, T.and, T.or, T.isN, T.notN, T.yes, T.tru, truthD, D.isN, E.chain, E.ifx, D.le, D.lt, D.ge, D.gt, D.add, D.sub, D.mul, D.mod, D.fdiv, D.pow, D.neg, D.eq, D.ne, D.flat, D.eqv, E.call, L.cons, L.nil, L.disp, E.tup, E.tuple, E.ofL, E.len, E.lenSet, Q.of, R.of, rdQ, rdL, E.app, D.toInt, D.max2, D.min2, R.toS, R.toG, R.bind, S.ret, S.retN, S.seq, S.ife, S.nil, S.expr, S.set, S.par, S.asg, S.bad, S.for, E.gen, I.of, I.enum, srcE, srcD, L.comp, D.ix, E.sl, O.none, O.some, slD, E.met, isT, isL, D.tindex, wipeE, setC, Tg.name, Tg.cons, Tg.nil, Tg.tup, fits, runB, -List.map_take, -List.map_drop, -List.map_set, hp.len, hg, lenSet_tl hp.nd (by rw [hp.len]; omega), trunc_keep]
/-- a habit: for each place an order -/
structure Hab (m : Nat) (hb : List (List Int)) : Prop where
  len : hb.length = m
  lo : 2 ≤ m
  hi : m ≤ 5
  row : ∀ r ∈ hb, Prm m r
abbrev H (hb : List (List Int)) : D := .tup (hb.map fun l => tl l)
theorem need_habit_ok (d : Nat) {m : Nat} {hb : List (List Int)} (hh : Hab m hb) (h : Hh) : run (d + 3) 2 [H hb] h = .ok .non h := by
  rw [run_need_habit]
  unfold b_need_habit
  have key : ∀ (l : List (List Int)) (k : Nat) (x y : Option D), (∀ r ∈ l, Prm m r) → ∃ e, S.forGo ⟨enumD 0 (hb.map fun l => tl l), none⟩ (Tg.tup (Tg.cons (Tg.name 1) (Tg.cons (Tg.name 2) Tg.nil))) (S.ife (T.not (T.val (E.call 2 (run (d + 2) 1) (L.cons (E.var 2) (L.cons (E.len (Q.of (E.var 0))) L.nil))))) S.bad S.nil) (enumD k (l.map fun l => tl l)) [some (H hb), x, y] h = .nx e h := by
    intro l
    induction l with
    | nil => intro k x y _; exact ⟨_, forGo_nil rfl⟩
    | cons r l ih =>
      intro k x y hr
      have e := is_permutation_ok d (hr r List.mem_cons_self) (by have := hh.hi; omega) h
      obtain ⟨e', q⟩ := ih (k + 1) (some (.int k)) (some (tl r)) fun r hx => hr r (List.mem_cons_of_mem _ hx)
      refine ⟨e', ?_⟩
      rw [← q]
      simp only [List.map_cons, enumD]
      exact forGo_cons (env1 := [some (H hb), some (.int k), some (tl r)]) (h1 := h) rfl rfl (by simp [E.var, E.con, E.op2, E.op1, E.and, E.or, E.ofT, E.isi, isiD, tyNm, isiB, T.not, T.val, T.and, T.or, T.isN, T.notN, T.yes, T.tru, truthD, D.isN, E.chain, E.ifx, D.le, D.lt, D.ge, D.gt, D.add, D.sub, D.mul, D.mod, D.fdiv, D.pow, D.neg, D.eq, D.ne, D.flat, D.eqv, E.call, L.cons, L.nil, L.disp, E.tup, E.tuple, E.ofL, E.len, E.lenSet, Q.of, R.of, rdQ, rdL, E.app, D.toInt, D.max2, D.min2, R.toS, R.toG, R.bind, S.ret, S.retN, S.seq, S.ife, S.nil, S.expr, S.set, S.par, S.asg, S.bad, S.for, E.gen, I.of, I.enum, srcE, srcD, L.comp, D.ix, E.sl, O.none, O.some, slD, E.met, isT, isL, D.tindex, wipeE, setC, Tg.name, Tg.cons, Tg.nil, Tg.tup, fits, runB, -List.map_take, -List.map_drop, -List.map_set, H, hh.len, e])
  obtain ⟨e, q⟩ := key hb 0 none none hh.row
  have a1 : (2 : Int) ≤ m := by have := hh.lo; omega
  have a2 : (m : Int) ≤ 5 := by have := hh.hi; omega
  simp [E.var, E.con, E.op2, E.op1, E.and, E.or, E.ofT, E.isi, isiD, tyNm, isiB, T.not, T.val, T.and, T.or, T.isN, T.notN, T.yes, T.tru, truthD, D.isN, E.chain, E.ifx, D.le, D.lt, D.ge, D.gt, D.add, D.sub, D.mul, D.mod, D.fdiv, D.pow, D.neg, D.eq, D.ne, D.flat, D.eqv, E.call, L.cons, L.nil, L.disp, E.tup, E.tuple, E.ofL, E.len, E.lenSet, Q.of, R.of, rdQ, rdL, E.app, D.toInt, D.max2, D.min2, R.toS, R.toG, R.bind, S.ret, S.retN, S.seq, S.ife, S.nil, S.expr, S.set, S.par, S.asg, S.bad, S.for, E.gen, I.of, I.enum, srcE, srcD, L.comp, D.ix, E.sl, O.none, O.some, slD, E.met, isT, isL, D.tindex, wipeE, setC, Tg.name, Tg.cons, Tg.nil, Tg.tup, fits, runB, -List.map_take, -List.map_drop, -List.map_set, hh.len, q, a1, a2, trunc_keep]
end K15

set_option Elab.async false
set_option linter.all false
set_option maxRecDepth 100000
set_option maxHeartbeats 1000000
namespace K15
open PySem DL
/-! ### the law's draws -/
abbrev Fz (ns : List Int) : MO := .frz (ns.map D.int)
abbrev rw3 (a b c : Int) : MO := .lst [.ref 0, .int a, .int b, .int c]
theorem ix0 (x y z u : D) (h : Hh) : ixL [x, y, z, u] 0 h = .ok x h := rfl
theorem ix1 (x y z u : D) (h : Hh) : ixL [x, y, z, u] 1 h = .ok y h := rfl
theorem ix2 (x y z u : D) (h : Hh) : ixL [x, y, z, u] 2 h = .ok z h := rfl
theorem ix3 (x y z u : D) (h : Hh) : ixL [x, y, z, u] 3 h = .ok u h := rfl
theorem set1 (x y z u v : D) (env : DL.Env) (f : MO) (g : Hh) : setL (.ref 1) (.int 1) v env (f :: .lst [x, y, z, u] :: g) = .ok env (f :: .lst [x, v, z, u] :: g) := rfl
theorem set2 (x y z u v : D) (env : DL.Env) (f : MO) (g : Hh) : setL (.ref 1) (.int 2) v env (f :: .lst [x, y, z, u] :: g) = .ok env (f :: .lst [x, y, v, u] :: g) := rfl
theorem set3' (x y z u v : D) (env : DL.Env) (f : MO) (g : Hh) : setL (.ref 1) (.int 3) v env (f :: .lst [x, y, z, u] :: g) = .ok env (f :: .lst [x, y, z, v] :: g) := rfl
theorem taken_ok (d : Nat) {ns : List Int} {a b c many : Int} (g : Hh) (ha : 0 ≤ a) (h0 : 0 < many) (h1 : many ≤ 1000) :
    ∃ v a' b' c', run (d + 1) 6 [.ref 1, .int many] (Fz ns :: rw3 a b c :: g) = .ok (.int v) (Fz ns :: rw3 a' b' c' :: g) ∧ 0 ≤ v ∧ v < many ∧ 0 ≤ a' := by
  rw [run__law_taken]
  unfold b__law_taken
  have hpos : posS many = true := posS_iff.mpr ⟨h0, by omega⟩
  have s1 : small 48271 = true := rfl
  have s2 : posS 7 = true := rfl
  have s3 : powOk 10 18 = true := rfl
  by_cases hc : 0 < c
  · refine ⟨c % many, a, b, c / many, ?_, Int.emod_nonneg _ (by omega), Int.emod_lt_of_pos _ h0, ha⟩
    simp [E.var, E.con, E.op2, E.op1, E.and, E.or, E.ofT, E.isi, isiD, tyNm, isiB, T.not, T.val, T.and, T.or, T.isN, T.notN, T.yes, T.tru, truthD, D.isN, E.chain, E.ifx, D.le, D.lt, D.ge, D.gt, D.add, D.sub, D.mul, D.mod, D.fdiv, D.pow, D.neg, D.eq, D.ne, D.flat, D.eqv, E.call, L.cons, L.nil, L.disp, E.tup, E.tuple, E.ofL, E.len, E.lenSet, Q.of, R.of, rdQ, rdL, E.app, D.toInt, D.max2, D.min2, R.toS, R.toG, R.bind, S.ret, S.retN, S.seq, S.ife, S.nil, S.expr, S.set, S.par, S.asg, S.bad, S.for, E.gen, I.of, I.enum, srcE, srcD, L.comp, D.ix, E.sl, O.none, O.some, slD, E.met, isT, isL, D.tindex, wipeE, setC, Tg.name, Tg.cons, Tg.nil, Tg.tup, fits, runB, -List.map_take, -List.map_drop, -List.map_set, ix3, hc, h0, hpos, Tg.sub, set3', trunc_keep]
  · by_cases hl : (ns.length : Int) < a + 1
    · refine ⟨(b * 48271 + 11) % 2147483647 / 7 % many, a + 1, (b * 48271 + 11) % 2147483647, c, ?_, Int.emod_nonneg _ (by omega), Int.emod_lt_of_pos _ h0, by omega⟩
      simp [E.var, E.con, E.op2, E.op1, E.and, E.or, E.ofT, E.isi, isiD, tyNm, isiB, T.not, T.val, T.and, T.or, T.isN, T.notN, T.yes, T.tru, truthD, D.isN, E.chain, E.ifx, D.le, D.lt, D.ge, D.gt, D.add, D.sub, D.mul, D.mod, D.fdiv, D.pow, D.neg, D.eq, D.ne, D.flat, D.eqv, E.call, L.cons, L.nil, L.disp, E.tup, E.tuple, E.ofL, E.len, E.lenSet, Q.of, R.of, rdQ, rdL, E.app, D.toInt, D.max2, D.min2, R.toS, R.toG, R.bind, S.ret, S.retN, S.seq, S.ife, S.nil, S.expr, S.set, S.par, S.asg, S.bad, S.for, E.gen, I.of, I.enum, srcE, srcD, L.comp, D.ix, E.sl, O.none, O.some, slD, E.met, isT, isL, D.tindex, wipeE, setC, Tg.name, Tg.cons, Tg.nil, Tg.tup, fits, runB, -List.map_take, -List.map_drop, -List.map_set, ix0, ix1, ix2, ix3, hc, h0, hl, s1, s2, Tg.sub, set1, set2, trunc_keep]
    · have i := ixL_ints (l := ns) (i := a) ha (by omega)
      simp only [List.getD_eq_getElem?_getD] at i
      by_cases hq : 1000000000000000000 ≤ ns[a.toNat]?.getD 0
      · refine ⟨ns[a.toNat]?.getD 0 % many, a + 1, (b * 48271 + ns[a.toNat]?.getD 0 + 11) % 2147483647, ns[a.toNat]?.getD 0 / many, ?_, Int.emod_nonneg _ (by omega), Int.emod_lt_of_pos _ h0, by omega⟩
        simp [E.var, E.con, E.op2, E.op1, E.and, E.or, E.ofT, E.isi, isiD, tyNm, isiB, T.not, T.val, T.and, T.or, T.isN, T.notN, T.yes, T.tru, truthD, D.isN, E.chain, E.ifx, D.le, D.lt, D.ge, D.gt, D.add, D.sub, D.mul, D.mod, D.fdiv, D.pow, D.neg, D.eq, D.ne, D.flat, D.eqv, E.call, L.cons, L.nil, L.disp, E.tup, E.tuple, E.ofL, E.len, E.lenSet, Q.of, R.of, rdQ, rdL, E.app, D.toInt, D.max2, D.min2, R.toS, R.toG, R.bind, S.ret, S.retN, S.seq, S.ife, S.nil, S.expr, S.set, S.par, S.asg, S.bad, S.for, E.gen, I.of, I.enum, srcE, srcD, L.comp, D.ix, E.sl, O.none, O.some, slD, E.met, isT, isL, D.tindex, wipeE, setC, Tg.name, Tg.cons, Tg.nil, Tg.tup, fits, runB, -List.map_take, -List.map_drop, -List.map_set, ix0, ix1, ix2, ix3, hc, h0, hl, s1, s3, Tg.sub, set1, set2, set3', trunc_keep, i, hq, hpos]
      · refine ⟨ns[a.toNat]?.getD 0 % many, a + 1, (b * 48271 + ns[a.toNat]?.getD 0 + 11) % 2147483647, c, ?_, Int.emod_nonneg _ (by omega), Int.emod_lt_of_pos _ h0, by omega⟩
        simp [E.var, E.con, E.op2, E.op1, E.and, E.or, E.ofT, E.isi, isiD, tyNm, isiB, T.not, T.val, T.and, T.or, T.isN, T.notN, T.yes, T.tru, truthD, D.isN, E.chain, E.ifx, D.le, D.lt, D.ge, D.gt, D.add, D.sub, D.mul, D.mod, D.fdiv, D.pow, D.neg, D.eq, D.ne, D.flat, D.eqv, E.call, L.cons, L.nil, L.disp, E.tup, E.tuple, E.ofL, E.len, E.lenSet, Q.of, R.of, rdQ, rdL, E.app, D.toInt, D.max2, D.min2, R.toS, R.toG, R.bind, S.ret, S.retN, S.seq, S.ife, S.nil, S.expr, S.set, S.par, S.asg, S.bad, S.for, E.gen, I.of, I.enum, srcE, srcD, L.comp, D.ix, E.sl, O.none, O.some, slD, E.met, isT, isL, D.tindex, wipeE, setC, Tg.name, Tg.cons, Tg.nil, Tg.tup, fits, runB, -List.map_take, -List.map_drop, -List.map_set, ix0, ix1, ix2, ix3, hc, h0, hl, s1, s3, Tg.sub, set1, set2, set3', trunc_keep, i, hq]
theorem order_body (c : Calls) {ns : List Int} {a b e a' b' e' v : Int} (g : Hh) (left found : List Int) (hl : left.length ≤ 60) (hf : found.length ≤ 60) (h0 : 0 ≤ v) (h1 : v < left.length) (X : D)
    (hc : c 6 [.ref 1, .int left.length] (Fz ns :: rw3 a b e :: (g ++ [.lst (left.map D.int), .lst (found.map D.int)])) = .ok (.int v) (Fz ns :: rw3 a' b' e' :: (g ++ [.lst (left.map D.int), .lst (found.map D.int)]))) :
    (S.expr (E.met isL (mutL fAppend) (E.var 3) (L.cons (E.met isL (mutL fPopAt) (E.var 2) (L.cons (E.call 2 (c 6) (L.cons (E.var 0) (L.cons (E.len (Q.of (E.var 2))) L.nil))) L.nil)) L.nil))) [some (.ref 1), some X, some (.ref (g.length + 2)), some (.ref (g.length + 3))] (Fz ns :: rw3 a b e :: (g ++ [.lst (left.map D.int), .lst (found.map D.int)])) =
      .nx [some (.ref 1), some X, some (.ref (g.length + 2)), some (.ref (g.length + 3))] (Fz ns :: rw3 a' b' e' :: (g ++ [.lst ((left.eraseIdx v.toNat).map D.int), .lst ((found ++ [left.getD v.toNat 0]).map D.int)])) := by
  have p := mut_at (get_a (Fz ns) (rw3 a' b' e') (.lst (left.map D.int)) (.lst (found.map D.int)) g) (pop_ints h0 h1) (by rw [List.length_map, List.length_eraseIdx]; split <;> omega)
  rw [set_a] at p
  have q := mut_at (get_b (Fz ns) (rw3 a' b' e') (.lst ((left.eraseIdx v.toNat).map D.int)) (.lst (found.map D.int)) g) (app_ints found (left.getD v.toNat 0)) (by simp; omega)
  rw [set_b] at q
  have r1 := get_a (Fz ns) (rw3 a b e) (.lst (left.map D.int)) (.lst (found.map D.int)) g
  have r2 := get_b (Fz ns) (rw3 a b e) (.lst (left.map D.int)) (.lst (found.map D.int)) g
  simp only [List.map_append, List.map_cons, List.map_nil] at q ⊢
  simp only [List.getD_eq_getElem?_getD] at p q ⊢
  simp [E.var, E.con, E.op2, E.op1, E.and, E.or, E.ofT, E.isi, isiD, tyNm, isiB, T.not, T.val, T.and, T.or, T.isN, T.notN, T.yes, T.tru, truthD, D.isN, E.chain, E.ifx, D.le, D.lt, D.ge, D.gt, D.add, D.sub, D.mul, D.mod, D.fdiv, D.pow, D.neg, D.eq, D.ne, D.flat, D.eqv, E.call, L.cons, L.nil, L.disp, E.tup, E.tuple, E.ofL, E.len, E.lenSet, Q.of, R.of, rdQ, rdL, E.app, D.toInt, D.max2, D.min2, R.toS, R.toG, R.bind, S.ret, S.retN, S.seq, S.ife, S.nil, S.expr, S.set, S.par, S.asg, S.bad, S.for, E.gen, I.of, I.enum, srcE, srcD, L.comp, D.ix, E.sl, O.none, O.some, slD, E.met, isT, isL, D.tindex, wipeE, setC, Tg.name, Tg.cons, Tg.nil, Tg.tup, fits, runB, -List.map_take, -List.map_drop, -List.map_set, r1, r2, hc, p, q]
theorem order_loop (d : Nat) {ns : List Int} (g : Hh) (X : D) : ∀ (k : Nat) (left found : List Int) (a b e : Int), left.length < k → left.length ≤ 10 → found.length + left.length ≤ 60 → 0 ≤ a → ∃ (fd : List Int) (a' b' e' : Int),
    S.whl (T.eqX true (XX.of (E.var 2)) (XX.ofL (L.disp L.nil))) (S.expr (E.met isL (mutL fAppend) (E.var 3) (L.cons (E.met isL (mutL fPopAt) (E.var 2) (L.cons (E.call 2 (run (d + 1) 6) (L.cons (E.var 0) (L.cons (E.len (Q.of (E.var 2))) L.nil))) L.nil)) L.nil))) k [some (.ref 1), some X, some (.ref (g.length + 2)), some (.ref (g.length + 3))] (Fz ns :: rw3 a b e :: (g ++ [.lst (left.map D.int), .lst (found.map D.int)])) =
      .nx [some (.ref 1), some X, some (.ref (g.length + 2)), some (.ref (g.length + 3))] (Fz ns :: rw3 a' b' e' :: (g ++ [.lst [], .lst (fd.map D.int)])) ∧ 0 ≤ a' ∧ fd.Perm (found ++ left) := by
  intro k
  induction k with
  | zero => intro left found a b e h; omega
  | succ k ih =>
    intro left found a b e hk hl hf ha
    have r1 := get_a (Fz ns) (rw3 a b e) (.lst (left.map D.int)) (.lst (found.map D.int)) g
    have q := eqvs_ints left []
    simp only [List.map_nil] at q
    have test : T.eqX true (XX.of (E.var 2)) (XX.ofL (L.disp L.nil)) [some (.ref 1), some X, some (.ref (g.length + 2)), some (.ref (g.length + 3))] (Fz ns :: rw3 a b e :: (g ++ [.lst (left.map D.int), .lst (found.map D.int)])) = .ok (!decide (left = [])) (Fz ns :: rw3 a b e :: (g ++ [.lst (left.map D.int), .lst (found.map D.int)])) := by
      simp [E.var, E.con, E.op2, E.op1, E.and, E.or, E.ofT, E.isi, isiD, tyNm, isiB, T.not, T.val, T.and, T.or, T.isN, T.notN, T.yes, T.tru, truthD, D.isN, E.chain, E.ifx, D.le, D.lt, D.ge, D.gt, D.add, D.sub, D.mul, D.mod, D.fdiv, D.pow, D.neg, D.eq, D.ne, D.flat, D.eqv, E.call, L.cons, L.nil, L.disp, E.tup, E.tuple, E.ofL, E.len, E.lenSet, Q.of, R.of, rdQ, rdL, E.app, D.toInt, D.max2, D.min2, R.toS, R.toG, R.bind, S.ret, S.retN, S.seq, S.ife, S.nil, S.expr, S.set, S.par, S.asg, S.bad, S.for, E.gen, I.of, I.enum, srcE, srcD, L.comp, D.ix, E.sl, O.none, O.some, slD, E.met, isT, isL, D.tindex, wipeE, setC, Tg.name, Tg.cons, Tg.nil, Tg.tup, fits, runB, -List.map_take, -List.map_drop, -List.map_set, T.eqX, XX.of, XX.ofL, dvOf, r1, flats_ints, D.flats, DV.eqv, q]
    by_cases hn : left = []
    · subst hn
      refine ⟨found, a, b, e, whl_stop ?_, ha, by simp⟩
      rw [test]
      rfl
    · have hpos : 0 < left.length := List.length_pos_iff.mpr hn
      obtain ⟨v, a1, b1, e1, hc, h0, h1, ha1⟩ := taken_ok d (ns := ns) (a := a) (b := b) (c := e) (many := left.length) (g ++ [.lst (left.map D.int), .lst (found.map D.int)]) ha (by omega) (by omega)
      have bd := order_body (run (d + 1)) g left found (by omega) (by omega) h0 h1 X hc
      have hlt : v.toNat < left.length := by omega
      obtain ⟨fd, a', b', e', z, ha', pp⟩ := ih (left.eraseIdx v.toNat) (found ++ [left.getD v.toNat 0]) a1 b1 e1 (by rw [List.length_eraseIdx, if_pos hlt]; omega) (by rw [List.length_eraseIdx, if_pos hlt]; omega) (by rw [List.length_eraseIdx, if_pos hlt, List.length_append, List.length_singleton]; omega) ha1
      refine ⟨fd, a', b', e', ?_, ha', pp.trans ?_⟩
      · rw [← z]
        exact whl_step (by rw [test]; simp [hn]) bd
      · rw [List.append_assoc]
        exact List.Perm.append_left _ (perm_pop hlt)
theorem order_ok (d : Nat) {ns : List Int} {a b e : Int} {m : Nat} (g : Hh) (ha : 0 ≤ a) (hm : m ≤ 5) (hg : ∀ o ∈ g, True) : ∃ (l : List Int) (a' b' e' : Int), run (d + 2) 7 [.ref 1, .int m] (Fz ns :: rw3 a b e :: g) = .ok (tl l) (Fz ns :: rw3 a' b' e' :: g) ∧ 0 ≤ a' ∧ Prm m l := by
  obtain ⟨fd, a', b', e', z, ha', pp⟩ := order_loop d (ns := ns) g (.int m) fuel (rg m) [] a b e (by rw [rg_length]; unfold fuel; omega) (by rw [rg_length]; omega) (by rw [rg_length]; simp; omega) ha
  refine ⟨fd, a', b', e', ?_, ha', by simpa using pp⟩
  simp only [List.map_nil] at z
  rw [run__law_order]
  unfold b__law_order
  have hr := lrng_rg (n := m) (by omega) (Fz ns :: rw3 a b e :: g)
  have r2 := get_b (Fz ns) (rw3 a' b' e') (.lst []) (.lst (fd.map D.int)) g
  have st : S.par 2 3 (E.ofL (L.rng1 (E.var 1))) (E.ofL (L.disp L.nil)) [some (.ref 1), some (.int m), none, none] (Fz ns :: rw3 a b e :: g) = .nx [some (.ref 1), some (.int m), some (.ref (g.length + 2)), some (.ref (g.length + 3))] (Fz ns :: rw3 a b e :: (g ++ [.lst ((rg m).map D.int), .lst []])) := by
    simp [E.var, E.con, E.op2, E.op1, E.and, E.or, E.ofT, E.isi, isiD, tyNm, isiB, T.not, T.val, T.and, T.or, T.isN, T.notN, T.yes, T.tru, truthD, D.isN, E.chain, E.ifx, D.le, D.lt, D.ge, D.gt, D.add, D.sub, D.mul, D.mod, D.fdiv, D.pow, D.neg, D.eq, D.ne, D.flat, D.eqv, E.call, L.cons, L.nil, L.disp, E.tup, E.tuple, E.ofL, E.len, E.lenSet, Q.of, R.of, rdQ, rdL, E.app, D.toInt, D.max2, D.min2, R.toS, R.toG, R.bind, S.ret, S.retN, S.seq, S.ife, S.nil, S.expr, S.set, S.par, S.asg, S.bad, S.for, E.gen, I.of, I.enum, srcE, srcD, L.comp, D.ix, E.sl, O.none, O.some, slD, E.met, isT, isL, D.tindex, wipeE, setC, Tg.name, Tg.cons, Tg.nil, Tg.tup, fits, runB, -List.map_take, -List.map_drop, -List.map_set, L.rng1, hr]
  have rt : (S.ret (E.tuple (R.of (E.var 3)))) [some (.ref 1), some (.int m), some (.ref (g.length + 2)), some (.ref (g.length + 3))] (Fz ns :: rw3 a' b' e' :: (g ++ [.lst [], .lst (fd.map D.int)])) = .rt (tl fd) (Fz ns :: rw3 a' b' e' :: (g ++ [.lst [], .lst (fd.map D.int)])) := by
    simp [E.var, E.con, E.op2, E.op1, E.and, E.or, E.ofT, E.isi, isiD, tyNm, isiB, T.not, T.val, T.and, T.or, T.isN, T.notN, T.yes, T.tru, truthD, D.isN, E.chain, E.ifx, D.le, D.lt, D.ge, D.gt, D.add, D.sub, D.mul, D.mod, D.fdiv, D.pow, D.neg, D.eq, D.ne, D.flat, D.eqv, E.call, L.cons, L.nil, L.disp, E.tup, E.tuple, E.ofL, E.len, E.lenSet, Q.of, R.of, rdQ, rdL, E.app, D.toInt, D.max2, D.min2, R.toS, R.toG, R.bind, S.ret, S.retN, S.seq, S.ife, S.nil, S.expr, S.set, S.par, S.asg, S.bad, S.for, E.gen, I.of, I.enum, srcE, srcD, L.comp, D.ix, E.sl, O.none, O.some, slD, E.met, isT, isL, D.tindex, wipeE, setC, Tg.name, Tg.cons, Tg.nil, Tg.tup, fits, runB, -List.map_take, -List.map_drop, -List.map_set, r2]
  refine (congrArg (trunc _) (runB_rt (d := tl fd) (h1 := (Fz ns :: rw3 a' b' e' :: g) ++ [.lst [], .lst (fd.map D.int)]) ?_)).trans (trunc_drop' (under_tl _ _) rfl ?_)
  · show S.seq _ _ [some (.ref 1), some (.int m), none, none] _ = _
    rw [seq_nx st, seq_nx z]
    exact rt
  · show agree (g.length + 2) (Fz ns :: rw3 a b e :: g) (Fz ns :: rw3 a' b' e' :: (g ++ _)) = true
    simp only [agree, MO.beq_refl, MO.under, D.unders, D.under, agree_app, Bool.true_or, Bool.and_self, Bool.or_true, Bool.true_and, Bool.and_true]
    simp
/-! ### habits -/
def row0 (m p : Nat) : List Int := (rg m).map fun s => (s + p) % m
def row1m (m p : Nat) : List Int := (rg m).map fun (s : Int) => s + (if s < (p : Int) then 1 else 0)
def row1 (m p : Nat) : List Int := (row1m m p).take p ++ [0] ++ (row1m m p).drop (p + 1)
def row2 (m p : Nat) : List Int := ((rg m).set p ((p - 1 : Nat) : Int)).set (p - 1) p
theorem rows_prm {m p : Nat} (h2 : 2 ≤ m) (h5 : m ≤ 5) (hp : p < m) : Prm m (row0 m p) ∧ Prm m (row1 m p) ∧ Prm m (row2 m p) := by
  have key : ∀ m ∈ [2, 3, 4, 5], ∀ p ∈ List.range m, (row0 m p).isPerm (rg m) = true ∧ (row1 m p).isPerm (rg m) = true ∧ (row2 m p).isPerm (rg m) = true := by decide
  have := key m (by simp; omega) p (List.mem_range.mpr hp)
  exact ⟨List.isPerm_iff.mp this.1, List.isPerm_iff.mp this.2.1, List.isPerm_iff.mp this.2.2⟩
theorem way0 (c : Calls) {m p : Nat} (hm : m ≤ 5) (h0 : 0 < m) (ns : List Int) (a b e : Int) (Rs : List D) (hL : Rs.length ≤ 100) (j : Hh) (x y z : Option D) :
    (S.expr (E.met isL (mutL fAppend) (E.var 4) (L.cons (E.tuple (L.comp (I.rng1 (E.var 1)) [7] (.one 7) T.yes (E.op2 D.mod (E.op2 D.add (E.var 7) (E.var 2)) (E.var 1)))) L.nil))) [some (.ref 1), some (.int m), some (.int p), x, some (.ref 2), y, z, none] (Fz ns :: rw3 a b e :: .lst Rs :: j) =
      .nx [some (.ref 1), some (.int m), some (.int p), x, some (.ref 2), y, z, none] (Fz ns :: rw3 a b e :: .lst (Rs ++ [tl (row0 m p)]) :: j) := by
  have hr := rngS_rg (n := m) (by omega) (Fz ns :: rw3 a b e :: .lst Rs :: j)
  have hc : compGo ⟨(rg m).map D.int, none⟩ (.one 7) T.yes (E.op2 D.mod (E.op2 D.add (E.var 7) (E.var 2)) (E.var 1)) [some (.ref 1), some (.int m), some (.int p), x, some (.ref 2), y, z, none] ((rg m).map D.int) (Fz ns :: rw3 a b e :: .lst Rs :: j) = .ok ((row0 m p).map D.int) (Fz ns :: rw3 a b e :: .lst Rs :: j) := by
    refine compGo_ints rfl fun s hs => ⟨_, rfl, rfl, ?_⟩
    have : (0 : Int) < m := by omega
    simp [E.var, E.con, E.op2, E.op1, E.and, E.or, E.ofT, E.isi, isiD, tyNm, isiB, T.not, T.val, T.and, T.or, T.isN, T.notN, T.yes, T.tru, truthD, D.isN, E.chain, E.ifx, D.le, D.lt, D.ge, D.gt, D.add, D.sub, D.mul, D.mod, D.fdiv, D.pow, D.neg, D.eq, D.ne, D.flat, D.eqv, E.call, L.cons, L.nil, L.disp, E.tup, E.tuple, E.ofL, E.len, E.lenSet, Q.of, R.of, rdQ, rdL, E.app, D.toInt, D.max2, D.min2, R.toS, R.toG, R.bind, S.ret, S.retN, S.seq, S.ife, S.nil, S.expr, S.set, S.par, S.asg, S.bad, S.for, E.gen, I.of, I.enum, srcE, srcD, L.comp, D.ix, E.sl, O.none, O.some, slD, E.met, isT, isL, D.tindex, wipeE, setC, Tg.name, Tg.cons, Tg.nil, Tg.tup, fits, runB, -List.map_take, -List.map_drop, -List.map_set, h0]
  have hl : (row0 m p).length = m := by simp [row0, rg_length]
  have hf : m ≤ 16000000 := by omega
  have ap := app2 (f := Fz ns) (r := rw3 a b e) (X := tl (row0 m p)) (j := j) hL
  simp [E.var, E.con, E.op2, E.op1, E.and, E.or, E.ofT, E.isi, isiD, tyNm, isiB, T.not, T.val, T.and, T.or, T.isN, T.notN, T.yes, T.tru, truthD, D.isN, E.chain, E.ifx, D.le, D.lt, D.ge, D.gt, D.add, D.sub, D.mul, D.mod, D.fdiv, D.pow, D.neg, D.eq, D.ne, D.flat, D.eqv, E.call, L.cons, L.nil, L.disp, E.tup, E.tuple, E.ofL, E.len, E.lenSet, Q.of, R.of, rdQ, rdL, E.app, D.toInt, D.max2, D.min2, R.toS, R.toG, R.bind, S.ret, S.retN, S.seq, S.ife, S.nil, S.expr, S.set, S.par, S.asg, S.bad, S.for, E.gen, I.of, I.enum, srcE, srcD, L.comp, D.ix, E.sl, O.none, O.some, slD, E.met, isT, isL, D.tindex, wipeE, setC, Tg.name, Tg.cons, Tg.nil, Tg.tup, fits, runB, -List.map_take, -List.map_drop, -List.map_set, I.rng1, hr, hc, hl, hf, ap]
theorem way1 (c : Calls) {m p : Nat} (hm : m ≤ 5) (hp : p < m) (ns : List Int) (a b e : Int) (Rs : List D) (hL : Rs.length ≤ 100) (j : Hh) (x y z : Option D) :
    (S.seq (S.set 5 (E.ofL (L.comp (I.rng1 (E.var 1)) [7] (.one 7) T.yes (E.op2 D.add (E.var 7) (E.app D.toInt (L.cons (E.op2 D.lt (E.var 7) (E.var 2)) L.nil)))))) (S.expr (E.met isL (mutL fAppend) (E.var 4) (L.cons (E.tuple (L.cat (L.cat (L.slE (E.var 5) O.none (O.some (E.var 2))) (L.disp (L.cons (E.con (.int 0)) L.nil))) (L.slE (E.var 5) (O.some (E.op2 D.add (E.var 2) (E.con (.int 1)))) O.none))) L.nil)))) [some (.ref 1), some (.int m), some (.int p), x, some (.ref 2), y, z, none] (Fz ns :: rw3 a b e :: .lst Rs :: j) =
      .nx [some (.ref 1), some (.int m), some (.int p), x, some (.ref 2), some (.ref (j.length + 3)), z, none] (Fz ns :: rw3 a b e :: .lst (Rs ++ [tl (row1 m p)]) :: (j ++ [.lst ((row1m m p).map D.int)])) := by
  have hr := rngS_rg (n := m) (by omega) (Fz ns :: rw3 a b e :: .lst Rs :: j)
  have hc : compGo ⟨(rg m).map D.int, none⟩ (.one 7) T.yes (E.op2 D.add (E.var 7) (E.app D.toInt (L.cons (E.op2 D.lt (E.var 7) (E.var 2)) L.nil))) [some (.ref 1), some (.int m), some (.int p), x, some (.ref 2), y, z, none] ((rg m).map D.int) (Fz ns :: rw3 a b e :: .lst Rs :: j) = .ok ((row1m m p).map D.int) (Fz ns :: rw3 a b e :: .lst Rs :: j) := by
    refine compGo_ints rfl fun s hs => ⟨_, rfl, rfl, ?_⟩
    simp [E.var, E.con, E.op2, E.op1, E.and, E.or, E.ofT, E.isi, isiD, tyNm, isiB, T.not, T.val, T.and, T.or, T.isN, T.notN, T.yes, T.tru, truthD, D.isN, E.chain, E.ifx, D.le, D.lt, D.ge, D.gt, D.add, D.sub, D.mul, D.mod, D.fdiv, D.pow, D.neg, D.eq, D.ne, D.flat, D.eqv, E.call, L.cons, L.nil, L.disp, E.tup, E.tuple, E.ofL, E.len, E.lenSet, Q.of, R.of, rdQ, rdL, E.app, D.toInt, D.max2, D.min2, R.toS, R.toG, R.bind, S.ret, S.retN, S.seq, S.ife, S.nil, S.expr, S.set, S.par, S.asg, S.bad, S.for, E.gen, I.of, I.enum, srcE, srcD, L.comp, D.ix, E.sl, O.none, O.some, slD, E.met, isT, isL, D.tindex, wipeE, setC, Tg.name, Tg.cons, Tg.nil, Tg.tup, fits, runB, -List.map_take, -List.map_drop, -List.map_set]
  have hl : (row1m m p).length = m := by simp [row1m, rg_length]
  have hf : m ≤ 16000000 := by omega
  have c1 := cut_takeI (l := row1m m p) (k := p) (by omega)
  have c2 := cut_dropI (l := row1m m p) (k := p) (by omega)
  have gj := get_j (Fz ns) (rw3 a b e) (.lst Rs) (.lst ((row1m m p).map D.int)) j
  have ap := app2 (f := Fz ns) (r := rw3 a b e) (X := tl (row1 m p)) (j := j ++ [.lst ((row1m m p).map D.int)]) hL
  have hf1 : p + 1 ≤ 16000000 := by omega
  have hf2 : p + 1 + (m - (p + 1)) ≤ 16000000 := by omega
  have hmin : min p m = p := by omega
  unfold row1 at ap ⊢
  simp only [tl, List.map_append, List.map_cons, List.map_nil, List.append_assoc, List.cons_append, List.nil_append] at ap ⊢
  have hf3 : p + (m - (p + 1) + 1) ≤ 16000000 := by omega
  simp [E.var, E.con, E.op2, E.op1, E.and, E.or, E.ofT, E.isi, isiD, tyNm, isiB, T.not, T.val, T.and, T.or, T.isN, T.notN, T.yes, T.tru, truthD, D.isN, E.chain, E.ifx, D.le, D.lt, D.ge, D.gt, D.add, D.sub, D.mul, D.mod, D.fdiv, D.pow, D.neg, D.eq, D.ne, D.flat, D.eqv, E.call, L.cons, L.nil, L.disp, E.tup, E.tuple, E.ofL, E.len, E.lenSet, Q.of, R.of, rdQ, rdL, E.app, D.toInt, D.max2, D.min2, R.toS, R.toG, R.bind, S.ret, S.retN, S.seq, S.ife, S.nil, S.expr, S.set, S.par, S.asg, S.bad, S.for, E.gen, I.of, I.enum, srcE, srcD, L.comp, D.ix, E.sl, O.none, O.some, slD, E.met, isT, isL, D.tindex, wipeE, setC, Tg.name, Tg.cons, Tg.nil, Tg.tup, fits, runB, -List.map_take, -List.map_drop, -List.map_set, I.rng1, L.slE, L.cat, hr, hc, hl, hf, gj, c1, c2, hf1, hf2, hf3, hmin, ap]
theorem set_ints (l : List Int) (k : Nat) (v : Int) : (l.map D.int).set k (.int v) = (l.set k v).map D.int := by rw [List.map_set]
theorem way2 (c : Calls) {m p : Nat} (hm : m ≤ 5) (hp : p < m) (ns : List Int) (a b e : Int) (Rs : List D) (hL : Rs.length ≤ 100) (j : Hh) (x y z : Option D) :
    (S.seq (S.set 6 (E.app D.max2 (L.cons (E.con (.int 0)) (L.cons (E.op2 D.sub (E.var 2) (E.con (.int 1))) L.nil)))) (S.seq (S.set 5 (E.ofL (L.rng1 (E.var 1)))) (S.seq (S.asg (E.tup (L.cons (E.var 6) (L.cons (E.var 2) L.nil))) (Tg.tup (Tg.cons (Tg.sub (E.var 5) (E.var 2)) (Tg.cons (Tg.sub (E.var 5) (E.var 6)) Tg.nil)))) (S.expr (E.met isL (mutL fAppend) (E.var 4) (L.cons (E.tuple (R.of (E.var 5))) L.nil)))))) [some (.ref 1), some (.int m), some (.int p), x, some (.ref 2), y, z, none] (Fz ns :: rw3 a b e :: .lst Rs :: j) =
      .nx [some (.ref 1), some (.int m), some (.int p), x, some (.ref 2), some (.ref (j.length + 3)), some (.int ((p - 1 : Nat) : Int)), none] (Fz ns :: rw3 a b e :: .lst (Rs ++ [tl (row2 m p)]) :: (j ++ [.lst ((row2 m p).map D.int)])) := by
  have hr := lrng_rg (n := m) (by omega) (Fz ns :: rw3 a b e :: .lst Rs :: j)
  have hmax : (if (p : Int) - 1 > 0 then (p : Int) - 1 else 0) = ((p - 1 : Nat) : Int) := by split <;> omega
  have q1 : S.set 6 (E.app D.max2 (L.cons (E.con (.int 0)) (L.cons (E.op2 D.sub (E.var 2) (E.con (.int 1))) L.nil))) [some (.ref 1), some (.int m), some (.int p), x, some (.ref 2), y, z, none] (Fz ns :: rw3 a b e :: .lst Rs :: j) = .nx [some (.ref 1), some (.int m), some (.int p), x, some (.ref 2), y, some (.int ((p - 1 : Nat) : Int)), none] (Fz ns :: rw3 a b e :: .lst Rs :: j) := by
    rw [← hmax]
    simp [E.var, E.con, E.op2, E.op1, E.and, E.or, E.ofT, E.isi, isiD, tyNm, isiB, T.not, T.val, T.and, T.or, T.isN, T.notN, T.yes, T.tru, truthD, D.isN, E.chain, E.ifx, D.le, D.lt, D.ge, D.gt, D.add, D.sub, D.mul, D.mod, D.fdiv, D.pow, D.neg, D.eq, D.ne, D.flat, D.eqv, E.call, L.cons, L.nil, L.disp, E.tup, E.tuple, E.ofL, E.len, E.lenSet, Q.of, R.of, rdQ, rdL, E.app, D.toInt, D.max2, D.min2, R.toS, R.toG, R.bind, S.ret, S.retN, S.seq, S.ife, S.nil, S.expr, S.set, S.par, S.asg, S.bad, S.for, E.gen, I.of, I.enum, srcE, srcD, L.comp, D.ix, E.sl, O.none, O.some, slD, E.met, isT, isL, D.tindex, wipeE, setC, Tg.name, Tg.cons, Tg.nil, Tg.tup, fits, runB, -List.map_take, -List.map_drop, -List.map_set]
  have q2 : S.set 5 (E.ofL (L.rng1 (E.var 1))) [some (.ref 1), some (.int m), some (.int p), x, some (.ref 2), y, some (.int ((p - 1 : Nat) : Int)), none] (Fz ns :: rw3 a b e :: .lst Rs :: j) = .nx [some (.ref 1), some (.int m), some (.int p), x, some (.ref 2), some (.ref (j.length + 3)), some (.int ((p - 1 : Nat) : Int)), none] (Fz ns :: rw3 a b e :: .lst Rs :: (j ++ [.lst ((rg m).map D.int)])) := by
    simp [E.var, E.con, E.op2, E.op1, E.and, E.or, E.ofT, E.isi, isiD, tyNm, isiB, T.not, T.val, T.and, T.or, T.isN, T.notN, T.yes, T.tru, truthD, D.isN, E.chain, E.ifx, D.le, D.lt, D.ge, D.gt, D.add, D.sub, D.mul, D.mod, D.fdiv, D.pow, D.neg, D.eq, D.ne, D.flat, D.eqv, E.call, L.cons, L.nil, L.disp, E.tup, E.tuple, E.ofL, E.len, E.lenSet, Q.of, R.of, rdQ, rdL, E.app, D.toInt, D.max2, D.min2, R.toS, R.toG, R.bind, S.ret, S.retN, S.seq, S.ife, S.nil, S.expr, S.set, S.par, S.asg, S.bad, S.for, E.gen, I.of, I.enum, srcE, srcD, L.comp, D.ix, E.sl, O.none, O.some, slD, E.met, isT, isL, D.tindex, wipeE, setC, Tg.name, Tg.cons, Tg.nil, Tg.tup, fits, runB, -List.map_take, -List.map_drop, -List.map_set, L.rng1, hr]
  generalize hk : p - 1 = k at *
  have s1 := set_j (f := Fz ns) (r := rw3 a b e) (x := .lst Rs) (j := j) (l := (rg m).map D.int) (k := p) (v := .int k) (env := [some (.ref 1), some (.int m), some (.int p), x, some (.ref 2), some (.ref (j.length + 3)), some (.int k), none]) (by rw [List.length_map, rg_length]; omega)
  rw [set_ints] at s1
  have s2 := set_j (f := Fz ns) (r := rw3 a b e) (x := .lst Rs) (j := j) (l := ((rg m).set p k).map D.int) (k := k) (v := .int p) (env := [some (.ref 1), some (.int m), some (.int p), x, some (.ref 2), some (.ref (j.length + 3)), some (.int k), none]) (by rw [List.length_map, List.length_set, rg_length]; omega)
  rw [set_ints] at s2
  have gj := get_j (Fz ns) (rw3 a b e) (.lst Rs) (.lst ((((rg m).set p k).set k p).map D.int)) j
  have ap := app2 (f := Fz ns) (r := rw3 a b e) (X := tl (((rg m).set p k).set k p)) (j := j ++ [.lst ((((rg m).set p k).set k p).map D.int)]) hL
  have er : row2 m p = ((rg m).set p k).set k p := by unfold row2; rw [hk]
  rw [seq_nx q1, seq_nx q2, er]
  have q3 : S.asg (E.tup (L.cons (E.var 6) (L.cons (E.var 2) L.nil))) (Tg.tup (Tg.cons (Tg.sub (E.var 5) (E.var 2)) (Tg.cons (Tg.sub (E.var 5) (E.var 6)) Tg.nil))) [some (.ref 1), some (.int m), some (.int p), x, some (.ref 2), some (.ref (j.length + 3)), some (.int k), none] (Fz ns :: rw3 a b e :: .lst Rs :: (j ++ [.lst ((rg m).map D.int)])) = .nx [some (.ref 1), some (.int m), some (.int p), x, some (.ref 2), some (.ref (j.length + 3)), some (.int k), none] (Fz ns :: rw3 a b e :: .lst Rs :: (j ++ [.lst ((((rg m).set p k).set k p).map D.int)])) := by
    simp [E.var, E.con, E.op2, E.op1, E.and, E.or, E.ofT, E.isi, isiD, tyNm, isiB, T.not, T.val, T.and, T.or, T.isN, T.notN, T.yes, T.tru, truthD, D.isN, E.chain, E.ifx, D.le, D.lt, D.ge, D.gt, D.add, D.sub, D.mul, D.mod, D.fdiv, D.pow, D.neg, D.eq, D.ne, D.flat, D.eqv, E.call, L.cons, L.nil, L.disp, E.tup, E.tuple, E.ofL, E.len, E.lenSet, Q.of, R.of, rdQ, rdL, E.app, D.toInt, D.max2, D.min2, R.toS, R.toG, R.bind, S.ret, S.retN, S.seq, S.ife, S.nil, S.expr, S.set, S.par, S.asg, S.bad, S.for, E.gen, I.of, I.enum, srcE, srcD, L.comp, D.ix, E.sl, O.none, O.some, slD, E.met, isT, isL, D.tindex, wipeE, setC, Tg.name, Tg.cons, Tg.nil, Tg.tup, fits, runB, -List.map_take, -List.map_drop, -List.map_set, Tg.sub, s1, s2]
  rw [seq_nx q3]
  simp [E.var, E.con, E.op2, E.op1, E.and, E.or, E.ofT, E.isi, isiD, tyNm, isiB, T.not, T.val, T.and, T.or, T.isN, T.notN, T.yes, T.tru, truthD, D.isN, E.chain, E.ifx, D.le, D.lt, D.ge, D.gt, D.add, D.sub, D.mul, D.mod, D.fdiv, D.pow, D.neg, D.eq, D.ne, D.flat, D.eqv, E.call, L.cons, L.nil, L.disp, E.tup, E.tuple, E.ofL, E.len, E.lenSet, Q.of, R.of, rdQ, rdL, E.app, D.toInt, D.max2, D.min2, R.toS, R.toG, R.bind, S.ret, S.retN, S.seq, S.ife, S.nil, S.expr, S.set, S.par, S.asg, S.bad, S.for, E.gen, I.of, I.enum, srcE, srcD, L.comp, D.ix, E.sl, O.none, O.some, slD, E.met, isT, isL, D.tindex, wipeE, setC, Tg.name, Tg.cons, Tg.nil, Tg.tup, fits, runB, -List.map_take, -List.map_drop, -List.map_set, gj, ap]
theorem way3 (c : Calls) {m : Nat} (hm : m ≤ 5) (ns : List Int) (a b e : Int) (Rs : List D) (hL : Rs.length ≤ 100) (j : Hh) (w x y z : Option D) :
    (S.expr (E.met isL (mutL fAppend) (E.var 4) (L.cons (E.tuple (L.rng1 (E.var 1))) L.nil))) [some (.ref 1), some (.int m), w, x, some (.ref 2), y, z, none] (Fz ns :: rw3 a b e :: .lst Rs :: j) = .nx [some (.ref 1), some (.int m), w, x, some (.ref 2), y, z, none] (Fz ns :: rw3 a b e :: .lst (Rs ++ [tl (rg m)]) :: j) := by
  have hr := lrng_rg (n := m) (by omega) (Fz ns :: rw3 a b e :: .lst Rs :: j)
  have ap := app2 (f := Fz ns) (r := rw3 a b e) (X := tl (rg m)) (j := j) hL
  simp [E.var, E.con, E.op2, E.op1, E.and, E.or, E.ofT, E.isi, isiD, tyNm, isiB, T.not, T.val, T.and, T.or, T.isN, T.notN, T.yes, T.tru, truthD, D.isN, E.chain, E.ifx, D.le, D.lt, D.ge, D.gt, D.add, D.sub, D.mul, D.mod, D.fdiv, D.pow, D.neg, D.eq, D.ne, D.flat, D.eqv, E.call, L.cons, L.nil, L.disp, E.tup, E.tuple, E.ofL, E.len, E.lenSet, Q.of, R.of, rdQ, rdL, E.app, D.toInt, D.max2, D.min2, R.toS, R.toG, R.bind, S.ret, S.retN, S.seq, S.ife, S.nil, S.expr, S.set, S.par, S.asg, S.bad, S.for, E.gen, I.of, I.enum, srcE, srcD, L.comp, D.ix, E.sl, O.none, O.some, slD, E.met, isT, isL, D.tindex, wipeE, setC, Tg.name, Tg.cons, Tg.nil, Tg.tup, fits, runB, -List.map_take, -List.map_drop, -List.map_set, L.rng1, hr, ap]
theorem way4 (c : Calls) {m : Nat} (ns : List Int) (a b e a' b' e' : Int) (Rs : List D) (hL : Rs.length ≤ 100) (j : Hh) (w x y z : Option D) (l : List Int) (hc : c 7 [.ref 1, .int m] (Fz ns :: rw3 a b e :: .lst Rs :: j) = .ok (tl l) (Fz ns :: rw3 a' b' e' :: .lst Rs :: j)) :
    (S.expr (E.met isL (mutL fAppend) (E.var 4) (L.cons (E.call 2 (c 7) (L.cons (E.var 0) (L.cons (E.var 1) L.nil))) L.nil))) [some (.ref 1), some (.int m), w, x, some (.ref 2), y, z, none] (Fz ns :: rw3 a b e :: .lst Rs :: j) = .nx [some (.ref 1), some (.int m), w, x, some (.ref 2), y, z, none] (Fz ns :: rw3 a' b' e' :: .lst (Rs ++ [tl l]) :: j) := by
  have ap := app2 (f := Fz ns) (r := rw3 a' b' e') (X := tl l) (j := j) hL
  simp [E.var, E.con, E.op2, E.op1, E.and, E.or, E.ofT, E.isi, isiD, tyNm, isiB, T.not, T.val, T.and, T.or, T.isN, T.notN, T.yes, T.tru, truthD, D.isN, E.chain, E.ifx, D.le, D.lt, D.ge, D.gt, D.add, D.sub, D.mul, D.mod, D.fdiv, D.pow, D.neg, D.eq, D.ne, D.flat, D.eqv, E.call, L.cons, L.nil, L.disp, E.tup, E.tuple, E.ofL, E.len, E.lenSet, Q.of, R.of, rdQ, rdL, E.app, D.toInt, D.max2, D.min2, R.toS, R.toG, R.bind, S.ret, S.retN, S.seq, S.ife, S.nil, S.expr, S.set, S.par, S.asg, S.bad, S.for, E.gen, I.of, I.enum, srcE, srcD, L.comp, D.ix, E.sl, O.none, O.some, slD, E.met, isT, isL, D.tindex, wipeE, setC, Tg.name, Tg.cons, Tg.nil, Tg.tup, fits, runB, -List.map_take, -List.map_drop, -List.map_set, hc, ap]
abbrev habitB (c : Calls) : SΦ := (S.ife (T.val (E.op2 D.eq (E.var 3) (E.con (.int 0)))) (S.expr (E.met isL (mutL fAppend) (E.var 4) (L.cons (E.tuple (L.comp (I.rng1 (E.var 1)) [7] (.one 7) T.yes (E.op2 D.mod (E.op2 D.add (E.var 7) (E.var 2)) (E.var 1)))) L.nil))) (S.ife (T.val (E.op2 D.eq (E.var 3) (E.con (.int 1)))) (S.seq (S.set 5 (E.ofL (L.comp (I.rng1 (E.var 1)) [7] (.one 7) T.yes (E.op2 D.add (E.var 7) (E.app D.toInt (L.cons (E.op2 D.lt (E.var 7) (E.var 2)) L.nil)))))) (S.expr (E.met isL (mutL fAppend) (E.var 4) (L.cons (E.tuple (L.cat (L.cat (L.slE (E.var 5) O.none (O.some (E.var 2))) (L.disp (L.cons (E.con (.int 0)) L.nil))) (L.slE (E.var 5) (O.some (E.op2 D.add (E.var 2) (E.con (.int 1)))) O.none))) L.nil)))) (S.ife (T.val (E.op2 D.eq (E.var 3) (E.con (.int 2)))) (S.seq (S.set 6 (E.app D.max2 (L.cons (E.con (.int 0)) (L.cons (E.op2 D.sub (E.var 2) (E.con (.int 1))) L.nil)))) (S.seq (S.set 5 (E.ofL (L.rng1 (E.var 1)))) (S.seq (S.asg (E.tup (L.cons (E.var 6) (L.cons (E.var 2) L.nil))) (Tg.tup (Tg.cons (Tg.sub (E.var 5) (E.var 2)) (Tg.cons (Tg.sub (E.var 5) (E.var 6)) Tg.nil)))) (S.expr (E.met isL (mutL fAppend) (E.var 4) (L.cons (E.tuple (R.of (E.var 5))) L.nil)))))) (S.ife (T.and (T.val (E.op2 D.eq (E.var 3) (E.con (.int 3)))) (T.val (E.op2 D.eq (E.call 2 (c 6) (L.cons (E.var 0) (L.cons (E.con (.int 2)) L.nil))) (E.con (.int 0))))) (S.expr (E.met isL (mutL fAppend) (E.var 4) (L.cons (E.tuple (L.rng1 (E.var 1))) L.nil))) (S.expr (E.met isL (mutL fAppend) (E.var 4) (L.cons (E.call 2 (c 7) (L.cons (E.var 0) (L.cons (E.var 1) L.nil))) L.nil)))))))
theorem test3 (v k : Int) (A B C : Option D) (r : List (Option D)) (h : Hh) : T.val (E.op2 D.eq (E.var 3) (E.con (.int k))) (A :: B :: C :: some (.int v) :: r) h = .ok (v == k) h := by
  simp [E.var, E.con, E.op2, E.op1, E.and, E.or, E.ofT, E.isi, isiD, tyNm, isiB, T.not, T.val, T.and, T.or, T.isN, T.notN, T.yes, T.tru, truthD, D.isN, E.chain, E.ifx, D.le, D.lt, D.ge, D.gt, D.add, D.sub, D.mul, D.mod, D.fdiv, D.pow, D.neg, D.eq, D.ne, D.flat, D.eqv, E.call, L.cons, L.nil, L.disp, E.tup, E.tuple, E.ofL, E.len, E.lenSet, Q.of, R.of, rdQ, rdL, E.app, D.toInt, D.max2, D.min2, R.toS, R.toG, R.bind, S.ret, S.retN, S.seq, S.ife, S.nil, S.expr, S.set, S.par, S.asg, S.bad, S.for, E.gen, I.of, I.enum, srcE, srcD, L.comp, D.ix, E.sl, O.none, O.some, slD, E.met, isT, isL, D.tindex, wipeE, setC, Tg.name, Tg.cons, Tg.nil, Tg.tup, fits, runB, -List.map_take, -List.map_drop, -List.map_set]
theorem habit_body (d : Nat) {ns : List Int} {m p : Nat} (h2 : 2 ≤ m) (hm : m ≤ 5) (hp : p < m) {v a b e : Int} (h0 : 0 ≤ v) (h1 : v < 5) (ha : 0 ≤ a) (Rs : List D) (hL : Rs.length ≤ 100) (j : Hh) (y z : Option D) :
    ∃ (r : List Int) (a' b' e' : Int) (y' z' : Option D) (j' : Hh), habitB (run (d + 2)) [some (.ref 1), some (.int m), some (.int p), some (.int v), some (.ref 2), y, z, none] (Fz ns :: rw3 a b e :: .lst Rs :: j) =
      .nx [some (.ref 1), some (.int m), some (.int p), some (.int v), some (.ref 2), y', z', none] (Fz ns :: rw3 a' b' e' :: .lst (Rs ++ [tl r]) :: j') ∧ 0 ≤ a' ∧ Prm m r := by
  obtain ⟨p0, p1, p2⟩ := rows_prm h2 hm hp
  have hv : v = 0 ∨ v = 1 ∨ v = 2 ∨ v = 3 ∨ v = 4 := by omega
  rcases hv with rfl | rfl | rfl | rfl | rfl
  · exact ⟨row0 m p, a, b, e, y, z, j, by rw [habitB, ife_t (test3 ..)]; exact way0 (run (d + 2)) hm (by omega) ns a b e Rs hL j _ y z, ha, p0⟩
  · exact ⟨row1 m p, a, b, e, _, z, _, by rw [habitB, ife_f (test3 ..), ife_t (test3 ..)]; exact way1 (run (d + 2)) hm hp ns a b e Rs hL j _ y z, ha, p1⟩
  · exact ⟨row2 m p, a, b, e, _, _, _, by rw [habitB, ife_f (test3 ..), ife_f (test3 ..), ife_t (test3 ..)]; exact way2 (run (d + 2)) hm hp ns a b e Rs hL j _ y z, ha, p2⟩
  · obtain ⟨u, a1, b1, e1, hc, u0, u1, ha1⟩ := taken_ok (d + 1) (ns := ns) (a := a) (b := b) (c := e) (many := 2) (.lst Rs :: j) ha (by omega) (by omega)
    have hc : run (d + 2) 6 [.ref 1, .int 2] (Fz ns :: rw3 a b e :: .lst Rs :: j) = .ok (.int u) (Fz ns :: rw3 a1 b1 e1 :: .lst Rs :: j) := hc
    obtain ⟨l, a2, b2, e2, hc2, ha2, pl⟩ := order_ok d (ns := ns) (a := a1) (b := b1) (e := e1) (m := m) (.lst Rs :: j) ha1 hm (fun _ _ => trivial)
    generalize run (d + 2) = c at *
    have tt : T.and (T.val (E.op2 D.eq (E.var 3) (E.con (.int 3)))) (T.val (E.op2 D.eq (E.call 2 (c 6) (L.cons (E.var 0) (L.cons (E.con (.int 2)) L.nil))) (E.con (.int 0)))) [some (.ref 1), some (.int m), some (.int p), some (.int 3), some (.ref 2), y, z, none] (Fz ns :: rw3 a b e :: .lst Rs :: j) = .ok (u == 0) (Fz ns :: rw3 a1 b1 e1 :: .lst Rs :: j) := by
      simp [E.var, E.con, E.op2, E.op1, E.and, E.or, E.ofT, E.isi, isiD, tyNm, isiB, T.not, T.val, T.and, T.or, T.isN, T.notN, T.yes, T.tru, truthD, D.isN, E.chain, E.ifx, D.le, D.lt, D.ge, D.gt, D.add, D.sub, D.mul, D.mod, D.fdiv, D.pow, D.neg, D.eq, D.ne, D.flat, D.eqv, E.call, L.cons, L.nil, L.disp, E.tup, E.tuple, E.ofL, E.len, E.lenSet, Q.of, R.of, rdQ, rdL, E.app, D.toInt, D.max2, D.min2, R.toS, R.toG, R.bind, S.ret, S.retN, S.seq, S.ife, S.nil, S.expr, S.set, S.par, S.asg, S.bad, S.for, E.gen, I.of, I.enum, srcE, srcD, L.comp, D.ix, E.sl, O.none, O.some, slD, E.met, isT, isL, D.tindex, wipeE, setC, Tg.name, Tg.cons, Tg.nil, Tg.tup, fits, runB, -List.map_take, -List.map_drop, -List.map_set, hc]
    by_cases hu : u = 0
    · subst hu
      exact ⟨rg m, a1, b1, e1, y, z, j, by rw [habitB, ife_f (test3 ..), ife_f (test3 ..), ife_f (test3 ..), ife_t tt]; exact way3 c hm ns a1 b1 e1 Rs hL j _ _ y z, ha1, List.Perm.refl _⟩
    · have hu2 : (u == 0) = false := by simpa using hu
      rw [hu2] at tt
      exact ⟨l, a2, b2, e2, y, z, j, by rw [habitB, ife_f (test3 ..), ife_f (test3 ..), ife_f (test3 ..), ife_f tt]; exact way4 c ns a1 b1 e1 a2 b2 e2 Rs hL j _ _ y z l hc2, ha2, pl⟩
  · obtain ⟨l, a2, b2, e2, hc2, ha2, pl⟩ := order_ok d (ns := ns) (a := a) (b := b) (e := e) (m := m) (.lst Rs :: j) ha hm (fun _ _ => trivial)
    generalize run (d + 2) = c at *
    have tt : T.and (T.val (E.op2 D.eq (E.var 3) (E.con (.int 3)))) (T.val (E.op2 D.eq (E.call 2 (c 6) (L.cons (E.var 0) (L.cons (E.con (.int 2)) L.nil))) (E.con (.int 0)))) [some (.ref 1), some (.int m), some (.int p), some (.int 4), some (.ref 2), y, z, none] (Fz ns :: rw3 a b e :: .lst Rs :: j) = .ok false (Fz ns :: rw3 a b e :: .lst Rs :: j) := by
      simp [E.var, E.con, E.op2, E.op1, E.and, E.or, E.ofT, E.isi, isiD, tyNm, isiB, T.not, T.val, T.and, T.or, T.isN, T.notN, T.yes, T.tru, truthD, D.isN, E.chain, E.ifx, D.le, D.lt, D.ge, D.gt, D.add, D.sub, D.mul, D.mod, D.fdiv, D.pow, D.neg, D.eq, D.ne, D.flat, D.eqv, E.call, L.cons, L.nil, L.disp, E.tup, E.tuple, E.ofL, E.len, E.lenSet, Q.of, R.of, rdQ, rdL, E.app, D.toInt, D.max2, D.min2, R.toS, R.toG, R.bind, S.ret, S.retN, S.seq, S.ife, S.nil, S.expr, S.set, S.par, S.asg, S.bad, S.for, E.gen, I.of, I.enum, srcE, srcD, L.comp, D.ix, E.sl, O.none, O.some, slD, E.met, isT, isL, D.tindex, wipeE, setC, Tg.name, Tg.cons, Tg.nil, Tg.tup, fits, runB, -List.map_take, -List.map_drop, -List.map_set]
    exact ⟨l, a2, b2, e2, y, z, j, by rw [habitB, ife_f (test3 ..), ife_f (test3 ..), ife_f (test3 ..), ife_f tt]; exact way4 c ns a b e a2 b2 e2 Rs hL j _ _ y z l hc2, ha2, pl⟩
theorem habit_loop (d : Nat) {ns : List Int} {m : Nat} (h2 : 2 ≤ m) (hm : m ≤ 5) {v : Int} (h0 : 0 ≤ v) (h1 : v < 5) : ∀ (ps : List Nat) (Rs : List (List Int)) (a b e : Int) (x y z : Option D) (j : Hh), (∀ p ∈ ps, p < m) → Rs.length + ps.length ≤ 100 → 0 ≤ a →
    ∃ (hb : List (List Int)) (a' b' e' : Int) (x' y' z' : Option D) (j' : Hh), S.forGo ⟨(rg m).map D.int, none⟩ (Tg.name 2) (habitB (run (d + 2))) (ps.map fun (p : Nat) => D.int p) [some (.ref 1), some (.int m), x, some (.int v), some (.ref 2), y, z, none] (Fz ns :: rw3 a b e :: .lst (Rs.map fun l => tl l) :: j) =
      .nx [some (.ref 1), some (.int m), x', some (.int v), some (.ref 2), y', z', none] (Fz ns :: rw3 a' b' e' :: .lst ((Rs ++ hb).map fun l => tl l) :: j') ∧ 0 ≤ a' ∧ hb.length = ps.length ∧ ∀ r ∈ hb, Prm m r := by
  intro ps
  induction ps with
  | nil => intro Rs a b e x y z j _ _ ha; exact ⟨[], a, b, e, x, y, z, j, by rw [List.append_nil]; exact forGo_nil rfl, ha, rfl, fun r hr => by cases hr⟩
  | cons p ps ih =>
    intro Rs a b e x y z j hp hl ha
    obtain ⟨r, a1, b1, e1, y1, z1, j1, hb1, ha1, hr⟩ := habit_body d (ns := ns) h2 hm (hp p List.mem_cons_self) (v := v) (a := a) (b := b) (e := e) h0 h1 ha (Rs.map fun l => tl l) (by rw [List.length_map]; simp at hl; omega) j y z
    obtain ⟨hb, a2, b2, e2, x2, y2, z2, j2, q, ha2, hlen, hprm⟩ := ih (Rs ++ [r]) a1 b1 e1 (some (.int p)) y1 z1 j1 (fun q hq => hp q (List.mem_cons_of_mem _ hq)) (by simp at hl ⊢; omega) ha1
    refine ⟨r :: hb, a2, b2, e2, x2, y2, z2, j2, ?_, ha2, by rw [List.length_cons, List.length_cons, hlen], fun q hq => (List.mem_cons.mp hq).elim (fun z => z ▸ hr) (hprm q)⟩
    rw [show Rs ++ r :: hb = Rs ++ [r] ++ hb by simp, ← q, List.map_cons]
    rw [show ((Rs ++ [r]).map fun l => tl l) = (Rs.map fun l => tl l) ++ [tl r] by simp]
    exact forGo_cons (s := ⟨(rg m).map D.int, none⟩) (g := Tg.name 2) (b := habitB (run (d + 2))) (d := D.int (p : Nat)) (env1 := [some (.ref 1), some (.int m), some (.int p), some (.int v), some (.ref 2), y, z, none]) (ok_none _ _) rfl hb1
theorem habit_ok (d : Nat) {ns : List Int} {m : Nat} (h2 : 2 ≤ m) (hm : m ≤ 5) {a b e : Int} (ha : 0 ≤ a) : ∃ (hb : List (List Int)) (a' b' e' : Int), run (d + 3) 8 [.ref 1, .int m] [Fz ns, rw3 a b e] = .ok (H hb) [Fz ns, rw3 a' b' e'] ∧ 0 ≤ a' ∧ Hab m hb := by
  obtain ⟨v, a1, b1, e1, hc, v0, v1, ha1⟩ := taken_ok (d + 1) (ns := ns) (a := a) (b := b) (c := e) (many := 5) [] ha (by omega) (by omega)
  obtain ⟨hb, a2, b2, e2, x2, y2, z2, j2, q, ha2, hlen, hprm⟩ := habit_loop d (ns := ns) h2 hm v0 v1 (List.range m) [] a1 b1 e1 none none none [] (fun p hp => List.mem_range.mp hp) (by simp; omega) ha1
  refine ⟨hb, a2, b2, e2, ?_, ha2, ⟨by rw [hlen, List.length_range], h2, hm, hprm⟩⟩
  rw [run__law_habit]
  unfold b__law_habit
  have hc : run (d + 2) 6 [.ref 1, .int 5] [Fz ns, rw3 a b e] = .ok (.int v) [Fz ns, rw3 a1 b1 e1] := hc
  have er : ((List.range m).map fun (p : Nat) => D.int p) = (rg m).map D.int := by unfold rg; rw [List.map_map]; rfl
  rw [er, List.nil_append] at q
  generalize run (d + 2) = c at *
  have hr := rngS_rg (n := m) (by omega) [Fz ns, rw3 a1 b1 e1, .lst []]
  have s1 : S.par 3 4 (E.call 2 (c 6) (L.cons (E.var 0) (L.cons (E.con (.int 5)) L.nil))) (E.ofL (L.disp L.nil)) [some (.ref 1), some (.int m), none, none, none, none, none, none] [Fz ns, rw3 a b e] = .nx [some (.ref 1), some (.int m), none, some (.int v), some (.ref 2), none, none, none] [Fz ns, rw3 a1 b1 e1, .lst []] := by
    simp [E.var, E.con, E.op2, E.op1, E.and, E.or, E.ofT, E.isi, isiD, tyNm, isiB, T.not, T.val, T.and, T.or, T.isN, T.notN, T.yes, T.tru, truthD, D.isN, E.chain, E.ifx, D.le, D.lt, D.ge, D.gt, D.add, D.sub, D.mul, D.mod, D.fdiv, D.pow, D.neg, D.eq, D.ne, D.flat, D.eqv, E.call, L.cons, L.nil, L.disp, E.tup, E.tuple, E.ofL, E.len, E.lenSet, Q.of, R.of, rdQ, rdL, E.app, D.toInt, D.max2, D.min2, R.toS, R.toG, R.bind, S.ret, S.retN, S.seq, S.ife, S.nil, S.expr, S.set, S.par, S.asg, S.bad, S.for, E.gen, I.of, I.enum, srcE, srcD, L.comp, D.ix, E.sl, O.none, O.some, slD, E.met, isT, isL, D.tindex, wipeE, setC, Tg.name, Tg.cons, Tg.nil, Tg.tup, fits, runB, -List.map_take, -List.map_drop, -List.map_set, hc]
  have s2 : I.rng1 (E.var 1) [some (.ref 1), some (.int m), none, some (.int v), some (.ref 2), none, none, none] [Fz ns, rw3 a1 b1 e1, .lst []] = .ok ⟨(rg m).map D.int, none⟩ [Fz ns, rw3 a1 b1 e1, .lst []] := by
    simp [E.var, E.con, E.op2, E.op1, E.and, E.or, E.ofT, E.isi, isiD, tyNm, isiB, T.not, T.val, T.and, T.or, T.isN, T.notN, T.yes, T.tru, truthD, D.isN, E.chain, E.ifx, D.le, D.lt, D.ge, D.gt, D.add, D.sub, D.mul, D.mod, D.fdiv, D.pow, D.neg, D.eq, D.ne, D.flat, D.eqv, E.call, L.cons, L.nil, L.disp, E.tup, E.tuple, E.ofL, E.len, E.lenSet, Q.of, R.of, rdQ, rdL, E.app, D.toInt, D.max2, D.min2, R.toS, R.toG, R.bind, S.ret, S.retN, S.seq, S.ife, S.nil, S.expr, S.set, S.par, S.asg, S.bad, S.for, E.gen, I.of, I.enum, srcE, srcD, L.comp, D.ix, E.sl, O.none, O.some, slD, E.met, isT, isL, D.tindex, wipeE, setC, Tg.name, Tg.cons, Tg.nil, Tg.tup, fits, runB, -List.map_take, -List.map_drop, -List.map_set, I.rng1, hr]
  refine (congrArg (trunc _) (runB_rt (d := H hb) (h1 := [Fz ns, rw3 a2 b2 e2] ++ (.lst (hb.map fun l => tl l) :: j2)) ?_)).trans (trunc_drop' (by simp only [D.under]; exact unders_tl _ _) rfl ?_)
  · show S.seq _ _ [some (.ref 1), some (.int m), none, none, none, none, none, none] _ = _
    rw [seq_nx s1, seq_nx (for_of s2 q)]
    simp [E.var, E.con, E.op2, E.op1, E.and, E.or, E.ofT, E.isi, isiD, tyNm, isiB, T.not, T.val, T.and, T.or, T.isN, T.notN, T.yes, T.tru, truthD, D.isN, E.chain, E.ifx, D.le, D.lt, D.ge, D.gt, D.add, D.sub, D.mul, D.mod, D.fdiv, D.pow, D.neg, D.eq, D.ne, D.flat, D.eqv, E.call, L.cons, L.nil, L.disp, E.tup, E.tuple, E.ofL, E.len, E.lenSet, Q.of, R.of, rdQ, rdL, E.app, D.toInt, D.max2, D.min2, R.toS, R.toG, R.bind, S.ret, S.retN, S.seq, S.ife, S.nil, S.expr, S.set, S.par, S.asg, S.bad, S.for, E.gen, I.of, I.enum, srcE, srcD, L.comp, D.ix, E.sl, O.none, O.some, slD, E.met, isT, isL, D.tindex, wipeE, setC, Tg.name, Tg.cons, Tg.nil, Tg.tup, fits, runB, -List.map_take, -List.map_drop, -List.map_set]
  · simp [agree, MO.beq_refl, MO.under, D.unders, D.under]
end K15

set_option Elab.async false
set_option linter.all false
set_option maxRecDepth 100000
set_option maxHeartbeats 1000000
namespace K15
open PySem DL
theorem alike_int (d : Nat) (a : Int) (h : Hh) : run (d + 1) 11 [.int a, .int a] h = .ok (.bl true) h := by
  rw [run__law_alike]
  unfold b__law_alike
  simp [E.var, E.con, E.op2, E.op1, E.and, E.or, E.ofT, E.isi, isiD, tyNm, isiB, T.not, T.val, T.and, T.or, T.isN, T.notN, T.yes, T.tru, truthD, D.isN, E.chain, E.ifx, D.le, D.lt, D.ge, D.gt, D.add, D.sub, D.mul, D.mod, D.fdiv, D.pow, D.neg, D.eq, D.ne, D.flat, D.eqv, E.call, L.cons, L.nil, L.disp, E.tup, E.tuple, E.ofL, E.len, E.lenSet, Q.of, R.of, rdQ, rdL, E.app, D.toInt, D.max2, D.min2, R.toS, R.toG, R.bind, S.ret, S.retN, S.seq, S.ife, S.nil, S.expr, S.set, S.par, S.asg, S.bad, S.for, E.gen, I.of, I.enum, srcE, srcD, L.comp, D.ix, E.sl, O.none, O.some, slD, E.met, isT, isL, D.tindex, wipeE, setC, Tg.name, Tg.cons, Tg.nil, Tg.tup, fits, runB, -List.map_take, -List.map_drop, -List.map_set, trunc_keep]
theorem alike_tl (d : Nat) {l : List Int} (hl : l.length ≤ 1000) (h : Hh) : run (d + 2) 11 [tl l, tl l] h = .ok (.bl true) h := by
  rw [run__law_alike]
  unfold b__law_alike
  have hr := rngS_rg (n := l.length) hl h
  have hc : compGo ⟨(rg l.length).map D.int, none⟩ (.one 2) (T.not (T.val (E.call 2 (run (d + 1) 11) (L.cons (E.op2 D.ix (E.var 0) (E.var 2)) (L.cons (E.op2 D.ix (E.var 1) (E.var 2)) L.nil))))) (E.var 2) [some (tl l), some (tl l), none] ((rg l.length).map D.int) h = .ok [] h := by
    have q := compGo_filter (s := ⟨(rg l.length).map D.int, none⟩) (tg := .one 2) (t := T.not (T.val (E.call 2 (run (d + 1) 11) (L.cons (E.op2 D.ix (E.var 0) (E.var 2)) (L.cons (E.op2 D.ix (E.var 1) (E.var 2)) L.nil))))) (e := E.var 2) (env := [some (tl l), some (tl l), none]) (h := h) (p := fun _ => false) (f := id) rfl (l := (rg l.length).map D.int) (fun x hx => by
      obtain ⟨i, hi, rfl⟩ := List.mem_map.mp hx
      have hi := mem_rg.mp hi
      refine ⟨[some (tl l), some (tl l), some (.int i)], rfl, ?_, fun z => by cases z⟩
      have e1 := ixL_ints (l := l) (i := i) hi.1 hi.2 h
      have e2 := alike_int d (l.getD i.toNat 0) h
      generalize run (d + 1) = c at *
      generalize l.getD i.toNat 0 = v at *
      simp [E.var, E.con, E.op2, E.op1, E.and, E.or, E.ofT, E.isi, isiD, tyNm, isiB, T.not, T.val, T.and, T.or, T.isN, T.notN, T.yes, T.tru, truthD, D.isN, E.chain, E.ifx, D.le, D.lt, D.ge, D.gt, D.add, D.sub, D.mul, D.mod, D.fdiv, D.pow, D.neg, D.eq, D.ne, D.flat, D.eqv, E.call, L.cons, L.nil, L.disp, E.tup, E.tuple, E.ofL, E.len, E.lenSet, Q.of, R.of, rdQ, rdL, E.app, D.toInt, D.max2, D.min2, R.toS, R.toG, R.bind, S.ret, S.retN, S.seq, S.ife, S.nil, S.expr, S.set, S.par, S.asg, S.bad, S.for, E.gen, I.of, I.enum, srcE, srcD, L.comp, D.ix, E.sl, O.none, O.some, slD, E.met, isT, isL, D.tindex, wipeE, setC, Tg.name, Tg.cons, Tg.nil, Tg.tup, fits, runB, -List.map_take, -List.map_drop, -List.map_set, e1, e2])
    rw [q]
    simp
  generalize run (d + 1) = c at *
  have hz : dvOf h (DX.l []) = some (.ls []) := by simp [dvOf, D.flats]
  simp [E.var, E.con, E.op2, E.op1, E.and, E.or, E.ofT, E.isi, isiD, tyNm, isiB, T.not, T.val, T.and, T.or, T.isN, T.notN, T.yes, T.tru, truthD, D.isN, E.chain, E.ifx, D.le, D.lt, D.ge, D.gt, D.add, D.sub, D.mul, D.mod, D.fdiv, D.pow, D.neg, D.eq, D.ne, D.flat, D.eqv, E.call, L.cons, L.nil, L.disp, E.tup, E.tuple, E.ofL, E.len, E.lenSet, Q.of, R.of, rdQ, rdL, E.app, D.toInt, D.max2, D.min2, R.toS, R.toG, R.bind, S.ret, S.retN, S.seq, S.ife, S.nil, S.expr, S.set, S.par, S.asg, S.bad, S.for, E.gen, I.of, I.enum, srcE, srcD, L.comp, D.ix, E.sl, O.none, O.some, slD, E.met, isT, isL, D.tindex, wipeE, setC, Tg.name, Tg.cons, Tg.nil, Tg.tup, fits, runB, -List.map_take, -List.map_drop, -List.map_set, I.rng1, hr, hc, T.eqX, XX.ofL, hz, DV.eqv, D.eqvs, trunc_keep]
end K15

set_option Elab.async false
set_option linter.all false
set_option maxRecDepth 100000
set_option maxHeartbeats 1000000
namespace K15
open PySem DL
theorem ixL_hd (d : D) (l : List D) (h : Hh) : ixL (d :: l) 0 h = .ok d h := by
  have q : L2.ixN (l.length + 1) 0 = some 0 := ixN_nat (n := l.length + 1) (i := 0) (by omega)
  unfold ixL L2.atI
  rw [List.length_cons, q]
  rfl
/-- habits of one shelf -/
abbrev HS (hbs : List (List (List Int))) : D := .tup (hbs.map fun hb => H hb)
structure Habs (m : Nat) (hbs : List (List (List Int))) : Prop where
  lo : 1 ≤ hbs.length
  hi : hbs.length ≤ 3
  each : ∀ hb ∈ hbs, Hab m hb
theorem ix_head {m : Nat} {hbs : List (List (List Int))} (hh : Habs m hbs) (h : Hh) : ∃ hb, Hab m hb ∧ ixL (hbs.map fun hb => H hb) 0 h = .ok (H hb) h := by
  cases hbs with
  | nil => have := hh.lo; simp at this
  | cons hb r => exact ⟨hb, hh.each _ List.mem_cons_self, ixL_hd _ _ h⟩
theorem need_habits_ok (d : Nat) {m : Nat} {hbs : List (List (List Int))} (hh : Habs m hbs) (h : Hh) : run (d + 4) 3 [HS hbs] h = .ok .non h := by
  rw [run_need_habits]
  unfold b_need_habits
  obtain ⟨hb0, q0, i0⟩ := ix_head hh h
  have key : ∀ (l : List (List (List Int))) (k : Nat) (x y : Option D), (∀ r ∈ l, Hab m r) → ∃ e, S.forGo ⟨enumD 0 (hbs.map fun hb => H hb), none⟩ (Tg.tup (Tg.cons (Tg.name 1) (Tg.cons (Tg.name 2) Tg.nil))) (S.seq (S.thru (S.expr (E.call 1 (run (d + 3) 2) (L.cons (E.var 2) L.nil)))) (S.ife (T.val (E.op2 D.ne (E.len (Q.of (E.var 2))) (E.len (Q.of (E.op2 D.ix (E.var 0) (E.con (.int 0))))))) S.bad S.nil)) (enumD k (l.map fun hb => H hb)) [some (HS hbs), x, y] h = .nx e h := by
    intro l
    induction l with
    | nil => intro k x y _; exact ⟨_, forGo_nil rfl⟩
    | cons r l ih =>
      intro k x y hr
      have hr0 := hr r List.mem_cons_self
      have e := need_habit_ok d hr0 h
      obtain ⟨e', q⟩ := ih (k + 1) (some (.int k)) (some (H r)) fun r hx => hr r (List.mem_cons_of_mem _ hx)
      refine ⟨e', ?_⟩
      rw [← q]
      simp only [List.map_cons, enumD]
      have l1 := hr0.len
      have l2 := q0.len
      generalize run (d + 3) = c at *
      exact forGo_cons (env1 := [some (HS hbs), some (.int k), some (H r)]) (h1 := h) rfl rfl (by simp [E.var, E.con, E.op2, E.op1, E.and, E.or, E.ofT, E.isi, isiD, tyNm, isiB, T.not, T.val, T.and, T.or, T.isN, T.notN, T.yes, T.tru, truthD, D.isN, E.chain, E.ifx, D.le, D.lt, D.ge, D.gt, D.add, D.sub, D.mul, D.mod, D.fdiv, D.pow, D.neg, D.eq, D.ne, D.flat, D.eqv, E.call, L.cons, L.nil, L.disp, E.tup, E.tuple, E.ofL, E.len, E.lenSet, Q.of, R.of, rdQ, rdL, E.app, D.toInt, D.max2, D.min2, R.toS, R.toG, R.bind, S.ret, S.retN, S.seq, S.ife, S.nil, S.expr, S.set, S.par, S.asg, S.bad, S.for, E.gen, I.of, I.enum, srcE, srcD, L.comp, D.ix, E.sl, O.none, O.some, slD, E.met, isT, isL, D.tindex, wipeE, setC, Tg.name, Tg.cons, Tg.nil, Tg.tup, fits, runB, -List.map_take, -List.map_drop, -List.map_set, S.thru, e, i0, l1, l2])
  obtain ⟨e, q⟩ := key hbs 0 none none hh.each
  have a1 : (1 : Int) ≤ hbs.length := by have := hh.lo; omega
  have a2 : (hbs.length : Int) ≤ 3 := by have := hh.hi; omega
  generalize run (d + 3) = c at *
  simp [E.var, E.con, E.op2, E.op1, E.and, E.or, E.ofT, E.isi, isiD, tyNm, isiB, T.not, T.val, T.and, T.or, T.isN, T.notN, T.yes, T.tru, truthD, D.isN, E.chain, E.ifx, D.le, D.lt, D.ge, D.gt, D.add, D.sub, D.mul, D.mod, D.fdiv, D.pow, D.neg, D.eq, D.ne, D.flat, D.eqv, E.call, L.cons, L.nil, L.disp, E.tup, E.tuple, E.ofL, E.len, E.lenSet, Q.of, R.of, rdQ, rdL, E.app, D.toInt, D.max2, D.min2, R.toS, R.toG, R.bind, S.ret, S.retN, S.seq, S.ife, S.nil, S.expr, S.set, S.par, S.asg, S.bad, S.for, E.gen, I.of, I.enum, srcE, srcD, L.comp, D.ix, E.sl, O.none, O.some, slD, E.met, isT, isL, D.tindex, wipeE, setC, Tg.name, Tg.cons, Tg.nil, Tg.tup, fits, runB, -List.map_take, -List.map_drop, -List.map_set, q, a1, a2, trunc_keep]
/-- a lot of places -/
structure Lot (m : Nat) (lot : List Int) : Prop where
  ne : lot ≠ []
  each : ∀ p ∈ lot, 0 ≤ p ∧ p < m
  up : List.Pairwise (· < ·) lot
theorem zip_up : ∀ {l : List Int}, List.Pairwise (· < ·) l → ∀ x ∈ zipD (l.map D.int) ((l.drop 1).map D.int), ∃ a b : Int, x = .tup [.int a, .int b] ∧ a < b
  | [], _, x, hx => by simp [zipD] at hx
  | [a], _, x, hx => by simp [zipD] at hx
  | a :: b :: r, hp, x, hx => by
    have hp2 := List.pairwise_cons.mp hp
    simp only [List.map_cons, List.drop_succ_cons, List.drop_zero, zipD, List.mem_cons] at hx
    rcases hx with rfl | hx
    · exact ⟨a, b, rfl, hp2.1 b List.mem_cons_self⟩
    · exact zip_up hp2.2 x (by simpa using hx)
theorem need_lot_ok (d : Nat) {m : Nat} {hb : List (List Int)} {lot : List Int} (hh : Hab m hb) (hl : Lot m lot) (h : Hh) : run (d + 2) 4 [H hb, tl lot] h = .ok .non h := by
  rw [run_need_lot]
  unfold b_need_lot
  have hg : genGo false ⟨lot.map .int, none⟩ (.one 4) T.yes (E.call 3 (run (d + 1) 0) (L.cons (E.var 4) (L.cons (E.con (.int 0)) (L.cons (E.op2 D.sub (E.len (Q.of (E.var 0))) (E.con (.int 1))) L.nil)))) [some (H hb), some (tl lot), none, none, none] (lot.map .int) h = .ok (.bl true) h := by
    refine genGo_all rfl fun x hx => ?_
    obtain ⟨v, hv, rfl⟩ := List.mem_map.mp hx
    have := hl.each v hv
    refine ⟨_, rfl, rfl, ?_⟩
    have e := is_number_ok d v 0 (m - 1) h this.1 (by omega)
    simp [E.var, E.con, E.op2, E.op1, E.and, E.or, E.ofT, E.isi, isiD, tyNm, isiB, T.not, T.val, T.and, T.or, T.isN, T.notN, T.yes, T.tru, truthD, D.isN, E.chain, E.ifx, D.le, D.lt, D.ge, D.gt, D.add, D.sub, D.mul, D.mod, D.fdiv, D.pow, D.neg, D.eq, D.ne, D.flat, D.eqv, E.call, L.cons, L.nil, L.disp, E.tup, E.tuple, E.ofL, E.len, E.lenSet, Q.of, R.of, rdQ, rdL, E.app, D.toInt, D.max2, D.min2, R.toS, R.toG, R.bind, S.ret, S.retN, S.seq, S.ife, S.nil, S.expr, S.set, S.par, S.asg, S.bad, S.for, E.gen, I.of, I.enum, srcE, srcD, L.comp, D.ix, E.sl, O.none, O.some, slD, E.met, isT, isL, D.tindex, wipeE, setC, Tg.name, Tg.cons, Tg.nil, Tg.tup, fits, runB, -List.map_take, -List.map_drop, -List.map_set, e, hh.len]
  have hz : genGo false ⟨zipD (lot.map D.int) ((lot.drop 1).map D.int), none⟩ (.many [2, 3]) T.yes (E.op2 D.lt (E.var 2) (E.var 3)) [some (H hb), some (tl lot), none, none, none] (zipD (lot.map D.int) ((lot.drop 1).map D.int)) h = .ok (.bl true) h := by
    refine genGo_all rfl fun x hx => ?_
    obtain ⟨a, b, rfl, hab⟩ := zip_up hl.up x hx
    refine ⟨[some (H hb), some (tl lot), some (.int a), some (.int b), none], rfl, rfl, ?_⟩
    simp [E.var, E.con, E.op2, E.op1, E.and, E.or, E.ofT, E.isi, isiD, tyNm, isiB, T.not, T.val, T.and, T.or, T.isN, T.notN, T.yes, T.tru, truthD, D.isN, E.chain, E.ifx, D.le, D.lt, D.ge, D.gt, D.add, D.sub, D.mul, D.mod, D.fdiv, D.pow, D.neg, D.eq, D.ne, D.flat, D.eqv, E.call, L.cons, L.nil, L.disp, E.tup, E.tuple, E.ofL, E.len, E.lenSet, Q.of, R.of, rdQ, rdL, E.app, D.toInt, D.max2, D.min2, R.toS, R.toG, R.bind, S.ret, S.retN, S.seq, S.ife, S.nil, S.expr, S.set, S.par, S.asg, S.bad, S.for, E.gen, I.of, I.enum, srcE, srcD, L.comp, D.ix, E.sl, O.none, O.some, slD, E.met, isT, isL, D.tindex, wipeE, setC, Tg.name, Tg.cons, Tg.nil, Tg.tup, fits, runB, -List.map_take, -List.map_drop, -List.map_set, hab]
  have hne := hl.ne
  have c1 : cutD (lot.map D.int) (some 1) none = (lot.drop 1).map D.int := by
    have : 1 ≤ lot.length := by cases lot with
      | nil => exact absurd rfl hne
      | cons a r => simp
    exact cut_dropI (l := lot) (k := 0) (by omega)
  generalize run (d + 1) = c at *
  have z1 : I.zip (E.var 1) (E.sl (E.var 1) (O.some (E.con (.int 1))) O.none) [some (H hb), some (tl lot), none, none, none] h = .ok ⟨zipD (lot.map D.int) ((lot.drop 1).map D.int), none⟩ h := by
    rw [← c1]
    simp [E.var, E.con, E.op2, E.op1, E.and, E.or, E.ofT, E.isi, isiD, tyNm, isiB, T.not, T.val, T.and, T.or, T.isN, T.notN, T.yes, T.tru, truthD, D.isN, E.chain, E.ifx, D.le, D.lt, D.ge, D.gt, D.add, D.sub, D.mul, D.mod, D.fdiv, D.pow, D.neg, D.eq, D.ne, D.flat, D.eqv, E.call, L.cons, L.nil, L.disp, E.tup, E.tuple, E.ofL, E.len, E.lenSet, Q.of, R.of, rdQ, rdL, E.app, D.toInt, D.max2, D.min2, R.toS, R.toG, R.bind, S.ret, S.retN, S.seq, S.ife, S.nil, S.expr, S.set, S.par, S.asg, S.bad, S.for, E.gen, I.of, I.enum, srcE, srcD, L.comp, D.ix, E.sl, O.none, O.some, slD, E.met, isT, isL, D.tindex, wipeE, setC, Tg.name, Tg.cons, Tg.nil, Tg.tup, fits, runB, -List.map_take, -List.map_drop, -List.map_set, I.zip, srcZ]
  clear c1
  generalize zipD (lot.map D.int) ((lot.drop 1).map D.int) = zz at *
  simp [E.var, E.con, E.op2, E.op1, E.and, E.or, E.ofT, E.isi, isiD, tyNm, isiB, T.not, T.val, T.and, T.or, T.isN, T.notN, T.yes, T.tru, truthD, D.isN, E.chain, E.ifx, D.le, D.lt, D.ge, D.gt, D.add, D.sub, D.mul, D.mod, D.fdiv, D.pow, D.neg, D.eq, D.ne, D.flat, D.eqv, E.call, L.cons, L.nil, L.disp, E.tup, E.tuple, E.ofL, E.len, E.lenSet, Q.of, R.of, rdQ, rdL, E.app, D.toInt, D.max2, D.min2, R.toS, R.toG, R.bind, S.ret, S.retN, S.seq, S.ife, S.nil, S.expr, S.set, S.par, S.asg, S.bad, S.for, E.gen, I.of, I.enum, srcE, srcD, L.comp, D.ix, E.sl, O.none, O.some, slD, E.met, isT, isL, D.tindex, wipeE, setC, Tg.name, Tg.cons, Tg.nil, Tg.tup, fits, runB, -List.map_take, -List.map_drop, -List.map_set, hg, z1, hz, hne, trunc_keep]
end K15

set_option Elab.async false
set_option linter.all false
set_option maxRecDepth 100000
set_option maxHeartbeats 1000000
namespace K15
open PySem DL
def rowOf (hb : List (List Int)) (p : Int) : List Int := hb.getD p.toNat []
def cell (hb : List (List Int)) (p s : Int) : Int := (rowOf hb p).getD s.toNat 0
/-- what stands there behind the word -/
def st (hb : List (List Int)) (s : Int) (w : List Int) : Int := w.foldl (fun s p => cell hb p s) s
theorem Hab.at' {m : Nat} {hb : List (List Int)} (hh : Hab m hb) {p : Int} (h0 : 0 ≤ p) (h1 : p < m) : Prm m (rowOf hb p) := by
  unfold rowOf
  have hl := hh.len
  have : p.toNat < hb.length := by omega
  rw [List.getD_eq_getElem?_getD, List.getElem?_eq_getElem this]
  exact hh.row _ (List.getElem_mem this)
theorem cell_in {m : Nat} {hb : List (List Int)} (hh : Hab m hb) {p s : Int} (h0 : 0 ≤ p) (h1 : p < m) (s0 : 0 ≤ s) (s1 : s < m) : 0 ≤ cell hb p s ∧ cell hb p s < m := by
  have hp := hh.at' h0 h1
  unfold cell
  have hl := hp.len
  have : s.toNat < (rowOf hb p).length := by omega
  rw [List.getD_eq_getElem?_getD, List.getElem?_eq_getElem this]
  exact hp.mem.mp (List.getElem_mem this)
theorem ix_row {m : Nat} {hb : List (List Int)} (hh : Hab m hb) {p : Int} (h0 : 0 ≤ p) (h1 : p < m) (h : Hh) : ixL (hb.map fun l => tl l) p h = .ok (tl (rowOf hb p)) h := by
  have hl := hh.len
  exact ixL_rows (l := hb) (i := p) h0 (by omega) h
theorem ix_cell {m : Nat} {hb : List (List Int)} (hh : Hab m hb) {p s : Int} (h0 : 0 ≤ p) (h1 : p < m) (s0 : 0 ≤ s) (s1 : s < m) (h : Hh) : ixL ((rowOf hb p).map D.int) s h = .ok (.int (cell hb p s)) h :=
  ixL_ints (l := rowOf hb p) (i := s) s0 (by rw [(hh.at' h0 h1).len]; omega) h
abbrev Wd (m : Nat) (w : List Int) : Prop := ∀ p ∈ w, 0 ≤ p ∧ p < m
/-- the loop over the word in habits_left: spot 10, stands 9, habit 8 -/
theorem left_word {m : Nat} {hb : List (List Int)} (hh : Hab m hb) (A B C F E5 F6 F7 : D) (w : List Int) (h : Hh) : ∀ (v : List Int) (s : Int) (x : Option D), Wd m v → 0 ≤ s → s < m →
    ∃ e, S.forGo ⟨w.map D.int, none⟩ (Tg.name 10) (S.set 9 (E.op2 D.ix (E.op2 D.ix (E.var 8) (E.var 10)) (E.var 9))) (v.map D.int) [some A, some B, some C, some (tl w), some F, some E5, some F6, some F7, some (H hb), some (.int s), x] h = .nx [some A, some B, some C, some (tl w), some F, some E5, some F6, some F7, some (H hb), some (.int (st hb s v)), e] h := by
  intro v
  induction v with
  | nil => intro s x _ _ _; exact ⟨_, forGo_nil rfl⟩
  | cons p v ih =>
    intro s x hw s0 s1
    have hp := hw p List.mem_cons_self
    have hc := cell_in hh hp.1 hp.2 s0 s1
    obtain ⟨e, q⟩ := ih (cell hb p s) (some (.int p)) (fun q hq => hw q (List.mem_cons_of_mem _ hq)) hc.1 hc.2
    refine ⟨e, ?_⟩
    rw [show st hb s (p :: v) = st hb (cell hb p s) v from rfl, ← q, List.map_cons]
    have i1 := ix_row hh hp.1 hp.2 h
    have i2 := ix_cell hh hp.1 hp.2 s0 s1 h
    generalize rowOf hb p = rr0 at *
    generalize cell hb p s = C0 at *
    exact forGo_cons (env1 := [some A, some B, some C, some (tl w), some F, some E5, some F6, some F7, some (H hb), some (.int s), some (.int p)]) (h1 := h) rfl rfl (by simp [E.var, E.con, E.op2, E.op1, E.and, E.or, E.ofT, E.isi, isiD, tyNm, isiB, T.not, T.val, T.and, T.or, T.isN, T.notN, T.yes, T.tru, truthD, D.isN, E.chain, E.ifx, D.le, D.lt, D.ge, D.gt, D.add, D.sub, D.mul, D.mod, D.fdiv, D.pow, D.neg, D.eq, D.ne, D.flat, D.eqv, E.call, L.cons, L.nil, L.disp, E.tup, E.tuple, E.ofL, E.len, E.lenSet, Q.of, R.of, rdQ, rdL, E.app, D.toInt, D.max2, D.min2, R.toS, R.toG, R.bind, S.ret, S.retN, S.seq, S.ife, S.nil, S.expr, S.set, S.par, S.asg, S.bad, S.for, E.gen, I.of, I.enum, srcE, srcD, L.comp, D.ix, E.sl, O.none, O.some, slD, E.met, isT, isL, D.tindex, wipeE, setC, Tg.name, Tg.cons, Tg.nil, Tg.tup, fits, runB, -List.map_take, -List.map_drop, -List.map_set, i1, i2])
end K15

set_option Elab.async false
set_option linter.all false
set_option maxRecDepth 100000
set_option maxHeartbeats 1000000
namespace K15
open PySem DL
def hit (place read : Int) (mk : Bool) (w : List Int) (hb : List (List Int)) : Bool := (st hb (cell hb place place) w == read) == mk
def lf (place read : Int) (mk : Bool) (w : List Int) : Nat → List (List (List Int)) → List Int
  | _, [] => []
  | k, hb :: r => if hit place read mk w hb then (k : Int) :: lf place read mk w (k + 1) r else lf place read mk w (k + 1) r
abbrev leftB : SΦ := (S.seq (S.set 9 (E.op2 D.ix (E.op2 D.ix (E.var 8) (E.var 2)) (E.var 2))) (S.seq (S.for (I.of (E.var 3)) (Tg.name 10) (S.set 9 (E.op2 D.ix (E.op2 D.ix (E.var 8) (E.var 10)) (E.var 9)))) (S.ife (T.val (E.op2 D.eq (E.op2 D.eq (E.var 9) (E.var 4)) (E.var 5))) (S.expr (E.met isL (mutL fAppend) (E.var 6) (L.cons (E.var 7) L.nil))) S.nil)))
theorem left_body {m : Nat} {hb : List (List Int)} (hh : Hab m hb) (A B : D) {place : Int} (p0 : 0 ≤ place) (p1 : place < m) (read : Int) (mk : Bool) {w : List Int} (hw : Wd m w) (k : Nat) (acc : List Int) (ha : acc.length ≤ 100) (h : Hh) (x y : Option D) :
    ∃ x' y', leftB [some A, some B, some (.int place), some (tl w), some (.int read), some (.bl mk), some (.ref h.length), some (.int k), some (H hb), x, y] (h ++ [.lst (acc.map D.int)]) = .nx [some A, some B, some (.int place), some (tl w), some (.int read), some (.bl mk), some (.ref h.length), some (.int k), some (H hb), x', y'] (h ++ [.lst ((if hit place read mk w hb then acc ++ [(k : Int)] else acc).map D.int)]) := by
  have i1 := ix_row hh p0 p1 (h ++ [.lst (acc.map D.int)])
  have i2 := ix_cell hh p0 p1 p0 p1 (h ++ [.lst (acc.map D.int)])
  have hc := cell_in hh p0 p1 p0 p1
  obtain ⟨e, q⟩ := left_word hh A B (.int place) (.int read) (.bl mk) (.ref h.length) (.int k) w (h ++ [.lst (acc.map D.int)]) w (cell hb place place) y hw hc.1 hc.2
  have mu := mut_last (g := h) (app_ints acc k) (by simp; omega)
  refine ⟨some (.int (st hb (cell hb place place) w)), e, ?_⟩
  unfold hit
  generalize cell hb place place = C0 at *
  generalize rowOf hb place = rr0 at *
  have s1 : S.set 9 (E.op2 D.ix (E.op2 D.ix (E.var 8) (E.var 2)) (E.var 2)) [some A, some B, some (.int place), some (tl w), some (.int read), some (.bl mk), some (.ref h.length), some (.int k), some (H hb), x, y] (h ++ [.lst (acc.map D.int)]) = .nx [some A, some B, some (.int place), some (tl w), some (.int read), some (.bl mk), some (.ref h.length), some (.int k), some (H hb), some (.int C0), y] (h ++ [.lst (acc.map D.int)]) := by
    simp [E.var, E.con, E.op2, E.op1, E.and, E.or, E.ofT, E.isi, isiD, tyNm, isiB, T.not, T.val, T.and, T.or, T.isN, T.notN, T.yes, T.tru, truthD, D.isN, E.chain, E.ifx, D.le, D.lt, D.ge, D.gt, D.add, D.sub, D.mul, D.mod, D.fdiv, D.pow, D.neg, D.eq, D.ne, D.flat, D.eqv, E.call, L.cons, L.nil, L.disp, E.tup, E.tuple, E.ofL, E.len, E.lenSet, Q.of, R.of, rdQ, rdL, E.app, D.toInt, D.max2, D.min2, R.toS, R.toG, R.bind, S.ret, S.retN, S.seq, S.ife, S.nil, S.expr, S.set, S.par, S.asg, S.bad, S.for, E.gen, I.of, I.enum, srcE, srcD, L.comp, D.ix, E.sl, O.none, O.some, slD, E.met, isT, isL, D.tindex, wipeE, setC, Tg.name, Tg.cons, Tg.nil, Tg.tup, fits, runB, -List.map_take, -List.map_drop, -List.map_set, i1, i2]
  have s2 : S.for (I.of (E.var 3)) (Tg.name 10) (S.set 9 (E.op2 D.ix (E.op2 D.ix (E.var 8) (E.var 10)) (E.var 9))) [some A, some B, some (.int place), some (tl w), some (.int read), some (.bl mk), some (.ref h.length), some (.int k), some (H hb), some (.int C0), y] (h ++ [.lst (acc.map D.int)]) = .nx [some A, some B, some (.int place), some (tl w), some (.int read), some (.bl mk), some (.ref h.length), some (.int k), some (H hb), some (.int (st hb C0 w)), e] (h ++ [.lst (acc.map D.int)]) := by
    refine for_of (h1 := h ++ [.lst (acc.map D.int)]) (s := ⟨w.map D.int, none⟩) ?_ q
    simp [E.var, E.con, E.op2, E.op1, E.and, E.or, E.ofT, E.isi, isiD, tyNm, isiB, T.not, T.val, T.and, T.or, T.isN, T.notN, T.yes, T.tru, truthD, D.isN, E.chain, E.ifx, D.le, D.lt, D.ge, D.gt, D.add, D.sub, D.mul, D.mod, D.fdiv, D.pow, D.neg, D.eq, D.ne, D.flat, D.eqv, E.call, L.cons, L.nil, L.disp, E.tup, E.tuple, E.ofL, E.len, E.lenSet, Q.of, R.of, rdQ, rdL, E.app, D.toInt, D.max2, D.min2, R.toS, R.toG, R.bind, S.ret, S.retN, S.seq, S.ife, S.nil, S.expr, S.set, S.par, S.asg, S.bad, S.for, E.gen, I.of, I.enum, srcE, srcD, L.comp, D.ix, E.sl, O.none, O.some, slD, E.met, isT, isL, D.tindex, wipeE, setC, Tg.name, Tg.cons, Tg.nil, Tg.tup, fits, runB, -List.map_take, -List.map_drop, -List.map_set]
  rw [leftB, seq_nx s1, seq_nx s2]
  generalize st hb C0 w = z at *
  simp only [List.map_append, List.map_cons, List.map_nil] at mu
  by_cases c1 : (z == read) = mk
  · have c2 : ((z == read) == mk) = true := by rw [c1]; simp
    have tt : T.val (E.op2 D.eq (E.op2 D.eq (E.var 9) (E.var 4)) (E.var 5)) [some A, some B, some (.int place), some (tl w), some (.int read), some (.bl mk), some (.ref h.length), some (.int k), some (H hb), some (.int z), e] (h ++ [.lst (acc.map D.int)]) = .ok true (h ++ [.lst (acc.map D.int)]) := by
      rw [← c2]
      simp [E.var, E.con, E.op2, E.op1, E.and, E.or, E.ofT, E.isi, isiD, tyNm, isiB, T.not, T.val, T.and, T.or, T.isN, T.notN, T.yes, T.tru, truthD, D.isN, E.chain, E.ifx, D.le, D.lt, D.ge, D.gt, D.add, D.sub, D.mul, D.mod, D.fdiv, D.pow, D.neg, D.eq, D.ne, D.flat, D.eqv, E.call, L.cons, L.nil, L.disp, E.tup, E.tuple, E.ofL, E.len, E.lenSet, Q.of, R.of, rdQ, rdL, E.app, D.toInt, D.max2, D.min2, R.toS, R.toG, R.bind, S.ret, S.retN, S.seq, S.ife, S.nil, S.expr, S.set, S.par, S.asg, S.bad, S.for, E.gen, I.of, I.enum, srcE, srcD, L.comp, D.ix, E.sl, O.none, O.some, slD, E.met, isT, isL, D.tindex, wipeE, setC, Tg.name, Tg.cons, Tg.nil, Tg.tup, fits, runB, -List.map_take, -List.map_drop, -List.map_set]
    rw [ife_t tt, if_pos c2, List.map_append]
    simp [E.var, E.con, E.op2, E.op1, E.and, E.or, E.ofT, E.isi, isiD, tyNm, isiB, T.not, T.val, T.and, T.or, T.isN, T.notN, T.yes, T.tru, truthD, D.isN, E.chain, E.ifx, D.le, D.lt, D.ge, D.gt, D.add, D.sub, D.mul, D.mod, D.fdiv, D.pow, D.neg, D.eq, D.ne, D.flat, D.eqv, E.call, L.cons, L.nil, L.disp, E.tup, E.tuple, E.ofL, E.len, E.lenSet, Q.of, R.of, rdQ, rdL, E.app, D.toInt, D.max2, D.min2, R.toS, R.toG, R.bind, S.ret, S.retN, S.seq, S.ife, S.nil, S.expr, S.set, S.par, S.asg, S.bad, S.for, E.gen, I.of, I.enum, srcE, srcD, L.comp, D.ix, E.sl, O.none, O.some, slD, E.met, isT, isL, D.tindex, wipeE, setC, Tg.name, Tg.cons, Tg.nil, Tg.tup, fits, runB, -List.map_take, -List.map_drop, -List.map_set, mu]
  · have c2 : ((z == read) == mk) = false := by simpa using c1
    have tt : T.val (E.op2 D.eq (E.op2 D.eq (E.var 9) (E.var 4)) (E.var 5)) [some A, some B, some (.int place), some (tl w), some (.int read), some (.bl mk), some (.ref h.length), some (.int k), some (H hb), some (.int z), e] (h ++ [.lst (acc.map D.int)]) = .ok false (h ++ [.lst (acc.map D.int)]) := by
      rw [← c2]
      simp [E.var, E.con, E.op2, E.op1, E.and, E.or, E.ofT, E.isi, isiD, tyNm, isiB, T.not, T.val, T.and, T.or, T.isN, T.notN, T.yes, T.tru, truthD, D.isN, E.chain, E.ifx, D.le, D.lt, D.ge, D.gt, D.add, D.sub, D.mul, D.mod, D.fdiv, D.pow, D.neg, D.eq, D.ne, D.flat, D.eqv, E.call, L.cons, L.nil, L.disp, E.tup, E.tuple, E.ofL, E.len, E.lenSet, Q.of, R.of, rdQ, rdL, E.app, D.toInt, D.max2, D.min2, R.toS, R.toG, R.bind, S.ret, S.retN, S.seq, S.ife, S.nil, S.expr, S.set, S.par, S.asg, S.bad, S.for, E.gen, I.of, I.enum, srcE, srcD, L.comp, D.ix, E.sl, O.none, O.some, slD, E.met, isT, isL, D.tindex, wipeE, setC, Tg.name, Tg.cons, Tg.nil, Tg.tup, fits, runB, -List.map_take, -List.map_drop, -List.map_set]
    rw [ife_f tt, c2]
    rfl
theorem left_loop {m : Nat} {hbs : List (List (List Int))} (A B : D) {place : Int} (p0 : 0 ≤ place) (p1 : place < m) (read : Int) (mk : Bool) {w : List Int} (hw : Wd m w) (h : Hh) : ∀ (l : List (List (List Int))) (k : Nat) (acc : List Int) (x7 x8 x y : Option D), (∀ hb ∈ l, Hab m hb) → acc.length + l.length ≤ 100 →
    ∃ x7' x8' x' y', S.forGo ⟨enumD 0 (hbs.map fun hb => H hb), none⟩ (Tg.tup (Tg.cons (Tg.name 7) (Tg.cons (Tg.name 8) Tg.nil))) leftB (enumD k (l.map fun hb => H hb)) [some A, some B, some (.int place), some (tl w), some (.int read), some (.bl mk), some (.ref h.length), x7, x8, x, y] (h ++ [.lst (acc.map D.int)]) = .nx [some A, some B, some (.int place), some (tl w), some (.int read), some (.bl mk), some (.ref h.length), x7', x8', x', y'] (h ++ [.lst ((acc ++ lf place read mk w k l).map D.int)]) := by
  intro l
  induction l with
  | nil => intro k acc x7 x8 x y _ _; exact ⟨_, _, _, _, by rw [lf, List.append_nil]; exact forGo_nil rfl⟩
  | cons hb l ih =>
    intro k acc x7 x8 x y hh hl
    obtain ⟨x', y', q1⟩ := left_body (hh hb List.mem_cons_self) A B p0 p1 read mk hw k acc (by simp at hl; omega) h x y
    obtain ⟨a7, a8, a, b, q2⟩ := ih (k + 1) (if hit place read mk w hb then acc ++ [(k : Int)] else acc) (some (.int k)) (some (H hb)) x' y' (fun r hr => hh r (List.mem_cons_of_mem _ hr)) (by rw [List.length_cons] at hl; split <;> (try rw [List.length_append, List.length_singleton]) <;> omega)
    refine ⟨a7, a8, a, b, ?_⟩
    have e : acc ++ lf place read mk w k (hb :: l) = (if hit place read mk w hb then acc ++ [(k : Int)] else acc) ++ lf place read mk w (k + 1) l := by
      rw [lf]
      split <;> simp
    rw [e, ← q2]
    simp only [List.map_cons, enumD]
    exact forGo_cons rfl rfl q1
end K15

set_option Elab.async false
set_option linter.all false
set_option maxRecDepth 100000
set_option maxHeartbeats 1000000
namespace K15
open PySem DL
theorem in_lot (d : Nat) {m : Nat} {hbs : List (List (List Int))} {lot : List Int} (hh : Habs m hbs) (hl : Lot m lot) (C F E4 E5 : D) (h : Hh) (l : List Int) (hin : ∀ p ∈ l, p ∈ lot) :
    genGo false ⟨l.map D.int, none⟩ (.one 10) T.yes (E.and (E.call 3 (run (d + 1) 0) (L.cons (E.var 10) (L.cons (E.con (.int 0)) (L.cons (E.op2 D.sub (E.len (Q.of (E.op2 D.ix (E.var 0) (E.con (.int 0))))) (E.con (.int 1))) L.nil)))) (E.op2 (D.isIn false) (E.var 10) (E.var 1))) [some (HS hbs), some (tl lot), some C, some F, some E4, some E5, none, none, none, none, none] (l.map D.int) h = .ok (.bl true) h := by
  obtain ⟨hb0, q0, i0⟩ := ix_head hh h
  refine genGo_all rfl fun x hx => ?_
  obtain ⟨v, hv, rfl⟩ := List.mem_map.mp hx
  have hm := hin v hv
  have := hl.each v hm
  refine ⟨[some (HS hbs), some (tl lot), some C, some F, some E4, some E5, none, none, none, none, some (.int v)], rfl, rfl, ?_⟩
  have e := is_number_ok d v 0 (m - 1) h this.1 (by omega)
  have l0 := q0.len
  have c0 : lot.contains v = true := by simpa using hm
  generalize run (d + 1) = c at *
  have s1 : E.call 3 (c 0) (L.cons (E.var 10) (L.cons (E.con (.int 0)) (L.cons (E.op2 D.sub (E.len (Q.of (E.op2 D.ix (E.var 0) (E.con (.int 0))))) (E.con (.int 1))) L.nil))) [some (HS hbs), some (tl lot), some C, some F, some E4, some E5, none, none, none, none, some (.int v)] h = .ok (.bl true) h := by
    simp [E.var, E.con, E.op2, E.op1, E.and, E.or, E.ofT, E.isi, isiD, tyNm, isiB, T.not, T.val, T.and, T.or, T.isN, T.notN, T.yes, T.tru, truthD, D.isN, E.chain, E.ifx, D.le, D.lt, D.ge, D.gt, D.add, D.sub, D.mul, D.mod, D.fdiv, D.pow, D.neg, D.eq, D.ne, D.flat, D.eqv, E.call, L.cons, L.nil, L.disp, E.tup, E.tuple, E.ofL, E.len, E.lenSet, Q.of, R.of, rdQ, rdL, E.app, D.toInt, D.max2, D.min2, R.toS, R.toG, R.bind, S.ret, S.retN, S.seq, S.ife, S.nil, S.expr, S.set, S.par, S.asg, S.bad, S.for, E.gen, I.of, I.enum, srcE, srcD, L.comp, D.ix, E.sl, O.none, O.some, slD, E.met, isT, isL, D.tindex, wipeE, setC, Tg.name, Tg.cons, Tg.nil, Tg.tup, fits, runB, -List.map_take, -List.map_drop, -List.map_set, i0, l0, e]
  have s2 : E.op2 (D.isIn false) (E.var 10) (E.var 1) [some (HS hbs), some (tl lot), some C, some F, some E4, some E5, none, none, none, none, some (.int v)] h = .ok (.bl true) h := by
    have : D.isIn false (.int v) (tl lot) h = .ok (.bl true) h := by
      simp only [D.isIn, tl, intsOf_map, c0]
      rfl
    simp [E.var, E.con, E.op2, E.op1, E.and, E.or, E.ofT, E.isi, isiD, tyNm, isiB, T.not, T.val, T.and, T.or, T.isN, T.notN, T.yes, T.tru, truthD, D.isN, E.chain, E.ifx, D.le, D.lt, D.ge, D.gt, D.add, D.sub, D.mul, D.mod, D.fdiv, D.pow, D.neg, D.eq, D.ne, D.flat, D.eqv, E.call, L.cons, L.nil, L.disp, E.tup, E.tuple, E.ofL, E.len, E.lenSet, Q.of, R.of, rdQ, rdL, E.app, D.toInt, D.max2, D.min2, R.toS, R.toG, R.bind, S.ret, S.retN, S.seq, S.ife, S.nil, S.expr, S.set, S.par, S.asg, S.bad, S.for, E.gen, I.of, I.enum, srcE, srcD, L.comp, D.ix, E.sl, O.none, O.some, slD, E.met, isT, isL, D.tindex, wipeE, setC, Tg.name, Tg.cons, Tg.nil, Tg.tup, fits, runB, -List.map_take, -List.map_drop, -List.map_set, this]
  generalize E.call 3 (c 0) (L.cons (E.var 10) (L.cons (E.con (.int 0)) (L.cons (E.op2 D.sub (E.len (Q.of (E.op2 D.ix (E.var 0) (E.con (.int 0))))) (E.con (.int 1))) L.nil))) = X at *
  generalize E.op2 (D.isIn false) (E.var 10) (E.var 1) = Y at *
  unfold E.and
  simp [E.var, E.con, E.op2, E.op1, E.and, E.or, E.ofT, E.isi, isiD, tyNm, isiB, T.not, T.val, T.and, T.or, T.isN, T.notN, T.yes, T.tru, truthD, D.isN, E.chain, E.ifx, D.le, D.lt, D.ge, D.gt, D.add, D.sub, D.mul, D.mod, D.fdiv, D.pow, D.neg, D.eq, D.ne, D.flat, D.eqv, E.call, L.cons, L.nil, L.disp, E.tup, E.tuple, E.ofL, E.len, E.lenSet, Q.of, R.of, rdQ, rdL, E.app, D.toInt, D.max2, D.min2, R.toS, R.toG, R.bind, S.ret, S.retN, S.seq, S.ife, S.nil, S.expr, S.set, S.par, S.asg, S.bad, S.for, E.gen, I.of, I.enum, srcE, srcD, L.comp, D.ix, E.sl, O.none, O.some, slD, E.met, isT, isL, D.tindex, wipeE, setC, Tg.name, Tg.cons, Tg.nil, Tg.tup, fits, runB, -List.map_take, -List.map_drop, -List.map_set, s1, s2]
theorem lf_length (place read : Int) (mk : Bool) (w : List Int) : ∀ (l : List (List (List Int))) (k : Nat), (lf place read mk w k l).length ≤ l.length
  | [], _ => Nat.le_refl _
  | hb :: r, k => by
    have := lf_length place read mk w r (k + 1)
    unfold lf
    split <;> simp only [List.length_cons] <;> omega
theorem habits_left_ok (d : Nat) {m : Nat} {hbs : List (List (List Int))} {lot : List Int} (hh : Habs m hbs) (hl : Lot m lot) {place read : Int} {w : List Int} (mk : Bool) (hp : place ∈ lot) (hr : read ∈ lot) (hw : ∀ p ∈ w, p ∈ lot) (h : Hh) :
    run (d + 5) 5 [HS hbs, tl lot, .int place, tl w, .int read, .bl mk] h = .ok (tl (lf place read mk w 0 hbs)) h := by
  rw [run_habits_left]
  unfold b_habits_left
  obtain ⟨hb0, q0, i0⟩ := ix_head hh h
  have e1 := need_habits_ok d hh h
  have e2 := need_lot_ok (d + 2) q0 hl h
  have g1 := in_lot (d + 3) hh hl (.int place) (tl w) (.int read) (.bl mk) h [place, read] (by intro p hp'; simp at hp'; rcases hp' with rfl | rfl <;> assumption)
  have g2 := in_lot (d + 3) hh hl (.int place) (tl w) (.int read) (.bl mk) h w hw
  have hpl := hl.each place hp
  have hhi := hh.hi
  obtain ⟨a7, a8, a9, a10, q⟩ := left_loop (m := m) (hbs := hbs) (HS hbs) (tl lot) hpl.1 hpl.2 read mk (w := w) (fun p hp => hl.each p (hw p hp)) h hbs 0 [] none none none none hh.each (by simp; omega)
  simp only [List.map_nil, List.nil_append] at q
  change run (d + 4) 3 _ _ = _ at e1
  change run (d + 4) 4 _ _ = _ at e2
  generalize run (d + 3 + 1) = c at *
  simp only [List.map_cons, List.map_nil] at g1
  have s1 : S.expr (E.call 1 (c 3) (L.cons (E.var 0) L.nil)) [some (HS hbs), some (tl lot), some (.int place), some (tl w), some (.int read), some (.bl mk), none, none, none, none, none] h = .nx [some (HS hbs), some (tl lot), some (.int place), some (tl w), some (.int read), some (.bl mk), none, none, none, none, none] h := by
    simp [E.var, E.con, E.op2, E.op1, E.and, E.or, E.ofT, E.isi, isiD, tyNm, isiB, T.not, T.val, T.and, T.or, T.isN, T.notN, T.yes, T.tru, truthD, D.isN, E.chain, E.ifx, D.le, D.lt, D.ge, D.gt, D.add, D.sub, D.mul, D.mod, D.fdiv, D.pow, D.neg, D.eq, D.ne, D.flat, D.eqv, E.call, L.cons, L.nil, L.disp, E.tup, E.tuple, E.ofL, E.len, E.lenSet, Q.of, R.of, rdQ, rdL, E.app, D.toInt, D.max2, D.min2, R.toS, R.toG, R.bind, S.ret, S.retN, S.seq, S.ife, S.nil, S.expr, S.set, S.par, S.asg, S.bad, S.for, E.gen, I.of, I.enum, srcE, srcD, L.comp, D.ix, E.sl, O.none, O.some, slD, E.met, isT, isL, D.tindex, wipeE, setC, Tg.name, Tg.cons, Tg.nil, Tg.tup, fits, runB, -List.map_take, -List.map_drop, -List.map_set, e1]
  have s2 : S.expr (E.call 2 (c 4) (L.cons (E.op2 D.ix (E.var 0) (E.con (.int 0))) (L.cons (E.var 1) L.nil))) [some (HS hbs), some (tl lot), some (.int place), some (tl w), some (.int read), some (.bl mk), none, none, none, none, none] h = .nx [some (HS hbs), some (tl lot), some (.int place), some (tl w), some (.int read), some (.bl mk), none, none, none, none, none] h := by
    simp [E.var, E.con, E.op2, E.op1, E.and, E.or, E.ofT, E.isi, isiD, tyNm, isiB, T.not, T.val, T.and, T.or, T.isN, T.notN, T.yes, T.tru, truthD, D.isN, E.chain, E.ifx, D.le, D.lt, D.ge, D.gt, D.add, D.sub, D.mul, D.mod, D.fdiv, D.pow, D.neg, D.eq, D.ne, D.flat, D.eqv, E.call, L.cons, L.nil, L.disp, E.tup, E.tuple, E.ofL, E.len, E.lenSet, Q.of, R.of, rdQ, rdL, E.app, D.toInt, D.max2, D.min2, R.toS, R.toG, R.bind, S.ret, S.retN, S.seq, S.ife, S.nil, S.expr, S.set, S.par, S.asg, S.bad, S.for, E.gen, I.of, I.enum, srcE, srcD, L.comp, D.ix, E.sl, O.none, O.some, slD, E.met, isT, isL, D.tindex, wipeE, setC, Tg.name, Tg.cons, Tg.nil, Tg.tup, fits, runB, -List.map_take, -List.map_drop, -List.map_set, i0, e2]
  refine (congrArg (trunc _) (runB_rt (d := tl (lf place read mk w 0 hbs)) (h1 := h ++ [.lst ((lf place read mk w 0 hbs).map D.int)]) ?_)).trans (trunc_drop (under_tl _ _))
  show S.seq _ _ [some (HS hbs), some (tl lot), some (.int place), some (tl w), some (.int read), some (.bl mk), none, none, none, none, none] _ = _
  rw [seq_nx s1, seq_nx s2]
  generalize (E.and (E.call 3 (c 0) (L.cons (E.var 10) (L.cons (E.con (.int 0)) (L.cons (E.op2 D.sub (E.len (Q.of (E.op2 D.ix (E.var 0) (E.con (.int 0))))) (E.con (.int 1))) L.nil)))) (E.op2 (D.isIn false) (E.var 10) (E.var 1))) = Z at *
  rw [seq_nx (env1 := [some (HS hbs), some (tl lot), some (.int place), some (tl w), some (.int read), some (.bl mk), none, none, none, none, none]) (h1 := h) (by simp [E.var, E.con, E.op2, E.op1, E.and, E.or, E.ofT, E.isi, isiD, tyNm, isiB, T.not, T.val, T.and, T.or, T.isN, T.notN, T.yes, T.tru, truthD, D.isN, E.chain, E.ifx, D.le, D.lt, D.ge, D.gt, D.add, D.sub, D.mul, D.mod, D.fdiv, D.pow, D.neg, D.eq, D.ne, D.flat, D.eqv, E.call, L.cons, L.nil, L.disp, E.tup, E.tuple, E.ofL, E.len, E.lenSet, Q.of, R.of, rdQ, rdL, E.app, D.toInt, D.max2, D.min2, R.toS, R.toG, R.bind, S.ret, S.retN, S.seq, S.ife, S.nil, S.expr, S.set, S.par, S.asg, S.bad, S.for, E.gen, I.of, I.enum, srcE, srcD, L.comp, D.ix, E.sl, O.none, O.some, slD, E.met, isT, isL, D.tindex, wipeE, setC, Tg.name, Tg.cons, Tg.nil, Tg.tup, fits, runB, -List.map_take, -List.map_drop, -List.map_set, g1])]
  rw [seq_nx (env1 := [some (HS hbs), some (tl lot), some (.int place), some (tl w), some (.int read), some (.bl mk), none, none, none, none, none]) (h1 := h) (by simp [E.var, E.con, E.op2, E.op1, E.and, E.or, E.ofT, E.isi, isiD, tyNm, isiB, T.not, T.val, T.and, T.or, T.isN, T.notN, T.yes, T.tru, truthD, D.isN, E.chain, E.ifx, D.le, D.lt, D.ge, D.gt, D.add, D.sub, D.mul, D.mod, D.fdiv, D.pow, D.neg, D.eq, D.ne, D.flat, D.eqv, E.call, L.cons, L.nil, L.disp, E.tup, E.tuple, E.ofL, E.len, E.lenSet, Q.of, R.of, rdQ, rdL, E.app, D.toInt, D.max2, D.min2, R.toS, R.toG, R.bind, S.ret, S.retN, S.seq, S.ife, S.nil, S.expr, S.set, S.par, S.asg, S.bad, S.for, E.gen, I.of, I.enum, srcE, srcD, L.comp, D.ix, E.sl, O.none, O.some, slD, E.met, isT, isL, D.tindex, wipeE, setC, Tg.name, Tg.cons, Tg.nil, Tg.tup, fits, runB, -List.map_take, -List.map_drop, -List.map_set, g2])]
  rw [seq_nx (env1 := [some (HS hbs), some (tl lot), some (.int place), some (tl w), some (.int read), some (.bl mk), none, none, none, none, none]) (h1 := h) (by simp [E.var, E.con, E.op2, E.op1, E.and, E.or, E.ofT, E.isi, isiD, tyNm, isiB, T.not, T.val, T.and, T.or, T.isN, T.notN, T.yes, T.tru, truthD, D.isN, E.chain, E.ifx, D.le, D.lt, D.ge, D.gt, D.add, D.sub, D.mul, D.mod, D.fdiv, D.pow, D.neg, D.eq, D.ne, D.flat, D.eqv, E.call, L.cons, L.nil, L.disp, E.tup, E.tuple, E.ofL, E.len, E.lenSet, Q.of, R.of, rdQ, rdL, E.app, D.toInt, D.max2, D.min2, R.toS, R.toG, R.bind, S.ret, S.retN, S.seq, S.ife, S.nil, S.expr, S.set, S.par, S.asg, S.bad, S.for, E.gen, I.of, I.enum, srcE, srcD, L.comp, D.ix, E.sl, O.none, O.some, slD, E.met, isT, isL, D.tindex, wipeE, setC, Tg.name, Tg.cons, Tg.nil, Tg.tup, fits, runB, -List.map_take, -List.map_drop, -List.map_set])]
  rw [seq_nx (env1 := [some (HS hbs), some (tl lot), some (.int place), some (tl w), some (.int read), some (.bl mk), some (.ref h.length), none, none, none, none]) (h1 := h ++ [.lst []]) (by simp [E.var, E.con, E.op2, E.op1, E.and, E.or, E.ofT, E.isi, isiD, tyNm, isiB, T.not, T.val, T.and, T.or, T.isN, T.notN, T.yes, T.tru, truthD, D.isN, E.chain, E.ifx, D.le, D.lt, D.ge, D.gt, D.add, D.sub, D.mul, D.mod, D.fdiv, D.pow, D.neg, D.eq, D.ne, D.flat, D.eqv, E.call, L.cons, L.nil, L.disp, E.tup, E.tuple, E.ofL, E.len, E.lenSet, Q.of, R.of, rdQ, rdL, E.app, D.toInt, D.max2, D.min2, R.toS, R.toG, R.bind, S.ret, S.retN, S.seq, S.ife, S.nil, S.expr, S.set, S.par, S.asg, S.bad, S.for, E.gen, I.of, I.enum, srcE, srcD, L.comp, D.ix, E.sl, O.none, O.some, slD, E.met, isT, isL, D.tindex, wipeE, setC, Tg.name, Tg.cons, Tg.nil, Tg.tup, fits, runB, -List.map_take, -List.map_drop, -List.map_set])]
  rw [seq_nx (for_of (s := ⟨enumD 0 (hbs.map fun hb => H hb), none⟩) (h1 := h ++ [.lst []]) (by simp [E.var, E.con, E.op2, E.op1, E.and, E.or, E.ofT, E.isi, isiD, tyNm, isiB, T.not, T.val, T.and, T.or, T.isN, T.notN, T.yes, T.tru, truthD, D.isN, E.chain, E.ifx, D.le, D.lt, D.ge, D.gt, D.add, D.sub, D.mul, D.mod, D.fdiv, D.pow, D.neg, D.eq, D.ne, D.flat, D.eqv, E.call, L.cons, L.nil, L.disp, E.tup, E.tuple, E.ofL, E.len, E.lenSet, Q.of, R.of, rdQ, rdL, E.app, D.toInt, D.max2, D.min2, R.toS, R.toG, R.bind, S.ret, S.retN, S.seq, S.ife, S.nil, S.expr, S.set, S.par, S.asg, S.bad, S.for, E.gen, I.of, I.enum, srcE, srcD, L.comp, D.ix, E.sl, O.none, O.some, slD, E.met, isT, isL, D.tindex, wipeE, setC, Tg.name, Tg.cons, Tg.nil, Tg.tup, fits, runB, -List.map_take, -List.map_drop, -List.map_set]) q)]
  simp [E.var, E.con, E.op2, E.op1, E.and, E.or, E.ofT, E.isi, isiD, tyNm, isiB, T.not, T.val, T.and, T.or, T.isN, T.notN, T.yes, T.tru, truthD, D.isN, E.chain, E.ifx, D.le, D.lt, D.ge, D.gt, D.add, D.sub, D.mul, D.mod, D.fdiv, D.pow, D.neg, D.eq, D.ne, D.flat, D.eqv, E.call, L.cons, L.nil, L.disp, E.tup, E.tuple, E.ofL, E.len, E.lenSet, Q.of, R.of, rdQ, rdL, E.app, D.toInt, D.max2, D.min2, R.toS, R.toG, R.bind, S.ret, S.retN, S.seq, S.ife, S.nil, S.expr, S.set, S.par, S.asg, S.bad, S.for, E.gen, I.of, I.enum, srcE, srcD, L.comp, D.ix, E.sl, O.none, O.some, slD, E.met, isT, isL, D.tindex, wipeE, setC, Tg.name, Tg.cons, Tg.nil, Tg.tup, fits, runB, -List.map_take, -List.map_drop, -List.map_set]
end K15

set_option Elab.async false
set_option linter.all false
set_option maxRecDepth 100000
set_option maxHeartbeats 1000000
namespace K15
open PySem DL
theorem gl2 (f r x : MO) (g : Hh) : (f :: r :: (g ++ [x]))[g.length + 2]? = some x := by simp
theorem getD_mem {l : List Int} {v : Int} (h0 : 0 ≤ v) (h1 : v < l.length) : l.getD v.toNat 0 ∈ l := by
  have : v.toNat < l.length := by omega
  rw [List.getD_eq_getElem?_getD, List.getElem?_eq_getElem this]
  exact List.getElem_mem this
theorem pick_ok (d : Nat) {ns : List Int} {a b c : Int} (g : Hh) (lot : List Int) (hne : lot ≠ []) (hlen : lot.length ≤ 1000) (ha : 0 ≤ a) :
    ∃ v a' b' c', run (d + 2) 10 [.ref 1, .ref (g.length + 2)] (Fz ns :: rw3 a b c :: (g ++ [.lst (lot.map D.int)])) = .ok (.int v) (Fz ns :: rw3 a' b' c' :: (g ++ [.lst (lot.map D.int)])) ∧ v ∈ lot ∧ 0 ≤ a' := by
  have hpos : 0 < lot.length := by cases lot with
    | nil => exact absurd rfl hne
    | cons x r => simp
  obtain ⟨v, a1, b1, c1, t1, v0, v1, ha1⟩ := taken_ok d (ns := ns) (a := a) (b := b) (c := c) (many := lot.length) (g ++ [.lst (lot.map D.int)]) ha (by omega) (by omega)
  refine ⟨lot.getD v.toNat 0, a1, b1, c1, ?_, getD_mem v0 v1, ha1⟩
  rw [run__law_pick]
  unfold b__law_pick
  have i := ixL_ints (l := lot) (i := v) v0 v1 (Fz ns :: rw3 a1 b1 c1 :: (g ++ [.lst (lot.map D.int)]))
  have g1 := gl2 (Fz ns) (rw3 a b c) (.lst (lot.map D.int)) g
  have g2 := gl2 (Fz ns) (rw3 a1 b1 c1) (.lst (lot.map D.int)) g
  generalize lot.getD v.toNat 0 = z at *
  generalize run (d + 1) = k at *
  have q : runB 2 (S.ret (E.op2 D.ix (E.var 1) (E.call 2 (k 6) (L.cons (E.var 0) (L.cons (E.len (Q.of (E.var 1))) L.nil))))) [.ref 1, .ref (g.length + 2)] (Fz ns :: rw3 a b c :: (g ++ [.lst (lot.map D.int)])) = .ok (.int z) (Fz ns :: rw3 a1 b1 c1 :: (g ++ [.lst (lot.map D.int)])) := by
    simp [E.var, E.con, E.op2, E.op1, E.and, E.or, E.ofT, E.isi, isiD, tyNm, isiB, T.not, T.val, T.and, T.or, T.isN, T.notN, T.yes, T.tru, truthD, D.isN, E.chain, E.ifx, D.le, D.lt, D.ge, D.gt, D.add, D.sub, D.mul, D.mod, D.fdiv, D.pow, D.neg, D.eq, D.ne, D.flat, D.eqv, E.call, L.cons, L.nil, L.disp, E.tup, E.tuple, E.ofL, E.len, E.lenSet, Q.of, R.of, rdQ, rdL, E.app, D.toInt, D.max2, D.min2, R.toS, R.toG, R.bind, S.ret, S.retN, S.seq, S.ife, S.nil, S.expr, S.set, S.par, S.asg, S.bad, S.for, E.gen, I.of, I.enum, srcE, srcD, L.comp, D.ix, E.sl, O.none, O.some, slD, E.met, isT, isL, D.tindex, wipeE, setC, Tg.name, Tg.cons, Tg.nil, Tg.tup, fits, runB, -List.map_take, -List.map_drop, -List.map_set, g1, g2, t1, i]
  rw [q]
  exact trunc_keep rfl
theorem compGo_cons {s : Src} {tg : TgC} {t : TΦ} {e : EΦ} {env env1 : DL.Env} {h h0 h1 h2 : Hh} {d v : D} {r l : List D} (hok : s.ok h = true) (q1 : setC tg d env = some env1) (q2 : t env1 h = .ok true h0) (q3 : e env1 h0 = .ok v h1) (q4 : compGo s tg t e env r h1 = .ok l h2) : compGo s tg t e env (d :: r) h = .ok (v :: l) h2 := by
  rw [compGo, if_pos hok, q1]
  simp only [q2, q3, q4, R.bind_ok]
theorem compGo_skip {s : Src} {tg : TgC} {t : TΦ} {e : EΦ} {env env1 : DL.Env} {h h0 h2 : Hh} {d : D} {r l : List D} (hok : s.ok h = true) (q1 : setC tg d env = some env1) (q2 : t env1 h = .ok false h0) (q4 : compGo s tg t e env r h0 = .ok l h2) : compGo s tg t e env (d :: r) h = .ok l h2 := by
  rw [compGo, if_pos hok, q1]
  simp only [q2, q4]
theorem lot_comp (d : Nat) {ns : List Int} (m : Nat) (Ls : List D) : ∀ (l : List Int) (a b c : Int), 0 ≤ a → ∃ (r : List Int) (a' b' c' : Int), compGo ⟨Ls, none⟩ (.one 3) (T.val (E.op2 D.gt (E.call 2 (run (d + 1) 6) (L.cons (E.var 0) (L.cons (E.con (.int 3)) L.nil))) (E.con (.int 0)))) (E.var 3) [some (.ref 1), some (.int m), none, none] (l.map D.int) [Fz ns, rw3 a b c] = .ok (r.map D.int) [Fz ns, rw3 a' b' c'] ∧ r.Sublist l ∧ 0 ≤ a' := by
  intro l
  induction l with
  | nil => intro a b c ha; exact ⟨[], a, b, c, rfl, List.Sublist.refl _, ha⟩
  | cons x l ih =>
    intro a b c ha
    obtain ⟨v, a1, b1, c1, t1, v0, v1, ha1⟩ := taken_ok d (ns := ns) (a := a) (b := b) (c := c) (many := 3) [] ha (by omega) (by omega)
    obtain ⟨r, a2, b2, c2, q, hs, ha2⟩ := ih a1 b1 c1 ha1
    generalize run (d + 1) = k at *
    have tt : T.val (E.op2 D.gt (E.call 2 (k 6) (L.cons (E.var 0) (L.cons (E.con (.int 3)) L.nil))) (E.con (.int 0))) [some (.ref 1), some (.int m), none, some (.int x)] [Fz ns, rw3 a b c] = .ok (decide (0 < v)) [Fz ns, rw3 a1 b1 c1] := by
      simp [E.var, E.con, E.op2, E.op1, E.and, E.or, E.ofT, E.isi, isiD, tyNm, isiB, T.not, T.val, T.and, T.or, T.isN, T.notN, T.yes, T.tru, truthD, D.isN, E.chain, E.ifx, D.le, D.lt, D.ge, D.gt, D.add, D.sub, D.mul, D.mod, D.fdiv, D.pow, D.neg, D.eq, D.ne, D.flat, D.eqv, E.call, L.cons, L.nil, L.disp, E.tup, E.tuple, E.ofL, E.len, E.lenSet, Q.of, R.of, rdQ, rdL, E.app, D.toInt, D.max2, D.min2, R.toS, R.toG, R.bind, S.ret, S.retN, S.seq, S.ife, S.nil, S.expr, S.set, S.par, S.asg, S.bad, S.for, E.gen, I.of, I.enum, srcE, srcD, L.comp, D.ix, E.sl, O.none, O.some, slD, E.met, isT, isL, D.tindex, wipeE, setC, Tg.name, Tg.cons, Tg.nil, Tg.tup, fits, runB, -List.map_take, -List.map_drop, -List.map_set, t1]
    by_cases hv : 0 < v
    · rw [decide_eq_true hv] at tt
      exact ⟨x :: r, a2, b2, c2, compGo_cons rfl rfl tt rfl q, hs.cons₂ x, ha2⟩
    · rw [decide_eq_false hv] at tt
      exact ⟨r, a2, b2, c2, compGo_skip rfl rfl tt q, hs.cons x, ha2⟩
theorem rg_up (m : Nat) : List.Pairwise (· < ·) (rg m) := by
  unfold rg
  exact List.pairwise_map.mpr (List.Pairwise.imp (fun h => by omega) (List.pairwise_lt_range (n := m)))
theorem lot_ok (d : Nat) {ns : List Int} {m : Nat} (h2 : 2 ≤ m) (hm : m ≤ 5) {a b c : Int} (ha : 0 ≤ a) : ∃ (lot : List Int) (a' b' c' : Int), run (d + 2) 9 [.ref 1, .int m] [Fz ns, rw3 a b c] = .ok (tl lot) [Fz ns, rw3 a' b' c'] ∧ 0 ≤ a' ∧ Lot m lot ∧ lot.length ≤ 5 := by
  obtain ⟨r, a1, b1, c1, q, hs, ha1⟩ := lot_comp d (ns := ns) m ((rg m).map D.int) (rg m) a b c ha
  have hlen := hs.length_le
  rw [rg_length] at hlen
  have hr := rngS_rg (n := m) (by omega) [Fz ns, rw3 a b c]
  have hl := lrng_rg (n := m) (by omega) [Fz ns, rw3 a1 b1 c1, .lst (r.map D.int)]
  have hf : r.length ≤ 16000000 := by omega
  have fin : ∀ lot : List Int, Lot m lot → lot.length ≤ 5 → runB 4 (b__law_lot (run (d + 1))) [.ref 1, .int m] [Fz ns, rw3 a b c] = .ok (tl lot) ([Fz ns, rw3 a1 b1 c1] ++ [.lst (r.map D.int)]) → ∃ (lot : List Int) (a' b' c' : Int), run (d + 2) 9 [.ref 1, .int m] [Fz ns, rw3 a b c] = .ok (tl lot) [Fz ns, rw3 a' b' c'] ∧ 0 ≤ a' ∧ Lot m lot ∧ lot.length ≤ 5 := by
    intro lot hL h5 e
    refine ⟨lot, a1, b1, c1, ?_, ha1, hL, h5⟩
    rw [run__law_lot, e]
    exact trunc_drop' (under_tl _ _) rfl (by simp [agree, MO.beq_refl, MO.under, D.unders, D.under])
  have hz : dvOf [Fz ns, rw3 a1 b1 c1, .lst (r.map D.int)] (DX.l []) = some (.ls []) := by simp [dvOf, D.flats]
  have hz2 : dvOf [Fz ns, rw3 a1 b1 c1, .lst (r.map D.int)] (DX.d (.ref 2)) = some (.ls (r.map D.int)) := by
    simp [dvOf, flats_ints]
  by_cases e : r = []
  · subst e
    refine fin (rg m) ⟨fun z => ?_, fun p hp => mem_rg.mp hp, rg_up m⟩ (by rw [rg_length]; exact hm) ?_
    · have := congrArg List.length z
      rw [rg_length] at this
      simp at this
      omega
    · unfold b__law_lot
      generalize run (d + 1) = k at *
      simp only [List.map_nil] at *
      simp [E.var, E.con, E.op2, E.op1, E.and, E.or, E.ofT, E.isi, isiD, tyNm, isiB, T.not, T.val, T.and, T.or, T.isN, T.notN, T.yes, T.tru, truthD, D.isN, E.chain, E.ifx, D.le, D.lt, D.ge, D.gt, D.add, D.sub, D.mul, D.mod, D.fdiv, D.pow, D.neg, D.eq, D.ne, D.flat, D.eqv, E.call, L.cons, L.nil, L.disp, E.tup, E.tuple, E.ofL, E.len, E.lenSet, Q.of, R.of, rdQ, rdL, E.app, D.toInt, D.max2, D.min2, R.toS, R.toG, R.bind, S.ret, S.retN, S.seq, S.ife, S.nil, S.expr, S.set, S.par, S.asg, S.bad, S.for, E.gen, I.of, I.enum, srcE, srcD, L.comp, D.ix, E.sl, O.none, O.some, slD, E.met, isT, isL, D.tindex, wipeE, setC, Tg.name, Tg.cons, Tg.nil, Tg.tup, fits, runB, -List.map_take, -List.map_drop, -List.map_set, I.rng1, hr, q, T.eqX, XX.of, XX.ofL, hz, hz2, DV.eqv, D.eqvs, L.rng1, hl]
  · refine fin r ⟨e, fun p hp => mem_rg.mp (hs.subset hp), (rg_up m).sublist hs⟩ (by omega) ?_
    unfold b__law_lot
    generalize run (d + 1) = k at *
    have ee : DV.eqv (.ls (r.map D.int)) (.ls []) = false := by
      cases r with
      | nil => exact absurd rfl e
      | cons x r => rfl
    simp [E.var, E.con, E.op2, E.op1, E.and, E.or, E.ofT, E.isi, isiD, tyNm, isiB, T.not, T.val, T.and, T.or, T.isN, T.notN, T.yes, T.tru, truthD, D.isN, E.chain, E.ifx, D.le, D.lt, D.ge, D.gt, D.add, D.sub, D.mul, D.mod, D.fdiv, D.pow, D.neg, D.eq, D.ne, D.flat, D.eqv, E.call, L.cons, L.nil, L.disp, E.tup, E.tuple, E.ofL, E.len, E.lenSet, Q.of, R.of, rdQ, rdL, E.app, D.toInt, D.max2, D.min2, R.toS, R.toG, R.bind, S.ret, S.retN, S.seq, S.ife, S.nil, S.expr, S.set, S.par, S.asg, S.bad, S.for, E.gen, I.of, I.enum, srcE, srcD, L.comp, D.ix, E.sl, O.none, O.some, slD, E.met, isT, isL, D.tindex, wipeE, setC, Tg.name, Tg.cons, Tg.nil, Tg.tup, fits, runB, -List.map_take, -List.map_drop, -List.map_set, I.rng1, hr, q, hf, T.eqX, XX.of, XX.ofL, hz, hz2, ee]
end K15

set_option Elab.async false
set_option linter.all false
set_option maxRecDepth 100000
set_option maxHeartbeats 1000000
namespace K15
open PySem DL
/-- what a pick does -/
def Pick (c : Calls) (ns lot : List Int) : Prop := ∀ (g : Hh) (a b e : Int), 0 ≤ a → ∃ v a' b' e', c 10 [.ref 1, .ref (g.length + 2)] (Fz ns :: rw3 a b e :: (g ++ [.lst (lot.map D.int)])) = .ok (.int v) (Fz ns :: rw3 a' b' e' :: (g ++ [.lst (lot.map D.int)])) ∧ v ∈ lot ∧ 0 ≤ a'
abbrev pkE (c : Calls) : EΦ := E.call 2 (c 10) (L.cons (E.var 1) (L.cons (E.ofL (Q.of (E.var 4))) L.nil))
theorem pickE {c : Calls} {ns lot : List Int} (hc : Pick c ns lot) (A0 A2 A3 : Option D) (rest : DL.Env) (g : Hh) (a b e : Int) (ha : 0 ≤ a) :
    ∃ v a' b' e', pkE c (A0 :: some (.ref 1) :: A2 :: A3 :: some (tl lot) :: rest) (Fz ns :: rw3 a b e :: g) = .ok (.int v) (Fz ns :: rw3 a' b' e' :: (g ++ [.lst (lot.map D.int)])) ∧ v ∈ lot ∧ 0 ≤ a' := by
  obtain ⟨v, a1, b1, e1, q, hv, ha1⟩ := hc g a b e ha
  refine ⟨v, a1, b1, e1, ?_, hv, ha1⟩
  simp [E.var, E.con, E.op2, E.op1, E.and, E.or, E.ofT, E.isi, isiD, tyNm, isiB, T.not, T.val, T.and, T.or, T.isN, T.notN, T.yes, T.tru, truthD, D.isN, E.chain, E.ifx, D.le, D.lt, D.ge, D.gt, D.add, D.sub, D.mul, D.mod, D.fdiv, D.pow, D.neg, D.eq, D.ne, D.flat, D.eqv, E.call, L.cons, L.nil, L.disp, E.tup, E.tuple, E.ofL, E.len, E.lenSet, Q.of, R.of, rdQ, rdL, E.app, D.toInt, D.max2, D.min2, R.toS, R.toG, R.bind, S.ret, S.retN, S.seq, S.ife, S.nil, S.expr, S.set, S.par, S.asg, S.bad, S.for, E.gen, I.of, I.enum, srcE, srcD, L.comp, D.ix, E.sl, O.none, O.some, slD, E.met, isT, isL, D.tindex, wipeE, setC, Tg.name, Tg.cons, Tg.nil, Tg.tup, fits, runB, -List.map_take, -List.map_drop, -List.map_set, q]
theorem word_comp {c : Calls} {ns lot : List Int} (hc : Pick c ns lot) (A0 A2 A3 A5 A6 A7 A8 A9 A10 A11 A12 A13 A14 A16 : Option D) (Ls : List D) : ∀ (l : List Int) (g : Hh) (a b e : Int), 0 ≤ a →
    ∃ (w : List Int) (a' b' e' : Int) (g' : Hh), compGo ⟨Ls, none⟩ (.one 15) T.yes (pkE c) [A0, some (.ref 1), A2, A3, some (tl lot), A5, A6, A7, A8, A9, A10, A11, A12, A13, A14, none, A16] (l.map D.int) (Fz ns :: rw3 a b e :: g) = .ok (w.map D.int) (Fz ns :: rw3 a' b' e' :: g') ∧ w.length = l.length ∧ (∀ p ∈ w, p ∈ lot) ∧ 0 ≤ a' := by
  intro l
  induction l with
  | nil => intro g a b e ha; exact ⟨[], a, b, e, g, rfl, rfl, fun p hp => (by cases hp), ha⟩
  | cons x l ih =>
    intro g a b e ha
    obtain ⟨v, a1, b1, e1, q1, hv, ha1⟩ := pickE hc A0 A2 A3 [A5, A6, A7, A8, A9, A10, A11, A12, A13, A14, some (.int x), A16] g a b e ha
    obtain ⟨w, a2, b2, e2, g2, q2, hl, hw, ha2⟩ := ih (g ++ [.lst (lot.map D.int)]) a1 b1 e1 ha1
    exact ⟨v :: w, a2, b2, e2, g2, compGo_cons rfl rfl rfl q1 q2, by simp [hl], fun p hp => (List.mem_cons.mp hp).elim (fun z => z ▸ hv) (hw p), ha2⟩
theorem habs_comp (d : Nat) {ns : List Int} {m : Nat} (h2 : 2 ≤ m) (hm : m ≤ 5) (Ls : List D) : ∀ (l : List Int) (a b e : Int), 0 ≤ a →
    ∃ (hbs : List (List (List Int))) (a' b' e' : Int), compGo ⟨Ls, none⟩ (.one 14) T.yes (E.call 2 (run (d + 3) 8) (L.cons (E.var 1) (L.cons (E.var 2) L.nil))) [some (.ref 0), some (.ref 1), some (.int m), none, none, none, none, none, none, none, none, none, none, none, none, none, none] (l.map D.int) [Fz ns, rw3 a b e] = .ok (hbs.map fun hb => H hb) [Fz ns, rw3 a' b' e'] ∧ hbs.length = l.length ∧ (∀ hb ∈ hbs, Hab m hb) ∧ 0 ≤ a' := by
  intro l
  induction l with
  | nil => intro a b e ha; exact ⟨[], a, b, e, rfl, rfl, fun p hp => (by cases hp), ha⟩
  | cons x l ih =>
    intro a b e ha
    obtain ⟨hb, a1, b1, e1, t1, ha1, hh⟩ := habit_ok d (ns := ns) h2 hm (a := a) (b := b) (e := e) ha
    obtain ⟨hbs, a2, b2, e2, q2, hl, hw, ha2⟩ := ih a1 b1 e1 ha1
    have el : E.call 2 (run (d + 3) 8) (L.cons (E.var 1) (L.cons (E.var 2) L.nil)) [some (.ref 0), some (.ref 1), some (.int m), none, none, none, none, none, none, none, none, none, none, none, some (.int x), none, none] [Fz ns, rw3 a b e] = .ok (H hb) [Fz ns, rw3 a1 b1 e1] := by
      generalize run (d + 3) = k at *
      simp [E.var, E.con, E.op2, E.op1, E.and, E.or, E.ofT, E.isi, isiD, tyNm, isiB, T.not, T.val, T.and, T.or, T.isN, T.notN, T.yes, T.tru, truthD, D.isN, E.chain, E.ifx, D.le, D.lt, D.ge, D.gt, D.add, D.sub, D.mul, D.mod, D.fdiv, D.pow, D.neg, D.eq, D.ne, D.flat, D.eqv, E.call, L.cons, L.nil, L.disp, E.tup, E.tuple, E.ofL, E.len, E.lenSet, Q.of, R.of, rdQ, rdL, E.app, D.toInt, D.max2, D.min2, R.toS, R.toG, R.bind, S.ret, S.retN, S.seq, S.ife, S.nil, S.expr, S.set, S.par, S.asg, S.bad, S.for, E.gen, I.of, I.enum, srcE, srcD, L.comp, D.ix, E.sl, O.none, O.some, slD, E.met, isT, isL, D.tindex, wipeE, setC, Tg.name, Tg.cons, Tg.nil, Tg.tup, fits, runB, -List.map_take, -List.map_drop, -List.map_set, t1]
    exact ⟨hb :: hbs, a2, b2, e2, compGo_cons rfl rfl rfl el q2, by simp [hl], fun p hp => (List.mem_cons.mp hp).elim (fun z => z ▸ hh) (hw p), ha2⟩
end K15

set_option Elab.async false
set_option linter.all false
set_option maxRecDepth 100000
set_option maxHeartbeats 1000000
namespace K15
open PySem DL

theorem ends_word {m : Nat} {hb : List (List Int)} {hbs : List (List (List Int))} {lot w : List Int} {place read : Int} {g : Hh} {x8 x13 x14 : Option D} (hh : Hab m hb) (h : Hh) : ∀ (v : List Int) (s : Int) (x12 : Option D), Wd m v → 0 ≤ s → s < m →
    ∃ e, S.forGo ⟨w.map D.int, none⟩ (Tg.name 12) (S.set 11 (E.op2 D.ix (E.op2 D.ix (E.var 7) (E.var 12)) (E.var 11))) (v.map D.int) [some (.ref 0), some (.ref 1), some (.int m), some (HS hbs), some (tl lot), some (tl w), some (.ref (g.length + 2)), some (H hb), x8, some (.int place), some (.int read), some (.int s), x12, x13, x14, none, none] h = .nx [some (.ref 0), some (.ref 1), some (.int m), some (HS hbs), some (tl lot), some (tl w), some (.ref (g.length + 2)), some (H hb), x8, some (.int place), some (.int read), some (.int (st hb s v)), e, x13, x14, none, none] h := by
  intro v
  induction v with
  | nil => intro s x12 _ _ _; exact ⟨_, forGo_nil rfl⟩
  | cons p v ih =>
    intro s x12 hw s0 s1
    have hp := hw p List.mem_cons_self
    have hc := cell_in hh hp.1 hp.2 s0 s1
    obtain ⟨e, q⟩ := ih (cell hb p s) (some (.int p)) (fun q hq => hw q (List.mem_cons_of_mem _ hq)) hc.1 hc.2
    refine ⟨e, ?_⟩
    rw [show st hb s (p :: v) = st hb (cell hb p s) v from rfl, ← q, List.map_cons]
    have i1 := ix_row hh hp.1 hp.2 h
    have i2 := ix_cell hh hp.1 hp.2 s0 s1 h
    generalize rowOf hb p = rr0 at *
    generalize cell hb p s = C0 at *
    exact forGo_cons (env1 := [some (.ref 0), some (.ref 1), some (.int m), some (HS hbs), some (tl lot), some (tl w), some (.ref (g.length + 2)), some (H hb), x8, some (.int place), some (.int read), some (.int s), some (.int p), x13, x14, none, none]) (h1 := h) rfl rfl (by simp [E.var, E.con, E.op2, E.op1, E.and, E.or, E.ofT, E.isi, isiD, tyNm, isiB, T.not, T.val, T.and, T.or, T.isN, T.notN, T.yes, T.tru, truthD, D.isN, E.chain, E.ifx, D.le, D.lt, D.ge, D.gt, D.add, D.sub, D.mul, D.mod, D.fdiv, D.pow, D.neg, D.eq, D.ne, D.flat, D.eqv, E.call, L.cons, L.nil, L.disp, E.tup, E.tuple, E.ofL, E.len, E.lenSet, Q.of, R.of, rdQ, rdL, E.app, D.toInt, D.max2, D.min2, R.toS, R.toG, R.bind, S.ret, S.retN, S.seq, S.ife, S.nil, S.expr, S.set, S.par, S.asg, S.bad, S.for, E.gen, I.of, I.enum, srcE, srcD, L.comp, D.ix, E.sl, O.none, O.some, slD, E.met, isT, isL, D.tindex, wipeE, setC, Tg.name, Tg.cons, Tg.nil, Tg.tup, fits, runB, -List.map_take, -List.map_drop, -List.map_set, i1, i2])
def endB (place read : Int) (w : List Int) (hb : List (List Int)) : Bool := st hb (cell hb place place) w == read
abbrev ends (place read : Int) (w : List Int) (l : List (List (List Int))) : List D := l.map fun hb => D.bl (endB place read w hb)
theorem ends_body {m : Nat} {hb : List (List Int)} {hbs : List (List (List Int))} {lot w : List Int} {place read : Int} {g : Hh} {x8 x13 x14 : Option D} (hh : Hab m hb) (p0 : 0 ≤ place) (p1 : place < m) (hw : Wd m w) (f r : MO) (L0 : List D) (hL : L0.length ≤ 100) (x11 x12 : Option D) :
    ∃ y11 y12, (S.seq (S.set 11 (E.op2 D.ix (E.op2 D.ix (E.var 7) (E.var 9)) (E.var 9))) (S.seq (S.for (I.of (E.var 5)) (Tg.name 12) (S.set 11 (E.op2 D.ix (E.op2 D.ix (E.var 7) (E.var 12)) (E.var 11)))) (S.expr (E.met isL (mutL fAppend) (E.var 6) (L.cons (E.op2 D.eq (E.var 11) (E.var 10)) L.nil))))) [some (.ref 0), some (.ref 1), some (.int m), some (HS hbs), some (tl lot), some (tl w), some (.ref (g.length + 2)), some (H hb), x8, some (.int place), some (.int read), x11, x12, x13, x14, none, none] (f :: r :: (g ++ [.lst L0])) = .nx [some (.ref 0), some (.ref 1), some (.int m), some (HS hbs), some (tl lot), some (tl w), some (.ref (g.length + 2)), some (H hb), x8, some (.int place), some (.int read), y11, y12, x13, x14, none, none] (f :: r :: (g ++ [.lst (L0 ++ [.bl (endB place read w hb)])])) := by
  have i1 := ix_row hh p0 p1 (f :: r :: (g ++ [.lst L0]))
  have i2 := ix_cell hh p0 p1 p0 p1 (f :: r :: (g ++ [.lst L0]))
  have hc := cell_in hh p0 p1 p0 p1
  obtain ⟨e, q⟩ := ends_word (hbs := hbs) (lot := lot) (w := w) (place := place) (read := read) (g := g) (x8 := x8) (x13 := x13) (x14 := x14) hh (f :: r :: (g ++ [.lst L0])) w (cell hb place place) x12 hw hc.1 hc.2
  refine ⟨some (.int (st hb (cell hb place place) w)), e, ?_⟩
  unfold endB
  generalize cell hb place place = C0 at *
  generalize rowOf hb place = rr0 at *
  have s1 : (S.set 11 (E.op2 D.ix (E.op2 D.ix (E.var 7) (E.var 9)) (E.var 9))) [some (.ref 0), some (.ref 1), some (.int m), some (HS hbs), some (tl lot), some (tl w), some (.ref (g.length + 2)), some (H hb), x8, some (.int place), some (.int read), x11, x12, x13, x14, none, none] (f :: r :: (g ++ [.lst L0])) = .nx [some (.ref 0), some (.ref 1), some (.int m), some (HS hbs), some (tl lot), some (tl w), some (.ref (g.length + 2)), some (H hb), x8, some (.int place), some (.int read), some (.int C0), x12, x13, x14, none, none] (f :: r :: (g ++ [.lst L0])) := by
    simp [E.var, E.con, E.op2, E.op1, E.and, E.or, E.ofT, E.isi, isiD, tyNm, isiB, T.not, T.val, T.and, T.or, T.isN, T.notN, T.yes, T.tru, truthD, D.isN, E.chain, E.ifx, D.le, D.lt, D.ge, D.gt, D.add, D.sub, D.mul, D.mod, D.fdiv, D.pow, D.neg, D.eq, D.ne, D.flat, D.eqv, E.call, L.cons, L.nil, L.disp, E.tup, E.tuple, E.ofL, E.len, E.lenSet, Q.of, R.of, rdQ, rdL, E.app, D.toInt, D.max2, D.min2, R.toS, R.toG, R.bind, S.ret, S.retN, S.seq, S.ife, S.nil, S.expr, S.set, S.par, S.asg, S.bad, S.for, E.gen, I.of, I.enum, srcE, srcD, L.comp, D.ix, E.sl, O.none, O.some, slD, E.met, isT, isL, D.tindex, wipeE, setC, Tg.name, Tg.cons, Tg.nil, Tg.tup, fits, runB, -List.map_take, -List.map_drop, -List.map_set, i1, i2]
  have s2 : (S.for (I.of (E.var 5)) (Tg.name 12) (S.set 11 (E.op2 D.ix (E.op2 D.ix (E.var 7) (E.var 12)) (E.var 11)))) [some (.ref 0), some (.ref 1), some (.int m), some (HS hbs), some (tl lot), some (tl w), some (.ref (g.length + 2)), some (H hb), x8, some (.int place), some (.int read), some (.int C0), x12, x13, x14, none, none] (f :: r :: (g ++ [.lst L0])) = .nx [some (.ref 0), some (.ref 1), some (.int m), some (HS hbs), some (tl lot), some (tl w), some (.ref (g.length + 2)), some (H hb), x8, some (.int place), some (.int read), some (.int (st hb C0 w)), e, x13, x14, none, none] (f :: r :: (g ++ [.lst L0])) := by
    refine for_of (h1 := (f :: r :: (g ++ [.lst L0]))) (s := ⟨w.map D.int, none⟩) ?_ q
    simp [E.var, E.con, E.op2, E.op1, E.and, E.or, E.ofT, E.isi, isiD, tyNm, isiB, T.not, T.val, T.and, T.or, T.isN, T.notN, T.yes, T.tru, truthD, D.isN, E.chain, E.ifx, D.le, D.lt, D.ge, D.gt, D.add, D.sub, D.mul, D.mod, D.fdiv, D.pow, D.neg, D.eq, D.ne, D.flat, D.eqv, E.call, L.cons, L.nil, L.disp, E.tup, E.tuple, E.ofL, E.len, E.lenSet, Q.of, R.of, rdQ, rdL, E.app, D.toInt, D.max2, D.min2, R.toS, R.toG, R.bind, S.ret, S.retN, S.seq, S.ife, S.nil, S.expr, S.set, S.par, S.asg, S.bad, S.for, E.gen, I.of, I.enum, srcE, srcD, L.comp, D.ix, E.sl, O.none, O.some, slD, E.met, isT, isL, D.tindex, wipeE, setC, Tg.name, Tg.cons, Tg.nil, Tg.tup, fits, runB, -List.map_take, -List.map_drop, -List.map_set]
  rw [seq_nx s1, seq_nx s2]
  generalize st hb C0 w = z at *
  have mu : mutL fAppend (.ref (g.length + 2)) [.bl (z == read)] (f :: r :: (g ++ [.lst L0])) = .ok .non (f :: r :: (g ++ [.lst (L0 ++ [.bl (z == read)])])) := by
    have := mut_at (f := fAppend) (h := (f :: r :: (g ++ [.lst L0]))) (n := g.length + 2) (l := L0) (l' := L0 ++ [.bl (z == read)]) (ds := [.bl (z == read)]) (y := .non) (by simp) rfl (by simp; omega)
    rw [this]
    simp
  simp [E.var, E.con, E.op2, E.op1, E.and, E.or, E.ofT, E.isi, isiD, tyNm, isiB, T.not, T.val, T.and, T.or, T.isN, T.notN, T.yes, T.tru, truthD, D.isN, E.chain, E.ifx, D.le, D.lt, D.ge, D.gt, D.add, D.sub, D.mul, D.mod, D.fdiv, D.pow, D.neg, D.eq, D.ne, D.flat, D.eqv, E.call, L.cons, L.nil, L.disp, E.tup, E.tuple, E.ofL, E.len, E.lenSet, Q.of, R.of, rdQ, rdL, E.app, D.toInt, D.max2, D.min2, R.toS, R.toG, R.bind, S.ret, S.retN, S.seq, S.ife, S.nil, S.expr, S.set, S.par, S.asg, S.bad, S.for, E.gen, I.of, I.enum, srcE, srcD, L.comp, D.ix, E.sl, O.none, O.some, slD, E.met, isT, isL, D.tindex, wipeE, setC, Tg.name, Tg.cons, Tg.nil, Tg.tup, fits, runB, -List.map_take, -List.map_drop, -List.map_set, mu]
theorem ends_loop {m : Nat} {hbs : List (List (List Int))} {lot w : List Int} {place read : Int} {g : Hh} {x8 x13 x14 : Option D} (p0 : 0 ≤ place) (p1 : place < m) (hw : Wd m w) (f r : MO) (Ls : List D) : ∀ (l : List (List (List Int))) (L0 : List D) (x7 x11 x12 : Option D), (∀ hb ∈ l, Hab m hb) → L0.length + l.length ≤ 100 →
    ∃ y7 y11 y12, S.forGo ⟨Ls, none⟩ (Tg.name 7) (S.seq (S.set 11 (E.op2 D.ix (E.op2 D.ix (E.var 7) (E.var 9)) (E.var 9))) (S.seq (S.for (I.of (E.var 5)) (Tg.name 12) (S.set 11 (E.op2 D.ix (E.op2 D.ix (E.var 7) (E.var 12)) (E.var 11)))) (S.expr (E.met isL (mutL fAppend) (E.var 6) (L.cons (E.op2 D.eq (E.var 11) (E.var 10)) L.nil))))) (l.map fun hb => H hb) [some (.ref 0), some (.ref 1), some (.int m), some (HS hbs), some (tl lot), some (tl w), some (.ref (g.length + 2)), x7, x8, some (.int place), some (.int read), x11, x12, x13, x14, none, none] (f :: r :: (g ++ [.lst L0])) = .nx [some (.ref 0), some (.ref 1), some (.int m), some (HS hbs), some (tl lot), some (tl w), some (.ref (g.length + 2)), y7, x8, some (.int place), some (.int read), y11, y12, x13, x14, none, none] (f :: r :: (g ++ [.lst (L0 ++ ends place read w l)])) := by
  intro l
  induction l with
  | nil => intro L0 x7 x11 x12 _ _; exact ⟨_, _, _, by rw [show L0 ++ ends place read w [] = L0 by simp [ends]]; exact forGo_nil rfl⟩
  | cons hb l ih =>
    intro L0 x7 x11 x12 hh hl
    obtain ⟨y11, y12, q1⟩ := ends_body (hbs := hbs) (lot := lot) (w := w) (place := place) (read := read) (g := g) (x8 := x8) (x13 := x13) (x14 := x14) (hh hb List.mem_cons_self) p0 p1 hw f r L0 (by simp at hl; omega) x11 x12
    obtain ⟨a7, a11, a12, q2⟩ := ih (L0 ++ [.bl (endB place read w hb)]) (some (H hb)) y11 y12 (fun r hr => hh r (List.mem_cons_of_mem _ hr)) (by simp at hl ⊢; omega)
    refine ⟨a7, a11, a12, ?_⟩
    rw [show L0 ++ ends place read w (hb :: l) = L0 ++ [.bl (endB place read w hb)] ++ ends place read w l by simp [ends], ← q2, List.map_cons]
    exact forGo_cons rfl rfl q1
end K15

set_option Elab.async false
set_option linter.all false
set_option maxRecDepth 100000
set_option maxHeartbeats 1000000
namespace K15
open PySem DL
theorem lf_filter (place read : Int) (mk : Bool) (w : List Int) (hbs : List (List (List Int))) : ∀ (l : List (List (List Int))) (k : Nat), (∀ i, i < l.length → hbs.getD (k + i) [] = l.getD i []) → ((List.range' k l.length).filter fun i => endB place read w (hbs.getD i []) == mk).map (fun (i : Nat) => (i : Int)) = lf place read mk w k l
  | [], _, _ => rfl
  | hb :: r, k, h => by
    have h0 : hbs.getD k [] = hb := by have := h 0 (by simp); simpa using this
    have ih := lf_filter place read mk w hbs r (k + 1) (fun i hi => by have := h (i + 1) (by simp; omega); rw [show k + 1 + i = k + (i + 1) by omega, this]; simp)
    rw [List.length_cons, List.range'_succ, List.filter_cons, lf, h0, ← ih]
    unfold hit endB
    split <;> rfl
theorem due_comp {m : Nat} {hbs : List (List (List Int))} {lot w : List Int} {place read : Int} {g : Hh} {mk : Bool} {x7 x11 x12 x13 x14 : Option D} (f r : MO) :
    compGo ⟨(rg hbs.length).map D.int, none⟩ (.one 16) (T.val (E.op2 D.eq (E.op2 D.ix (E.var 6) (E.var 16)) (E.var 8))) (E.var 16) [some (.ref 0), some (.ref 1), some (.int m), some (HS hbs), some (tl lot), some (tl w), some (.ref (g.length + 2)), x7, some (.bl mk), some (.int place), some (.int read), x11, x12, x13, x14, none, none] ((rg hbs.length).map D.int) (f :: r :: (g ++ [.lst (ends place read w hbs)])) = .ok ((lf place read mk w 0 hbs).map D.int) (f :: r :: (g ++ [.lst (ends place read w hbs)])) := by
  have q := compGo_filter (s := ⟨(rg hbs.length).map D.int, none⟩) (tg := .one 16) (t := T.val (E.op2 D.eq (E.op2 D.ix (E.var 6) (E.var 16)) (E.var 8))) (e := E.var 16) (env := [some (.ref 0), some (.ref 1), some (.int m), some (HS hbs), some (tl lot), some (tl w), some (.ref (g.length + 2)), x7, some (.bl mk), some (.int place), some (.int read), x11, x12, x13, x14, none, none]) (h := (f :: r :: (g ++ [.lst (ends place read w hbs)]))) (p := fun x => match x with
    | .int i => endB place read w (hbs.getD i.toNat []) == mk
    | _ => false) (f := id) rfl (l := (rg hbs.length).map D.int) (fun x hx => by
    obtain ⟨i, hi, rfl⟩ := List.mem_map.mp hx
    have hi := mem_rg.mp hi
    obtain ⟨k, rfl⟩ : ∃ k : Nat, i = k := ⟨i.toNat, by omega⟩
    have hk : k < hbs.length := by omega
    refine ⟨_, rfl, ?_, fun z => by simp [E.var, E.con, E.op2, E.op1, E.and, E.or, E.ofT, E.isi, isiD, tyNm, isiB, T.not, T.val, T.and, T.or, T.isN, T.notN, T.yes, T.tru, truthD, D.isN, E.chain, E.ifx, D.le, D.lt, D.ge, D.gt, D.add, D.sub, D.mul, D.mod, D.fdiv, D.pow, D.neg, D.eq, D.ne, D.flat, D.eqv, E.call, L.cons, L.nil, L.disp, E.tup, E.tuple, E.ofL, E.len, E.lenSet, Q.of, R.of, rdQ, rdL, E.app, D.toInt, D.max2, D.min2, R.toS, R.toG, R.bind, S.ret, S.retN, S.seq, S.ife, S.nil, S.expr, S.set, S.par, S.asg, S.bad, S.for, E.gen, I.of, I.enum, srcE, srcD, L.comp, D.ix, E.sl, O.none, O.some, slD, E.met, isT, isL, D.tindex, wipeE, setC, Tg.name, Tg.cons, Tg.nil, Tg.tup, fits, runB, -List.map_take, -List.map_drop, -List.map_set]⟩
    have i1 : ixL (ends place read w hbs) (k : Int) (f :: r :: (g ++ [.lst (ends place read w hbs)])) = .ok (.bl (endB place read w (hbs.getD k []))) (f :: r :: (g ++ [.lst (ends place read w hbs)])) := by
      unfold ixL L2.atI
      rw [show (ends place read w hbs).length = hbs.length by simp [ends], ixN_nat hk]
      simp [ends, hk]
    simp only [Int.toNat_natCast]
    have gg := gl2 f r (.lst (ends place read w hbs)) g
    generalize ends place read w hbs = Ls at *
    generalize endB place read w (hbs.getD k []) = b at *
    simp [E.var, E.con, E.op2, E.op1, E.and, E.or, E.ofT, E.isi, isiD, tyNm, isiB, T.not, T.val, T.and, T.or, T.isN, T.notN, T.yes, T.tru, truthD, D.isN, E.chain, E.ifx, D.le, D.lt, D.ge, D.gt, D.add, D.sub, D.mul, D.mod, D.fdiv, D.pow, D.neg, D.eq, D.ne, D.flat, D.eqv, E.call, L.cons, L.nil, L.disp, E.tup, E.tuple, E.ofL, E.len, E.lenSet, Q.of, R.of, rdQ, rdL, E.app, D.toInt, D.max2, D.min2, R.toS, R.toG, R.bind, S.ret, S.retN, S.seq, S.ife, S.nil, S.expr, S.set, S.par, S.asg, S.bad, S.for, E.gen, I.of, I.enum, srcE, srcD, L.comp, D.ix, E.sl, O.none, O.some, slD, E.met, isT, isL, D.tindex, wipeE, setC, Tg.name, Tg.cons, Tg.nil, Tg.tup, fits, runB, -List.map_take, -List.map_drop, -List.map_set, i1, gg])
  rw [q, ← lf_filter place read mk w hbs hbs 0 (fun i hi => by rw [Nat.zero_add])]
  unfold rg
  rw [← List.range_eq_range', List.map_map, List.filter_map, List.map_map, List.map_map]
  rfl
theorem marked_body (c : Calls) {m : Nat} {hbs : List (List (List Int))} {lot w : List Int} {place read : Int} {g : Hh} {mk : Bool} {x7 x11 x12 x13 x14 : Option D} (f r : MO) (h3 : hbs.length ≤ 3)
    (b1 : ∀ mk g, c 5 [HS hbs, tl lot, .int place, tl w, .int read, .bl mk] g = .ok (tl (lf place read mk w 0 hbs)) g) (b2 : ∀ mk g, c 11 [tl (lf place read mk w 0 hbs), tl (lf place read mk w 0 hbs)] g = .ok (.bl true) g) :
    ∃ y13, (S.seq (S.set 13 (E.tuple (L.comp (I.rng1 (E.len (Q.of (E.var 3)))) [16] (.one 16) (T.val (E.op2 D.eq (E.op2 D.ix (E.var 6) (E.var 16)) (E.var 8))) (E.var 16)))) (S.ife (T.not (T.val (E.call 2 (c 11) (L.cons (E.call 6 (c 5) (L.cons (E.var 3) (L.cons (E.var 4) (L.cons (E.var 9) (L.cons (E.var 5) (L.cons (E.var 10) (L.cons (E.var 8) L.nil))))))) (L.cons (E.var 13) L.nil))))) (S.ret (E.con (.bl false))) S.nil)) [some (.ref 0), some (.ref 1), some (.int m), some (HS hbs), some (tl lot), some (tl w), some (.ref (g.length + 2)), x7, some (.bl mk), some (.int place), some (.int read), x11, x12, x13, x14, none, none] (f :: r :: (g ++ [.lst (ends place read w hbs)])) = .nx [some (.ref 0), some (.ref 1), some (.int m), some (HS hbs), some (tl lot), some (tl w), some (.ref (g.length + 2)), x7, some (.bl mk), some (.int place), some (.int read), x11, x12, y13, x14, none, none] (f :: r :: (g ++ [.lst (ends place read w hbs)])) := by
  have q := due_comp (m := m) (hbs := hbs) (lot := lot) (w := w) (place := place) (read := read) (g := g) (mk := mk) (x7 := x7) (x11 := x11) (x12 := x12) (x13 := x13) (x14 := x14) f r
  have hr := rngS_rg (n := hbs.length) (by omega) (f :: r :: (g ++ [.lst (ends place read w hbs)]))
  have hf : (lf place read mk w 0 hbs).length ≤ 16000000 := by have := lf_length place read mk w hbs 0; omega
  have b1 := b1 mk (f :: r :: (g ++ [.lst (ends place read w hbs)]))
  have b2 := b2 mk (f :: r :: (g ++ [.lst (ends place read w hbs)]))
  refine ⟨some (tl (lf place read mk w 0 hbs)), ?_⟩
  generalize lf place read mk w 0 hbs = X at *
  generalize ends place read w hbs = Ls at *
  have s1 : (S.set 13 (E.tuple (L.comp (I.rng1 (E.len (Q.of (E.var 3)))) [16] (.one 16) (T.val (E.op2 D.eq (E.op2 D.ix (E.var 6) (E.var 16)) (E.var 8))) (E.var 16)))) [some (.ref 0), some (.ref 1), some (.int m), some (HS hbs), some (tl lot), some (tl w), some (.ref (g.length + 2)), x7, some (.bl mk), some (.int place), some (.int read), x11, x12, x13, x14, none, none] (f :: r :: (g ++ [.lst (Ls)])) = .nx [some (.ref 0), some (.ref 1), some (.int m), some (HS hbs), some (tl lot), some (tl w), some (.ref (g.length + 2)), x7, some (.bl mk), some (.int place), some (.int read), x11, x12, some (tl X), x14, none, none] (f :: r :: (g ++ [.lst (Ls)])) := by
    simp [E.var, E.con, E.op2, E.op1, E.and, E.or, E.ofT, E.isi, isiD, tyNm, isiB, T.not, T.val, T.and, T.or, T.isN, T.notN, T.yes, T.tru, truthD, D.isN, E.chain, E.ifx, D.le, D.lt, D.ge, D.gt, D.add, D.sub, D.mul, D.mod, D.fdiv, D.pow, D.neg, D.eq, D.ne, D.flat, D.eqv, E.call, L.cons, L.nil, L.disp, E.tup, E.tuple, E.ofL, E.len, E.lenSet, Q.of, R.of, rdQ, rdL, E.app, D.toInt, D.max2, D.min2, R.toS, R.toG, R.bind, S.ret, S.retN, S.seq, S.ife, S.nil, S.expr, S.set, S.par, S.asg, S.bad, S.for, E.gen, I.of, I.enum, srcE, srcD, L.comp, D.ix, E.sl, O.none, O.some, slD, E.met, isT, isL, D.tindex, wipeE, setC, Tg.name, Tg.cons, Tg.nil, Tg.tup, fits, runB, -List.map_take, -List.map_drop, -List.map_set, I.rng1, hr, q, hf]
  rw [seq_nx s1]
  simp [E.var, E.con, E.op2, E.op1, E.and, E.or, E.ofT, E.isi, isiD, tyNm, isiB, T.not, T.val, T.and, T.or, T.isN, T.notN, T.yes, T.tru, truthD, D.isN, E.chain, E.ifx, D.le, D.lt, D.ge, D.gt, D.add, D.sub, D.mul, D.mod, D.fdiv, D.pow, D.neg, D.eq, D.ne, D.flat, D.eqv, E.call, L.cons, L.nil, L.disp, E.tup, E.tuple, E.ofL, E.len, E.lenSet, Q.of, R.of, rdQ, rdL, E.app, D.toInt, D.max2, D.min2, R.toS, R.toG, R.bind, S.ret, S.retN, S.seq, S.ife, S.nil, S.expr, S.set, S.par, S.asg, S.bad, S.for, E.gen, I.of, I.enum, srcE, srcD, L.comp, D.ix, E.sl, O.none, O.some, slD, E.met, isT, isL, D.tindex, wipeE, setC, Tg.name, Tg.cons, Tg.nil, Tg.tup, fits, runB, -List.map_take, -List.map_drop, -List.map_set, b1, b2]
end K15

set_option Elab.async false
set_option linter.all false
set_option maxRecDepth 100000
set_option maxHeartbeats 1000000
namespace K15
open PySem DL
theorem par_of {i j : Nat} {a b : EΦ} {env : DL.Env} {h h1 h2 : Hh} {u v : D} (e1 : a env h = .ok v h1) (e2 : b env h1 = .ok u h2) : S.par i j a b env h = .nx ((env.set i (some v)).set j (some u)) h2 := by
  unfold S.par
  simp [e1, e2, R.toS]
abbrev turnB (c : Calls) : SΦ := (S.seq (S.par 9 10 (E.call 2 (c 10) (L.cons (E.var 1) (L.cons (E.ofL (Q.of (E.var 4))) L.nil))) (E.call 2 (c 10) (L.cons (E.var 1) (L.cons (E.ofL (Q.of (E.var 4))) L.nil)))) (S.seq (S.set 5 (E.tuple (L.comp (I.rng1 (E.call 2 (c 6) (L.cons (E.var 1) (L.cons (E.con (.int 6)) L.nil)))) [15] (.one 15) T.yes (E.call 2 (c 10) (L.cons (E.var 1) (L.cons (E.ofL (Q.of (E.var 4))) L.nil)))))) (S.seq (S.set 6 (E.ofL (L.disp L.nil))) (S.seq (S.for (I.of (E.var 3)) (Tg.name 7) (S.seq (S.set 11 (E.op2 D.ix (E.op2 D.ix (E.var 7) (E.var 9)) (E.var 9))) (S.seq (S.for (I.of (E.var 5)) (Tg.name 12) (S.set 11 (E.op2 D.ix (E.op2 D.ix (E.var 7) (E.var 12)) (E.var 11)))) (S.expr (E.met isL (mutL fAppend) (E.var 6) (L.cons (E.op2 D.eq (E.var 11) (E.var 10)) L.nil)))))) (S.for (I.ofL (L.disp (L.cons (E.con (.bl true)) (L.cons (E.con (.bl false)) L.nil)))) (Tg.name 8) (S.seq (S.set 13 (E.tuple (L.comp (I.rng1 (E.len (Q.of (E.var 3)))) [16] (.one 16) (T.val (E.op2 D.eq (E.op2 D.ix (E.var 6) (E.var 16)) (E.var 8))) (E.var 16)))) (S.ife (T.not (T.val (E.call 2 (c 11) (L.cons (E.call 6 (c 5) (L.cons (E.var 3) (L.cons (E.var 4) (L.cons (E.var 9) (L.cons (E.var 5) (L.cons (E.var 10) (L.cons (E.var 8) L.nil))))))) (L.cons (E.var 13) L.nil))))) (S.ret (E.con (.bl false))) S.nil)))))))
theorem turn_body {c : Calls} {ns lot : List Int} (hc : Pick c ns lot) (t6 : ∀ g a b e, 0 ≤ a → ∃ (v a' b' e' : Int), c 6 [.ref 1, .int 6] (Fz ns :: rw3 a b e :: g) = .ok (.int v) (Fz ns :: rw3 a' b' e' :: g) ∧ 0 ≤ v ∧ v < 6 ∧ 0 ≤ a') {m : Nat} {hbs : List (List (List Int))} (hh : Habs m hbs) (hl : Lot m lot)
    (b1 : ∀ place read w, place ∈ lot → read ∈ lot → (∀ p ∈ w, p ∈ lot) → ∀ mk g, c 5 [HS hbs, tl lot, .int place, tl w, .int read, .bl mk] g = .ok (tl (lf place read mk w 0 hbs)) g) (b2 : ∀ place read w mk g, c 11 [tl (lf place read mk w 0 hbs), tl (lf place read mk w 0 hbs)] g = .ok (.bl true) g)
    (g : Hh) (a b e : Int) (ha : 0 ≤ a) (x5 x6 x7 x8 x9 x10 x11 x12 x13 x14 : Option D) :
    ∃ y5 y6 y7 y8 y9 y10 y11 y12 y13 a' b' e' g', turnB c [some (.ref 0), some (.ref 1), some (.int m), some (HS hbs), some (tl lot), x5, x6, x7, x8, x9, x10, x11, x12, x13, x14, none, none] (Fz ns :: rw3 a b e :: g) = .nx [some (.ref 0), some (.ref 1), some (.int m), some (HS hbs), some (tl lot), y5, y6, y7, y8, y9, y10, y11, y12, y13, x14, none, none] (Fz ns :: rw3 a' b' e' :: g') ∧ 0 ≤ a' := by
  obtain ⟨place, a1, b1', e1, q1, hp, ha1⟩ := pickE hc (some (.ref 0)) (some (.int m)) (some (HS hbs)) [x5, x6, x7, x8, x9, x10, x11, x12, x13, x14, none, none] g a b e ha
  obtain ⟨read, a2, b2', e2, q2, hr, ha2⟩ := pickE hc (some (.ref 0)) (some (.int m)) (some (HS hbs)) [x5, x6, x7, x8, x9, x10, x11, x12, x13, x14, none, none] (g ++ [.lst (lot.map D.int)]) a1 b1' e1 ha1
  obtain ⟨v, a3, b3', e3, q3, v0, v1, ha3⟩ := t6 (g ++ [.lst (lot.map D.int)] ++ [.lst (lot.map D.int)]) a2 b2' e2 ha2
  generalize g ++ [.lst (lot.map D.int)] ++ [.lst (lot.map D.int)] = gg at *
  obtain ⟨n, rfl⟩ : ∃ n : Nat, v = n := ⟨v.toNat, by omega⟩
  obtain ⟨w, a4, b4', e4, g4, q4, hwl, hw, ha4⟩ := word_comp hc (some (.ref 0)) (some (.int m)) (some (HS hbs)) x5 x6 x7 x8 (some (.int place)) (some (.int read)) x11 x12 x13 x14 none ((rg n).map D.int) (rg n) gg a3 b3' e3 ha3
  rw [rg_length] at hwl
  have hpl := hl.each place hp
  have h3 := hh.hi
  obtain ⟨y7, y11, y12, q5⟩ := ends_loop (m := m) (hbs := hbs) (lot := lot) (w := w) (place := place) (read := read) (g := g4) (x8 := x8) (x13 := x13) (x14 := x14) hpl.1 hpl.2 (fun p hp => hl.each p (hw p hp)) (Fz ns) (rw3 a4 b4' e4) (hbs.map fun hb => H hb) hbs [] x7 x11 x12 hh.each (by simp; omega)
  obtain ⟨y13, q6⟩ := marked_body c (m := m) (hbs := hbs) (lot := lot) (w := w) (place := place) (read := read) (g := g4) (mk := true) (x7 := y7) (x11 := y11) (x12 := y12) (x13 := x13) (x14 := x14) (Fz ns) (rw3 a4 b4' e4) h3 (b1 place read w hp hr hw) (b2 place read w)
  obtain ⟨z13, q7⟩ := marked_body c (m := m) (hbs := hbs) (lot := lot) (w := w) (place := place) (read := read) (g := g4) (mk := false) (x7 := y7) (x11 := y11) (x12 := y12) (x13 := y13) (x14 := x14) (Fz ns) (rw3 a4 b4' e4) h3 (b1 place read w hp hr hw) (b2 place read w)
  have s0 : (S.par 9 10 (E.call 2 (c 10) (L.cons (E.var 1) (L.cons (E.ofL (Q.of (E.var 4))) L.nil))) (E.call 2 (c 10) (L.cons (E.var 1) (L.cons (E.ofL (Q.of (E.var 4))) L.nil)))) [some (.ref 0), some (.ref 1), some (.int m), some (HS hbs), some (tl lot), x5, x6, x7, x8, x9, x10, x11, x12, x13, x14, none, none] (Fz ns :: rw3 a b e :: g) = .nx [some (.ref 0), some (.ref 1), some (.int m), some (HS hbs), some (tl lot), x5, x6, x7, x8, some (.int place), some (.int read), x11, x12, x13, x14, none, none] (Fz ns :: rw3 a2 b2' e2 :: gg) := par_of q1 q2
  have hrn := rngS_rg (n := n) (by omega) (Fz ns :: rw3 a3 b3' e3 :: gg)
  have hf : w.length ≤ 16000000 := by omega
  have s1 : (S.set 5 (E.tuple (L.comp (I.rng1 (E.call 2 (c 6) (L.cons (E.var 1) (L.cons (E.con (.int 6)) L.nil)))) [15] (.one 15) T.yes (E.call 2 (c 10) (L.cons (E.var 1) (L.cons (E.ofL (Q.of (E.var 4))) L.nil)))))) [some (.ref 0), some (.ref 1), some (.int m), some (HS hbs), some (tl lot), x5, x6, x7, x8, some (.int place), some (.int read), x11, x12, x13, x14, none, none] (Fz ns :: rw3 a2 b2' e2 :: gg) = .nx [some (.ref 0), some (.ref 1), some (.int m), some (HS hbs), some (tl lot), some (tl w), x6, x7, x8, some (.int place), some (.int read), x11, x12, x13, x14, none, none] (Fz ns :: rw3 a4 b4' e4 :: g4) := by
    simp [E.var, E.con, E.op2, E.op1, E.and, E.or, E.ofT, E.isi, isiD, tyNm, isiB, T.not, T.val, T.and, T.or, T.isN, T.notN, T.yes, T.tru, truthD, D.isN, E.chain, E.ifx, D.le, D.lt, D.ge, D.gt, D.add, D.sub, D.mul, D.mod, D.fdiv, D.pow, D.neg, D.eq, D.ne, D.flat, D.eqv, E.call, L.cons, L.nil, L.disp, E.tup, E.tuple, E.ofL, E.len, E.lenSet, Q.of, R.of, rdQ, rdL, E.app, D.toInt, D.max2, D.min2, R.toS, R.toG, R.bind, S.ret, S.retN, S.seq, S.ife, S.nil, S.expr, S.set, S.par, S.asg, S.bad, S.for, E.gen, I.of, I.enum, srcE, srcD, L.comp, D.ix, E.sl, O.none, O.some, slD, E.met, isT, isL, D.tindex, wipeE, setC, Tg.name, Tg.cons, Tg.nil, Tg.tup, fits, runB, -List.map_take, -List.map_drop, -List.map_set, I.rng1, q3, hrn, q4, hf]
  have s2 : (S.set 6 (E.ofL (L.disp L.nil))) [some (.ref 0), some (.ref 1), some (.int m), some (HS hbs), some (tl lot), some (tl w), x6, x7, x8, some (.int place), some (.int read), x11, x12, x13, x14, none, none] (Fz ns :: rw3 a4 b4' e4 :: g4) = .nx [some (.ref 0), some (.ref 1), some (.int m), some (HS hbs), some (tl lot), some (tl w), some (.ref (g4.length + 2)), x7, x8, some (.int place), some (.int read), x11, x12, x13, x14, none, none] (Fz ns :: rw3 a4 b4' e4 :: (g4 ++ [.lst []])) := by
    simp [E.var, E.con, E.op2, E.op1, E.and, E.or, E.ofT, E.isi, isiD, tyNm, isiB, T.not, T.val, T.and, T.or, T.isN, T.notN, T.yes, T.tru, truthD, D.isN, E.chain, E.ifx, D.le, D.lt, D.ge, D.gt, D.add, D.sub, D.mul, D.mod, D.fdiv, D.pow, D.neg, D.eq, D.ne, D.flat, D.eqv, E.call, L.cons, L.nil, L.disp, E.tup, E.tuple, E.ofL, E.len, E.lenSet, Q.of, R.of, rdQ, rdL, E.app, D.toInt, D.max2, D.min2, R.toS, R.toG, R.bind, S.ret, S.retN, S.seq, S.ife, S.nil, S.expr, S.set, S.par, S.asg, S.bad, S.for, E.gen, I.of, I.enum, srcE, srcD, L.comp, D.ix, E.sl, O.none, O.some, slD, E.met, isT, isL, D.tindex, wipeE, setC, Tg.name, Tg.cons, Tg.nil, Tg.tup, fits, runB, -List.map_take, -List.map_drop, -List.map_set]
  have s3 : (S.for (I.of (E.var 3)) (Tg.name 7) (S.seq (S.set 11 (E.op2 D.ix (E.op2 D.ix (E.var 7) (E.var 9)) (E.var 9))) (S.seq (S.for (I.of (E.var 5)) (Tg.name 12) (S.set 11 (E.op2 D.ix (E.op2 D.ix (E.var 7) (E.var 12)) (E.var 11)))) (S.expr (E.met isL (mutL fAppend) (E.var 6) (L.cons (E.op2 D.eq (E.var 11) (E.var 10)) L.nil)))))) [some (.ref 0), some (.ref 1), some (.int m), some (HS hbs), some (tl lot), some (tl w), some (.ref (g4.length + 2)), x7, x8, some (.int place), some (.int read), x11, x12, x13, x14, none, none] (Fz ns :: rw3 a4 b4' e4 :: (g4 ++ [.lst []])) = .nx [some (.ref 0), some (.ref 1), some (.int m), some (HS hbs), some (tl lot), some (tl w), some (.ref (g4.length + 2)), y7, x8, some (.int place), some (.int read), y11, y12, x13, x14, none, none] (Fz ns :: rw3 a4 b4' e4 :: (g4 ++ [.lst (ends place read w hbs)])) :=
    for_of (s := ⟨hbs.map fun hb => H hb, none⟩) rfl q5
  have s4 : (S.for (I.ofL (L.disp (L.cons (E.con (.bl true)) (L.cons (E.con (.bl false)) L.nil)))) (Tg.name 8) (S.seq (S.set 13 (E.tuple (L.comp (I.rng1 (E.len (Q.of (E.var 3)))) [16] (.one 16) (T.val (E.op2 D.eq (E.op2 D.ix (E.var 6) (E.var 16)) (E.var 8))) (E.var 16)))) (S.ife (T.not (T.val (E.call 2 (c 11) (L.cons (E.call 6 (c 5) (L.cons (E.var 3) (L.cons (E.var 4) (L.cons (E.var 9) (L.cons (E.var 5) (L.cons (E.var 10) (L.cons (E.var 8) L.nil))))))) (L.cons (E.var 13) L.nil))))) (S.ret (E.con (.bl false))) S.nil))) [some (.ref 0), some (.ref 1), some (.int m), some (HS hbs), some (tl lot), some (tl w), some (.ref (g4.length + 2)), y7, x8, some (.int place), some (.int read), y11, y12, x13, x14, none, none] (Fz ns :: rw3 a4 b4' e4 :: (g4 ++ [.lst (ends place read w hbs)])) = .nx [some (.ref 0), some (.ref 1), some (.int m), some (HS hbs), some (tl lot), some (tl w), some (.ref (g4.length + 2)), y7, some (.bl false), some (.int place), some (.int read), y11, y12, z13, x14, none, none] (Fz ns :: rw3 a4 b4' e4 :: (g4 ++ [.lst (ends place read w hbs)])) := by
    refine for_of (s := ⟨[.bl true, .bl false], none⟩) rfl ?_
    rw [forGo_cons rfl rfl q6, forGo_cons rfl rfl q7]
    exact forGo_nil rfl
  refine ⟨some (tl w), some (.ref (g4.length + 2)), y7, some (.bl false), some (.int place), some (.int read), y11, y12, z13, a4, b4', e4, g4 ++ [.lst (ends place read w hbs)], ?_, ha4⟩
  · rw [turnB, seq_nx s0, seq_nx s1, seq_nx s2, seq_nx s3]
    exact s4

theorem trunc_ex (h g : Hh) (d : D) : ∃ hh, trunc h (.ok d g) = .ok d hh := by
  unfold trunc
  simp only
  split
  · exact ⟨_, rfl⟩
  · exact ⟨_, rfl⟩
theorem law_ok (ns : List Int) : ∃ hh, run 12 12 [.ref 0] [Fz ns] = .ok (.bl true) hh := by
  obtain ⟨v, a1, b1, e1, t1, v0, v1, ha1⟩ := taken_ok 10 (ns := ns) (a := 0) (b := 5015) (c := 0) (many := 4) [] (by omega) (by omega) (by omega)
  obtain ⟨m, hm⟩ : ∃ m : Nat, (2 : Int) + v = m := ⟨(2 + v).toNat, by omega⟩
  have m2 : 2 ≤ m := by omega
  have m5 : m ≤ 5 := by omega
  obtain ⟨k, a2, b2, e2, t2, k0, k1, ha2⟩ := taken_ok 10 (ns := ns) (a := a1) (b := b1) (c := e1) (many := 3) [] ha1 (by omega) (by omega)
  obtain ⟨n, hn⟩ : ∃ n : Nat, (1 : Int) + k = n := ⟨(1 + k).toNat, by omega⟩
  obtain ⟨hbs, a3, b3, e3, q3, hlen, heach, ha3⟩ := habs_comp 8 (ns := ns) m2 m5 ((rg n).map D.int) (rg n) a2 b2 e2 ha2
  rw [rg_length] at hlen
  have hh : Habs m hbs := ⟨by omega, by omega, heach⟩
  obtain ⟨lot, a4, b4, e4, t4, ha4, hl, hl5⟩ := lot_ok 9 (ns := ns) m2 m5 (a := a3) (b := b3) (c := e3) ha3
  have hpick : Pick (run 11) ns lot := fun g a b e ha => pick_ok 9 g lot hl.ne (by omega) ha
  have t6 : ∀ g a b e, 0 ≤ a → ∃ (v a' b' e' : Int), run 11 6 [.ref 1, .int 6] (Fz ns :: rw3 a b e :: g) = .ok (.int v) (Fz ns :: rw3 a' b' e' :: g) ∧ 0 ≤ v ∧ v < 6 ∧ 0 ≤ a' := fun g a b e ha => taken_ok 10 g ha (by omega) (by omega)
  have c5 : ∀ place read w, place ∈ lot → read ∈ lot → (∀ p ∈ w, p ∈ lot) → ∀ mk g, run 11 5 [HS hbs, tl lot, .int place, tl w, .int read, .bl mk] g = .ok (tl (lf place read mk w 0 hbs)) g := fun place read w hp hr hw mk g => habits_left_ok 6 hh hl mk hp hr hw g
  have c11 : ∀ place read w mk g, run 11 11 [tl (lf place read mk w 0 hbs), tl (lf place read mk w 0 hbs)] g = .ok (.bl true) g := fun place read w mk g => alike_tl 9 (by have := lf_length place read mk w hbs 0; omega) g
  change run 11 6 [.ref 1, .int 4] [Fz ns, rw3 0 5015 0] = .ok (.int v) [Fz ns, rw3 a1 b1 e1] at t1
  change run 11 6 [.ref 1, .int 3] [Fz ns, rw3 a1 b1 e1] = .ok (.int k) [Fz ns, rw3 a2 b2 e2] at t2
  change run 11 9 [.ref 1, .int m] [Fz ns, rw3 a3 b3 e3] = .ok (tl lot) [Fz ns, rw3 a4 b4 e4] at t4
  change compGo _ _ _ (E.call 2 (run 11 8) _) _ _ _ = _ at q3
  rw [show run 12 12 [.ref 0] [Fz ns] = trunc [Fz ns] (runB 17 (b_law (run 11)) [.ref 0] [Fz ns]) from rfl]
  generalize run 11 = c at *
  suffices hs : ∃ g, b_law c [some (.ref 0), none, none, none, none, none, none, none, none, none, none, none, none, none, none, none, none] [Fz ns] = .rt (.bl true) g by
    obtain ⟨g, hs⟩ := hs
    rw [runB_rt hs]
    exact trunc_ex _ _ _
  have s0 : (S.set 1 (E.ofL (L.disp (L.cons (E.var 0) (L.cons (E.con (.int 0)) (L.cons (E.con (.int 5015)) (L.cons (E.con (.int 0)) L.nil))))))) [some (.ref 0), none, none, none, none, none, none, none, none, none, none, none, none, none, none, none, none] [Fz ns] = .nx [some (.ref 0), some (.ref 1), none, none, none, none, none, none, none, none, none, none, none, none, none, none, none] [Fz ns, rw3 0 5015 0] := by
    simp [E.var, E.con, E.op2, E.op1, E.and, E.or, E.ofT, E.isi, isiD, tyNm, isiB, T.not, T.val, T.and, T.or, T.isN, T.notN, T.yes, T.tru, truthD, D.isN, E.chain, E.ifx, D.le, D.lt, D.ge, D.gt, D.add, D.sub, D.mul, D.mod, D.fdiv, D.pow, D.neg, D.eq, D.ne, D.flat, D.eqv, E.call, L.cons, L.nil, L.disp, E.tup, E.tuple, E.ofL, E.len, E.lenSet, Q.of, R.of, rdQ, rdL, E.app, D.toInt, D.max2, D.min2, R.toS, R.toG, R.bind, S.ret, S.retN, S.seq, S.ife, S.nil, S.expr, S.set, S.par, S.asg, S.bad, S.for, E.gen, I.of, I.enum, srcE, srcD, L.comp, D.ix, E.sl, O.none, O.some, slD, E.met, isT, isL, D.tindex, wipeE, setC, Tg.name, Tg.cons, Tg.nil, Tg.tup, fits, runB, -List.map_take, -List.map_drop, -List.map_set]
  have s1 : (S.set 2 (E.op2 D.add (E.con (.int 2)) (E.call 2 (c 6) (L.cons (E.var 1) (L.cons (E.con (.int 4)) L.nil))))) [some (.ref 0), some (.ref 1), none, none, none, none, none, none, none, none, none, none, none, none, none, none, none] [Fz ns, rw3 0 5015 0] = .nx [some (.ref 0), some (.ref 1), some (.int m), none, none, none, none, none, none, none, none, none, none, none, none, none, none] [Fz ns, rw3 a1 b1 e1] := by
    rw [← hm]
    simp [E.var, E.con, E.op2, E.op1, E.and, E.or, E.ofT, E.isi, isiD, tyNm, isiB, T.not, T.val, T.and, T.or, T.isN, T.notN, T.yes, T.tru, truthD, D.isN, E.chain, E.ifx, D.le, D.lt, D.ge, D.gt, D.add, D.sub, D.mul, D.mod, D.fdiv, D.pow, D.neg, D.eq, D.ne, D.flat, D.eqv, E.call, L.cons, L.nil, L.disp, E.tup, E.tuple, E.ofL, E.len, E.lenSet, Q.of, R.of, rdQ, rdL, E.app, D.toInt, D.max2, D.min2, R.toS, R.toG, R.bind, S.ret, S.retN, S.seq, S.ife, S.nil, S.expr, S.set, S.par, S.asg, S.bad, S.for, E.gen, I.of, I.enum, srcE, srcD, L.comp, D.ix, E.sl, O.none, O.some, slD, E.met, isT, isL, D.tindex, wipeE, setC, Tg.name, Tg.cons, Tg.nil, Tg.tup, fits, runB, -List.map_take, -List.map_drop, -List.map_set, t1]
  have hr := rngS_rg (n := n) (by omega) [Fz ns, rw3 a2 b2 e2]
  have hf : hbs.length ≤ 16000000 := by omega
  have s2 : (S.set 3 (E.tuple (L.comp (I.rng1 (E.op2 D.add (E.con (.int 1)) (E.call 2 (c 6) (L.cons (E.var 1) (L.cons (E.con (.int 3)) L.nil))))) [14] (.one 14) T.yes (E.call 2 (c 8) (L.cons (E.var 1) (L.cons (E.var 2) L.nil)))))) [some (.ref 0), some (.ref 1), some (.int m), none, none, none, none, none, none, none, none, none, none, none, none, none, none] [Fz ns, rw3 a1 b1 e1] = .nx [some (.ref 0), some (.ref 1), some (.int m), some (HS hbs), none, none, none, none, none, none, none, none, none, none, none, none, none] [Fz ns, rw3 a3 b3 e3] := by
    rw [← hn] at hr
    simp [E.var, E.con, E.op2, E.op1, E.and, E.or, E.ofT, E.isi, isiD, tyNm, isiB, T.not, T.val, T.and, T.or, T.isN, T.notN, T.yes, T.tru, truthD, D.isN, E.chain, E.ifx, D.le, D.lt, D.ge, D.gt, D.add, D.sub, D.mul, D.mod, D.fdiv, D.pow, D.neg, D.eq, D.ne, D.flat, D.eqv, E.call, L.cons, L.nil, L.disp, E.tup, E.tuple, E.ofL, E.len, E.lenSet, Q.of, R.of, rdQ, rdL, E.app, D.toInt, D.max2, D.min2, R.toS, R.toG, R.bind, S.ret, S.retN, S.seq, S.ife, S.nil, S.expr, S.set, S.par, S.asg, S.bad, S.for, E.gen, I.of, I.enum, srcE, srcD, L.comp, D.ix, E.sl, O.none, O.some, slD, E.met, isT, isL, D.tindex, wipeE, setC, Tg.name, Tg.cons, Tg.nil, Tg.tup, fits, runB, -List.map_take, -List.map_drop, -List.map_set, I.rng1, t2, hr, q3, hf]
  have s3 : (S.set 4 (E.call 2 (c 9) (L.cons (E.var 1) (L.cons (E.var 2) L.nil)))) [some (.ref 0), some (.ref 1), some (.int m), some (HS hbs), none, none, none, none, none, none, none, none, none, none, none, none, none] [Fz ns, rw3 a3 b3 e3] = .nx [some (.ref 0), some (.ref 1), some (.int m), some (HS hbs), some (tl lot), none, none, none, none, none, none, none, none, none, none, none, none] [Fz ns, rw3 a4 b4 e4] := by
    simp [E.var, E.con, E.op2, E.op1, E.and, E.or, E.ofT, E.isi, isiD, tyNm, isiB, T.not, T.val, T.and, T.or, T.isN, T.notN, T.yes, T.tru, truthD, D.isN, E.chain, E.ifx, D.le, D.lt, D.ge, D.gt, D.add, D.sub, D.mul, D.mod, D.fdiv, D.pow, D.neg, D.eq, D.ne, D.flat, D.eqv, E.call, L.cons, L.nil, L.disp, E.tup, E.tuple, E.ofL, E.len, E.lenSet, Q.of, R.of, rdQ, rdL, E.app, D.toInt, D.max2, D.min2, R.toS, R.toG, R.bind, S.ret, S.retN, S.seq, S.ife, S.nil, S.expr, S.set, S.par, S.asg, S.bad, S.for, E.gen, I.of, I.enum, srcE, srcD, L.comp, D.ix, E.sl, O.none, O.some, slD, E.met, isT, isL, D.tindex, wipeE, setC, Tg.name, Tg.cons, Tg.nil, Tg.tup, fits, runB, -List.map_take, -List.map_drop, -List.map_set, t4]
  have key : ∀ (l : List D) (g : Hh) (a b e : Int) (x5 x6 x7 x8 x9 x10 x11 x12 x13 x14 : Option D), 0 ≤ a → ∃ env' h', S.forGo ⟨(rg 4).map D.int, none⟩ (Tg.name 14) (turnB c) l [some (.ref 0), some (.ref 1), some (.int m), some (HS hbs), some (tl lot), x5, x6, x7, x8, x9, x10, x11, x12, x13, x14, none, none] (Fz ns :: rw3 a b e :: g) = .nx env' h' := by
    intro l
    induction l with
    | nil => intro g a b e x5 x6 x7 x8 x9 x10 x11 x12 x13 x14 _; exact ⟨_, _, forGo_nil rfl⟩
    | cons t l ih =>
      intro g a b e x5 x6 x7 x8 x9 x10 x11 x12 x13 x14 ha
      obtain ⟨y5, y6, y7, y8, y9, y10, y11, y12, y13, a', b', e', g', q, ha'⟩ := turn_body hpick t6 hh hl c5 c11 g a b e ha x5 x6 x7 x8 x9 x10 x11 x12 x13 (some t)
      obtain ⟨env', h', q2⟩ := ih g' a' b' e' y5 y6 y7 y8 y9 y10 y11 y12 y13 (some t) ha'
      exact ⟨env', h', by rw [forGo_cons rfl rfl q]; exact q2⟩
  obtain ⟨env', h', q4⟩ := key ((rg 4).map D.int) [] a4 b4 e4 none none none none none none none none none none ha4
  have hr4 := rngS_rg (n := 4) (by omega) [Fz ns, rw3 a4 b4 e4]
  have s4 : (S.for (I.rng1 (E.con (.int 4))) (Tg.name 14) (S.seq (S.par 9 10 (E.call 2 (c 10) (L.cons (E.var 1) (L.cons (E.ofL (Q.of (E.var 4))) L.nil))) (E.call 2 (c 10) (L.cons (E.var 1) (L.cons (E.ofL (Q.of (E.var 4))) L.nil)))) (S.seq (S.set 5 (E.tuple (L.comp (I.rng1 (E.call 2 (c 6) (L.cons (E.var 1) (L.cons (E.con (.int 6)) L.nil)))) [15] (.one 15) T.yes (E.call 2 (c 10) (L.cons (E.var 1) (L.cons (E.ofL (Q.of (E.var 4))) L.nil)))))) (S.seq (S.set 6 (E.ofL (L.disp L.nil))) (S.seq (S.for (I.of (E.var 3)) (Tg.name 7) (S.seq (S.set 11 (E.op2 D.ix (E.op2 D.ix (E.var 7) (E.var 9)) (E.var 9))) (S.seq (S.for (I.of (E.var 5)) (Tg.name 12) (S.set 11 (E.op2 D.ix (E.op2 D.ix (E.var 7) (E.var 12)) (E.var 11)))) (S.expr (E.met isL (mutL fAppend) (E.var 6) (L.cons (E.op2 D.eq (E.var 11) (E.var 10)) L.nil)))))) (S.for (I.ofL (L.disp (L.cons (E.con (.bl true)) (L.cons (E.con (.bl false)) L.nil)))) (Tg.name 8) (S.seq (S.set 13 (E.tuple (L.comp (I.rng1 (E.len (Q.of (E.var 3)))) [16] (.one 16) (T.val (E.op2 D.eq (E.op2 D.ix (E.var 6) (E.var 16)) (E.var 8))) (E.var 16)))) (S.ife (T.not (T.val (E.call 2 (c 11) (L.cons (E.call 6 (c 5) (L.cons (E.var 3) (L.cons (E.var 4) (L.cons (E.var 9) (L.cons (E.var 5) (L.cons (E.var 10) (L.cons (E.var 8) L.nil))))))) (L.cons (E.var 13) L.nil))))) (S.ret (E.con (.bl false))) S.nil)))))))) [some (.ref 0), some (.ref 1), some (.int m), some (HS hbs), some (tl lot), none, none, none, none, none, none, none, none, none, none, none, none] [Fz ns, rw3 a4 b4 e4] = .nx env' h' := by
    refine for_of (s := ⟨(rg 4).map D.int, none⟩) (h1 := [Fz ns, rw3 a4 b4 e4]) ?_ q4
    exact hr4
  refine ⟨h', ?_⟩
  rw [b_law, seq_nx s0, seq_nx s1, seq_nx s2, seq_nx s3, seq_nx s4]
  rfl
end K15

theorem PySem.Challenge.cw_restlesshelf_k15_whole_left_holds : PySem.Challenge.rw_restlesshelf_k15_whole_left.Holds := by
  exact K15_of fun ns _ _ => K15.law_ok ns
