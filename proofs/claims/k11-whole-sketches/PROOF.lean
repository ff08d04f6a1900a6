import PyProof.Rows.All
import Wide.All
import OpenK.AllK
import Wide.FinOn
import HandS.ForMost
import HandS.DictComp
import HandS.SortKw
import HandS.IsInst
import HandS.CallLocal
import HandS.TupAny
import HandS.TupLe
import HandS.More
import HandS.Codes
import HandS.Sort
import HandS.SetFor
import KE.SortData
import KE.KDictPairs
import KE.KDictSum
import HandS.WordsDict
import PySem.Challenge.RW_knownends_k11_whole_sketches_poured_by_a
set_option Elab.async false
set_option maxRecDepth 100000
set_option maxHeartbeats 4000000
set_option linter.all false
/-! The mathematics: association lists, streams fed, sketches poured, trees. -/
namespace KN
variable {κ : Type} [DecidableEq κ]

def lookA (l : List (κ × Int)) (k : κ) : Option Int := (l.find? fun p => decide (p.1 = k)).map (·.2)
def getA (l : List (κ × Int)) (k : κ) : Int := (lookA l k).getD 0
def putA (l : List (κ × Int)) (k : κ) (v : Int) : List (κ × Int) :=
  if (l.any fun p => decide (p.1 = k)) = true then l.map (fun p => if p.1 = k then (p.1, v) else p) else l ++ [(k, v)]
def keysA (l : List (κ × Int)) : List κ := l.map (·.1)
def valsA (l : List (κ × Int)) : List Int := l.map (·.2)
def subA (t : Int) (l : List (κ × Int)) : List (κ × Int) := (l.filter (fun p => decide (t < p.2))).map (fun p => (p.1, p.2 - t))
def Eqv (l m : List (κ × Int)) : Prop := ∀ k, lookA l k = lookA m k

theorem look_nil (k : κ) : lookA ([] : List (κ × Int)) k = none := rfl
theorem look_cons (p : κ × Int) (l : List (κ × Int)) (k : κ) : lookA (p :: l) k = if p.1 = k then some p.2 else lookA l k := by
  unfold lookA
  rw [List.find?_cons]
  by_cases h : p.1 = k
  · simp [h]
  · simp [h]
theorem look_none {l : List (κ × Int)} {k : κ} : lookA l k = none ↔ k ∉ keysA l := by
  induction l with
  | nil => simp [look_nil, keysA]
  | cons p l ih =>
    rw [look_cons]
    by_cases h : p.1 = k
    · simp [h, keysA]
    · have h' : ¬ k = p.1 := fun e => h e.symm
      simp only [h, if_false, ih, keysA, List.map_cons, List.mem_cons, h', false_or]
theorem look_some_mem {l : List (κ × Int)} {k : κ} {c : Int} (h : lookA l k = some c) : (k, c) ∈ l := by
  induction l with
  | nil => simp [look_nil] at h
  | cons p l ih =>
    rw [look_cons] at h
    by_cases e : p.1 = k
    · rw [if_pos e] at h
      have : p.2 = c := Option.some.inj h
      subst this; subst e
      exact List.mem_cons_self
    · rw [if_neg e] at h
      exact List.mem_cons_of_mem _ (ih h)
theorem look_key {l : List (κ × Int)} {k : κ} {c : Int} (h : lookA l k = some c) : k ∈ keysA l := List.mem_map.mpr ⟨_, look_some_mem h, rfl⟩
theorem mem_look {l : List (κ × Int)} (nd : (keysA l).Nodup) {k : κ} {c : Int} (h : (k, c) ∈ l) : lookA l k = some c := by
  induction l with
  | nil => simp at h
  | cons p l ih =>
    have nd' : (p.1 :: keysA l).Nodup := nd
    obtain ⟨n1, n2⟩ := List.nodup_cons.mp nd'
    rw [look_cons]
    rcases List.mem_cons.mp h with e | e
    · subst e; simp
    · have : ¬ p.1 = k := fun q => n1 (by rw [q]; exact List.mem_map.mpr ⟨_, e, rfl⟩)
      rw [if_neg this]
      exact ih n2 e
theorem look_isSome {l : List (κ × Int)} {k : κ} : (lookA l k).isSome = true ↔ k ∈ keysA l := by
  cases h : lookA l k with
  | none => simp [look_none.mp h]
  | some c => simp [look_key h]
theorem any_key {l : List (κ × Int)} {k : κ} : (l.any fun p => decide (p.1 = k)) = true ↔ k ∈ keysA l := by
  simp [List.any_eq_true, keysA]
theorem get_of_look {l : List (κ × Int)} {k : κ} {c : Int} (h : lookA l k = some c) : getA l k = c := by unfold getA; rw [h]; rfl
theorem get_none {l : List (κ × Int)} {k : κ} (h : k ∉ keysA l) : getA l k = 0 := by unfold getA; rw [look_none.mpr h]; rfl
theorem keys_put_in {l : List (κ × Int)} {k : κ} {v : Int} (h : k ∈ keysA l) : keysA (putA l k v) = keysA l := by
  unfold putA
  rw [if_pos (any_key.mpr h)]
  unfold keysA
  rw [List.map_map]
  refine List.map_congr_left fun p _ => ?_
  show (if p.1 = k then (p.1, v) else p).1 = p.1
  split <;> rfl
theorem put_out {l : List (κ × Int)} {k : κ} {v : Int} (h : k ∉ keysA l) : putA l k v = l ++ [(k, v)] := by
  unfold putA
  rw [if_neg (fun q => h (any_key.mp q))]
theorem keys_put_out {l : List (κ × Int)} {k : κ} {v : Int} (h : k ∉ keysA l) : keysA (putA l k v) = keysA l ++ [k] := by
  rw [put_out h]; unfold keysA; rw [List.map_append]; rfl
theorem nodup_snoc {α : Type} {l : List α} {a : α} (h : l.Nodup) (n : a ∉ l) : (l ++ [a]).Nodup := by
  rw [List.nodup_append]
  refine ⟨h, by simp, ?_⟩
  intro x hx y hy e
  simp at hy
  subst hy; subst e
  exact n hx
theorem nd_put {l : List (κ × Int)} {k : κ} {v : Int} (h : (keysA l).Nodup) : (keysA (putA l k v)).Nodup := by
  by_cases m : k ∈ keysA l
  · rw [keys_put_in m]; exact h
  · rw [keys_put_out m]; exact nodup_snoc h m
theorem look_append_out {l m : List (κ × Int)} {k : κ} (h : k ∉ keysA l) : lookA (l ++ m) k = lookA m k := by
  induction l with
  | nil => rfl
  | cons p l ih =>
    have h1 : ¬ p.1 = k := fun e => h (by subst e; exact List.mem_cons_self)
    have h2 : k ∉ keysA l := fun e => h (List.mem_cons_of_mem _ e)
    rw [List.cons_append, look_cons, if_neg h1, ih h2]
theorem look_append_in {l m : List (κ × Int)} {k : κ} (h : k ∈ keysA l) : lookA (l ++ m) k = lookA l k := by
  induction l with
  | nil => simp [keysA] at h
  | cons p l ih =>
    rw [List.cons_append, look_cons, look_cons]
    by_cases e : p.1 = k
    · rw [if_pos e, if_pos e]
    · rw [if_neg e, if_neg e]
      refine ih ?_
      have h : k ∈ p.1 :: keysA l := h
      rcases List.mem_cons.mp h with q | q
      · exact absurd q.symm e
      · exact q
theorem look_mapset {l : List (κ × Int)} {k : κ} {v : Int} (k' : κ) : lookA (l.map (fun p => if p.1 = k then (p.1, v) else p)) k' = if k' = k ∧ k ∈ keysA l then some v else lookA l k' := by
  induction l with
  | nil => simp [look_nil, keysA]
  | cons p l ih =>
    rw [List.map_cons, look_cons, ih, look_cons]
    have hk : k ∈ keysA (p :: l) ↔ k = p.1 ∨ k ∈ keysA l := List.mem_cons
    by_cases e : p.1 = k
    · have e1 : (if p.1 = k then (p.1, v) else p) = (p.1, v) := if_pos e
      rw [e1]
      have m : k ∈ keysA (p :: l) := hk.mpr (.inl e.symm)
      by_cases q : k' = k
      · subst q
        simp only [e, if_true, m, and_self]
      · have q1 : ¬ p.1 = k' := fun z => q (z.symm.trans e)
        simp only [q1, q, if_false, false_and]
    · have e1 : (if p.1 = k then (p.1, v) else p) = p := if_neg e
      rw [e1]
      by_cases q : p.1 = k'
      · have q2 : ¬ k' = k := fun z => e (q.trans z)
        simp only [q, if_true, q2, false_and, if_false]
      · simp only [q, if_false]
        by_cases z : k' = k
        · subst z
          by_cases y : k' ∈ keysA l
          · simp only [y, hk.mpr (.inr y), and_self, if_true]
          · have y2 : k' ∉ keysA (p :: l) := fun x => (hk.mp x).elim (fun a => e a.symm) y
            simp only [y, y2, and_false, if_false]
        · simp only [z, false_and, if_false]
theorem look_put (l : List (κ × Int)) (k : κ) (v : Int) (k' : κ) : lookA (putA l k v) k' = if k' = k then some v else lookA l k' := by
  by_cases m : k ∈ keysA l
  · unfold putA
    rw [if_pos (any_key.mpr m), look_mapset]
    simp only [m, and_true]
  · rw [put_out m]
    by_cases e : k' = k
    · subst e
      rw [look_append_out m, look_cons, if_pos rfl, if_pos rfl]
    · rw [if_neg e]
      by_cases q : k' ∈ keysA l
      · exact look_append_in q
      · rw [look_append_out q, look_cons, if_neg (fun z => e z.symm), look_nil, look_none.mpr q]
theorem get_put (l : List (κ × Int)) (k : κ) (v : Int) (k' : κ) : getA (putA l k v) k' = if k' = k then v else getA l k' := by
  unfold getA
  rw [look_put]
  split <;> rfl
theorem len_put_in {l : List (κ × Int)} {k : κ} {v : Int} (h : k ∈ keysA l) : (putA l k v).length = l.length := by
  unfold putA
  rw [if_pos (any_key.mpr h), List.length_map]
theorem len_put_out {l : List (κ × Int)} {k : κ} {v : Int} (h : k ∉ keysA l) : (putA l k v).length = l.length + 1 := by
  rw [put_out h, List.length_append]; rfl
theorem len_put_le (l : List (κ × Int)) (k : κ) (v : Int) : (putA l k v).length ≤ l.length + 1 := by
  by_cases h : k ∈ keysA l
  · rw [len_put_in h]; omega
  · rw [len_put_out h]; omega
theorem sum_app (a b : List Int) : (a ++ b).sum = a.sum + b.sum := by
  induction a with
  | nil => simp
  | cons x a ih => rw [List.cons_append, List.sum_cons, List.sum_cons, ih]; omega
theorem mapset_out {l : List (κ × Int)} {k : κ} {v : Int} (h : k ∉ keysA l) : l.map (fun p => if p.1 = k then (p.1, v) else p) = l := by
  induction l with
  | nil => rfl
  | cons p l ih =>
    have h1 : ¬ p.1 = k := fun e => h (by subst e; exact List.mem_cons_self)
    have h2 : k ∉ keysA l := fun e => h (List.mem_cons_of_mem _ e)
    rw [List.map_cons, ih h2]
    show (if p.1 = k then (p.1, v) else p) :: l = p :: l
    rw [if_neg h1]
theorem sum_mapset {l : List (κ × Int)} {k : κ} {v : Int} (nd : (keysA l).Nodup) (h : k ∈ keysA l) : (valsA (l.map (fun p => if p.1 = k then (p.1, v) else p))).sum = (valsA l).sum - getA l k + v := by
  induction l with
  | nil => simp [keysA] at h
  | cons p l ih =>
    have nd' : (p.1 :: keysA l).Nodup := nd
    obtain ⟨n1, n2⟩ := List.nodup_cons.mp nd'
    have h : k ∈ p.1 :: keysA l := h
    rw [List.map_cons]
    by_cases e : p.1 = k
    · have o : k ∉ keysA l := by rw [← e]; exact n1
      rw [mapset_out o]
      have g : getA (p :: l) k = p.2 := by unfold getA; rw [look_cons, if_pos e]; rfl
      rw [g]
      show ((if p.1 = k then (p.1, v) else p).2 :: valsA l).sum = (p.2 :: valsA l).sum - p.2 + v
      rw [if_pos e, List.sum_cons, List.sum_cons]
      omega
    · have m : k ∈ keysA l := (List.mem_cons.mp h).resolve_left fun z => e z.symm
      have g : getA (p :: l) k = getA l k := by unfold getA; rw [look_cons, if_neg e]
      have i := ih n2 m
      rw [g]
      show ((if p.1 = k then (p.1, v) else p).2 :: valsA (l.map _)).sum = (p.2 :: valsA l).sum - getA l k + v
      rw [if_neg e, List.sum_cons, List.sum_cons, i]
      omega
theorem sum_put {l : List (κ × Int)} {k : κ} {v : Int} (nd : (keysA l).Nodup) : (valsA (putA l k v)).sum = (valsA l).sum - getA l k + v := by
  by_cases h : k ∈ keysA l
  · unfold putA
    rw [if_pos (any_key.mpr h)]
    exact sum_mapset nd h
  · rw [put_out h, get_none h]
    unfold valsA
    rw [List.map_append, sum_app]
    simp
theorem mem_put {l : List (κ × Int)} {k : κ} {v : Int} {p : κ × Int} (h : p ∈ putA l k v) : p ∈ l ∨ p = (k, v) := by
  unfold putA at h
  split at h
  · obtain ⟨q, hq, e⟩ := List.mem_map.mp h
    by_cases z : q.1 = k
    · rw [if_pos z] at e
      right; rw [← e, z]
    · rw [if_neg z] at e
      left; rw [← e]; exact hq
  · rcases List.mem_append.mp h with q | q
    · exact .inl q
    · exact .inr (List.mem_singleton.mp q)

/-! equal look-ups -/
theorem Eqv.refl (l : List (κ × Int)) : Eqv l l := fun _ => rfl
theorem Eqv.symm {l m : List (κ × Int)} (h : Eqv l m) : Eqv m l := fun k => (h k).symm
theorem Eqv.trans {l m n : List (κ × Int)} (h : Eqv l m) (g : Eqv m n) : Eqv l n := fun k => (h k).trans (g k)
theorem Eqv.get {l m : List (κ × Int)} (h : Eqv l m) (k : κ) : getA l k = getA m k := by unfold getA; rw [h k]
theorem Eqv.keys {l m : List (κ × Int)} (h : Eqv l m) (k : κ) : k ∈ keysA l ↔ k ∈ keysA m := by
  rw [← look_isSome, ← look_isSome, h k]
theorem nodup_of_keys {l : List (κ × Int)} (h : (keysA l).Nodup) : l.Nodup := by
  induction l with
  | nil => exact List.nodup_nil
  | cons p l ih =>
    have h' : (p.1 :: keysA l).Nodup := h
    obtain ⟨n1, n2⟩ := List.nodup_cons.mp h'
    exact List.nodup_cons.mpr ⟨fun m => n1 (List.mem_map.mpr ⟨_, m, rfl⟩), ih n2⟩
theorem Eqv.perm {l m : List (κ × Int)} (h : Eqv l m) (nl : (keysA l).Nodup) (nm : (keysA m).Nodup) : l.Perm m := by
  refine (List.perm_ext_iff_of_nodup (nodup_of_keys nl) (nodup_of_keys nm)).mpr fun p => ⟨fun q => ?_, fun q => ?_⟩
  · exact look_some_mem (k := p.1) (c := p.2) (by rw [← h p.1]; exact mem_look nl q)
  · exact look_some_mem (k := p.1) (c := p.2) (by rw [h p.1]; exact mem_look nm q)
theorem perm_eqv {l m : List (κ × Int)} (h : l.Perm m) (nl : (keysA l).Nodup) : Eqv l m := fun k => by
  have hk : (keysA l).Perm (keysA m) := h.map _
  have nm : (keysA m).Nodup := hk.nodup_iff.mp nl
  cases e : lookA m k with
  | none =>
    rw [look_none] at e ⊢
    exact fun q => e (hk.mem_iff.mp q)
  | some c => exact mem_look nl (h.mem_iff.mpr (look_some_mem e))
theorem Eqv.len {l m : List (κ × Int)} (h : Eqv l m) (nl : (keysA l).Nodup) (nm : (keysA m).Nodup) : l.length = m.length := (h.perm nl nm).length_eq
theorem Eqv.put {l m : List (κ × Int)} (h : Eqv l m) (k : κ) (v : Int) : Eqv (putA l k v) (putA m k v) := fun k' => by
  rw [look_put, look_put, h k']

/-! taking off -/
theorem keys_sub {t : Int} {l : List (κ × Int)} : keysA (subA t l) = keysA (l.filter fun p => decide (t < p.2)) := by
  unfold subA keysA
  rw [List.map_map]; rfl
theorem nd_filter {l : List (κ × Int)} (h : (keysA l).Nodup) (f : κ × Int → Bool) : (keysA (l.filter f)).Nodup := by
  unfold keysA at *
  exact List.Nodup.sublist (List.Sublist.map _ List.filter_sublist) h
theorem nd_sub {t : Int} {l : List (κ × Int)} (h : (keysA l).Nodup) : (keysA (subA t l)).Nodup := by
  rw [keys_sub]; exact nd_filter h _
theorem mem_sub {t : Int} {l : List (κ × Int)} {k : κ} {c : Int} : (k, c) ∈ subA t l ↔ (k, c + t) ∈ l ∧ 0 < c := by
  unfold subA
  rw [List.mem_map]
  constructor
  · rintro ⟨p, hp, e⟩
    obtain ⟨h1, h2⟩ := List.mem_filter.mp hp
    have h2 : t < p.2 := of_decide_eq_true h2
    have e1 : p.1 = k := congrArg Prod.fst e
    have e2 : p.2 - t = c := congrArg Prod.snd e
    have : (k, c + t) = p := by
      rw [← e1, ← e2]
      show (p.1, p.2 - t + t) = p
      rw [Int.sub_add_cancel]
    rw [this]
    exact ⟨h1, by omega⟩
  · rintro ⟨h1, h2⟩
    refine ⟨(k, c + t), List.mem_filter.mpr ⟨h1, decide_eq_true (by show t < c + t; omega)⟩, ?_⟩
    show (k, c + t - t) = (k, c)
    rw [Int.add_sub_cancel]
theorem look_sub {t : Int} {l : List (κ × Int)} (nd : (keysA l).Nodup) (k : κ) : lookA (subA t l) k = (lookA l k).bind fun c => if t < c then some (c - t) else none := by
  cases e : lookA (subA t l) k with
  | some c =>
    obtain ⟨h1, h2⟩ := mem_sub.mp (look_some_mem e)
    rw [mem_look nd h1]
    show some c = if t < c + t then some (c + t - t) else none
    rw [if_pos (by omega), Int.add_sub_cancel]
  | none =>
    cases q : lookA l k with
    | none => rfl
    | some c =>
      show none = if t < c then some (c - t) else none
      by_cases z : t < c
      · exfalso
        have m : (k, c - t) ∈ subA t l := mem_sub.mpr ⟨by rw [Int.sub_add_cancel]; exact look_some_mem q, by omega⟩
        rw [mem_look (nd_sub nd) m] at e
        exact absurd e (by simp)
      · rw [if_neg z]
theorem Eqv.sub {l m : List (κ × Int)} (h : Eqv l m) (nl : (keysA l).Nodup) (nm : (keysA m).Nodup) (t : Int) : Eqv (subA t l) (subA t m) := fun k => by
  rw [look_sub nl, look_sub nm, h k]
theorem get_sub {t : Int} {l : List (κ × Int)} (nd : (keysA l).Nodup) (ht : 0 ≤ t) (k : κ) : getA (subA t l) k = if t < getA l k then getA l k - t else 0 := by
  unfold getA
  rw [look_sub nd]
  cases lookA l k with
  | none =>
    show (0 : Int) = if t < 0 then 0 - t else 0
    rw [if_neg (by omega)]
  | some c =>
    show (if t < c then some (c - t) else none).getD 0 = if t < c then c - t else 0
    split <;> rfl

/-! added -/
def addA (l m : List (κ × Int)) : List (κ × Int) := m.foldl (fun acc p => putA acc p.1 (getA acc p.1 + p.2)) l
theorem nd_add : ∀ {m l : List (κ × Int)}, (keysA l).Nodup → (keysA (addA l m)).Nodup
  | [], _, h => h
  | p :: m, l, h => nd_add (m := m) (nd_put h)
theorem look_add : ∀ {m : List (κ × Int)} (l : List (κ × Int)), (keysA m).Nodup → ∀ k, lookA (addA l m) k = match lookA m k with | none => lookA l k | some c => some (getA l k + c)
  | [], l, _, k => rfl
  | p :: m, l, h, k => by
    have h' : (p.1 :: keysA m).Nodup := h
    obtain ⟨n1, n2⟩ := List.nodup_cons.mp h'
    show lookA (addA (putA l p.1 (getA l p.1 + p.2)) m) k = _
    rw [look_add _ n2 k, look_cons]
    by_cases e : p.1 = k
    · subst e
      rw [look_none.mpr n1, if_pos rfl, look_put, if_pos rfl]
    · rw [if_neg e, look_put, if_neg (fun z => e z.symm), get_put, if_neg (fun z => e z.symm)]
theorem Eqv.add {l l' m m' : List (κ × Int)} (h : Eqv l l') (g : Eqv m m') (nm : (keysA m).Nodup) (nm' : (keysA m').Nodup) : Eqv (addA l m) (addA l' m') := fun k => by
  rw [look_add _ nm, look_add _ nm', g k, h k, h.get k]
theorem get_add {l m : List (κ × Int)} (nm : (keysA m).Nodup) (k : κ) : getA (addA l m) k = getA l k + getA m k := by
  unfold getA
  rw [look_add _ nm]
  cases lookA m k with
  | none => show _ = _ + 0; rw [Int.add_zero]
  | some c => rfl
theorem sum_add : ∀ {m l : List (κ × Int)}, (keysA l).Nodup → (valsA (addA l m)).sum = (valsA l).sum + (valsA m).sum
  | [], l, _ => by show (valsA l).sum = (valsA l).sum + 0; rw [Int.add_zero]
  | p :: m, l, h => by
    show (valsA (addA (putA l p.1 (getA l p.1 + p.2)) m)).sum = (valsA l).sum + (p.2 :: valsA m).sum
    rw [sum_add (nd_put h), sum_put h, List.sum_cons]
    omega
theorem len_add : ∀ (m l : List (κ × Int)), (addA l m).length ≤ l.length + m.length
  | [], l => by show l.length ≤ l.length + 0; omega
  | p :: m, l => by
    have h := len_add m (putA l p.1 (getA l p.1 + p.2))
    have h2 := len_put_le l p.1 (getA l p.1 + p.2)
    show (addA (putA l p.1 (getA l p.1 + p.2)) m).length ≤ l.length + (m.length + 1)
    omega
theorem pos_add : ∀ {m l : List (κ × Int)}, (∀ p ∈ l, 1 ≤ p.2) → (∀ p ∈ m, 1 ≤ p.2) → ∀ p ∈ addA l m, 1 ≤ p.2
  | [], l, h, _ => h
  | q :: m, l, h, g => by
    refine pos_add (m := m) (l := putA l q.1 (getA l q.1 + q.2)) (fun p hp => ?_) (fun p hp => g p (List.mem_cons_of_mem _ hp))
    rcases mem_put hp with z | z
    · exact h p z
    · have g1 := g q List.mem_cons_self
      have : 0 ≤ getA l q.1 := by
        unfold getA
        cases e : lookA l q.1 with
        | none => exact Int.le_refl 0
        | some c => have := h _ (look_some_mem e); show 0 ≤ c; exact Int.le_trans (by decide) this
      rw [z]
      show 1 ≤ getA l q.1 + q.2
      omega

/-! the count that stands at place room when they fall -/
def falls (l : List (κ × Int)) : List Int := (valsA l).mergeSort fun a b => decide (b ≤ a)
def takenA (room : Nat) (l : List (κ × Int)) : Int := if room < l.length then (falls l)[room]?.getD 0 else 0
theorem falls_perm (l : List (κ × Int)) : (falls l).Perm (valsA l) := List.mergeSort_perm _ _
theorem falls_desc (l : List (κ × Int)) : (falls l).Pairwise (fun a b => b ≤ a) := by
  have := List.pairwise_mergeSort (le := fun a b : Int => decide (b ≤ a)) (fun a b c h1 h2 => by
    have h1 := of_decide_eq_true h1
    have h2 := of_decide_eq_true h2
    exact decide_eq_true (Int.le_trans h2 h1)) (fun a b => by
    by_cases h : b ≤ a
    · simp [h]
    · have : a ≤ b := by omega
      simp [this]) (valsA l)
  exact this.imp fun h => of_decide_eq_true h
theorem desc_uniq {xs ys : List Int} (h : xs.Pairwise (fun a b => b ≤ a)) (g : ys.Pairwise (fun a b => b ≤ a)) (p : xs.Perm ys) : xs = ys :=
  List.Perm.eq_of_pairwise (le := fun a b => b ≤ a) (fun a b _ _ h1 h2 => Int.le_antisymm h2 h1) h g p
theorem falls_uniq {l : List (κ × Int)} {ns : List Int} (h : ns.Pairwise (fun a b => b ≤ a)) (p : ns.Perm (valsA l)) : ns = falls l :=
  desc_uniq h (falls_desc l) (p.trans (falls_perm l).symm)
theorem falls_len (l : List (κ × Int)) : (falls l).length = l.length := by rw [(falls_perm l).length_eq]; unfold valsA; rw [List.length_map]
theorem taken_eqv {room : Nat} {l m : List (κ × Int)} (h : Eqv l m) (nl : (keysA l).Nodup) (nm : (keysA m).Nodup) : takenA room l = takenA room m := by
  have p := h.perm nl nm
  have pv : (valsA l).Perm (valsA m) := p.map _
  have e : falls l = falls m := falls_uniq (falls_desc l) ((falls_perm l).trans pv)
  unfold takenA
  rw [e, p.length_eq]
theorem taken_at {room : Nat} {l : List (κ × Int)} (h : room < l.length) : (falls l)[room]? = some (takenA room l) := by
  unfold takenA
  rw [if_pos h]
  have : room < (falls l).length := by rw [falls_len]; exact h
  rw [List.getElem?_eq_getElem this]
  rfl

def minsum (t : Int) (vs : List Int) : Int := (vs.map fun c => if t < c then t else c).sum
theorem sum_perm {xs ys : List Int} (p : xs.Perm ys) : xs.sum = ys.sum := by
  induction p with
  | nil => rfl
  | cons x _ ih => rw [List.sum_cons, List.sum_cons, ih]
  | swap x y l => rw [List.sum_cons, List.sum_cons, List.sum_cons, List.sum_cons]; omega
  | trans _ _ h1 h2 => rw [h1, h2]
theorem sum_sub (t : Int) : ∀ l : List (κ × Int), (valsA (subA t l)).sum = (valsA l).sum - minsum t (valsA l)
  | [] => rfl
  | p :: l => by
    have ih := sum_sub t l
    unfold minsum at ih ⊢
    by_cases h : t < p.2
    · have e : subA t (p :: l) = (p.1, p.2 - t) :: subA t l := by unfold subA; rw [List.filter_cons, if_pos (decide_eq_true h)]; rfl
      rw [e]
      show ((p.2 - t) :: valsA (subA t l)).sum = (p.2 :: valsA l).sum - ((if t < p.2 then t else p.2) :: (valsA l).map _).sum
      rw [List.sum_cons, List.sum_cons, List.sum_cons, ih, if_pos h]
      omega
    · have e : subA t (p :: l) = subA t l := by
        unfold subA
        rw [List.filter_cons, if_neg (by simp [h])]
      rw [e]
      show (valsA (subA t l)).sum = (p.2 :: valsA l).sum - ((if t < p.2 then t else p.2) :: (valsA l).map _).sum
      rw [List.sum_cons, List.sum_cons, ih, if_neg h]
      omega
theorem minsum_perm {t : Int} {xs ys : List Int} (p : xs.Perm ys) : minsum t xs = minsum t ys := sum_perm (p.map _)
theorem minsum_le {t : Int} (ht : 0 ≤ t) : ∀ vs : List Int, minsum t vs ≤ (vs.length : Int) * t
  | [] => by show (0 : Int) ≤ ((0 : Nat) : Int) * t; simp
  | c :: vs => by
    have ih := minsum_le ht vs
    unfold minsum at ih ⊢
    show ((if t < c then t else c) :: vs.map _).sum ≤ (((vs.length + 1 : Nat)) : Int) * t
    rw [List.sum_cons]
    have e : (((vs.length + 1 : Nat)) : Int) * t = (vs.length : Int) * t + t := by
      rw [Int.natCast_add, Int.add_mul]; simp
    rw [e]
    split <;> omega
theorem le_minsum {t : Int} (ht : 0 ≤ t) : ∀ vs : List Int, (∀ c ∈ vs, 0 ≤ c) → ((vs.filter fun c => decide (t ≤ c)).length : Int) * t ≤ minsum t vs
  | [], _ => by show ((0 : Nat) : Int) * t ≤ 0; simp
  | c :: vs, h => by
    have ih := le_minsum ht vs fun x hx => h x (List.mem_cons_of_mem _ hx)
    have hc := h c List.mem_cons_self
    unfold minsum at ih ⊢
    rw [List.map_cons, List.sum_cons]
    by_cases q : t ≤ c
    · rw [List.filter_cons, if_pos (decide_eq_true q)]
      have e : (((vs.filter fun c => decide (t ≤ c)).length + 1 : Nat) : Int) * t = ((vs.filter fun c => decide (t ≤ c)).length : Int) * t + t := by
        rw [Int.natCast_add, Int.add_mul]; simp
      rw [List.length_cons, e]
      split <;> omega
    · rw [List.filter_cons, if_neg (by simp [q])]
      split <;> omega
theorem desc_take {d : List Int} {r : Nat} {t : Int} (h : d.Pairwise (fun a b => b ≤ a)) (e : d[r]? = some t) : ∀ x ∈ d.take (r + 1), t ≤ x := by
  intro x hx
  obtain ⟨i, hi, rfl⟩ := List.getElem_of_mem hx
  have hl : i < r + 1 := by rw [List.length_take] at hi; omega
  have hd : i < d.length := by rw [List.length_take] at hi; omega
  obtain ⟨hr, e'⟩ := List.getElem?_eq_some_iff.mp e
  rw [List.getElem_take]
  by_cases q : i = r
  · subst q; rw [e']; exact Int.le_refl _
  · rw [← e']
    exact List.pairwise_iff_getElem.mp h i r hd hr (by omega)
theorem desc_drop {d : List Int} {r : Nat} {t : Int} (h : d.Pairwise (fun a b => b ≤ a)) (e : d[r]? = some t) : ∀ x ∈ d.drop r, x ≤ t := by
  intro x hx
  obtain ⟨i, hi, rfl⟩ := List.getElem_of_mem hx
  obtain ⟨hr, e'⟩ := List.getElem?_eq_some_iff.mp e
  rw [List.length_drop] at hi
  rw [List.getElem_drop]
  by_cases q : i = 0
  · subst q
    have : d[r + 0] = t := e'
    rw [this]; exact Int.le_refl _
  · rw [← e']
    exact List.pairwise_iff_getElem.mp h r (r + i) hr (by omega) (by omega)
theorem filter_all {α : Type} {p : α → Bool} {l : List α} (h : ∀ x ∈ l, p x = true) : (l.filter p).length = l.length := by
  rw [List.filter_eq_self.mpr h]
theorem ge_many {d : List Int} {r : Nat} {t : Int} (h : d.Pairwise (fun a b => b ≤ a)) (e : d[r]? = some t) : r + 1 ≤ (d.filter fun c => decide (t ≤ c)).length := by
  obtain ⟨hr, _⟩ := List.getElem?_eq_some_iff.mp e
  have q : (d.take (r + 1) ++ d.drop (r + 1)) = d := List.take_append_drop _ _
  rw [← q, List.filter_append, List.length_append, filter_all (fun x hx => decide_eq_true (desc_take h e x hx)), List.length_take]
  omega
theorem gt_few {d : List Int} {r : Nat} {t : Int} (h : d.Pairwise (fun a b => b ≤ a)) (e : d[r]? = some t) : (d.filter fun c => decide (t < c)).length ≤ r := by
  have q : (d.take r ++ d.drop r) = d := List.take_append_drop _ _
  have z : (d.drop r).filter (fun c => decide (t < c)) = [] := List.filter_eq_nil_iff.mpr fun x hx => by
    have := desc_drop h e x hx
    simp; omega
  rw [← q, List.filter_append, z, List.append_nil]
  have := List.length_filter_le (fun c => decide (t < c)) (d.take r)
  rw [List.length_take] at this
  omega
theorem len_sub (t : Int) (l : List (κ × Int)) : (subA t l).length = ((valsA l).filter fun c => decide (t < c)).length := by
  unfold subA valsA
  rw [List.length_map, List.filter_map, List.length_map]
  rfl

/-! the two steps -/
abbrev St (κ : Type) := Int × List (κ × Int)
def fedA (room : Nat) (s : St κ) (k : κ) : St κ :=
  if k ∈ keysA s.2 ∨ s.2.length < room then (s.1, putA s.2 k (getA s.2 k + 1)) else (s.1 + 1, subA 1 s.2)
def pourA (room : Nat) (s u : St κ) : St κ := (s.1 + u.1 + takenA room (addA s.2 u.2), subA (takenA room (addA s.2 u.2)) (addA s.2 u.2))
def streamA (room : Nat) (ns : List κ) : St κ := ns.foldl (fedA room) (0, [])

structure Good (room : Nat) (tc : κ → Int) (many : Int) (s : St κ) : Prop where
  nd : (keysA s.2).Nodup
  pos : ∀ p ∈ s.2, 1 ≤ p.2
  len : s.2.length ≤ room
  off : 0 ≤ s.1
  lo : ∀ k, getA s.2 k ≤ tc k
  hi : ∀ k, tc k ≤ getA s.2 k + s.1
  l1 : ((room : Int) + 1) * s.1 ≤ many - (valsA s.2).sum
  l2 : many - (valsA s.2).sum ≤ 2 * (room : Int) * s.1

theorem get_nonneg {l : List (κ × Int)} (h : ∀ p ∈ l, 1 ≤ p.2) (k : κ) : 0 ≤ getA l k := by
  unfold getA
  cases e : lookA l k with
  | none => exact Int.le_refl 0
  | some c => have := h _ (look_some_mem e); show 0 ≤ c; exact Int.le_trans (by decide) this
theorem get_pos {l : List (κ × Int)} (h : ∀ p ∈ l, 1 ≤ p.2) {k : κ} (m : k ∈ keysA l) : 1 ≤ getA l k := by
  have := look_isSome.mpr m
  cases e : lookA l k with
  | none => rw [e] at this; cases this
  | some c => rw [get_of_look e]; exact h _ (look_some_mem e)
theorem sum_ge_len : ∀ {l : List (κ × Int)}, (∀ p ∈ l, 1 ≤ p.2) → (l.length : Int) ≤ (valsA l).sum
  | [], _ => by show ((0 : Nat) : Int) ≤ 0; simp
  | p :: l, h => by
    have ih := sum_ge_len (l := l) fun q hq => h q (List.mem_cons_of_mem _ hq)
    have h1 := h p List.mem_cons_self
    show ((l.length + 1 : Nat) : Int) ≤ (p.2 :: valsA l).sum
    rw [List.sum_cons]
    omega
theorem minsum_one {l : List (κ × Int)} (h : ∀ p ∈ l, 1 ≤ p.2) : minsum 1 (valsA l) = (l.length : Int) := by
  induction l with
  | nil => rfl
  | cons p l ih =>
    have ih := ih fun q hq => h q (List.mem_cons_of_mem _ hq)
    have h1 := h p List.mem_cons_self
    unfold minsum at ih ⊢
    show ((if (1 : Int) < p.2 then 1 else p.2) :: (valsA l).map _).sum = ((l.length + 1 : Nat) : Int)
    rw [List.sum_cons, ih]
    split <;> omega
theorem Good.fed {room : Nat} {tc : κ → Int} {many : Int} {s : St κ} (hr : 1 ≤ room) (g : Good room tc many s) (k : κ) : Good room (fun k' => tc k' + if k' = k then 1 else 0) (many + 1) (fedA room s k) := by
  obtain ⟨off, l⟩ := s
  unfold fedA
  by_cases h : k ∈ keysA l ∨ l.length < room
  · rw [if_pos h]
    refine ⟨nd_put g.nd, fun p hp => ?_, ?_, g.off, fun k' => ?_, fun k' => ?_, ?_, ?_⟩
    · rcases mem_put hp with z | z
      · exact g.pos p z
      · have := get_nonneg g.pos k
        rw [z]; show 1 ≤ getA l k + 1; exact Int.le_add_of_nonneg_left this
    · show (putA l k _).length ≤ room
      have gl : l.length ≤ room := g.len
      by_cases m : k ∈ keysA l
      · rw [len_put_in m]; exact gl
      · rw [len_put_out m]
        rcases h with h | h
        · exact absurd h m
        · exact h
    · show getA (putA l k (getA l k + 1)) k' ≤ tc k' + if k' = k then 1 else 0
      rw [get_put]
      have := g.lo k'
      have this : getA l k' ≤ tc k' := this
      by_cases e : k' = k
      · subst e; rw [if_pos rfl, if_pos rfl]; omega
      · rw [if_neg e, if_neg e]; omega
    · show tc k' + (if k' = k then 1 else 0) ≤ getA (putA l k (getA l k + 1)) k' + off
      rw [get_put]
      have this : tc k' ≤ getA l k' + off := g.hi k'
      by_cases e : k' = k
      · subst e; rw [if_pos rfl, if_pos rfl]; omega
      · rw [if_neg e, if_neg e]; omega
    · show ((room : Int) + 1) * off ≤ many + 1 - (valsA (putA l k (getA l k + 1))).sum
      rw [sum_put (l := l) g.nd]
      have : ((room : Int) + 1) * off ≤ many - (valsA l).sum := g.l1
      omega
    · show many + 1 - (valsA (putA l k (getA l k + 1))).sum ≤ 2 * (room : Int) * off
      rw [sum_put (l := l) g.nd]
      have : many - (valsA l).sum ≤ 2 * (room : Int) * off := g.l2
      omega
  · rw [if_neg h]
    have hk : k ∉ keysA l := fun z => h (.inl z)
    have hl : l.length = room := by
      have a : ¬ l.length < room := fun z => h (.inr z)
      have gl : l.length ≤ room := g.len
      omega
    refine ⟨nd_sub g.nd, fun p hp => ?_, ?_, ?_, fun k' => ?_, fun k' => ?_, ?_, ?_⟩
    · have := (mem_sub (k := p.1) (c := p.2)).mp hp
      omega
    · show (subA 1 l).length ≤ room
      rw [len_sub]
      have := List.length_filter_le (fun c => decide ((1 : Int) < c)) (valsA l)
      unfold valsA at this ⊢
      rw [List.length_map] at this
      omega
    · show 0 ≤ off + 1
      have : 0 ≤ off := g.off
      omega
    · show getA (subA 1 l) k' ≤ tc k' + if k' = k then 1 else 0
      rw [get_sub (l := l) g.nd (by decide)]
      have a : getA l k' ≤ tc k' := g.lo k'
      have b := get_nonneg g.pos k'
      have b : 0 ≤ getA l k' := b
      split <;> split <;> omega
    · show tc k' + (if k' = k then 1 else 0) ≤ getA (subA 1 l) k' + (off + 1)
      rw [get_sub (l := l) g.nd (by decide)]
      have a : tc k' ≤ getA l k' + off := g.hi k'
      by_cases e : k' = k
      · subst e
        have z : getA l k' = 0 := get_none hk
        rw [if_pos rfl, if_neg (by omega)]
        omega
      · rw [if_neg e]
        split <;> omega
    · show ((room : Int) + 1) * (off + 1) ≤ many + 1 - (valsA (subA 1 l)).sum
      rw [sum_sub, minsum_one g.pos, hl]
      have a : ((room : Int) + 1) * off ≤ many - (valsA l).sum := g.l1
      rw [Int.mul_add]
      omega
    · show many + 1 - (valsA (subA 1 l)).sum ≤ 2 * (room : Int) * (off + 1)
      rw [sum_sub, minsum_one g.pos, hl]
      have a : many - (valsA l).sum ≤ 2 * (room : Int) * off := g.l2
      rw [Int.mul_add]
      omega
theorem Good.empty (room : Nat) : Good (κ := κ) room (fun _ => 0) 0 (0, []) :=
  ⟨List.nodup_nil, fun _ h => (by cases h), Nat.zero_le _, Int.le_refl 0, fun _ => Int.le_refl 0, fun _ => Int.le_refl 0, by show ((room : Int) + 1) * 0 ≤ 0 - 0; simp, by show (0 : Int) - 0 ≤ 2 * (room : Int) * 0; simp⟩
theorem taken_nonneg {room : Nat} {l : List (κ × Int)} (h : ∀ p ∈ l, 1 ≤ p.2) : 0 ≤ takenA room l := by
  unfold takenA
  split
  · rename_i q
    cases e : (falls l)[room]? with
    | none => exact Int.le_refl 0
    | some c =>
      show 0 ≤ c
      have m : c ∈ valsA l := (falls_perm l).mem_iff.mp (List.mem_of_getElem? e)
      obtain ⟨p, hp, rfl⟩ := List.mem_map.mp m
      exact Int.le_trans (by decide) (h p hp)
  · exact Int.le_refl 0
theorem Good.pour {room : Nat} {t1 t2 : κ → Int} {m1 m2 : Int} {s u : St κ} (g : Good room t1 m1 s) (q : Good room t2 m2 u) : Good room (fun k => t1 k + t2 k) (m1 + m2) (pourA room s u) := by
  obtain ⟨o1, l1⟩ := s
  obtain ⟨o2, l2⟩ := u
  have nd : (keysA (addA l1 l2)).Nodup := nd_add g.nd
  have pos : ∀ p ∈ addA l1 l2, 1 ≤ p.2 := pos_add g.pos q.pos
  have ht : 0 ≤ takenA room (addA l1 l2) := taken_nonneg pos
  have hn : (addA l1 l2).length ≤ 2 * room := by
    have a := len_add l2 l1
    have b : l1.length ≤ room := g.len
    have c : l2.length ≤ room := q.len
    omega
  have hs : (valsA (addA l1 l2)).sum = (valsA l1).sum + (valsA l2).sum := sum_add g.nd
  have hg : ∀ k, getA (addA l1 l2) k = getA l1 k + getA l2 k := get_add q.nd
  have o10 : 0 ≤ o1 := g.off
  have o20 : 0 ≤ o2 := q.off
  have a1 : ((room : Int) + 1) * o1 ≤ m1 - (valsA l1).sum := g.l1
  have a2 : ((room : Int) + 1) * o2 ≤ m2 - (valsA l2).sum := q.l1
  have b1 : m1 - (valsA l1).sum ≤ 2 * (room : Int) * o1 := g.l2
  have b2 : m2 - (valsA l2).sum ≤ 2 * (room : Int) * o2 := q.l2
  -- what is taken off
  have key : ((room : Int) + 1) * takenA room (addA l1 l2) ≤ minsum (takenA room (addA l1 l2)) (valsA (addA l1 l2)) ∧ minsum (takenA room (addA l1 l2)) (valsA (addA l1 l2)) ≤ 2 * (room : Int) * takenA room (addA l1 l2) ∧
      (subA (takenA room (addA l1 l2)) (addA l1 l2)).length ≤ room := by
    by_cases h : room < (addA l1 l2).length
    · have e := taken_at h
      generalize hT : takenA room (addA l1 l2) = t at e ht ⊢
      have d := falls_desc (addA l1 l2)
      have p := falls_perm (addA l1 l2)
      refine ⟨?_, ?_, ?_⟩
      · have z := le_minsum ht (falls (addA l1 l2)) fun c hc => by
          obtain ⟨x, hx, rfl⟩ := List.mem_map.mp (p.mem_iff.mp hc)
          exact Int.le_trans (by decide) (pos x hx)
        have w := ge_many d e
        rw [← minsum_perm p]
        refine Int.le_trans ?_ z
        refine Int.mul_le_mul_of_nonneg_right ?_ ht
        omega
      · have z := minsum_le ht (valsA (addA l1 l2))
        refine Int.le_trans z (Int.mul_le_mul_of_nonneg_right ?_ ht)
        unfold valsA
        rw [List.length_map]
        omega
      · rw [len_sub, ← (p.filter fun c => decide (t < c)).length_eq]
        exact gt_few d e
    · have e : takenA room (addA l1 l2) = 0 := by unfold takenA; rw [if_neg h]
      rw [e]
      have z : minsum 0 (valsA (addA l1 l2)) = 0 := by
        unfold minsum
        have : ∀ vs : List Int, (∀ c ∈ vs, 0 < c) → (vs.map fun c => if (0 : Int) < c then (0 : Int) else c).sum = 0 := by
          intro vs
          induction vs with
          | nil => intro _; rfl
          | cons c vs ih =>
            intro hv
            rw [List.map_cons, List.sum_cons, ih fun x hx => hv x (List.mem_cons_of_mem _ hx), if_pos (hv c List.mem_cons_self)]
            rfl
        refine this _ fun c hc => ?_
        obtain ⟨x, hx, rfl⟩ := List.mem_map.mp hc
        exact Int.lt_of_lt_of_le (by decide) (pos x hx)
      rw [z]
      refine ⟨by simp, by simp, ?_⟩
      rw [len_sub]
      have := List.length_filter_le (fun c => decide ((0 : Int) < c)) (valsA (addA l1 l2))
      unfold valsA at this ⊢
      rw [List.length_map] at this
      omega
  unfold pourA
  generalize takenA room (addA l1 l2) = t at ht key ⊢
  obtain ⟨k1, k2, k3⟩ := key
  refine ⟨nd_sub nd, fun p hp => ?_, k3, ?_, fun k => ?_, fun k => ?_, ?_, ?_⟩
  · have := (mem_sub (k := p.1) (c := p.2)).mp hp
    omega
  · show 0 ≤ o1 + o2 + t
    omega
  · show getA (subA t (addA l1 l2)) k ≤ t1 k + t2 k
    rw [get_sub nd ht, hg]
    have x1 : getA l1 k ≤ t1 k := g.lo k
    have x2 : getA l2 k ≤ t2 k := q.lo k
    have y1 : 0 ≤ getA l1 k := get_nonneg g.pos k
    have y2 : 0 ≤ getA l2 k := get_nonneg q.pos k
    split <;> omega
  · show t1 k + t2 k ≤ getA (subA t (addA l1 l2)) k + (o1 + o2 + t)
    rw [get_sub nd ht, hg]
    have x1 : t1 k ≤ getA l1 k + o1 := g.hi k
    have x2 : t2 k ≤ getA l2 k + o2 := q.hi k
    split <;> omega
  · show ((room : Int) + 1) * (o1 + o2 + t) ≤ m1 + m2 - (valsA (subA t (addA l1 l2))).sum
    rw [sum_sub, hs, Int.mul_add, Int.mul_add]
    omega
  · show m1 + m2 - (valsA (subA t (addA l1 l2))).sum ≤ 2 * (room : Int) * (o1 + o2 + t)
    rw [sum_sub, hs, Int.mul_add, Int.mul_add]
    omega

/-! trees, their steps -/
inductive Tr (κ : Type) where
  | leaf (ns : List κ)
  | pour (a b : Tr κ)
inductive Stp (κ : Type) where
  | stream (ns : List κ)
  | pour
def Tr.items : Tr κ → List κ
  | .leaf ns => ns
  | .pour a b => a.items ++ b.items
def Tr.st (room : Nat) : Tr κ → St κ
  | .leaf ns => streamA room ns
  | .pour a b => pourA room (a.st room) (b.st room)
def Tr.leaves : Tr κ → Nat
  | .leaf _ => 1
  | .pour a b => a.leaves + b.leaves
def Tr.All (P : List κ → Prop) : Tr κ → Prop
  | .leaf ns => P ns
  | .pour a b => a.All P ∧ b.All P
def Stp.items : Stp κ → List κ
  | .stream ns => ns
  | .pour => []
/-- the steps so far leave these trees on the pile (the last is the uppermost) -/
inductive Builds : List (Stp κ) → List (Tr κ) → Prop where
  | nil : Builds [] []
  | leaf {s F ns} : Builds s F → Builds (s ++ [.stream ns]) (F ++ [.leaf ns])
  | pour {s F a b} : Builds s (F ++ [a, b]) → Builds (s ++ [.pour]) (F ++ [.pour a b])
/-- from these trees on the pile the steps lead to the one tree -/
inductive Run : List (Tr κ) → List (Stp κ) → Tr κ → Prop where
  | done {T} : Run [T] [] T
  | leaf {F ns r T} : Run (F ++ [.leaf ns]) r T → Run F (.stream ns :: r) T
  | pour {F a b r T} : Run (F ++ [.pour a b]) r T → Run (F ++ [a, b]) (.pour :: r) T
theorem Builds.run {s : List (Stp κ)} {F : List (Tr κ)} (h : Builds s F) : ∀ {r T}, Run F r T → Run [] (s ++ r) T := by
  induction h with
  | nil => intro r T q; exact q
  | leaf _ ih => intro r T q; rw [List.append_assoc]; exact ih (.leaf q)
  | pour _ ih => intro r T q; rw [List.append_assoc]; exact ih (.pour q)
theorem Builds.run1 {s : List (Stp κ)} {T : Tr κ} (h : Builds s [T]) : Run [] s T := by
  have := h.run .done
  rw [List.append_nil] at this
  exact this
theorem Builds.app {s t : List (Stp κ)} {F G : List (Tr κ)} (h : Builds s F) (g : Builds t G) : Builds (s ++ t) (F ++ G) := by
  induction g with
  | nil => rw [List.append_nil, List.append_nil]; exact h
  | leaf _ ih => rw [← List.append_assoc, ← List.append_assoc]; exact .leaf ih
  | pour _ ih => rw [← List.append_assoc, ← List.append_assoc]; exact .pour (by rw [List.append_assoc]; exact ih)
theorem Builds.both {s t : List (Stp κ)} {a b : Tr κ} (h : Builds s [a]) (g : Builds t [b]) : Builds (s ++ t ++ [.pour]) [.pour a b] :=
  .pour (F := []) (h.app g)
def leavesF (F : List (Tr κ)) : Nat := (F.map Tr.leaves).sum
theorem leavesF_app (F G : List (Tr κ)) : leavesF (F ++ G) = leavesF F + leavesF G := by
  unfold leavesF; rw [List.map_append, List.sum_append]
theorem Builds.len {s : List (Stp κ)} {F : List (Tr κ)} (h : Builds s F) : s.length + F.length = 2 * leavesF F := by
  induction h with
  | nil => rfl
  | leaf _ ih =>
    rw [leavesF_app, List.length_append, List.length_append]
    simp only [leavesF, List.map_cons, List.map_nil, List.sum_cons, List.sum_nil, Tr.leaves, List.length_cons, List.length_nil] at ih ⊢
    omega
  | pour _ ih =>
    rw [leavesF_app] at ih ⊢
    simp only [leavesF, List.map_cons, List.map_nil, List.sum_cons, List.sum_nil, Tr.leaves, List.length_cons, List.length_nil, List.length_append] at ih ⊢
    omega
theorem Tr.items_len {m : Nat} : ∀ {T : Tr κ}, T.All (fun ns => ns.length ≤ m) → T.items.length ≤ m * T.leaves
  | .leaf ns, h => by
    have h : ns.length ≤ m := h
    show ns.length ≤ m * 1
    omega
  | .pour a b, h => by
    have h1 := Tr.items_len h.1
    have h2 := Tr.items_len h.2
    show (a.items ++ b.items).length ≤ m * (a.leaves + b.leaves)
    rw [List.length_append, Nat.mul_add]
    omega
theorem Tr.All.imp {P Q : List κ → Prop} (f : ∀ ns, P ns → Q ns) : ∀ {T : Tr κ}, T.All P → T.All Q
  | .leaf ns, h => f ns h
  | .pour _ _, h => ⟨Tr.All.imp f h.1, Tr.All.imp f h.2⟩
theorem Tr.All.mem {P : κ → Prop} : ∀ {T : Tr κ}, T.All (fun ns => ∀ n ∈ ns, P n) → ∀ n ∈ T.items, P n
  | .leaf _, h => h
  | .pour a b, h => fun n hn => by
    rcases List.mem_append.mp hn with z | z
    · exact Tr.All.mem h.1 n z
    · exact Tr.All.mem h.2 n z
/-- items of a forest -/
def itemsF (F : List (Tr κ)) : List κ := (F.map Tr.items).flatten
theorem itemsF_app (F G : List (Tr κ)) : itemsF (F ++ G) = itemsF F ++ itemsF G := by
  unfold itemsF; rw [List.map_append, List.flatten_append]
theorem itemsF_leaf (F : List (Tr κ)) (ns : List κ) : itemsF (F ++ [.leaf ns]) = itemsF F ++ ns := by
  rw [itemsF_app]; simp [itemsF, Tr.items]
theorem itemsF_pour (F : List (Tr κ)) (a b : Tr κ) : itemsF (F ++ [.pour a b]) = itemsF (F ++ [a, b]) := by
  rw [itemsF_app, itemsF_app]; simp [itemsF, Tr.items]
theorem Run.mono {F : List (Tr κ)} {r : List (Stp κ)} {T : Tr κ} (h : Run F r T) : (itemsF F).length ≤ T.items.length := by
  induction h with
  | done => simp [itemsF]
  | leaf _ ih => rw [itemsF_leaf, List.length_append] at ih; omega
  | pour _ ih => rw [itemsF_pour] at ih; exact ih
theorem Run.all {P : List κ → Prop} {F : List (Tr κ)} {r : List (Stp κ)} {T : Tr κ} (h : Run F r T) : T.All P → (∀ t ∈ F, t.All P) ∧ ∀ ns, Stp.stream ns ∈ r → P ns := by
  induction h with
  | done => intro q; exact ⟨fun t ht => by rw [List.mem_singleton.mp ht]; exact q, fun ns hn => by cases hn⟩
  | leaf _ ih =>
    intro q
    obtain ⟨h1, h2⟩ := ih q
    refine ⟨fun t ht => h1 t (List.mem_append_left _ ht), fun ns hn => ?_⟩
    rcases List.mem_cons.mp hn with z | z
    · have : ns = _ := Stp.stream.inj z
      rw [this]
      exact h1 _ (List.mem_append_right _ (List.mem_singleton.mpr rfl))
    · exact h2 ns z
  | pour _ ih =>
    intro q
    obtain ⟨h1, h2⟩ := ih q
    refine ⟨fun t ht => ?_, fun ns hn => ?_⟩
    · rcases List.mem_append.mp ht with z | z
      · exact h1 t (List.mem_append_left _ z)
      · have hp := h1 _ (List.mem_append_right _ (List.mem_singleton.mpr rfl))
        rcases List.mem_cons.mp z with y | y
        · rw [y]; exact hp.1
        · rw [List.mem_singleton.mp y]; exact hp.2
    · rcases List.mem_cons.mp hn with z | z
      · cases z
      · exact h2 ns z

/-! counts -/
def bump (l : List (κ × Int)) (k : κ) : List (κ × Int) := putA l k (getA l k + 1)
def countsA (ns : List κ) : List (κ × Int) := ns.foldl bump []
theorem counts_app (l m : List κ) : countsA (l ++ m) = m.foldl bump (countsA l) := by unfold countsA; rw [List.foldl_append]
theorem fold_bump : ∀ (ns : List κ) (l : List (κ × Int)), (keysA l).Nodup → (keysA (ns.foldl bump l)).Nodup ∧ (∀ k, getA (ns.foldl bump l) k = getA l k + (ns.count k : Nat)) ∧ (∀ k, k ∈ keysA (ns.foldl bump l) ↔ k ∈ keysA l ∨ k ∈ ns) ∧ (valsA (ns.foldl bump l)).sum = (valsA l).sum + (ns.length : Nat) ∧ ((∀ p ∈ l, 1 ≤ p.2) → ∀ p ∈ ns.foldl bump l, 1 ≤ p.2)
  | [], l, h => ⟨h, fun k => by simp, fun k => by simp, by simp, fun q => q⟩
  | n :: ns, l, h => by
    obtain ⟨a1, a2, a3, a4, a5⟩ := fold_bump ns (bump l n) (nd_put h)
    refine ⟨a1, fun k => ?_, fun k => ?_, ?_, fun q => a5 fun p hp => ?_⟩
    · rw [List.foldl_cons, a2 k, bump, get_put, List.count_cons]
      by_cases e : k = n
      · subst e; simp; omega
      · have e' : ¬ n = k := fun z => e z.symm
        simp [e, e']
    · rw [List.foldl_cons, a3 k, List.mem_cons, ← or_assoc]
      refine or_congr ?_ Iff.rfl
      by_cases m : n ∈ keysA l
      · rw [bump, keys_put_in m]
        constructor
        · exact .inl
        · rintro (z | z)
          · exact z
          · rw [z]; exact m
      · rw [bump, keys_put_out m, List.mem_append, List.mem_singleton]
    · rw [List.foldl_cons, a4, bump, sum_put h, List.length_cons]
      omega
    · rcases mem_put hp with z | z
      · exact q p z
      · have := get_nonneg q n
        rw [z]; show 1 ≤ getA l n + 1; exact Int.le_add_of_nonneg_left this
theorem counts_nd (ns : List κ) : (keysA (countsA ns)).Nodup := (fold_bump ns [] List.nodup_nil).1
theorem counts_get (ns : List κ) (k : κ) : getA (countsA ns) k = (ns.count k : Nat) := by
  have := (fold_bump ns [] List.nodup_nil).2.1 k
  unfold countsA
  rw [this]
  show (0 : Int) + _ = _
  rw [Int.zero_add]
theorem counts_key (ns : List κ) (k : κ) : k ∈ keysA (countsA ns) ↔ k ∈ ns := by
  have := (fold_bump ns [] List.nodup_nil).2.2.1 k
  unfold countsA
  rw [this]
  simp [keysA]
theorem counts_sum (ns : List κ) : (valsA (countsA ns)).sum = (ns.length : Nat) := by
  have := (fold_bump ns [] List.nodup_nil).2.2.2.1
  unfold countsA
  rw [this]
  show (0 : Int) + _ = _
  rw [Int.zero_add]
theorem counts_pos (ns : List κ) : ∀ p ∈ countsA ns, 1 ≤ p.2 := (fold_bump ns [] List.nodup_nil).2.2.2.2 fun p hp => by cases hp

/-! a tree's state is good -/
theorem Good.congr {room : Nat} {t t' : κ → Int} {m m' : Int} {s : St κ} (g : Good room t m s) (e : ∀ k, t k = t' k) (e2 : m = m') : Good room t' m' s := by
  have : t = t' := funext e
  subst this; subst e2; exact g
theorem good_fold {room : Nat} (hr : 1 ≤ room) : ∀ (ns : List κ) {tc : κ → Int} {many : Int} {s : St κ}, Good room tc many s → Good room (fun k => tc k + (ns.count k : Nat)) (many + (ns.length : Nat)) (ns.foldl (fedA room) s)
  | [], _, _, _, g => g.congr (fun k => by simp) (by simp)
  | n :: ns, tc, many, s, g => by
    refine (good_fold hr ns (g.fed hr n)).congr (fun k => ?_) ?_
    · rw [List.count_cons]
      by_cases e : k = n
      · subst e; simp; omega
      · have e' : ¬ n = k := fun z => e z.symm
        simp [e, e']
    · rw [List.length_cons]; omega
theorem good_stream {room : Nat} (hr : 1 ≤ room) (ns : List κ) : Good room (fun k => (ns.count k : Nat)) (ns.length : Nat) (streamA room ns) :=
  (good_fold hr ns (Good.empty room)).congr (fun k => by simp) (by simp)
theorem Tr.good {room : Nat} (hr : 1 ≤ room) : ∀ T : Tr κ, Good room (fun k => (T.items.count k : Nat)) (T.items.length : Nat) (T.st room)
  | .leaf ns => good_stream hr ns
  | .pour a b => ((Tr.good hr a).pour (Tr.good hr b)).congr (fun k => by
      show _ = (((a.items ++ b.items).count k : Nat) : Int)
      rw [List.count_append, Int.natCast_add]) (by
      show _ = (((a.items ++ b.items).length : Nat) : Int)
      rw [List.length_append, Int.natCast_add])
theorem Good.key_in {room : Nat} {ns : List κ} {many : Int} {s : St κ} (g : Good room (fun k => (ns.count k : Nat)) many s) {k : κ} (h : k ∈ keysA s.2) : k ∈ ns := by
  have a := get_pos g.pos h
  have b := g.lo k
  have : 0 < ns.count k := by
    have b : getA s.2 k ≤ ((ns.count k : Nat) : Int) := b
    omega
  exact List.count_pos_iff.mp this

/-! ascending lists -/
section
variable {lt : κ → κ → Prop}
def Asc (lt : κ → κ → Prop) (l : List (κ × Int)) : Prop := (keysA l).Pairwise lt
theorem Asc.nd (ir : ∀ a, ¬ lt a a) {l : List (κ × Int)} (h : Asc lt l) : (keysA l).Nodup := by
  unfold Asc at h
  refine List.Pairwise.imp (fun {a b} q => ?_) h
  intro e; subst e; exact ir _ q
theorem Asc.uniq (ir : ∀ a, ¬ lt a a) (tr : ∀ a b c, lt a b → lt b c → lt a c) {l m : List (κ × Int)} (h : Asc lt l) (g : Asc lt m) (e : Eqv l m) : l = m := by
  have p := e.perm (h.nd ir) (g.nd ir)
  unfold Asc keysA at h g
  rw [List.pairwise_map] at h g
  exact List.Perm.eq_of_pairwise (le := fun a b => lt a.1 b.1) (fun a b _ _ h1 h2 => absurd (tr _ _ _ h1 h2) (ir _)) h g p
end

/-! the program's steps on ascending lists agree -/
structure Rel (lt : κ → κ → Prop) (s : St κ) (off : Int) (kept : List (κ × Int)) : Prop where
  off : off = s.1
  asc : Asc lt kept
  eqv : Eqv kept s.2
theorem fed_eqv {room : Nat} {s u : St κ} (e1 : s.1 = u.1) (e : Eqv s.2 u.2) (n1 : (keysA s.2).Nodup) (n2 : (keysA u.2).Nodup) (k : κ) : (fedA room s k).1 = (fedA room u k).1 ∧ Eqv (fedA room s k).2 (fedA room u k).2 := by
  unfold fedA
  have hl := e.len n1 n2
  have hk := e.keys k
  rw [hl]
  by_cases h : k ∈ keysA s.2 ∨ u.2.length < room
  · have h' : k ∈ keysA u.2 ∨ u.2.length < room := h.imp hk.mp id
    rw [if_pos h, if_pos h']
    refine ⟨e1, ?_⟩
    show Eqv (putA s.2 k (getA s.2 k + 1)) (putA u.2 k (getA u.2 k + 1))
    rw [e.get k]
    exact e.put k _
  · have h' : ¬ (k ∈ keysA u.2 ∨ u.2.length < room) := fun z => h (z.imp hk.mpr id)
    rw [if_neg h, if_neg h']
    exact ⟨by show s.1 + 1 = u.1 + 1; rw [e1], e.sub n1 n2 1⟩
theorem pour_eqv {room : Nat} {s u s' u' : St κ} (e1 : s.1 = s'.1) (e : Eqv s.2 s'.2) (f1 : u.1 = u'.1) (f : Eqv u.2 u'.2) (n1 : (keysA s.2).Nodup) (n2 : (keysA u.2).Nodup) (n1' : (keysA s'.2).Nodup) (n2' : (keysA u'.2).Nodup) :
    (pourA room s u).1 = (pourA room s' u').1 ∧ Eqv (pourA room s u).2 (pourA room s' u').2 := by
  have a : Eqv (addA s.2 u.2) (addA s'.2 u'.2) := e.add f n2 n2'
  have m1 := nd_add (m := u.2) n1
  have m2 := nd_add (m := u'.2) n1'
  have t := taken_eqv (room := room) a m1 m2
  unfold pourA
  rw [t]
  exact ⟨by show s.1 + u.1 + _ = s'.1 + u'.1 + _; rw [e1, f1], a.sub m1 m2 _⟩
end KN
/-! The text by places, what the walk asks of the top, promises by name. -/
namespace KN
open PySem PySem.Spec PyProof.Rows L2

def top (i : Nat) : Stmt := PySem.Challenge.pw_knownends_k11_whole_sketches_poured_by_a.main.body.getD i (.Pass ⟨0, 0, 0, 0⟩)

abbrev Cal := @C8.Cal
/-- a def of the module: its statement, where it stands -/
def DefE (K : PySem.W.Frag) (mg : Str → Option Value) (x : Str) (st : Stmt) : Prop := ∃ f fd, C8.Def K mg x st f fd ∧ fd.defaults = .none

/-- names that are built-ins still -/
structure Txt (mg : Str → Option Value) : Prop where
  n_isinstance : mg "isinstance" = none
  n_int : mg "int" = none
  n_bool : mg "bool" = none
  n_tuple : mg "tuple" = none
  n_list : mg "list" = none
  n_len : mg "len" = none
  n_str : mg "str" = none
  n_all : mg "all" = none
  n_range : mg "range" = none
  n_sorted : mg "sorted" = none
  n_dict : mg "dict" = none
  n_min : mg "min" = none
  n_sum : mg "sum" = none
  n_set : mg "set" = none
  n_abs : mg "abs" = none
  c_name : ∃ u, mg "MOST_IN_NAME" = some u ∧ RelV (.int 8) u
  c_steps : ∃ u, mg "MOST_STEPS" = some u ∧ RelV (.int 5000) u
  c_items : ∃ u, mg "MOST_ITEMS" = some u ∧ RelV (.int 50000) u
  c_letters : ∃ u, mg "LETTERS" = some u ∧ RelV (.str "abcdefghijklmnopqrstuvwxyz") u
  c_stream : ∃ u, mg "STREAM" = some u ∧ RelV (.str "stream") u
  c_pour : ∃ u, mg "POUR" = some u ∧ RelV (.str "pour") u
  c_mroom : ∃ u, mg "MOST_ROOM" = some u ∧ RelV (.int 64) u
  c_room : ∃ u, mg "ROOM" = some u ∧ RelV (.int 0) u
  c_many : ∃ u, mg "MANY" = some u ∧ RelV (.int 1) u
  c_off : ∃ u, mg "OFF" = some u ∧ RelV (.int 2) u
  c_kept : ∃ u, mg "KEPT" = some u ∧ RelV (.int 3) u

section
variable {P : Program} {w : World} {K : PySem.W.Frag} {mg : Str → Option Value} {base : Heap}
/-- a def keeps its promise, by its body -/
theorem cal_of {x : Str} {st : Stmt} {N ps : List Str} {k : Nat} {sp : Sp} (D : DefE K mg x st) (S : FnScope N ps (C8.fnScope st))
    (hb : ∀ (kV doc pm : Value) (an : Option Addr) (cdv ct : Value) (us : List Value), us.length = ps.length → bindArgs (PySem.W.fnOf x x (C8.fnArgs st) (C8.fnBody st) (C8.fnScope st) .none kV doc pm an cdv ct) ⟨us, []⟩ = pure (ps.zip us))
    (len : ∀ vs H Q E, sp vs H Q E → vs.length = ps.length)
    (hbody : ∀ (f : Addr) (cdv : Value) (A : Around) (outer : List Env) (s : Shared) (H : Hp) (vs : List V) (Q : VK) (E : XK), Room k (A.deeper (envOfC x (C8.fnScope st) s.heap.objs.size f cdv)) → sp vs H Q E →
      ∃ t, PSs (cxOf C8.CX0 P w K mg base N x (C8.fnScope st) f cdv A outer s H E).nox (C8.fnBody st) t ∧ t { nx := fun _ H' => Q .non H', rt := Q } (start N vs) H) : C8.Cal P w K mg base (k + 1) x sp [] := by
  obtain ⟨f, fd, F, df⟩ := D
  exact C8.cal0 F (F.fn.binds df hb) .nil S len (hbody f)
theorem def_mk {h : Heap} {x : Str} {st : Stmt} {f : Addr} {oc : Value} {od an : Option Addr} {osl : Array (Option Value)} {kV doc pm cdv ct : Value} (X : K.In h) (G : h.Ns mainGlobals mg)
    (a : PySem.W.nsIn K mainGlobals x = some (some (.ref f)))
    (l : K.lookup f = some ⟨oc, od, .func (PySem.W.fnOf x x (C8.fnArgs st) (C8.fnBody st) (C8.fnScope st) .none kV doc pm an cdv ct), osl⟩)
    (c : PySem.W.codeIn K cdv x = true) (k : PySem.W.keepIn K (.ref f) = true) : DefE K mg x st :=
  ⟨f, _, ⟨⟨oc, od, .none, kV, doc, pm, an, cdv, ct, osl, rfl, l, c⟩, PySem.W.mg_of X G a, k⟩, rfl⟩
end
/-- a call of a def by its name -/
def tCal (sp : Sp) (t : TA) : TE := fun σ H Q => t σ H fun vs H1 => sp vs H1 Q C8.E0
theorem pe_c {X : Cx} {k j : Nat} {x : Str} {sp : Sp} {p pos : Pos} {e : Expr} {es : List Expr} {t : TA} (c : C8.Cal X.prog X.w X.K X.mg X.base k x sp []) (hr : Room j X.A) (hk : k ≤ j := by decide) (hg : Gl X x := by rfl) (ha : PA X (e :: es) t)
    (hdb : (x == ("__debug__" : Str)) = false := by decide) (he : starEach (e :: es) X.env = (false, eval e X.env) :: starEach es X.env := by rfl) (hpl : (backTo pos (starEach es X.env)).any (·.1) = false := by rfl) :
    PE X (.Call (.Name x p) (e :: es) [] pos) (tCal sp t) := by
  have h := C8.pe_c (p := p) (pos := pos) c hr hk hg ha hdb he hpl
  refine ⟨fun pins s σ H Q I q => h.run pins s σ H Q I ?_⟩
  show t σ H fun vs H1 => sp (vs ++ []) H1 Q C8.E0
  have e0 : (fun (vs : List V) (H1 : Hp) => sp (vs ++ []) H1 Q C8.E0) = fun vs H1 => sp vs H1 Q C8.E0 := by
    funext vs H1
    rw [List.append_nil]
  rw [e0]
  exact q

/-! ### the first defs -/
theorem boot_isinstance : bootBuiltins "isinstance" = some (.builtin "isinstance") := by decide +kernel
theorem boot_int' : bootBuiltins "int" = some (.type "int") := by decide +kernel
theorem boot_bool' : bootBuiltins "bool" = some (.type "bool") := by decide +kernel
theorem boot_tuple' : bootBuiltins "tuple" = some (.type "tuple") := by decide +kernel
theorem boot_list' : bootBuiltins "list" = some (.type "list") := by decide +kernel
theorem boot_str' : bootBuiltins "str" = some (.type "str") := by decide +kernel
theorem boot_dict' : bootBuiltins "dict" = some (.type "dict") := by decide +kernel
theorem boot_set' : bootBuiltins "set" = some (.type "set") := by decide +kernel
theorem boot_len' : bootBuiltins "len" = some (.builtin "len") := by decide +kernel
theorem boot_all' : bootBuiltins "all" = some (.builtin "all") := by decide +kernel
theorem boot_sorted' : bootBuiltins "sorted" = some (.builtin "sorted") := by decide +kernel
theorem boot_sum' : bootBuiltins "sum" = some (.builtin "sum") := by decide +kernel
theorem boot_min' : bootBuiltins "min" = some (.builtin "min") := by decide +kernel
theorem boot_abs' : bootBuiltins "abs" = some (.builtin "abs") := by decide +kernel

section
variable {P : Program} {w : World} {K : PySem.W.Frag} {mg : Str → Option Value} {base : Heap}

def spIsInteger : Sp := fun vs H Q _ => ∃ i : Int, vs = [.int i] ∧ Q (.bl true) H
theorem c_is_integer (T : Txt mg) (D : DefE K mg "is_integer" (top 7)) : C8.Cal P w K mg base 1 "is_integer" spIsInteger [] := by
  refine cal_of (N := ["thing"]) (ps := ["thing"]) D (C8.fnScope_by (by decide +kernel)) (fun _ _ _ _ _ _ us hl => match us, hl with | [_], _ => rfl) (fun vs H Q E h => ?_) (fun f cdv A outer s H vs Q E hr h => ?_)
  · obtain ⟨i, rfl, _⟩ := h
    rfl
  · obtain ⟨i, rfl, k⟩ := h
    refine ⟨_, pss_one (ps_ret (pe_and (pe_callB call_isi rfl T.n_isinstance boot_isinstance (pa_cons (pv 0) (pa_cons (pe_bltn (v := .ty "int") rfl T.n_int boot_int' rfl) pa_nil)))
      (pe_one (pe_not (pe_callB call_isi rfl T.n_isinstance boot_isinstance (pa_cons (pv 0) (pa_cons (pe_bltn (v := .ty "bool") rfl T.n_bool boot_bool' rfl) pa_nil))))))), ?_⟩
    refine ⟨_, rfl, .int i, .ty "int", _, _, true, rfl, .ty "int", .base (.int i), kit_ty (by decide +kernel), true, rfl, iteT ?_⟩
    refine ⟨_, rfl, .int i, .ty "bool", _, _, false, rfl, .ty "bool", .base (.int i), kit_ty (by decide +kernel), false, rfl, ?_⟩
    exact k
end
end KN
/-! Rules that the layer lacks. -/
namespace KN
open PySem PySem.Spec PyProof.Rows L2

/-! ### y = {k: v for ..}, y a local -/
section
variable {X : Cx}
theorem sw_trueD {kx vx : Expr} {gs : List Comprehension} {scope : Scope} {pos py : Pos} {y : Str} {l : Nat} {env : Env} (hk : env.scope.kind = .function) (hy : env.scope.names.lookup y = some .local) (hl : (py.line == pos.line) = true)
    (ha : (scope.names.any fun (n, k) => n == y && (k == .local || k == .cell)) = false) : swapsWith (.DictComp kx vx gs scope pos) (some (.Name y py)) l env = pure true := by
  have ky : env.kindOf y = some .local := hy
  have hb : env.blockKind = .function := by unfold Env.blockKind; rw [hk]; rfl
  unfold swapsWith
  simp only [hb, ky, ha, Expr.pos, hl]
  rfl
theorem ps_setDc {i : Nat} {y : Str} {py : Pos} {kx vx tg iter : Expr} {ifs : List Expr} {scope : Scope} {own : List (Str × Nat)} {pos spos : Pos} {wi : TI} {g : TG} {tt : TT} {tk tv : TE} (hc : X.calm = true) (hN : X.N.Nodup) (hy : X.N[i]? = some y) (hyl : X.env.scope.names.lookup y = some .local)
    (hsw : swapsWith (.DictComp kx vx [⟨tg, iter, ifs, 0⟩] scope pos) (some (.Name y py)) spos.line X.env = pure true) (hi : PI X tg iter wi) (ok : BlkOk X.N X.env.scope scope own)
    (hg : ∀ (s : Shared) (H : Hp) (C : Addr) (cl : List (Str × Addr)) (fp : List Addr), PG (X.blk s H scope (compEnvC scope cl C X.env) fp) tg g) (ht : ∀ (s : Shared) (H : Hp) (C : Addr) (cl : List (Str × Addr)) (fp : List Addr), PTs (X.blk s H scope (compEnvC scope cl C X.env) fp) ifs tt)
    (hk : ∀ (s : Shared) (H : Hp) (C : Addr) (cl : List (Str × Addr)) (fp : List Addr), PE (X.blk s H scope (compEnvC scope cl C X.env) fp) kx tk)
    (he : ∀ (s : Shared) (H : Hp) (C : Addr) (cl : List (Str × Addr)) (fp : List Addr), PE (X.blk s H scope (compEnvC scope cl C X.env) fp) vx tv) (hs : ∀ x, foldedSetIterable iter X.env x = pure x := by intro _; rfl) :
    PS X (.Assign [.Name y py] (.DictComp kx vx [⟨tg, iter, ifs, 0⟩] scope pos) spos) (tAsg (tDc wi g tt tk tv (own.map (·.2))) (gName i)) := by
  refine ⟨fun pins s σ H D I h => ?_⟩
  rw [exec_Assign_Name_used _ _ _ _ hsw]
  refine wpAny_bind (wpAny_standAt (wpAny_bind ?_))
  show wpAny _ X.A (do let _ ← comprehension (.DictComp kx vx [⟨tg, iter, ifs, 0⟩] scope pos) scope X.env (firstIterPos [⟨tg, iter, ifs, 0⟩] pos) newDict false (eval iter X.env) (some (assign (.Name y py) X.env))) _ _ s
  have h : tDc wi g tt tk tv (own.map (·.2)) σ H (fun x H1 => gName i x σ H1 D.nx) := h
  refine wpAny_bind (thn (dc_core (Qf := fun _ s' => SP X pins D .next s') hc hN I hi ok hg ht hk he hs h fun L C s' m H' I' q hn f => ?_) fun _ s' hq => wpAny_pure (wpAny_pure hq))
  show wpAny _ _ (assign (.Name y py) X.env (.ref L)) _ _ _
  refine wpAny_assign_Name (store_ok2 (v := V.ref L) I' hN hy (.inl hyl) rfl (fun s2 I2 ⟨a, sb, ha⟩ => ?_) (.inr hyl))
  obtain ⟨f0, f1, f2, f3, f4, f5⟩ := f
  have haC : C ≠ a := by
    rcases ha with z | z
    · rw [z]; exact f1
    · exact fun e => f4 y a z e.symm
  refine ⟨m, hn.sameBut sb haC, fun h3 sb3 => ?_⟩
  exact ⟨_, H', I2.turned (t' := s2.toks) (fun b o hb e => (sb3.2 b hb).trans e) f0 f1 f3 f4 f5, q⟩
end

/-! ### a tuple whose object has no dict of its own; dict(such a tuple) -/
/-- the tuple xs stands at a, its object known to have no dict -/
def ZT (H : Hp) (a : Addr) (xs : List V) : Prop := ∃ o : Obj, o.dict = none ∧ H a = some (.frz o (.tup xs))
theorem ZT.sq {K : PySem.W.Frag} {H : Hp} {a : Addr} {xs : List V} (h : ZT H a xs) : SqT K H a xs := let ⟨o, _, e⟩ := h; .inl (.inr ⟨o, e⟩)
section
variable {X : Cx}
theorem call_tupleZ : CallR X (.type "tuple") (fun xs H Q => ∃ p ys, xs = [.ref p] ∧ SqL X.K H p ys ∧ ∀ (l : Addr) (o : Obj), o.dict = none → H l = none → Q (.ref l) (upd H l (.frz o (.tup ys)))) := by
  intro pins s σ H xs us Q I r h
  obtain ⟨p, ys, rfl, hq, q⟩ := h
  obtain ⟨u, rfl, rx⟩ := vals1 r
  cases rx
  obtain ⟨its, r', pl, hz⟩ := I.list hq
  have hlen := r'.length
  refine call_tuple_list pl.isList (fun h' kp => ?_) (by simp only [List.size_toArray] <;> omega)
  have I1 : Inv X pins σ H { s with heap := h' } := I.kept (t' := s.toks) kp
  have e0 : (h'.push { cls := .type "tuple", data := .seq its.toArray }).get? h'.objs.size = some { cls := .type "tuple", data := .seq its.toArray } := Heap.get?_push_size _ rfl
  have I2 : Inv X pins σ (upd H h'.objs.size (.frz { cls := .type "tuple", data := .seq its.toArray } (.tup ys))) { s with heap := h'.push { cls := .type "tuple", data := .seq its.toArray } } :=
    I1.laid (t' := s.toks) (fun b o e => Heap.get?_push_of_some _ e) (Nat.le_refl _) (show ObjOk X.prog X.w _ _ _ (.frz _ (.tup ys)) from ⟨e0, hz, its, r', IsTup.new _ _⟩)
  exact ⟨.ref h'.objs.size, _, I2, rfl, q _ _ rfl (I1.hok.fresh (Nat.le_refl _))⟩
/-- a tuple's display -/
def tTupZ (t : TA) : TE := fun σ H Q => t σ H fun xs H1 => xs.length ≤ sizeLine ∧ ∀ (p : Addr) (o : Obj), o.dict = none → H1 p = none → Q (.ref p) (upd H1 p (.frz o (.tup xs)))
theorem pe_tupZ {es : List Expr} {t : TA} {pos : Pos} {x1} (h : PA X es t) : PE X (.Tuple es x1 pos) (tTupZ t) := by
  refine ⟨fun pins s σ H Q I hq => ?_⟩
  refine wpAny_Tuple_spliced (thn (h.run pos pins s σ H _ I hq) fun us s1 ⟨xs, H1, I1, r, z, q⟩ => ⟨by rw [← r.length]; exact z, ?_⟩)
  have hf : H1 s1.heap.objs.size = none := I1.hok.fresh (Nat.le_refl _)
  have e0 : (s1.heap.push { cls := .type "tuple", data := .seq us.toArray }).get? s1.heap.objs.size = some { cls := .type "tuple", data := .seq us.toArray } := Heap.get?_push_size _ rfl
  refine ⟨.ref s1.heap.objs.size, upd H1 s1.heap.objs.size (.frz { cls := .type "tuple", data := .seq us.toArray } (.tup xs)), I1.laid (t' := s1.toks) (fun b u e => Heap.get?_push_of_some _ e) (Nat.le_refl _) ?_, rfl, q _ _ rfl hf⟩
  exact ⟨e0, z, us, r, ⟨_, e0, rfl, _, rfl⟩⟩
/-- dict(t), t a tuple of pairs -/
theorem call_dictT (hcalm : X.calm = true) : CallR X (.type "dict") (fun xs H Q => ∃ (a : Addr) (ps : List Addr) (kvs : List (Key × V)), xs = [.ref a] ∧ ZT H a (ps.map V.ref) ∧ Paired (fun p kv => SqT X.K H p [kV kv.1, kv.2]) ps kvs ∧
    ∀ p, H p = none → Q (.ref p) (upd H p (.dK (mergeK [] kvs)))) := by
  intro pins s σ H xs us Q I r q
  obtain ⟨a, ps, kvs, ex, ⟨o, hod, ho⟩, hp, q⟩ := q
  subst ex
  obtain ⟨u, eu, rx⟩ := vals1 r
  subst eu
  cases rx
  obtain ⟨e1, hz, its, rv, o', e2, hcls, n, hdat⟩ := (show ObjOk X.prog X.w H s.heap a (.frz o (.tup (ps.map V.ref))) from I.hok a _ ho)
  have eo : o' = o := Option.some.inj (e2.symm.trans e1)
  subst eo
  have ei := refs_at rv
  subst ei
  rw [List.length_map] at hz
  obtain ⟨prs, rel, hl, hpr⟩ := pairs_of I hp
  -- the pairs as values
  have key : ∀ j : Nat, ∃ uy : Value × Value, ∀ (q : Key × Value), prs[j]? = some q → IsTup s.heap (ps.getD j 0) #[uy.1, uy.2] ∧ keyIs q.1 uy.1 = true ∧ uy.2 = q.2 := fun j => by
    cases e : prs[j]? with
    | none => exact ⟨(.none, .none), fun q z => (nomatch z)⟩
    | some q =>
      obtain ⟨b, u, z1, z2, z3⟩ := hpr j q e
      refine ⟨(u, q.2), fun q' z => ?_⟩
      cases z
      have eb : ps.getD j 0 = b := by rw [List.getD_eq_getElem?_getD, z1]; rfl
      rw [eb]
      exact ⟨z2, z3, rfl⟩
  have vps : ∃ ws : List (Value × Value), ws.length = prs.length ∧ ∀ (j : Nat) (uy : Value × Value), ws[j]? = some uy → ∃ q : Key × Value, prs[j]? = some q ∧ IsTup s.heap (ps.getD j 0) #[uy.1, uy.2] ∧ keyIs q.1 uy.1 = true ∧ uy.2 = q.2 := by
    refine ⟨(List.range prs.length).map fun j => Classical.choose (key j), by simp, fun j uy e => ?_⟩
    rw [List.getElem?_map] at e
    by_cases hj : j < prs.length
    · rw [List.getElem?_range hj] at e
      have e : Classical.choose (key j) = uy := Option.some.inj e
      have h := Classical.choose_spec (key j)
      rw [e] at h
      exact ⟨prs[j], List.getElem?_eq_getElem hj, h _ (List.getElem?_eq_getElem hj)⟩
    · rw [List.getElem?_eq_none (by simpa using hj)] at e
      cases e
  obtain ⟨ws, hwl, hws⟩ := vps
  refine PySem.call_dict_pairs (knd := mixKind X.prog X.w) (kvs := prs) (PairArg.tuple a (ps.map Value.ref).toArray (fun j => ps.getD j 0) ws) (I.ok.hd hcalm) ⟨⟨o', n, e1, hcls, hod, hdat⟩, ?_, fun j k v e => ?_⟩ ⟨hwl.symm, fun j k v e => ?_⟩ (by rw [hwl, hl]; exact hz) fun h' tk hd' k => ?_
  · rw [List.size_toArray, List.length_map, hwl, hl]
  · obtain ⟨q, z1, z2, z3, z4⟩ := hws j (k, v) e
    have hj : j < ps.length := by
      have := (List.getElem?_eq_some_iff.mp z1).1
      rw [← hl]; exact this
    refine ⟨?_, .inl ?_⟩
    · rw [List.getElem?_toArray, List.getElem?_map, List.getElem?_eq_getElem hj]
      show some (Value.ref ps[j]) = some (Value.ref (ps.getD j 0))
      rw [List.getD_eq_getElem?_getD, List.getElem?_eq_getElem hj]
      rfl
    · obtain ⟨ob, w1, w2, w3, w4⟩ := z2
      exact ⟨ob, w1, w2, w3, w4⟩
  · obtain ⟨q, z1, z2, z3, z4⟩ := hws j (k, v) e
    exact ⟨q.1, by rw [z1]; exact congrArg some (Prod.ext rfl z4.symm), z3⟩
  · have hm : (s.heap.objs.size == sysModules) = false := beq_eq_false_iff_ne.mpr (Nat.ne_of_gt I.big)
    have hlen : (mergeK [] kvs).length ≤ sizeLine := by
      refine Nat.le_trans (length_mergeK kvs []) ?_
      rw [List.length_nil, Nat.zero_add, rel.length, hl]
      exact hz
    exact ⟨.ref s.heap.objs.size, upd H s.heap.objs.size (.dK (mergeK [] kvs)), I.laid (t' := tk) (fun b o e => k b o (by simp) e) (Nat.le_refl _) (show ObjOk X.prog X.w _ _ _ (.dK (mergeK [] kvs)) from ⟨hlen, hm, merged [] prs, KV.merge rel .nil, hd'⟩), rfl, q _ (I.hok.fresh (Nat.le_refl _))⟩
end

/-! ### d.values(), sorted(d.values(), reverse=True) -/
def valsO (p d : Addr) : HO := .ext fun h => h.IsValuesView p d
theorem valsO_ok {P : Program} {w : World} {H : Hp} {h : Heap} {p d : Addr} (e : h.get? p = some { cls := .type "dict_values", data := .fields #[.ref d] }) : ObjOk P w H h p (valsO p d) :=
  ⟨⟨_, e, rfl, rfl⟩, ⟨_, e⟩, fun h1 h2 x k => let ⟨o, ho, r⟩ := x; ⟨o, k o ho, r⟩⟩
theorem ints_by : ∀ {us : List Value} {ns : List Int}, us.length = ns.length → (∀ (j : Nat) (v : Value), us[j]? = some v → ∃ (i : Int) (t : Tok), ns[j]? = some i ∧ v = Value.int i t) → IntsAre us ns
  | [], [], _, _ => .nil
  | u :: us, n :: ns, hl, h => by
    obtain ⟨i, t, e1, e2⟩ := h 0 u rfl
    have e1 : n = i := Option.some.inj e1
    subst e1; subst e2
    exact .cons n t (ints_by (Nat.succ.inj hl) fun j v e => h (j + 1) v e)
  | [], _ :: _, hl, _ => by cases hl
  | _ :: _, [], hl, _ => by cases hl
section
variable {X : Cx}
def rVals : V → List V → Hp → VK → Prop := fun x xs H Q => ∃ (a : Addr) (kvs : List (Key × V)), x = .ref a ∧ xs = [] ∧ H a = some (.dK kvs) ∧ ∀ p, H p = none → Q (.ref p) (upd H p (valsO p a))
theorem mt_vals : MtR X "dict.values" rVals := by
  intro pins s σ H x xs v us Q I rx rxs h
  obtain ⟨a, kvs, rfl, rfl, ha, q⟩ := h
  cases rx
  cases rxs
  obtain ⟨_, hsys, vs, rel, dof⟩ := dk_of I.hok ha
  refine call_meetsIn PySem.F.slot_dict_values dof.typeIs PySem.F.entry_dict_values (PySem.F.args_dict_values_1 _) (meets_dict_values (mixKind X.prog X.w) a hsys) ⟨⟨vs, dof⟩, ?_⟩
  have hf : H s.heap.objs.size = none := I.hok.fresh (Nat.le_refl _)
  exact ⟨.ref s.heap.objs.size, upd H s.heap.objs.size (valsO s.heap.objs.size a), I.laid (t' := s.toks) (fun b u e => Heap.get?_push_of_some _ e) (Nat.le_refl _) (valsO_ok (Heap.get?_push_size _ rfl)), rfl, q _ hf⟩

def rSortVals : List V → List V → Hp → VK → Prop := fun vs zs H Q => ∃ (p a : Addr) (kvs : List (Key × V)) (ns : List Int), vs = [.ref p] ∧ zs = [.bl true] ∧ H p = some (valsO p a) ∧ H a = some (.dK kvs) ∧ kvs.map (·.2) = ns.map V.int ∧
  ∀ (ns' : List Int) (q : Addr), ns'.Perm ns → ns'.Pairwise (· ≥ ·) → H q = none → Q (.ref q) (upd H q (.lst (ns'.map V.int)))
theorem cr_sortedVals (hc : X.calm = true) : CallRK X (.builtin "sorted") [Str.ofString "reverse"] rSortVals := by
  intro pins s σ H vs zs us ws Q I r rz h
  obtain ⟨p, a, kvs, ns, rfl, rfl, hp, ha, hv, q⟩ := h
  obtain rfl := Vals.ref1 r
  obtain ⟨w1, rfl, e1⟩ := vals1 rz
  obtain rfl : w1 = Value.bool true := e1
  have view : s.heap.IsValuesView p a := (show ObjOk X.prog X.w H s.heap p (valsO p a) from I.hok p _ hp).1
  obtain ⟨hz, hsys, vv, rel, dof⟩ := dk_of I.hok ha
  obtain ⟨ep, hat⟩ := dof.dictAt
  have hl : vv.length = ns.length := by
    have e := congrArg List.length hv
    rw [List.length_map, List.length_map] at e
    rw [← e]
    exact (KV.length rel).symm
  have h16 : vv.length ≤ sizeLine := by rw [← KV.length rel]; exact hz
  refine call_function_entry_kw kind_sorted plain_sorted entry_sorted (PyProof.Rows.args_sorted_rev _ _) ?_
  unfold Builtin.«sorted»
  refine wpAny_bind (m := checkCount "sorted" 1 1 _) (wpAny_pure ?_)
  refine wpAny_bind (PySem.W.kdu_collect (A := X.A.in1) (PySem.W.kdl_values (knd := mixKind X.prog X.w) (kvs := vv) (ep := ep)) (I.ok.hd hc) ⟨view, hat⟩ h16 fun h' tk acc hk hacc => ?_)
  have hal : acc.toList.length = ns.length := by rw [Array.length_toList, hacc.1, hl]
  have hI : IntsAre acc.toList ns := ints_by hal fun j v e => by
    obtain ⟨k, e1⟩ := hacc.2 j v (by rw [← Array.getElem?_toList]; exact e)
    obtain ⟨x, h1, h2⟩ := KV.at' rel e1
    have e2 : (kvs.map (·.2))[j]? = some x := by rw [List.getElem?_map, h1]; rfl
    rw [hv, List.getElem?_map] at e2
    obtain ⟨i, hi, e3⟩ := Option.map_eq_some_iff.mp e2
    subst e3
    obtain ⟨t, e4⟩ := h2
    exact ⟨i, t, hi, e4⟩
  have I1 : Inv X pins σ H { s with heap := h', toks := tk } := I.kept hk
  have hz2 : acc.toList.length ≤ sizeLine := by rw [hal, ← hl]; exact h16
  refine wpAny_bind (wpAny_newList ?_ hz2)
  have hoL : (h'.push (seqObj "list" acc.toList.toArray 0)).get? h'.objs.size = some (seqObj "list" acc.toList.toArray 0) := Heap.get?_push_size _ rfl
  show wpAny _ _ _ _ _ { s with heap := h'.push (seqObj "list" acc.toList.toArray 0), toks := tk }
  refine wpAny_bind (wpAny_holding (wpAny_call_entry_kw PyProof.Rows.slot_list_sort ⟨_, hoL, rfl⟩ PyProof.Rows.entry_list_sort ?_ (PyProof.Rows.args_list_sort_rev _ _)))
  refine SrtR.list_sort_ordR SrtO.swo_int (s := { s with heap := h'.push (seqObj "list" acc.toList.toArray 0), toks := tk }) hoL hz2 (fun h2 => SrtO.ints_sortable hI h2) fun out hs hb => ⟨_, rfl, ?_⟩
  obtain ⟨ns', g1, g2, g3⟩ := SrtR.ints_outR hI hs hb
  obtain ⟨e', he'⟩ := PyProof.Rows.sortedHeap_at (vs := acc.toList) (out := (if true = true then out.toArray.reverse else out.toArray)) hoL
  have hlen : (ns'.map V.int).length ≤ sizeLine := by
    rw [List.length_map, g2.length_eq, ← hl]
    exact h16
  refine wpAny_pure ⟨_, rfl, .ref h'.objs.size, upd H h'.objs.size (.lst (ns'.map V.int)), I1.laid (t' := tk) (fun b u e => ?_) (Nat.le_refl _)
    (show ObjOk X.prog X.w _ _ _ (.lst (ns'.map V.int)) from ⟨hlen, ((if true = true then out.toArray.reverse else out.toArray)).toList, e', vals_of_ints g1, by rw [Array.toArray_toList]; exact he'⟩), rfl, q ns' _ g2 g3 (I1.hok.fresh (Nat.le_refl _))⟩
  have hb : b < h'.objs.size := Heap.lt_size e
  rw [PyProof.Rows.sortedHeap_old (Nat.ne_of_lt hb) (by rw [size_push']; exact Nat.lt_succ_of_lt hb)]
  exact Heap.get?_push_of_some _ e
end

/-! ### sorted of a list of pairs (text, int) -/
def PairV (K : PySem.W.Frag) (H : Hp) (v : V) (p : Str × Int) : Prop := ∃ t : Addr, v = .ref t ∧ SqT K H t [.str p.1, .int p.2]
abbrev encP (p : Str × Int) : PyData := .tuple [.str p.1, .int p.2]
theorem each_of {α β : Type} {R : α → β → Prop} : ∀ {as : List α} {bs : List β}, Paired R as bs → PySem.W.EachIs R as bs
  | _, _, .nil => .nil
  | _, _, .cons h t => .cons h (each_of t)
theorem each_split {R : V → Str × Int → Prop} : ∀ {us : List Value} {bs : List (Str × Int)}, PySem.W.EachIs (fun u b => ∃ x, RelV x u ∧ R x b) us bs → ∃ xs, Vals xs us ∧ Paired R xs bs
  | _, _, .nil => ⟨[], .nil, .nil⟩
  | _, _, .cons ⟨x, r, q⟩ t => by
    obtain ⟨xs, r', q'⟩ := each_split t
    exact ⟨x :: xs, .cons r r', .cons q q'⟩
theorem each_join {R : V → Str × Int → Prop} {S : Value → Str × Int → Prop} (f : ∀ x u b, RelV x u → R x b → S u b) : ∀ {xs : List V} {us : List Value} {bs : List (Str × Int)}, Vals xs us → Paired R xs bs → PySem.W.EachIs S us bs
  | _, _, _, .nil, .nil => .nil
  | _, _, _, .cons r t, .cons q t' => .cons (f _ _ _ r q) (each_join f t t')
section
variable {X : Cx}
def rSortSI (K : PySem.W.Frag) : List V → Hp → VK → Prop := fun vs H Q => ∃ (a : Addr) (xs : List V) (ps : List (Str × Int)), vs = [V.ref a] ∧ SqL K H a xs ∧ Paired (PairV K H) xs ps ∧
  ∀ (ys : List V) (q : Addr), Paired (PairV K H) ys (ps.mergeSort (PySem.W.dataLe false encP)) → H q = none → Q (.ref q) (upd H q (.lst ys))
theorem cr_sortedSI (hu : X.A.units + 64 < cLine) : CallR X (.builtin "sorted") (rSortSI X.K) := by
  intro pins s σ H vs us Q I r h
  obtain ⟨a, xs, ps, rfl, hs, hp, q⟩ := h
  obtain rfl := Vals.ref1 r
  obtain ⟨its, rv, hl, hz⟩ := I.list hs
  have hlen : its.length = ps.length := by rw [← rv.length, Paired.length hp]
  refine PySem.W.sorted_data (R := fun u b => ∃ x, RelV x u ∧ PairV X.K H x b) (enc := encP) hl.isList (each_join (fun x u b r q => ⟨x, r, q⟩) rv hp) (each_join (fun x u b r q => ?_) rv hp) (PySem.W.AllAlike.of fun b b' => rfl) (PySem.W.Sortable.tuples fun b => ⟨_, _, rfl⟩)
    (by rw [← Paired.length hp]; exact hz) (fun b _ => ?_) fun out hol he => ?_
  · obtain ⟨t, rfl, ht⟩ := q
    cases r
    obtain ⟨its2, rv2, ht2, _⟩ := I.tuple ht
    obtain ⟨u1, u2, rfl, r1, r2⟩ := vals2 rv2
    obtain ⟨t1, rfl⟩ := r1
    obtain ⟨t2, rfl⟩ := r2
    obtain ⟨o, h1, h2, n, h3⟩ := ht2
    exact ⟨_, .tuple h1 h2 h3 (.cons (.str _ _) (.cons (.int _ _) .nil))⟩
  · show X.A.units + 2 + (encP b).depth < cLine
    have : (encP b).depth ≤ 2 := by
      show PyData.depth (.tuple [.str b.1, .int b.2]) ≤ 2
      simp only [PyData.depth, PyData.depthAll]
      decide
    omega
  · obtain ⟨ys, ry, py⟩ := each_split he
    obtain ⟨ep, he'⟩ := PyProof.Rows.sortedAll_at s.heap its out.toArray
    have hyl : ys.length ≤ sizeLine := by rw [ry.length, hol, ← hlen, ← rv.length]; exact hz
    exact ⟨.ref _, upd H (s.heap.objs.size + 1) (.lst ys), I.laid (t' := s.toks) (fun _ _ => PyProof.Rows.sortedAll_old) (Nat.le_succ _) ⟨hyl, out, ep, ry, he'⟩, rfl, q _ _ py (I.hok.fresh (Nat.le_succ _))⟩
end
end KN
/-! A set of texts made of a list, and its members sorted. -/
namespace KN
open PySem PySem.Spec PyProof.Rows L2

def txOf (e : Int × Value) : Str := match e.2 with | .str x _ => x | _ => Str.empty
def GoodS (w : World) (e : Int × Value) : Prop := ∃ x tk, e.2 = Value.str x tk ∧ e.1 = hashStr w x
/-- at a stands a set of texts: M says which, there are at most n; it can be walked -/
def SetS (w : World) (h : Heap) (a : Addr) (M : Str → Prop) (n : Nat) : Prop :=
  ∃ (o : Obj) (es : Array (Int × Value)) (ep : Nat) (t : SetTable), (h.get? a = some o ∧ o.ExactSet ∧ o.data = .set es ep t) ∧ (∀ e ∈ es.toList, GoodS w e) ∧ (es.toList.map txOf).Nodup ∧
    (∀ x, M x ↔ x ∈ es.toList.map txOf) ∧ (es.size < scanBound ∧ t.fits es.size = true ∧ es.size ≤ n) ∧ Ris t.place.toList ∧ (w.params.followText "set-order" = true ∨ t.led = true)

section
variable {P : Program} {w : World} {h h' : Heap} {a : Addr} {M : Str → Prop} {n : Nat}
theorem SetS.at (R : SetS w h a M n) (k : ∀ o, h.get? a = some o → h'.get? a = some o) : SetS w h' a M n := by
  obtain ⟨o, es, ep, t, ⟨ho, r⟩, q⟩ := R
  exact ⟨o, es, ep, t, ⟨k o ho, r⟩, q⟩
theorem SetS.congr {M' : Str → Prop} {n' : Nat} (R : SetS w h a M n) (e : ∀ x, M x ↔ M' x) (hn : n ≤ n') : SetS w h a M' n' := by
  obtain ⟨o, es, ep, t, r, g, nd, hm, ⟨b1, b2, b3⟩, q⟩ := R
  exact ⟨o, es, ep, t, r, g, nd, fun x => (e x).symm.trans (hm x), ⟨b1, b2, Nat.le_trans b3 hn⟩, q⟩
theorem goodS_elems {l : List (Int × Value)} (g : ∀ e ∈ l, GoodS w e) : ElemsOf (strKind P w) l := fun e he => by
  obtain ⟨x, tk, h1, h2⟩ := g e he
  refine ⟨⟨x, ?_, h2⟩, ?_⟩
  · rw [h1]
    show Value.isStrOf x (.str x tk) = true
    simp [Value.isStrOf]
  · rw [h1]; rfl
theorem goodS_is {e : Int × Value} (g : GoodS w e) (x : Str) : (strKind P w).is x e.2 = true ↔ txOf e = x := by
  obtain ⟨y, tk, h1, _⟩ := g
  unfold txOf
  rw [h1]
  show Value.isStrOf x (.str y tk) = true ↔ y = x
  simp [Value.isStrOf]
theorem goodS_mem {l : List (Int × Value)} (g : ∀ e ∈ l, GoodS w e) (x : Str) : x ∈ l.map txOf ↔ ∃ e ∈ l, (strKind P w).is x e.2 = true := by
  rw [List.mem_map]
  exact ⟨fun ⟨e, he, q⟩ => ⟨e, he, (goodS_is (g e he) x).2 q⟩, fun ⟨e, he, q⟩ => ⟨e, he, (goodS_is (g e he) x).1 q⟩⟩
end

section
variable {P : Program} {w : World} {A : Around} {E : Value → Shared → Prop} {s : Shared} {a : Addr} {M : Str → Prop} {n : Nat}
/-- the entries are laid, and laid anew where the table is too full -/
theorem setS_lay {g : Bool → Sem Unit} (hg : ∀ (b : Bool) (s₁ : Shared) (Q' : Unit → Shared → Prop), Q' () s₁ → wpAny (model P w) A (g b) Q' E s₁)
    {o : Obj} {es es1 : Array (Int × Value)} {ep : Nat} {t t2 : SetTable} (ho : s.heap.get? a = some o) (hex : o.ExactSet) (hd : o.data = .set es ep t)
    (g1 : ∀ e ∈ es1.toList, GoodS w e) (nd1 : (es1.toList.map txOf).Nodup) (m1 : ∀ x, M x ↔ x ∈ es1.toList.map txOf)
    (hb1 : es1.size < scanBound) (hf2 : t2.fits es1.size = true) (hn1 : es1.size ≤ n) (hr : Ris t2.place.toList) (hl : w.params.followText "set-order" = true ∨ t2.led = true) {wasDummy : Bool} {R : Option Bool → Shared → Prop}
    (hR : ∀ h', Heap.SameBut a s.heap h' → SetS w h' a M n → R (some true) { s with heap := h' }) :
    wpAny (model P w) A (do
        storeSet a es1 t2
        if (!wasDummy && t2.tooFull) = true then do
            g (relayAll t2 es1 (SetTable.grown es1.size)).2.2
            storeSet a (relayAll t2 es1 (SetTable.grown es1.size)).1 (relayAll t2 es1 (SetTable.grown es1.size)).2.1
            pure (some true)
          else pure (some true)) R E s := by
  have e1 := store_at (es' := es1) (t' := t2) ho hd
  have c1 := Heap.SameBut.update s.heap a (Obj.putSet es1 t2)
  refine wpAny_bind (wpAny_storeSet_of ho hd ?_ (fits_of_scanBound hb1))
  by_cases full : (!wasDummy && t2.tooFull) = true
  · rw [if_pos full]
    obtain ⟨pm, hf3, hr3, hl3⟩ := And.intro (relayAll_perm t2 es1 (SetTable.grown es1.size)) (And.intro (relayAll_fits t2 es1 (SetTable.grown es1.size)) (And.intro (relayAll_ris t2 es1 (SetTable.grown es1.size)) (relayAll_led t2 es1 (SetTable.grown es1.size))))
    generalize relayAll t2 es1 (SetTable.grown es1.size) = Z at pm hf3 hr3 hl3 ⊢
    obtain ⟨es2, t3, gave⟩ := Z
    dsimp only at pm hf3 hr3 hl3 ⊢
    have z : es2.size = es1.size := by rw [← Array.length_toList, pm.length_eq, Array.length_toList]
    have b2 : es2.size < scanBound := by rw [z]; exact hb1
    refine wpAny_bind (hg _ _ _ (wpAny_bind (wpAny_storeSet_of e1 rfl (wpAny_pure (hR _ (c1.trans (Heap.SameBut.update _ a _)) ?_)) (fits_of_scanBound b2))))
    exact ⟨_, es2, _, t3, ⟨store_at (es' := es2) (t' := t3) e1 rfl, hex, rfl⟩, fun e he => g1 e (pm.mem_iff.mp he), (pm.map txOf).nodup_iff.mpr nd1, fun x => (m1 x).trans (pm.map txOf).mem_iff.symm,
      ⟨b2, hf3, by rw [z]; exact hn1⟩, hr3, hl.imp id fun y => by rw [hl3]; exact y⟩
  · rw [if_neg full]
    exact wpAny_pure (hR _ c1 ⟨_, es1, _, t2, ⟨e1, hex, rfl⟩, g1, nd1, m1, ⟨hb1, hf2, hn1⟩, hr, hl⟩)

theorem setS_add {x : Str} {tk : Tok} {Q : Bool → Shared → Prop} (R : SetS w s.heap a M n) (room : n + 1 < scanBound)
    (hQ : ∀ b h', Heap.SameBut a s.heap h' → SetS w h' a (fun y => M y ∨ y = x) (n + 1) → Q b { s with heap := h' }) :
    wpAny (model P w) A (setAddHashed a (.str x tk) ((strKind P w).hash x)) Q E s := by
  obtain ⟨o, es, ep, t, ⟨ho, hex, hd⟩, g, nd, hm, ⟨hb, hf, hn⟩, hr, hl⟩ := R
  have hkey : (strKind P w).is x (.str x tk) = true := by
    show Value.isStrOf x (.str x tk) = true
    simp [Value.isStrOf]
  have hsc : (Value.str x tk).scannable = true := rfl
  have hel : ElemsOf (strKind P w) es.toList := goodS_elems g
  unfold setAddHashed setAddHashedIn
  refine wpAny_holding (wpAny_bind (wpAny_setState_of ho hd hf ?_))
  dsimp only
  rw [byScan_of hsc hb hel]
  simp only [↓reduceIte]
  unfold setAddByScan
  refine wpAny_bind (wpAny_bind (wpAny_rule (wpAny_bind (wpAny_setScan_of hkey ho hd hf hel ?_))))
  cases hfi : List.findIdx? (fun e => (strKind P w).is x e.2) es.toList with
  | some j =>
    obtain ⟨hj, pj, _⟩ := List.findIdx?_eq_some_iff_getElem.mp hfi
    have hin : M x := (hm x).2 ((goodS_mem (P := P) g x).2 ⟨es.toList[j], List.getElem_mem hj, pj⟩)
    refine wpAny_pure (wpAny_pure (hQ false s.heap (Heap.SameBut.refl a s.heap) ⟨o, es, ep, t, ⟨ho, hex, hd⟩, g, nd, fun y => ?_, ⟨hb, hf, Nat.le_succ_of_le hn⟩, hr, hl⟩))
    rw [← hm y]
    exact ⟨fun z => z.elim id (fun e => by rw [e]; exact hin), .inl⟩
  | none =>
    dsimp only
    have hnk : x ∉ es.toList.map txOf := fun z => by
      obtain ⟨e, he, q⟩ := (goodS_mem (P := P) g x).1 z
      have c := List.findIdx?_eq_none_iff.mp hfi e he
      rw [q] at c
      cases c
    have hgw : ∀ (b : Bool) {s₁ : Shared} {Q' : Unit → Shared → Prop}, Q' () s₁ → wpAny (model P w) A (match b with | true => rule "set.scan.the-table-gave-way" | false => pure ()) Q' E s₁ :=
      fun b s₁ Q' q => by cases b <;> first | exact wpAny_pure q | exact wpAny_rule q
    obtain ⟨pm, hf1, hr1, hl1⟩ := And.intro (layNew_perm t es ((strKind P w).hash x) (.str x tk)) (And.intro (layNew_fits t es ((strKind P w).hash x) (.str x tk)) (And.intro (layNew_ris t es ((strKind P w).hash x) (.str x tk) hr) (layNew_led t es ((strKind P w).hash x) (.str x tk))))
    generalize layNew t es ((strKind P w).hash x) (.str x tk) = Z at pm hf1 hr1 hl1 ⊢
    obtain ⟨es1, t1, wasDummy, gave⟩ := Z
    dsimp only at pm hf1 hr1 hl1 ⊢
    rw [Array.toList_push] at pm
    have pc : es1.toList.Perm (((strKind P w).hash x, Value.str x tk) :: es.toList) := pm.trans (List.perm_append_singleton _ _)
    have pk : (es1.toList.map txOf).Perm (x :: es.toList.map txOf) := pc.map txOf
    have g1 : ∀ e ∈ es1.toList, GoodS w e := fun e he => by
      rcases List.mem_cons.mp (pc.mem_iff.mp he) with z | z
      · rw [z]; exact ⟨x, tk, rfl, rfl⟩
      · exact g e z
    have nd1 : (es1.toList.map txOf).Nodup := pk.nodup_iff.mpr (List.nodup_cons.mpr ⟨hnk, nd⟩)
    have m1 : ∀ y, (M y ∨ y = x) ↔ y ∈ es1.toList.map txOf := fun y => by
      rw [hm y, pk.mem_iff, List.mem_cons]
      exact Or.comm
    have hsz : es1.size = es.size + 1 := by rw [← Array.length_toList, pc.length_eq, List.length_cons, Array.length_toList]
    have hb1 : es1.size < scanBound := by rw [hsz]; exact Nat.lt_of_le_of_lt (Nat.succ_le_succ hn) room
    have hn1 : es1.size ≤ n + 1 := by rw [hsz]; exact Nat.succ_le_succ hn
    have hled : w.params.followText "set-order" = true ∨ t1.led = true := hl.imp id fun z => by rw [hl1]; exact z
    refine wpAny_bind (hgw _ ?_)
    split
    · refine wpAny_bind ?_
      rw [hashByValue_scannable 8 hsc]
      refine wpAny_pure (setS_lay (M := fun y => M y ∨ y = x) (n := n + 1) ?_ ho hex hd g1 nd1 m1 hb1 ?_ hn1 ?_ ?_ ?_)
      · intro b s₁ Q' q; cases b <;> first | exact wpAny_pure q | exact wpAny_rule q
      · first | (split <;> first | exact hf1 | exact SetTable.fits_plain_off hf1) | exact hf1
      · first | (split <;> exact hr1) | exact hr1
      · first | (split <;> exact hled) | exact hled
      · intro h' sb r; dsimp only; exact wpAny_pure (hQ true h' sb r)
    · refine wpAny_bind (wpAny_pure ?_)
      simp only [↓reduceIte]
      refine setS_lay (M := fun y => M y ∨ y = x) (n := n + 1) ?_ ho hex hd g1 nd1 m1 hb1 hf1 hn1 hr1 hled ?_
      · intro b s₁ Q' q; cases b <;> first | exact wpAny_pure q | exact wpAny_rule q
      · intro h' sb r; dsimp only; exact wpAny_pure (hQ true h' sb r)
end

section
variable {P : Program} {w : World} {A : Around} {E : Value → Shared → Prop} {s : Shared}
abbrev freshSet (w : World) : Obj := { cls := .type "set", dict := none, data := .set #[] 0 (.fresh 0 0 (!w.params.followText "set-order")) }
theorem setS_fresh {h : Heap} {a : Addr} (ho : h.get? a = some (freshSet w)) : SetS w h a (fun _ => False) 0 :=
  ⟨_, #[], 0, _, ⟨ho, ⟨rfl, rfl, rfl⟩, rfl⟩, (fun e he => by simp at he), (by simp), (fun x => by simp), ⟨by decide, by rfl, Nat.le_refl 0⟩, List.Pairwise.nil, by
    show _ ∨ (!w.params.followText "set-order") = true
    cases w.params.followText "set-order"
    · exact .inr rfl
    · exact .inl rfl⟩
/-- the texts of an iterator go into the set, one by one -/
theorem setS_update {I : Addr} {fp wr : List Addr} {G : Array GenState → Array GenState → Prop} {n : Nat} {Pv : Nat → Value → Prop} {St : Nat → Shared → Prop} {R : Result → Shared → Prop}
    (W : WalksS P w A.in1 I fp wr G n Pv St) (S : Addr) (hSf : S ∉ fp) (xs : List Str) (hn : n = xs.length) (hb : xs.length + 1 < scanBound) (hval : ∀ i v, Pv i v → ∃ k t, xs[i]? = some k ∧ v = .str k t) :
    ∀ (k i : Nat) (s : Shared), n - i = k → i ≤ n → St i s → SetS w s.heap S (fun y => y ∈ xs.take i) i →
      (∀ s', Moved (S :: wr) G s s' → SetS w s'.heap S (fun y => y ∈ xs) xs.length → R (.ok (.ret .none)) s') →
      codeAny (model P w) A (.builtin "set.update.loop" ⟨[.ref S, .ref I], []⟩) R s := by
  have notIn : S ∉ wr := fun h => hSf (W.sub _ h)
  have more : ∀ b ∈ wr, b ∈ S :: wr := fun b hb => List.mem_cons_of_mem _ hb
  intro k
  induction k with
  | zero =>
    intro i s hk hi hst hS hR
    have hin : i = n := by omega
    subst hin
    refine codeAny_builtin F.entry_set_update_loop ?_
    rw [Around.under_plainId F.plain_set_update_loop _]
    show wpAny _ A.in1 (pyNext (.ref I) >>= _) _ _ s
    refine wpAny_bind (W.done s _ _ hst fun s' hm => ?_)
    show wpAny _ A.in1 (ret Value.none) _ _ s'
    have e : xs.take i = xs := List.take_of_length_le (by omega)
    rw [e] at hS
    exact wpAny_pure (hR s' (hm.mono more) ((hS.at fun o e => hm.heap S o notIn e).congr (fun _ => Iff.rfl) (Nat.le_of_eq hn)))
  | succ k ih =>
    intro i s hk hi hst hS hR
    have hlt : i < n := by omega
    refine codeAny_builtin F.entry_set_update_loop ?_
    rw [Around.under_plainId F.plain_set_update_loop _]
    show wpAny _ A.in1 (pyNext (.ref I) >>= _) _ _ s
    refine wpAny_bind (W.item i s _ _ hlt hst fun v s' hP hst' hm => ?_)
    obtain ⟨z, t, hz, rfl⟩ := hval i v hP
    have hS' : SetS w s'.heap S (fun y => y ∈ xs.take i) i := hS.at fun o e => hm.heap S o notIn e
    show wpAny _ A.in1 (holding [Value.str z t] (setAdd S (.str z t)) >>= _) _ _ s'
    refine wpAny_bind (wpAny_holding ?_)
    unfold setAdd
    refine wpAny_holding (wpAny_bind ((strKind P w).pyHash (k := z) (by show Value.isStrOf z (.str z t) = true; simp [Value.isStrOf]) ?_))
    refine setS_add (s := { s' with toks := s'.toks + 1 }) hS' (by omega) fun b h' hsb hS2 => ?_
    have hS3 : SetS w h' S (fun y => y ∈ xs.take (i + 1)) (i + 1) := hS2.congr (fun y => by
      rw [List.take_add_one, hz]
      simp [List.mem_append]) (Nat.le_refl _)
    refine wpAny_pure ⟨plainId_quiet F.plain_set_update_loop _, ih (i + 1) _ (by omega) hlt (W.frame _ s' _ _ hst' (Nat.le_succ _) fun b hb o e => ?_) hS3 fun s'' hm'' hS'' => ?_⟩
    · rw [hsb.2 b (fun h : b = S => hSf (by rw [← h]; exact hb))]; exact e
    · refine hR s'' (Moved.trans W.gtrans ((hm.mono more).then_heap (Nat.le_succ _) fun b o hb e => ?_) hm'') hS''
      rw [hsb.2 b (fun h : b = S => hb (by rw [h]; exact List.mem_cons_self))]; exact e

theorem strs_get : ∀ {us : List Value} {xs : List Str}, StrsAre us xs → ∀ (i : Nat) (v : Value), us[i]? = some v → ∃ k t, xs[i]? = some k ∧ v = .str k t
  | _, _, .nil, i, v, h => by simp at h
  | _, _, .cons n t hr, 0, v, h => by simp at h; exact ⟨n, t, rfl, h.symm⟩
  | _, _, .cons n t hr, i + 1, v, h => by
    simp only [List.getElem?_cons_succ] at h ⊢
    exact strs_get hr i v h

/-- set(l), l a list of texts -/
theorem call_setS {l : Addr} {items : Array Value} (xs : List Str) {Q : Value → Shared → Prop} (hh : A.handled = none) (hl : s.heap.IsList l items) (hit : StrsAre items.toList xs) (hb : xs.length + 1 < scanBound)
    (h : ∀ (h' : Heap) (tk : Nat), SetS w h' s.heap.objs.size (fun y => y ∈ xs) xs.length → (∀ b o, s.heap.get? b = some o → h'.get? b = some o) → Q (.ref s.heap.objs.size) { s with heap := h', toks := tk }) :
    wpAny (model P w) A (call (.type "set") [.ref l]) Q E s := by
  have hisz : items.size = xs.length := by
    have q := StrsAre.length hit
    rw [Array.length_toList] at q
    exact q
  obtain ⟨c, tl, hmro⟩ := F.called_set.mro
  have hmade := F.called_set.made
  have hsub := F.called_set.sub
  refine wpAny_call (codeAny_of_tree ?_)
  show wpAny _ _ (callAny (.type "set") _) _ _ _
  refine wpAny_pure ⟨Code.quiet_builtin _ (by decide +kernel), codeAny_builtin F.entry_type_call ?_⟩
  rw [Around.under_plain (weight_type_call_type "set" [.ref l] []) rfl]
  have h1 := F.called_set.notType
  have h2 := F.called_set.canCreate
  have hct := F.typeCall_set_1 (.ref l)
  repeat (any_goals (first | assumption | wp_step))
  refine codeAny_mono (code_set_led1 (.ref l) (E := E) (Q₁ := fun obj s₁ => obj = .ref s.heap.objs.size ∧ s₁ = { s with heap := s.heap.push (freshSet w) }) ⟨rfl, rfl⟩) fun r s₁ hr => ?_
  cases r with
  | error e => exact hr
  | ok fl =>
    cases fl with
    | ret obj =>
      obtain ⟨rfl, rfl⟩ := hr
      have hS : (s.heap.push (freshSet w)).get? s.heap.objs.size = some (freshSet w) := Heap.get?_push_size _ rfl
      have hT : Shared.TypeIs { s with heap := s.heap.push (freshSet w) } (.ref s.heap.objs.size) "set" := ⟨_, hS, rfl⟩
      have hli := F.called_set.init.lookup
      have hbi := F.called_set.init.bind (.ref s.heap.objs.size)
      repeat (any_goals (first | assumption | wp_step))
      refine codeAny_mono (codeAny_call_builtin (R := wants (fun r s₂ => r = .none ∧ ∃ h' tk, s₂ = { s with heap := h', toks := tk } ∧ SetS w h' s.heap.objs.size (fun y => y ∈ xs) xs.length ∧
          (∀ b o, s.heap.get? b = some o → h'.get? b = some o)) E) F.called_set.init.plain F.entry_set_init (check_set_init_1 hT ?_)) fun r₂ s₂ hr₂ => ?_
      · obtain ⟨ol, hol, hcl, nl, hdl⟩ := hl
        obtain ⟨ocls, odict, odata, oslots⟩ := ol
        simp only at hcl hdl
        subst hcl; subst hdl
        have hol' : (s.heap.push (freshSet w)).get? l = some { cls := .type "list", dict := odict, data := .seq items nl, slots := oslots } := Heap.get?_push_of_some _ hol
        have hsls := F.sub_list_set
        have hslf := F.sub_list_frozenset
        have hne : (Value.type "list" == Value.type "dict") = false := by decide
        have hl1 : (s.heap.push (freshSet w)).IsList l items := ⟨_, hol', rfl, nl, rfl⟩
        unfold Builtin.«set.__init__» noKeywords Builtin.Frozenset.updateFrom
        generalize hPI : pyIter = PI
        wp_walk
        subst hPI
        refine wpAny_pyIter_list hl1 ?_
        refine wpAny_bind (wpAny_runValue ?_)
        have hlS : l < s.heap.objs.size := Heap.lt_size hol
        have hh3 : A.in1.in1.in1.handled = none := by simp [hh]
        have hz1 : (s.heap.push (freshSet w)).objs.size = s.heap.objs.size + 1 := Heap.size_push ..
        have hneI : l ≠ (s.heap.push (freshSet w)).objs.size := by
          rw [Heap.size_push]; exact Nat.ne_of_lt (Nat.lt_succ_of_lt hlS)
        have hSf : s.heap.objs.size ∉ [(s.heap.push (freshSet w)).objs.size, l] := by
          rw [Heap.size_push]; simp only [List.mem_cons, List.mem_singleton, List.not_mem_nil, or_false, not_or]
          exact ⟨Nat.ne_of_lt (Nat.lt_succ_self _), Nat.ne_of_gt hlS⟩
        refine setS_update ((Walks.list hh3 _ l hneI items).toS) s.heap.objs.size hSf xs hisz hb (fun i v hv => strs_get hit i v (by rw [Array.getElem?_toList]; exact hv)) (items.size - 0) 0 _ (by omega) (Nat.zero_le _)
          ⟨⟨_, Heap.get?_push_size _ rfl, rfl, rfl⟩, (hl1.push _)⟩ ?hS0 ?hR
        case hS0 => exact (setS_fresh (Heap.get?_push_of_some _ hS)).congr (fun x => by simp) (Nat.le_refl 0)
        case hR =>
          intro s' hm hS'
          obtain ⟨h', g2, d', tk', os'⟩ := s'
          have eg : g2 = s.gens := hm.gens
          have ed : d' = s.drawn := hm.drawn
          have eo : os' = s.os := hm.os
          subst eg; subst ed; subst eo
          show wpAny _ _ _ _ _ _
          refine wpAny_pure ?_
          show wpAny _ _ (ret Value.none) _ _ _
          refine wpAny_pure ⟨rfl, h', tk', rfl, hS', fun b o e => ?_⟩
          have hb0 : b < s.heap.objs.size := Heap.lt_size e
          have hb1 : b ≠ s.heap.objs.size := Nat.ne_of_lt hb0
          have hb2 : b ≠ (s.heap.push (freshSet w)).objs.size := by
            rw [Heap.size_push]; exact Nat.ne_of_lt (Nat.lt_succ_of_lt hb0)
          exact hm.heap b o (by simp only [List.mem_cons, List.mem_singleton, List.not_mem_nil, or_false, not_or]; exact ⟨hb1, hb2⟩) (Heap.get?_push_of_some _ (Heap.get?_push_of_some _ e))
      · cases r₂ with
        | error e => exact hr₂
        | ok fl₂ =>
          cases fl₂ with
          | ret r =>
            obtain ⟨rfl, h', tk, rfl, hS', hk'⟩ := hr₂
            repeat (any_goals (first | assumption | wp_step))
            exact h _ _ hS' hk'
          | _ => exact hr₂.elim
    | _ => exact hr.elim
end

end KN
namespace KN
open PySem PySem.Spec PyProof.Rows L2
/-! over the layer -/
def SetSO (w : World) (a : Addr) (M : Str → Prop) (n : Nat) : HO := .ext fun h => SetS w h a M n
theorem setSO_ok {P : Program} {w : World} {H : Hp} {h : Heap} {a : Addr} {M : Str → Prop} {n : Nat} (R : SetS w h a M n) : ObjOk P w H h a (SetSO w a M n) :=
  ⟨R, (let ⟨o, _, _, _, ⟨ho, _⟩, _⟩ := R; ⟨o, ho⟩), fun _ _ p k => p.at k⟩
section
variable {X : Cx}
def rSetS (K : PySem.W.Frag) (w : World) : List V → Hp → VK → Prop := fun vs H Q => ∃ (a : Addr) (xs : List Str), vs = [.ref a] ∧ SqL K H a (xs.map V.str) ∧ xs.length + 1 < scanBound ∧ ∀ p, H p = none → Q (.ref p) (upd H p (SetSO w p (fun y => y ∈ xs) xs.length))
theorem cr_setS (hc : X.calm = true) : CallR X (.type "set") (rSetS X.K X.w) := by
  intro pins s σ H vs us Q I r h
  obtain ⟨a, xs, rfl, hs, hb, q⟩ := h
  obtain rfl := Vals.ref1 r
  obtain ⟨its, rv, hl, hz⟩ := I.list hs
  exact call_setS xs (I.ok.hd hc) hl.isList rv.strs hb fun h' tk hS k => ⟨.ref s.heap.objs.size, upd H s.heap.objs.size (SetSO X.w s.heap.objs.size (fun y => y ∈ xs) xs.length), I.laid (t' := tk) k (Nat.le_refl _) (setSO_ok hS), rfl, q _ (I.hok.fresh (Nat.le_refl _))⟩

/-- sorted(such a set) -/
def rSortS (w : World) : List V → Hp → VK → Prop := fun vs H Q => ∃ (a : Addr) (M : Str → Prop) (n : Nat), vs = [.ref a] ∧ H a = some (SetSO w a M n) ∧ n < 64 ∧
  ∀ (ys : List Str) (p : Addr), ys.Nodup → (∀ y, y ∈ ys ↔ M y) → ys.length ≤ n → sortedS ys = true → H p = none → Q (.ref p) (upd H p (.lst (ys.map V.str)))
theorem strs_map : ∀ (l : List Value), (∀ v ∈ l, ∃ x tk, v = Value.str x tk) → StrsAre l (l.map fun v => txOf (0, v))
  | [], _ => .nil
  | v :: l, h => by
    obtain ⟨x, tk, rfl⟩ := h v List.mem_cons_self
    exact .cons x tk (strs_map l fun u hu => h u (List.mem_cons_of_mem _ hu))
theorem cr_sortedS' (hc : X.calm = true) : CallR X (.builtin "sorted") (rSortS X.w) := by
  intro pins s σ H vs us Q I r h
  obtain ⟨a, M, n, rfl, ha, h64, q⟩ := h
  obtain rfl := Vals.ref1 r
  obtain ⟨o, es, ep, t, ⟨ho, hex, hd⟩, g, nd, hm, ⟨hb, hf, hn⟩, hr, hl⟩ := (show SetS X.w s.heap a M n from (I.hok a _ ha).1)
  refine Calls.call_function_entry PyProof.Rows.kind_sorted PyProof.Rows.plain_sorted PyProof.Rows.entry_sorted (PyProof.Rows.args_sorted1 _) ?_
  unfold Builtin.«sorted»
  refine wpAny_bind (m := checkCount "sorted" 1 1 _) (wpAny_pure ?_)
  refine wpAny_bind (collect_set (A := X.A.in1) (I.ok.hd hc) ⟨o, ho, hex.1, hd⟩ hf hb hr hl fun s1 vv k1 hz g1 o1 pm => ?_)
  have hvl : vv.length ≤ n := by rw [pm.length_eq, List.length_map, Array.length_toList]; exact hn
  have hS : StrsAre vv (vv.map fun v => txOf (0, v)) := strs_map vv fun v hv => by
    obtain ⟨e, he, z⟩ := List.mem_map.mp (pm.mem_iff.mp hv)
    obtain ⟨x, tk, h1, _⟩ := g e he
    exact ⟨x, tk, by rw [← z]; exact h1⟩
  have pk : (vv.map fun v => txOf (0, v)).Perm (es.toList.map txOf) := by
    have z := pm.map fun v => txOf (0, v)
    rw [List.map_map] at z
    exact z
  have es1 : s1 = { s with heap := s1.heap, gens := s1.gens, drawn := s1.drawn, toks := s1.toks } := by
    cases s1
    cases s
    cases o1
    rfl
  have I1 : Inv X pins σ H s1 := by
    rw [es1]
    exact I.call (ch := []) (Un.kept k1) (I.hok.kept k1) (by rw [g1]; exact I.bare) (fun _ z => nomatch z)
  have hz2 : vv.length ≤ sizeLine := by rw [sizeLine_eq]; omega
  refine wpAny_bind (wpAny_newList ?_ hz2)
  have hoL : (s1.heap.push (seqObj "list" vv.toArray 0)).get? s1.heap.objs.size = some (seqObj "list" vv.toArray 0) := Heap.get?_push_size _ rfl
  show wpAny _ _ _ _ _ { s1 with heap := s1.heap.push (seqObj "list" vv.toArray 0) }
  refine wpAny_bind (wpAny_holding (wpAny_call_entry PyProof.Rows.slot_list_sort ⟨_, hoL, rfl⟩ PyProof.Rows.entry_list_sort
    (list_sort_treeK strKind_oneLt (s := { s1 with heap := s1.heap.push (seqObj "list" vv.toArray 0) }) hoL hS.keysOf (fun v₁ v₂ rest e => keyKind_strs (by rw [← e]; exact hS)) (Nat.lt_of_le_of_lt hvl h64) fun st' hp hs => ⟨_, rfl, ?_⟩)
    (PyProof.Rows.args_list_sort _)))
  obtain ⟨ys, c1, c2, c3⟩ := sorted_out_str hS hp hs
  obtain ⟨e', he'⟩ := PyProof.Rows.sortedHeap_at (vs := vv) (out := (arrOf st').map (·.2)) hoL
  have pn : ys.Perm (es.toList.map txOf) := c2.trans pk
  have yl : ys.length ≤ n := by rw [pn.length_eq, List.length_map, Array.length_toList]; exact hn
  have hlen : (ys.map V.str).length ≤ sizeLine := by rw [List.length_map, sizeLine_eq]; omega
  refine wpAny_pure ⟨_, rfl, .ref s1.heap.objs.size, upd H s1.heap.objs.size (.lst (ys.map V.str)), I1.laid (t' := s1.toks) (fun b u e => ?_) (Nat.le_refl _)
    (show ObjOk X.prog X.w _ _ _ (.lst (ys.map V.str)) from ⟨hlen, ((arrOf st').map (·.2)).toList, e', vals_of_strs c1, by rw [Array.toArray_toList]; exact he'⟩), rfl, q ys _ (pn.nodup_iff.mpr nd) (fun y => by rw [pn.mem_iff, ← hm y]) yl c3 (I1.hok.fresh (Nat.le_refl _))⟩
  have hb : b < s1.heap.objs.size := Heap.lt_size e
  rw [PyProof.Rows.sortedHeap_old (Nat.ne_of_lt hb) (by rw [size_push']; exact Nat.lt_succ_of_lt hb)]
  exact Heap.get?_push_of_some _ e
end
end KN
/-! How data stand in the heap; loops over what is walked. -/
namespace KN
open PySem PySem.Spec PyProof.Rows L2

/-! ### texts in order -/
def ltS (a b : Str) : Prop := a.cps.toList < b.cps.toList
theorem ltS_irr (a : Str) : ¬ ltS a a := List.lt_irrefl _
theorem ltS_tr (a b c : Str) (h : ltS a b) (g : ltS b c) : ltS a c := List.lt_trans h g
theorem cps_inj {a b : Str} (h : a.cps.toList = b.cps.toList) : a = b := by
  cases a; cases b
  exact congrArg _ (Array.toList_inj.mp h)
theorem ltS_of {a b : Str} (h : ¬ ltS b a) (n : a ≠ b) : ltS a b := Std.lt_of_le_of_ne (List.not_lex_lt.mp h) fun e => n (cps_inj e)
theorem rising_pw : ∀ (l : List Str) (p : Str), (p :: l).Nodup → risingS p l = true → (p :: l).Pairwise ltS
  | [], p, _, _ => List.pairwise_singleton _ _
  | x :: r, p, nd, h => by
    have h : (!ltCps x.cps.toList p.cps.toList && risingS x r) = true := h
    rw [Bool.and_eq_true, Bool.not_eq_true', ltCps_eq] at h
    obtain ⟨n1, n2⟩ := List.nodup_cons.mp nd
    have ih := rising_pw r x n2 h.2
    have px : ltS p x := ltS_of (show ¬ (x.cps.toList < p.cps.toList) from of_decide_eq_false h.1) fun e => n1 (by rw [e]; exact List.mem_cons_self)
    refine List.pairwise_cons.mpr ⟨fun y hy => ?_, ih⟩
    rcases List.mem_cons.mp hy with e | e
    · rw [e]; exact px
    · exact ltS_tr _ _ _ px ((List.pairwise_cons.mp ih).1 y e)
theorem sorted_pw : ∀ {l : List Str}, l.Nodup → sortedS l = true → l.Pairwise ltS
  | [], _, _ => List.Pairwise.nil
  | x :: r, nd, h => rising_pw r x nd h

/-! ### heaps -/
/-- every tuple stays -/
def TK (H H' : Hp) : Prop := (∀ a xs, H a = some (.tup xs) → H' a = some (.tup xs)) ∧ ∀ a o xs, H a = some (.frz o (.tup xs)) → H' a = some (.frz o (.tup xs))
theorem TK.refl (H : Hp) : TK H H := ⟨fun _ _ h => h, fun _ _ _ h => h⟩
theorem TK.trans {H H1 H2 : Hp} (a : TK H H1) (b : TK H1 H2) : TK H H2 := ⟨fun c x h => b.1 c x (a.1 c x h), fun c o x h => b.2 c o x (a.2 c o x h)⟩
theorem tk_of {H H' : Hp} (s : Same H H') : TK H H' := ⟨fun a xs h => s a _ h, fun a o xs h => s a _ h⟩
theorem same_sqt {K : PySem.W.Frag} {H H' : Hp} {a : Addr} {xs : List V} (e : Same H H') (h : SqT K H a xs) : SqT K H' a xs := by
  rcases h with (h | ⟨o, h⟩) | h
  · exact .inl (.inl (e _ _ h))
  · exact .inl (.inr ⟨o, e _ _ h⟩)
  · exact .inr h
theorem TK.sqt {K : PySem.W.Frag} {H H' : Hp} {a : Addr} {xs : List V} (e : TK H H') (h : SqT K H a xs) : SqT K H' a xs := by
  rcases h with (h | ⟨o, h⟩) | h
  · exact .inl (.inl (e.1 _ _ h))
  · exact .inl (.inr ⟨o, e.2 _ _ _ h⟩)
  · exact .inr h
theorem same_new {H H1 : Hp} {d : Addr} {o : HO} (s : Same H H1) (n : H d = none) : Same H (upd H1 d o) := fun b u e => by
  rw [upd_ne (ne_of_none e n)]
  exact s b u e
theorem same_new1 {H : Hp} {d : Addr} {o : HO} (n : H d = none) : Same H (upd H d o) := same_new (Same.refl H) n
theorem TK.new {H : Hp} {d : Addr} {o : HO} (n : H d = none) : TK H (upd H d o) := tk_of (same_new1 n)
theorem TK.lst {H : Hp} {d : Addr} {xs : List V} {o : HO} (n : H d = some (.lst xs)) : TK H (upd H d o) :=
  ⟨fun a ys h => by rw [upd_ne (ne_of h n (fun z => nomatch z))]; exact h, fun a p ys h => by rw [upd_ne (ne_of h n (fun z => nomatch z))]; exact h⟩
theorem TK.dk {H : Hp} {d : Addr} {xs : List (Key × V)} {o : HO} (n : H d = some (.dK xs)) : TK H (upd H d o) :=
  ⟨fun a ys h => by rw [upd_ne (ne_of h n (fun z => nomatch z))]; exact h, fun a p ys h => by rw [upd_ne (ne_of h n (fun z => nomatch z))]; exact h⟩
/-- a lock is put on and taken off -/
theorem same_unlock {H H' : Hp} {d : Addr} {od : Obj} {u : HO} (h : H d = some u) (s : Same (upd H d (.frz od u)) H') : Same H (upd H' d u) := fun b o e => by
  by_cases z : b = d
  · rw [z] at e ⊢
    rw [h] at e
    cases e
    exact upd_same
  · rw [upd_ne z]
    exact s b o (by rw [upd_ne z]; exact e)
theorem TK.lockd {H : Hp} {d : Addr} {od : Obj} {xs : List (Key × V)} (h : H d = some (.dK xs)) : TK H (upd H d (.frz od (.dK xs))) := TK.dk h

/-! ### data -/
def PairAt (H : Hp) (v : V) (p : Str × Int) : Prop := ∃ a : Addr, v = .ref a ∧ H a = some (.tup [.str p.1, .int p.2])
def StepAt (H : Hp) (v : V) : Stp Str → Prop
  | .pour => ∃ a : Addr, v = .ref a ∧ H a = some (.tup [.str "pour"])
  | .stream ns => ∃ a b : Addr, v = .ref a ∧ H a = some (.tup [.str "stream", .ref b]) ∧ H b = some (.tup (ns.map V.str))
def TreeAt (H : Hp) (v : V) (t : List (Stp Str)) : Prop := ∃ (a : Addr) (vs : List V), v = .ref a ∧ H a = some (.tup vs) ∧ Paired (StepAt H) vs t
/-- a sketch's kept counts: a tuple of pairs (its object has no dict) -/
def KeptAt (H : Hp) (v : V) (l : List (Str × Int)) : Prop := ∃ (a : Addr) (vs : List V), v = .ref a ∧ ZT H a vs ∧ Paired (PairAt H) vs l
structure Sk where
  room : Int
  many : Int
  off : Int
  kept : List (Str × Int)
def SkAt (H : Hp) (v : V) (s : Sk) : Prop := ∃ (a : Addr) (kv : V), v = .ref a ∧ H a = some (.tup [.int s.room, .int s.many, .int s.off, kv]) ∧ KeptAt H kv s.kept
def enc (l : List (Str × Int)) : List (Key × V) := l.map fun p => ((Sum.inr p.1 : Key), V.int p.2)
/-- the law's state: a tuple of off and a dict -/
def StAt (H : Hp) (v : V) (s : St Str) : Prop := ∃ a d : Addr, v = .ref a ∧ H a = some (.tup [.int s.1, .ref d]) ∧ H d = some (.dK (enc s.2))

theorem paired_imp {α β : Type} {R S : α → β → Prop} (f : ∀ a b, R a b → S a b) : ∀ {l : List α} {m : List β}, Paired R l m → Paired S l m
  | _, _, .nil => .nil
  | _, _, .cons h t => .cons (f _ _ h) (paired_imp f t)
theorem PairAt.mono {H H' : Hp} (t : TK H H') {v : V} {p : Str × Int} : PairAt H v p → PairAt H' v p := fun ⟨a, e, h⟩ => ⟨a, e, t.1 _ _ h⟩
theorem StepAt.mono {H H' : Hp} (t : TK H H') {v : V} : ∀ {s : Stp Str}, StepAt H v s → StepAt H' v s
  | .pour, ⟨a, e, h⟩ => ⟨a, e, t.1 _ _ h⟩
  | .stream _, ⟨a, b, e, h, g⟩ => ⟨a, b, e, t.1 _ _ h, t.1 _ _ g⟩
theorem TreeAt.mono {H H' : Hp} (t : TK H H') {v : V} {s : List (Stp Str)} : TreeAt H v s → TreeAt H' v s := fun ⟨a, vs, e, h, p⟩ => ⟨a, vs, e, t.1 _ _ h, paired_imp (fun _ _ => StepAt.mono t) p⟩
theorem KeptAt.mono {H H' : Hp} (t : TK H H') {v : V} {l : List (Str × Int)} : KeptAt H v l → KeptAt H' v l := fun ⟨a, vs, e, ⟨o, ho, h⟩, p⟩ => ⟨a, vs, e, ⟨o, ho, t.2 _ _ _ h⟩, paired_imp (fun _ _ => PairAt.mono t) p⟩
theorem SkAt.mono {H H' : Hp} (t : TK H H') {v : V} {s : Sk} : SkAt H v s → SkAt H' v s := fun ⟨a, kv, e, h, k⟩ => ⟨a, kv, e, t.1 _ _ h, k.mono t⟩
theorem StAt.mono {H H' : Hp} (t : Same H H') {v : V} {s : St Str} : StAt H v s → StAt H' v s := fun ⟨a, d, e, h, g⟩ => ⟨a, d, e, t _ _ h, t _ _ g⟩

/-! ### dicts with text keys and numbers -/
theorem enc_len (l : List (Str × Int)) : (enc l).length = l.length := List.length_map _
theorem enc_get {l : List (Str × Int)} {i : Nat} {k : Key} {v : V} (h : (enc l)[i]? = some (k, v)) : ∃ p, l[i]? = some p ∧ k = Sum.inr p.1 ∧ v = .int p.2 := by
  unfold enc at h
  rw [List.getElem?_map] at h
  obtain ⟨p, hp, e⟩ := Option.map_eq_some_iff.mp h
  cases e
  exact ⟨p, hp, rfl, rfl⟩
theorem valV_enc (l : List (Str × Int)) (k : Str) : valV (enc l) (Sum.inr k) = (lookA l k).map V.int := by
  induction l with
  | nil => rfl
  | cons p l ih =>
    rw [look_cons]
    by_cases e : p.1 = k
    · rw [if_pos e]
      exact valV_pos (p := ((Sum.inr p.1 : Key), V.int p.2)) (by rw [e])
    · rw [if_neg e, ← ih]
      exact valV_neg (p := ((Sum.inr p.1 : Key), V.int p.2)) (fun z => e (Sum.inr.inj z))
theorem any_enc (l : List (Str × Int)) (k : Str) : ((enc l).any fun kv => decide (kv.1 = Sum.inr k)) = (l.any fun p => decide (p.1 = k)) := by
  induction l with
  | nil => rfl
  | cons p l ih =>
    show (decide ((Sum.inr p.1 : Key) = Sum.inr k) || (enc l).any _) = (decide (p.1 = k) || l.any _)
    rw [ih]
    congr 1
    by_cases e : p.1 = k
    · rw [e]; simp
    · rw [decide_eq_false e, decide_eq_false (fun z => e (Sum.inr.inj z))]
theorem put_enc (l : List (Str × Int)) (k : Str) (v : Int) : putK (enc l) (Sum.inr k) (.int v) = enc (putA l k v) := by
  unfold putK putA
  rw [any_enc]
  by_cases h : (l.any fun p => decide (p.1 = k)) = true
  · rw [if_pos h, if_pos h]
    unfold enc
    rw [List.map_map, List.map_map]
    refine List.map_congr_left fun p _ => ?_
    show (if (Sum.inr p.1 : Key) = Sum.inr k then ((Sum.inr p.1 : Key), V.int v) else ((Sum.inr p.1 : Key), V.int p.2)) = ((Sum.inr (if p.1 = k then (p.1, v) else p).1 : Key), V.int (if p.1 = k then (p.1, v) else p).2)
    by_cases e : p.1 = k
    · rw [if_pos e, if_pos (by rw [e])]
    · rw [if_neg e, if_neg (fun z => e (Sum.inr.inj z))]
  · rw [if_neg h, if_neg h]
    unfold enc
    rw [List.map_append]
    rfl
theorem putA_snoc {l : List (Str × Int)} {k : Str} {v : Int} (h : k ∉ keysA l) : putA l k v = l ++ [(k, v)] := put_out h
theorem merge_fold : ∀ (m l : List (Str × Int)), (keysA (l ++ m)).Nodup → mergeK (enc l) (enc m) = enc (l ++ m)
  | [], l, _ => by rw [List.append_nil]; rfl
  | p :: m, l, h => by
    have e : l ++ p :: m = (l ++ [p]) ++ m := by rw [List.append_assoc]; rfl
    have hk : p.1 ∉ keysA l := by
      unfold keysA at h ⊢
      rw [List.map_append, List.nodup_append] at h
      exact fun z => h.2.2 _ z _ List.mem_cons_self rfl
    show mergeK (putK (enc l) (Sum.inr p.1) (.int p.2)) (enc m) = enc (l ++ p :: m)
    rw [put_enc, putA_snoc hk, e]
    exact merge_fold m (l ++ [p]) (by rw [← e]; exact h)
theorem merge_enc {l : List (Str × Int)} (h : (keysA l).Nodup) : mergeK [] (enc l) = enc l := merge_fold l [] h
theorem keys_enc (l : List (Str × Int)) : (enc l).map (·.1) = (keysA l).map Sum.inr := by
  unfold enc keysA; rw [List.map_map, List.map_map]; rfl
theorem vals_enc (l : List (Str × Int)) : (enc l).map (·.2) = (valsA l).map V.int := by
  unfold enc valsA; rw [List.map_map, List.map_map]; rfl
theorem dget_enc {H : Hp} {d : Addr} {l : List (Str × Int)} (k : Str) (h : Rd H d (.dK (enc l))) : DGet H d (.str k) ((lookA l k).map V.int) := .inl ⟨enc l, Sum.inr k, h, rfl, (valV_enc l k).symm⟩
theorem dget_some {H : Hp} {d : Addr} {l : List (Str × Int)} {k : Str} {c : Int} (h : Rd H d (.dK (enc l))) (e : lookA l k = some c) : DGet H d (.str k) (some (.int c)) := by
  have := dget_enc k h
  rw [e] at this
  exact this
theorem getD_look (l : List (Str × Int)) (k : Str) : ((lookA l k).map V.int).getD (.int 0) = .int (getA l k) := by
  unfold getA
  cases lookA l k <;> rfl
theorem isSome_look (l : List (Str × Int)) (k : Str) : ((lookA l k).map V.int).isSome = decide (k ∈ keysA l) := by
  rw [Option.isSome_map]
  by_cases h : k ∈ keysA l
  · rw [look_isSome.mpr h]; simp [h]
  · rw [look_none.mpr h]; simp [h]
theorem dput_enc {H : Hp} {d : Addr} {l : List (Str × Int)} (k : Str) (c : Int) (h : H d = some (.dK (enc l))) (hl : l.length < sizeLine) : DPut H d (.str k) (.int c) (upd H d (.dK (enc (putA l k c)))) := by
  have := DPut.k (k := Sum.inr k) (v := .int c) h (by rw [enc_len]; exact hl)
  rw [put_enc] at this
  exact this
/-! ### pairs' tuples as a dict's argument -/
theorem paired_refs {H : Hp} : ∀ {vs : List V} {l : List (Str × Int)}, Paired (PairAt H) vs l → ∃ ps : List Addr, vs = ps.map V.ref ∧ Paired (fun (p : Addr) (kv : Key × V) => H p = some (.tup [kV kv.1, kv.2])) ps (enc l)
  | _, _, .nil => ⟨[], rfl, .nil⟩
  | _, _, .cons ⟨a, e, h⟩ t => by
    obtain ⟨ps, e2, p⟩ := paired_refs t
    subst e; subst e2
    exact ⟨a :: ps, rfl, .cons h p⟩
theorem paired_sq {K : PySem.W.Frag} {H : Hp} : ∀ {ps : List Addr} {l : List (Key × V)}, Paired (fun (p : Addr) (kv : Key × V) => H p = some (.tup [kV kv.1, kv.2])) ps l → Paired (fun p kv => SqT K H p [kV kv.1, kv.2]) ps l
  | _, _, .nil => .nil
  | _, _, .cons h t => .cons (SqT.of h) (paired_sq t)
theorem paired_at {α β : Type} {R : α → β → Prop} : ∀ {l : List α} {m : List β}, Paired R l m → ∀ {i : Nat} {a : α}, l[i]? = some a → ∃ b, m[i]? = some b ∧ R a b
  | _, _, .nil, i, a, h => by simp at h
  | _, _, .cons r t, 0, a, h => by simp at h; subst h; exact ⟨_, rfl, r⟩
  | _, _, .cons r t, i + 1, a, h => by
    obtain ⟨b, e, q⟩ := paired_at t (i := i) (by simpa using h)
    exact ⟨b, by simpa using e, q⟩
theorem paired_len {α β : Type} {R : α → β → Prop} : ∀ {l : List α} {m : List β}, Paired R l m → l.length = m.length
  | _, _, .nil => rfl
  | _, _, .cons _ t => congrArg (· + 1) (paired_len t)
theorem paired_snoc {α β : Type} {R : α → β → Prop} {a : α} {b : β} (r : R a b) : ∀ {l : List α} {m : List β}, Paired R l m → Paired R (l ++ [a]) (m ++ [b])
  | _, _, .nil => .cons r .nil
  | _, _, .cons h t => .cons h (paired_snoc r t)

/-! ### loops over an iterator that yields given items -/
structure Yields (J : It) (n : Nat) (item : Nat → V) (I : Hp → Prop) : Prop where
  go : ∀ i H, i < n → I H → J.go i H
  yld : ∀ i H x H', i < n → I H → J.yld i H x H' → H' = H ∧ x = item i
  stop : ∀ H, I H → J.stop n H
section
variable {J : It} {n : Nat} {item : Nat → V} {I : Hp → Prop}
theorem for_y (Y : Yields J n item I) {g : TG} {tb : TS} {D : Ends} {σ : L2.St} {H : Hp} (Pv : Nat → L2.St → Hp → Prop) (hI : ∀ i σ H, i ≤ n → Pv i σ H → I H) (h0 : Pv 0 σ H)
    (hs : ∀ i σ H, i < n → Pv i σ H → g (item i) σ H fun σ2 H2 => tb { D with nx := Pv (i + 1), ct := Pv (i + 1), bk := D.nx } σ2 H2) (hd : ∀ σ H, Pv n σ H → D.nx σ H) :
    ∃ W : Nat → Nat → L2.St → Hp → Prop, (∃ m, W 0 m σ H) ∧ ∀ i m σ H, W i m σ H →
      (J.stop i H ∧ D.nx σ H) ∨ (J.go i H ∧ ∃ N : L2.St → Hp → Prop, (∀ σ' H', N σ' H' → ∃ m', m' < m ∧ W (i + 1) m' σ' H') ∧ ∀ x H', J.yld i H x H' → g x σ H' fun σ2 H2 => tb { D with nx := N, ct := N, bk := D.nx } σ2 H2) := by
  refine ⟨fun i m σ H => m = n - i ∧ i ≤ n ∧ Pv i σ H, ⟨n, by simp, Nat.zero_le _, h0⟩, ?_⟩
  rintro i m σ H ⟨rfl, hi, p⟩
  have q := hI i σ H hi p
  by_cases hlt : i < n
  · refine .inr ⟨Y.go i H hlt q, Pv (i + 1), fun σ' H' p' => ⟨n - (i + 1), by omega, rfl, hlt, p'⟩, fun x H' y => ?_⟩
    obtain ⟨e, e2⟩ := Y.yld i H x H' hlt q y
    subst e; subst e2
    exact hs i σ _ hlt p
  · have e : i = n := by omega
    subst e
    exact .inl ⟨Y.stop H q, hd σ H p⟩
theorem lc_y (Y : Yields J n item I) {g : TG} {tt : TT} {te : TE} {vs : List Nat} {σ : L2.St} {H1 : Hp} {D : Addr} {Qd : Hp → Prop} (Pv : Nat → Hp → Prop) (hI : ∀ i H, i ≤ n → Pv i H → I H) (h0 : Pv 0 (upd H1 D (.lst [])))
    (hs : ∀ i H, i < n → Pv i H → g (item i) (wipe σ vs) H fun σ2 H2 => wipe σ2 vs = wipe σ vs ∧ tt σ2 H2 fun b H3 =>
      if b = true then te σ2 H3 fun y H4 => ∃ acc, H4 D = some (.lst acc) ∧ acc.length < sizeLine ∧ Pv (i + 1) (upd H4 D (.lst (acc ++ [y]))) else Pv (i + 1) H3) (hd : ∀ H, Pv n H → Qd H) :
    ∃ W : Nat → Nat → Hp → Prop, (∃ m, W 0 m (upd H1 D (.lst []))) ∧ ∀ i m H, W i m H →
      (J.stop i H ∧ Qd H) ∨ (J.go i H ∧ ∃ Nx : Hp → Prop, (∀ H', Nx H' → ∃ m', m' < m ∧ W (i + 1) m' H') ∧ ∀ x H', J.yld i H x H' → g x (wipe σ vs) H' fun σ2 H2 => wipe σ2 vs = wipe σ vs ∧ tt σ2 H2 fun b H3 =>
        if b = true then te σ2 H3 fun y H4 => ∃ acc, H4 D = some (.lst acc) ∧ acc.length < sizeLine ∧ Nx (upd H4 D (.lst (acc ++ [y]))) else Nx H3) := by
  refine ⟨fun i m H => m = n - i ∧ i ≤ n ∧ Pv i H, ⟨n, by simp, Nat.zero_le _, h0⟩, ?_⟩
  rintro i m H ⟨rfl, hi, p⟩
  have q := hI i H hi p
  by_cases hlt : i < n
  · refine .inr ⟨Y.go i H hlt q, Pv (i + 1), fun H' p' => ⟨n - (i + 1), by omega, rfl, hlt, p'⟩, fun x H' y => ?_⟩
    obtain ⟨e, e2⟩ := Y.yld i H x H' hlt q y
    subst e; subst e2
    exact hs i _ hlt p
  · have e : i = n := by omega
    subst e
    exact .inl ⟨Y.stop H q, hd H p⟩
theorem dc_y (Y : Yields J n item I) {g : TG} {tt : TT} {tk tv : TE} {vs : List Nat} {σ : L2.St} {H1 : Hp} {D : Addr} {Qd : Hp → Prop} (Pv : Nat → Hp → Prop) (hI : ∀ i H, i ≤ n → Pv i H → I H) (h0 : Pv 0 (upd H1 D (.dK [])))
    (hs : ∀ i H, i < n → Pv i H → g (item i) (wipe σ vs) H fun σ2 H2 => wipe σ2 vs = wipe σ vs ∧ tt σ2 H2 fun b H3 =>
      if b = true then tk σ2 H3 fun y H4 => tv σ2 H4 fun z H5 => ∃ kvs k, y = kV k ∧ H5 D = some (.dK kvs) ∧ kvs.length < sizeLine ∧ Pv (i + 1) (upd H5 D (.dK (putK kvs k z))) else Pv (i + 1) H3) (hd : ∀ H, Pv n H → Qd H) :
    ∃ W : Nat → Nat → Hp → Prop, (∃ m, W 0 m (upd H1 D (.dK []))) ∧ ∀ i m H, W i m H →
      (J.stop i H ∧ Qd H) ∨ (J.go i H ∧ ∃ Nx : Hp → Prop, (∀ H', Nx H' → ∃ m', m' < m ∧ W (i + 1) m' H') ∧ ∀ x H', J.yld i H x H' → g x (wipe σ vs) H' fun σ2 H2 => wipe σ2 vs = wipe σ vs ∧ tt σ2 H2 fun b H3 =>
        if b = true then tk σ2 H3 fun y H4 => tv σ2 H4 fun z H5 => ∃ kvs k, y = kV k ∧ H5 D = some (.dK kvs) ∧ kvs.length < sizeLine ∧ Nx (upd H5 D (.dK (putK kvs k z))) else Nx H3) := by
  refine ⟨fun i m H => m = n - i ∧ i ≤ n ∧ Pv i H, ⟨n, by simp, Nat.zero_le _, h0⟩, ?_⟩
  rintro i m H ⟨rfl, hi, p⟩
  have q := hI i H hi p
  by_cases hlt : i < n
  · refine .inr ⟨Y.go i H hlt q, Pv (i + 1), fun H' p' => ⟨n - (i + 1), by omega, rfl, hlt, p'⟩, fun x H' y => ?_⟩
    obtain ⟨e, e2⟩ := Y.yld i H x H' hlt q y
    subst e; subst e2
    exact hs i _ hlt p
  · have e : i = n := by omega
    subst e
    exact .inl ⟨Y.stop H q, hd H p⟩
end
theorem getD_of {α : Type} {l : List α} {i : Nat} {x d : α} (h : l[i]? = some x) : l.getD i d = x := by rw [List.getD_eq_getElem?_getD, h]; rfl
/-- the keys of a locked dict -/
theorem y_keys {d : Addr} {o : Obj} (l : List (Str × Int)) : Yields (Itk d o (enc l)) l.length (fun i => .str ((keysA l).getD i Str.empty)) (fun H => H d = some (.frz o (.dK (enc l)))) where
  go := fun i H hi h => ⟨h, by rw [enc_len]; exact hi⟩
  yld := fun i H x H' hi h y => by
    obtain ⟨e, k, v, hk, rfl⟩ := y
    obtain ⟨p, hp, e1, e2⟩ := enc_get hk
    subst e1
    refine ⟨e, ?_⟩
    show V.str p.1 = _
    rw [getD_of (x := p.1) (by unfold keysA; rw [List.getElem?_map, hp]; rfl)]
  stop := fun H h => ⟨h, Nat.le_of_eq (enc_len l)⟩
/-- a tuple's items -/
theorem y_tup {K : PySem.W.Frag} {a : Addr} (xs : List V) : Yields (Itt K a) xs.length (fun i => xs.getD i .non) (fun H => SqT K H a xs) where
  go := fun i H hi h => ⟨xs, xs[i], h, by simp [hi]⟩
  yld := fun i H x H' hi h y => by
    obtain ⟨e, y⟩ := y
    exact ⟨e, (getD_of (y xs h)).symm⟩
  stop := fun H h => ⟨xs, h, Nat.le_refl _⟩
/-- a list's items -/
theorem y_lst {K : PySem.W.Frag} {a : Addr} (xs : List V) : Yields (Itl K a) xs.length (fun i => xs.getD i .non) (fun H => SqL K H a xs) where
  go := fun i H hi h => ⟨xs, xs[i], h, by simp [hi]⟩
  yld := fun i H x H' hi h y => by
    obtain ⟨e, y⟩ := y
    exact ⟨e, (getD_of (y xs h)).symm⟩
  stop := fun H h => ⟨xs, h, Nat.le_refl _⟩
/-- a text's signs -/
theorem y_str (x : Str) : Yields (Its x) x.cps.size (fun i => .str ⟨#[x.cps.getD i 0]⟩) (fun _ => True) where
  go := fun i H hi _ => hi
  yld := fun i H v H' hi _ y => by
    obtain ⟨e, c, hc, rfl⟩ := y
    refine ⟨e, ?_⟩
    have : x.cps.getD i 0 = c := by rw [Array.getD_eq_getD_getElem?, hc]; rfl
    rw [this]
  stop := fun H _ => Nat.le_refl _
/-- numbers from lo on -/
theorem y_rng (lo : Int) (n : Nat) : Yields (Itr lo n) n (fun i => .int (lo + i)) (fun _ => True) where
  go := fun i H hi _ => hi
  yld := fun i H v H' hi _ y => y
  stop := fun H _ => Nat.le_refl _
end KN
/-! The program's defs: looks at names, trees, counts. -/
namespace KN
open PySem PySem.Spec PyProof.Rows L2

theorem dec_vi (i j : Int) : decide (V.int i = V.int j) = decide (i = j) := by
  by_cases h : i = j
  · rw [h]; simp
  · rw [decide_eq_false h, decide_eq_false (fun z => h (V.int.inj z))]
theorem dec_vs (i j : Str) : decide (V.str i = V.str j) = decide (i = j) := by
  by_cases h : i = j
  · rw [h]; simp
  · rw [decide_eq_false h, decide_eq_false (fun z => h (V.str.inj z))]

theorem ixL (K : PySem.W.Frag) {X : Cx} (h : X.K = K := by rfl) : IxR X (rIxL K) := h ▸ ix_list
theorem ixT (K : PySem.W.Frag) {X : Cx} (h : X.K = K := by rfl) : IxR X (rIxT K) := h ▸ ix_tup
theorem lenK (K : PySem.W.Frag) {X : Cx} (h : X.K = K := by rfl) : CallR X (.builtin "len") (fun xs H Q => ∃ p ys, xs = [.ref p] ∧ (SqL K H p ys ∨ SqT K H p ys) ∧ Q (.int ys.length) H) := h ▸ call_len_seq
section
variable {P : Program} {w : World} {K : PySem.W.Frag} {mg : Str → Option Value} {base : Heap}

def spIsBetween : Sp := fun vs H Q _ => ∃ i a b : Int, vs = [.int i, .int a, .int b] ∧ a ≤ i ∧ i ≤ b ∧ Q (.bl true) H
theorem c_is_between (T : Txt mg) (c1 : C8.Cal P w K mg base 1 "is_integer" spIsInteger []) (D : DefE K mg "is_between" (top 8)) : C8.Cal P w K mg base 2 "is_between" spIsBetween [] := by
  refine cal_of (N := ["thing", "least", "most"]) (ps := ["thing", "least", "most"]) D (C8.fnScope_by (by decide +kernel)) (fun _ _ _ _ _ _ us hl => match us, hl with | [_, _, _], _ => rfl) (fun vs H Q E h => ?_) (fun f cdv A outer s H vs Q E hr h => ?_)
  · obtain ⟨i, a, b, rfl, _⟩ := h
    rfl
  · obtain ⟨i, a, b, rfl, h1, h2, k⟩ := h
    refine ⟨_, pss_one (ps_ret (pe_and (pe_c c1 hr (by decide) rfl (pa_cons (pv 0) pa_nil)) (pe_one (pe_chain op_le op_le (pv 1) (pv 0) (pv 2))))), ?_⟩
    refine ⟨_, rfl, i, rfl, true, rfl, iteT ?_⟩
    refine ⟨_, rfl, _, rfl, a, i, rfl, rfl, true, by show V.bl (decide (a ≤ i)) = V.bl true; rw [decide_eq_true h1], iteT ?_⟩
    refine ⟨_, rfl, i, b, rfl, rfl, ?_⟩
    show Q (.bl (decide (i ≤ b))) H
    rw [decide_eq_true h2]
    exact k

def spIsCount : Sp := fun vs H Q _ => ∃ i : Int, vs = [.int i] ∧ 0 ≤ i ∧ Q (.bl true) H
theorem c_is_count (T : Txt mg) (c1 : C8.Cal P w K mg base 1 "is_integer" spIsInteger []) (D : DefE K mg "is_count" (top 9)) : C8.Cal P w K mg base 2 "is_count" spIsCount [] := by
  refine cal_of (N := ["thing"]) (ps := ["thing"]) D (C8.fnScope_by (by decide +kernel)) (fun _ _ _ _ _ _ us hl => match us, hl with | [_], _ => rfl) (fun vs H Q E h => ?_) (fun f cdv A outer s H vs Q E hr h => ?_)
  · obtain ⟨i, rfl, _⟩ := h
    rfl
  · obtain ⟨i, rfl, h1, k⟩ := h
    refine ⟨_, pss_one (ps_ret (pe_and (pe_c c1 hr (by decide) rfl (pa_cons (pv 0) pa_nil)) (pe_one (pe_cmpR op_ge (pv 0) pe_int (nomark _))))), ?_⟩
    refine ⟨_, rfl, i, rfl, true, rfl, iteT ?_⟩
    refine ⟨_, rfl, i, 0, rfl, rfl, ?_⟩
    show Q (.bl (decide (0 ≤ i))) H
    rw [decide_eq_true h1]
    exact k

def spIsTupleOf : Sp := fun vs H Q _ => ∃ (a : Addr) (xs : List V) (n : Int), vs = [.ref a, .int n] ∧ H a = some (.tup xs) ∧ Q (.bl (decide ((xs.length : Int) = n))) H
theorem c_is_tuple_of (T : Txt mg) (D : DefE K mg "is_tuple_of" (top 10)) : C8.Cal P w K mg base 1 "is_tuple_of" spIsTupleOf [] := by
  refine cal_of (N := ["thing", "many"]) (ps := ["thing", "many"]) D (C8.fnScope_by (by decide +kernel)) (fun _ _ _ _ _ _ us hl => match us, hl with | [_, _], _ => rfl) (fun vs H Q E h => ?_) (fun f cdv A outer s H vs Q E hr h => ?_)
  · obtain ⟨a, xs, n, rfl, _⟩ := h
    rfl
  · obtain ⟨a, xs, n, rfl, ha, k⟩ := h
    refine ⟨_, pss_one (ps_ret (pe_and (pe_callB call_isi rfl T.n_isinstance boot_isinstance (pa_cons (pv 0) (pa_cons (pe_bltn (v := .ty "tuple") rfl T.n_tuple boot_tuple' rfl) pa_nil)))
      (pe_one (pe_cmpR op_eq (pe_callB call_len_seq rfl T.n_len boot_len' (pa_cons (pv 0) pa_nil)) (pv 1) (nomark _))))), ?_⟩
    refine ⟨_, rfl, .ref a, .ty "tuple", _, _, true, rfl, .ty "tuple", .base (.tup ha), kit_ty (by decide +kernel), true, rfl, iteT ?_⟩
    refine ⟨_, rfl, a, xs, rfl, .inr (SqT.of ha), _, rfl, rfl, ?_⟩
    rw [dec_vi]
    exact k

theorem get_pw {ss : List Str} (h : ss.Pairwise ltS) {i : Nat} {x y : Str} (e1 : ss[i]? = some x) (e2 : ss[i + 1]? = some y) : ltS x y := by
  obtain ⟨h1, q1⟩ := List.getElem?_eq_some_iff.mp e1
  obtain ⟨h2, q2⟩ := List.getElem?_eq_some_iff.mp e2
  have := List.pairwise_iff_getElem.mp h i (i + 1) h1 h2 (by omega)
  rw [q1, q2] at this
  exact this

def spAsc : Sp := fun vs H Q _ => ∃ (a : Addr) (ss : List Str), vs = [.ref a] ∧ H a = some (.lst (ss.map V.str)) ∧ ss.Pairwise ltS ∧ ss.length ≤ 1000 ∧ ∀ H', Same H H' → Q (.bl true) H'
theorem c_are_ascending (T : Txt mg) (D : DefE K mg "are_ascending" (top 11)) : C8.Cal P w K mg base 1 "are_ascending" spAsc [] := by
  have S : FnScope ["things", "at"] ["things"] (C8.fnScope (top 11)) := C8.fnScope_by (by decide +kernel)
  refine cal_of D S (fun _ _ _ _ _ _ us hl => match us, hl with | [_], _ => rfl) (fun vs H Q E h => ?_) (fun f cdv A outer s H vs Q E hr h => ?_)
  · obtain ⟨a, ss, rfl, _⟩ := h
    rfl
  · obtain ⟨a, ss, rfl, ha, hp, hl, k⟩ := h
    have nd := S.nd
    refine ⟨_, pss_one (ps_ret (pe_callB (cr_all rfl) rfl T.n_all boot_all' (pa_cons (pe_lc (own := [("at", 1)]) (g := gName 1) (tt := tYes) rfl nd
      (pi_range1 rfl T.n_range (pa_cons (pe_op op_sub (pe_callB call_len_seq rfl T.n_len boot_len' (pa_cons (pv 0) pa_nil)) pe_int) pa_nil))
      (blkOk_by (own := [("at", 1)]) (N := ["things", "at"]) (sc := C8.fnScope (top 11)) (by decide +kernel)) (fun _ _ _ _ _ => pg_name (i := 1) nd rfl (Or.inl rfl)) (fun _ _ _ _ _ => pts_nil)
      (fun _ _ _ _ _ => pe_cmpR op_lt_str (pe_ix (ixL K) (pv 0) (pv 1) (fun _ _ => rfl)) (pe_ix (ixL K) (pv 0) (pe_op op_add (pv 1) pe_int) (fun _ _ => rfl)) (nomark _))) pa_nil))), ?_⟩
    refine ⟨_, rfl, a, _, rfl, .inl (SqL.of ha), _, _, rfl, rfl, _, rfl, ?_, ?_, fun d hd => ?_⟩
    · rw [List.length_map]; omega
    · rw [List.length_map]; omega
    have nad : a ≠ d := ne_of_none ha hd
    rw [List.length_map]
    refine lc_range (lo := 0) (n := ((ss.length : Int) - 1).toNat) (fun i H' => Same H H' ∧ H' d = some (.lst (List.replicate i (V.bl true)))) ⟨same_new1 hd, upd_same⟩ (fun i H1 hi ⟨s1, h1⟩ => ?_) fun H1 ⟨s1, h1⟩ => ?_
    · refine ⟨rfl, ?_⟩
      have hlt : i + 1 < ss.length := by omega
      have e1 : ss[i]? = some ss[i] := List.getElem?_eq_getElem (by omega)
      have e2 : ss[i + 1]? = some ss[i + 1] := List.getElem?_eq_getElem hlt
      refine ⟨_, rfl, _, rfl, a, _, _, .str ss[i], rfl, rfl, SqL.of (s1 _ _ ha), at_of (j := i) (by omega) (by rw [List.getElem?_map, e1]; rfl), ?_⟩
      refine ⟨_, rfl, _, rfl, _, _, rfl, rfl, a, _, _, .str ss[i + 1], rfl, rfl, SqL.of (s1 _ _ ha), at_of (j := i + 1) (by omega) (by rw [List.getElem?_map, e2]; rfl), ?_⟩
      refine ⟨_, _, rfl, rfl, _, h1, by rw [List.length_replicate]; exact small1000 (by omega), same_new s1 hd, ?_⟩
      have lt : ss[i].cps.toList < ss[i + 1].cps.toList := get_pw hp e1 e2
      rw [upd_same, decide_eq_true lt, List.replicate_succ']
    · refine ⟨d, List.replicate (((ss.length : Int) - 1).toNat) true, rfl, SqL.of (by rw [h1, List.map_replicate]), ?_⟩
      have e : (List.replicate (((ss.length : Int) - 1).toNat) true).all id = true := by
        rw [List.all_eq_true]
        intro x hx
        exact (List.mem_replicate.mp hx).2
      rw [e]
      exact k H1 s1
end
end KN
namespace KN
open PySem PySem.Spec PyProof.Rows L2

abbrev letters : Str := "abcdefghijklmnopqrstuvwxyz"
def IsName (x : Str) : Prop := (1 ≤ x.length ∧ x.length ≤ 8) ∧ ∀ c ∈ x.cps.toList, c ∈ letters.cps.toList
theorem rep_all (n : Nat) : (List.replicate n true).all id = true := by
  rw [List.all_eq_true]
  intro x hx
  exact (List.mem_replicate.mp hx).2
theorem small64 {n : Nat} (h : n ≤ 100000) : n < sizeLine := by rw [sizeLine_eq]; omega
section
variable {P : Program} {w : World} {K : PySem.W.Frag} {mg : Str → Option Value} {base : Heap}

def spIsName : Sp := fun vs H Q _ => ∃ x : Str, vs = [.str x] ∧ IsName x ∧ ∀ H', Same H H' → Q (.bl true) H'
theorem c_is_name (T : Txt mg) (D : DefE K mg "is_name" (top 19)) : C8.Cal P w K mg base 1 "is_name" spIsName [] := by
  have S : FnScope ["thing", "sign"] ["thing"] (C8.fnScope (top 19)) := C8.fnScope_by (by decide +kernel)
  refine cal_of D S (fun _ _ _ _ _ _ us hl => match us, hl with | [_], _ => rfl) (fun vs H Q E h => ?_) (fun f cdv A outer s H vs Q E hr h => ?_)
  · obtain ⟨x, rfl, _⟩ := h
    rfl
  · obtain ⟨x, rfl, ⟨⟨h1, h2⟩, h3⟩, k⟩ := h
    have nd := S.nd
    refine ⟨_, pss_one (ps_ret (pe_and (pe_callB call_isi rfl T.n_isinstance boot_isinstance (pa_cons (pv 0) (pa_cons (pe_bltn (v := .ty "str") rfl T.n_str boot_str' rfl) pa_nil)))
      (pe_and (pe_chain op_le op_le pe_int (pe_callB call_len_str rfl T.n_len boot_len' (pa_cons (pv 0) pa_nil)) (C8.pe_gc (v := .int 8) rfl T.c_name))
      (pe_one (pe_callB (cr_all rfl) rfl T.n_all boot_all' (pa_cons (pe_lc (own := [("sign", 1)]) (g := gName 1) (tt := tYes) rfl nd (pi_str (pv 0))
        (blkOk_by (own := [("sign", 1)]) (N := ["thing", "sign"]) (sc := C8.fnScope (top 19)) (by decide +kernel)) (fun _ _ _ _ _ => pg_name (i := 1) nd rfl (Or.inl rfl)) (fun _ _ _ _ _ => pts_nil)
        (fun _ _ _ _ _ => pe_cmpR op_in_sign (pv 1) (C8.pe_gc (v := .str "abcdefghijklmnopqrstuvwxyz") rfl T.c_letters) rfl)) pa_nil)))))), ?_⟩
    refine ⟨_, rfl, .str x, .ty "str", _, _, true, rfl, .ty "str", .base (.str x), kit_ty (by decide +kernel), true, rfl, iteT ?_⟩
    have hz : x.length ≤ sizeLine := by rw [sizeLine_eq]; omega
    have c1 : decide ((1 : Int) ≤ (x.length : Int)) = true := decide_eq_true (by omega)
    have c2 : decide ((x.length : Int) ≤ 8) = true := decide_eq_true (by omega)
    refine ⟨_, rfl, x, rfl, hz, 1, _, rfl, rfl, true, (by show V.bl (decide ((1 : Int) ≤ (x.length : Int))) = V.bl true; rw [c1]), iteT ?_⟩
    refine ⟨_, _, rfl, rfl, true, (by show V.bl (decide ((x.length : Int) ≤ 8)) = V.bl true; rw [c2]), iteT ?_⟩
    refine ⟨_, rfl, x, rfl, fun d hd => ?_⟩
    refine lc_y (y_str x) (fun i H' => Same H H' ∧ H' d = some (.lst (List.replicate i (V.bl true)))) (fun _ _ _ _ => trivial) ⟨same_new1 hd, upd_same⟩ (fun i H1 hi ⟨s1, h1⟩ => ?_) fun H1 ⟨s1, h1⟩ => ?_
    · refine ⟨rfl, ?_⟩
      refine ⟨_, rfl, _, letters, rfl, rfl, _, h1, by rw [List.length_replicate]; exact small64 (by have : x.length = x.cps.size := rfl; omega), same_new s1 hd, ?_⟩
      have hm : x.cps.getD i 0 ∈ letters.cps.toList := h3 _ (by
        rw [Array.getD_eq_getD_getElem?, Array.getElem?_eq_getElem hi]
        exact Array.getElem_mem_toList hi)
      rw [upd_same, decide_eq_true hm, List.replicate_succ']
    · refine ⟨d, List.replicate x.cps.size true, rfl, SqL.of (by rw [h1, List.map_replicate]), ?_⟩
      rw [rep_all]
      exact k H1 s1

def spIsStream : Sp := fun vs H Q _ => ∃ (b : Addr) (ns : List Str), vs = [.ref b] ∧ H b = some (.tup (ns.map V.str)) ∧ (ns.length ≤ 1000 ∧ ∀ n ∈ ns, IsName n) ∧ ∀ H', Same H H' → Q (.bl true) H'
theorem c_is_stream (T : Txt mg) (c1 : C8.Cal P w K mg base 1 "is_name" spIsName []) (D : DefE K mg "is_stream" (top 20)) : C8.Cal P w K mg base 2 "is_stream" spIsStream [] := by
  have S : FnScope ["thing", "one"] ["thing"] (C8.fnScope (top 20)) := C8.fnScope_by (by decide +kernel)
  refine cal_of D S (fun _ _ _ _ _ _ us hl => match us, hl with | [_], _ => rfl) (fun vs H Q E h => ?_) (fun f cdv A outer s H vs Q E hr h => ?_)
  · obtain ⟨b, ns, rfl, _⟩ := h
    rfl
  · obtain ⟨b, ns, rfl, hb, ⟨hl, hn⟩, k⟩ := h
    have nd := S.nd
    refine ⟨_, pss_one (ps_ret (pe_and (pe_callB call_isi rfl T.n_isinstance boot_isinstance (pa_cons (pv 0) (pa_cons (pe_bltn (v := .ty "tuple") rfl T.n_tuple boot_tuple' rfl) pa_nil)))
      (pe_one (pe_callB (cr_all rfl) rfl T.n_all boot_all' (pa_cons (pe_lc (own := [("one", 1)]) (g := gName 1) (tt := tYes) rfl nd (pi_tup (pv 0))
        (blkOk_by (own := [("one", 1)]) (N := ["thing", "one"]) (sc := C8.fnScope (top 20)) (by decide +kernel)) (fun _ _ _ _ _ => pg_name (i := 1) nd rfl (Or.inl rfl)) (fun _ _ _ _ _ => pts_nil)
        (fun _ _ _ _ _ => pe_c c1 hr (by decide) rfl (pa_cons (pv 1) pa_nil))) pa_nil))))), ?_⟩
    refine ⟨_, rfl, .ref b, .ty "tuple", _, _, true, rfl, .ty "tuple", .base (.tup hb), kit_ty (by decide +kernel), true, rfl, iteT ?_⟩
    refine ⟨_, rfl, b, rfl, ⟨_, SqT.of hb⟩, fun d hd => ?_⟩
    refine lc_y (y_tup (ns.map V.str)) (fun i H' => Same H H' ∧ H' d = some (.lst (List.replicate i (V.bl true)))) (fun i H' _ p => SqT.of (p.1 _ _ hb)) ⟨same_new1 hd, upd_same⟩ (fun i H1 hi ⟨s1, h1⟩ => ?_) fun H1 ⟨s1, h1⟩ => ?_
    · rw [List.length_map] at hi
      have ex : (ns.map V.str).getD i .non = .str ns[i] := getD_of (by rw [List.getElem?_map, List.getElem?_eq_getElem hi]; rfl)
      rw [ex]
      refine ⟨rfl, ?_⟩
      refine ⟨_, rfl, ns[i], rfl, hn _ (List.getElem_mem hi), fun H2 s2 => ?_⟩
      exact ⟨_, s2 _ _ h1, by rw [List.length_replicate]; exact small64 (by omega), same_new (s1.trans s2) hd, by rw [upd_same, List.replicate_succ']⟩
    · refine ⟨d, List.replicate (ns.map V.str).length true, rfl, SqL.of (by rw [h1, List.map_replicate]), ?_⟩
      rw [rep_all]
      exact k H1 s1

def isP : Stp Str → Bool
  | .pour => true
  | .stream _ => false
theorem dec_pour : decide (V.str "pour" = V.str "pour") = true := by simp
def spIsPour : Sp := fun vs H Q _ => ∃ (v : V) (st : Stp Str), vs = [v] ∧ StepAt H v st ∧ Q (.bl (isP st)) H
theorem c_is_pour (T : Txt mg) (c1 : C8.Cal P w K mg base 1 "is_tuple_of" spIsTupleOf []) (D : DefE K mg "is_pour" (top 21)) : C8.Cal P w K mg base 2 "is_pour" spIsPour [] := by
  refine cal_of (N := ["step"]) (ps := ["step"]) D (C8.fnScope_by (by decide +kernel)) (fun _ _ _ _ _ _ us hl => match us, hl with | [_], _ => rfl) (fun vs H Q E h => ?_) (fun f cdv A outer s H vs Q E hr h => ?_)
  · obtain ⟨v, st, rfl, _⟩ := h
    rfl
  · obtain ⟨v, st, rfl, hs, k⟩ := h
    refine ⟨_, pss_one (ps_ret (pe_and (pe_c c1 hr (by decide) rfl (pa_cons (pv 0) (pa_cons pe_int pa_nil)))
      (pe_and (pe_callB call_isi rfl T.n_isinstance boot_isinstance (pa_cons (pe_ix ix_tup (pv 0) pe_int (fun _ _ => rfl)) (pa_cons (pe_bltn (v := .ty "str") rfl T.n_str boot_str' rfl) pa_nil)))
      (pe_one (pe_cmpR op_eq (pe_ix ix_tup (pv 0) pe_int (fun _ _ => rfl)) (C8.pe_gc (v := .str "pour") rfl T.c_pour) (nomark _)))))), ?_⟩
    cases st with
    | pour =>
      obtain ⟨a, rfl, ha⟩ := hs
      refine ⟨_, rfl, a, _, 1, rfl, ha, true, rfl, iteT ?_⟩
      refine ⟨_, rfl, a, _, 0, .str "pour", rfl, rfl, SqT.of ha, rfl, ?_⟩
      refine ⟨.str "pour", .ty "str", _, _, true, rfl, .ty "str", .base (.str _), kit_ty (by decide +kernel), true, rfl, iteT ?_⟩
      refine ⟨_, rfl, a, _, 0, .str "pour", rfl, rfl, SqT.of ha, rfl, rfl, ?_⟩
      rw [dec_pour]
      exact k
    | stream ns =>
      obtain ⟨a, b, rfl, ha, hb⟩ := hs
      refine ⟨_, rfl, a, _, 1, rfl, ha, false, rfl, iteF ?_⟩
      exact k

def spIsLeaf (fS : Addr) : Sp := fun vs H Q _ => ∃ (v : V) (ns : List Str), vs = [v, .str "stream", .ref fS] ∧ StepAt H v (.stream ns) ∧ (ns.length ≤ 1000 ∧ ∀ n ∈ ns, IsName n) ∧ ∀ H', Same H H' → Q (.bl true) H'
theorem dec_stream : decide (V.str "stream" = V.str "stream") = true := by simp
theorem c_is_leaf (T : Txt mg) (c1 : C8.Cal P w K mg base 1 "is_tuple_of" spIsTupleOf []) {fS : Addr} (cS : C8.CalAt P w K mg base 2 fS spIsStream) (D : DefE K mg "is_leaf" (top 22)) : C8.Cal P w K mg base 3 "is_leaf" (spIsLeaf fS) [] := by
  obtain ⟨fdS, psS, FS, kS, bS⟩ := cS.ex
  refine cal_of (N := ["step", "word", "is_items"]) (ps := ["step", "word", "is_items"]) D (C8.fnScope_by (by decide +kernel)) (fun _ _ _ _ _ _ us hl => match us, hl with | [_, _, _], _ => rfl) (fun vs H Q E h => ?_) (fun f cdv A outer s H vs Q E hr h => ?_)
  · obtain ⟨v, ns, rfl, _⟩ := h
    rfl
  · obtain ⟨v, ns, rfl, hs, hn, k⟩ := h
    refine ⟨_, pss_one (ps_ret (pe_and (pe_c c1 hr (by decide) rfl (pa_cons (pv 0) (pa_cons pe_int pa_nil)))
      (pe_and (pe_callB call_isi rfl T.n_isinstance boot_isinstance (pa_cons (pe_ix ix_tup (pv 0) pe_int (fun _ _ => rfl)) (pa_cons (pe_bltn (v := .ty "str") rfl T.n_str boot_str' rfl) pa_nil)))
      (pe_and (pe_cmpR op_eq (pe_ix ix_tup (pv 0) pe_int (fun _ _ => rfl)) (pv 1) (nomark _))
      (pe_one (pe_callL (i := 2) (f := fS) FS hr rfl (Or.inl rfl) kS bS .nil (C8.pass0 (E := C8.E0)) (pa_cons (pe_ix ix_tup (pv 0) pe_int (fun _ _ => rfl)) pa_nil))))))), ?_⟩
    obtain ⟨a, b, rfl, ha, hb⟩ := hs
    refine ⟨_, rfl, a, _, 2, rfl, ha, true, rfl, iteT ?_⟩
    refine ⟨_, rfl, a, _, 0, .str "stream", rfl, rfl, SqT.of ha, rfl, ?_⟩
    refine ⟨.str "stream", .ty "str", _, _, true, rfl, .ty "str", .base (.str _), kit_ty (by decide +kernel), true, rfl, iteT ?_⟩
    refine ⟨_, rfl, a, _, 0, .str "stream", rfl, rfl, SqT.of ha, rfl, _, rfl, rfl, true, (by rw [dec_stream]), iteT ?_⟩
    refine ⟨rfl, _, rfl, a, _, 1, .ref b, rfl, rfl, SqT.of ha, rfl, ?_⟩
    exact ⟨b, ns, rfl, hb, hn, k⟩
end
end KN
namespace KN
open PySem PySem.Spec PyProof.Rows L2

/-- streams as the program wants them -/
def NsOk (ns : List Str) : Prop := ns.length ≤ 1000 ∧ ∀ n ∈ ns, IsName n
theorem Run.cases_st {F : List (Tr Str)} {ns : List Str} {r : List (Stp Str)} {T : Tr Str} (h : Run F (.stream ns :: r) T) : Run (F ++ [.leaf ns]) r T := by
  cases h with
  | leaf q => exact q
theorem Run.cases_po {F : List (Tr Str)} {r : List (Stp Str)} {T : Tr Str} (h : Run F (.pour :: r) T) : ∃ G a b, F = G ++ [a, b] ∧ Run (G ++ [.pour a b]) r T := by
  cases h with
  | pour q => exact ⟨_, _, _, rfl, q⟩
theorem Run.cases_nil {F : List (Tr Str)} {T : Tr Str} (h : Run F [] T) : F = [T] := by
  cases h with
  | done => rfl

section
variable {P : Program} {w : World} {K : PySem.W.Frag} {mg : Str → Option Value} {base : Heap}

def spSteps (fS : Addr) : Sp := fun vs H Q _ => ∃ (tv : V) (t : List (Stp Str)) (T : Tr Str), vs = [tv, .str "stream", .ref fS] ∧ TreeAt H tv t ∧ Run [] t T ∧ T.All NsOk ∧ t.length ≤ 5000 ∧ T.items.length ≤ 50000 ∧ ∀ H', Same H H' → Q (.bl true) H'
theorem c_are_steps (T : Txt mg) {fS : Addr} (c1 : C8.Cal P w K mg base 2 "is_pour" spIsPour []) (c2 : C8.Cal P w K mg base 3 "is_leaf" (spIsLeaf fS) []) (D : DefE K mg "are_steps" (top 23)) : C8.Cal P w K mg base 4 "are_steps" (spSteps fS) [] := by
  have S : FnScope ["thing", "word", "is_items", "pile", "items", "step"] ["thing", "word", "is_items"] (C8.fnScope (top 23)) := C8.fnScope_by (by decide +kernel)
  refine cal_of D S (fun _ _ _ _ _ _ us hl => match us, hl with | [_, _, _], _ => rfl) (fun vs H Q E h => ?_) (fun f cdv A outer s H vs Q E hr h => ?_)
  · obtain ⟨tv, t, T, rfl, _⟩ := h
    rfl
  · obtain ⟨tv, t, T', rfl, ⟨a, vs, rfl, ha, hp⟩, hrun, hok, hl, hi, k⟩ := h
    have nd := S.nd
    refine ⟨_, pss_cons (ps_if (PW.pt (pw_or (pt_not (pt_val (pe_callB call_isi rfl T.n_isinstance boot_isinstance (pa_cons (pv 0) (pa_cons (pe_bltn (v := .ty "tuple") rfl T.n_tuple boot_tuple' rfl) pa_nil)))))
        (pw_or1 (pt_cmpR op_gt (pe_callB call_len_seq rfl T.n_len boot_len' (pa_cons (pv 0) pa_nil)) (C8.pe_gc (v := .int 5000) rfl T.c_steps) (nomark _))))) pss_never pss_nil)
      (pss_cons (ps_asg (pe_tup (pa_cons pe_int (pa_cons pe_int pa_nil))) (pg_tup rfl (pgs_cons (pg_name (i := 3) nd rfl (Or.inl rfl)) (pgs_cons (pg_name (i := 4) nd rfl (Or.inl rfl)) pgs_nil))))
      (pss_cons (ps_for PassesOwn.never rfl (pi_tup (pv 0)) (pg_name (i := 5) nd rfl (Or.inl rfl))
        (pss_one (ps_if (pt_val (pe_c c1 hr (by decide) rfl (pa_cons (pv 5) pa_nil)))
          (pss_cons (ps_if (pt_cmpR op_lt (pv 3) pe_int (nomark _)) pss_never pss_nil) (pss_one (ps_aug (i := 3) nd rfl (Or.inl rfl) pe_int ip_sub)))
          (pss_one (ps_if (pt_val (pe_c c2 hr (by decide) rfl (pa_cons (pv 5) (pa_cons (pv 1) (pa_cons (pv 2) pa_nil)))))
            (pss_cons (ps_aug (i := 3) nd rfl (Or.inl rfl) pe_int ip_add)
              (pss_one (ps_aug (i := 4) nd rfl (Or.inl rfl) (pe_callB call_len_seq rfl T.n_len boot_len' (pa_cons (pe_ix ix_tup (pv 5) pe_int (fun _ _ => rfl)) pa_nil)) ip_add)))
            pss_never)))))
      (pss_one (ps_ret (pe_and (pe_cmpR op_eq (pv 3) pe_int (nomark _)) (pe_one (pe_cmpR op_le (pv 4) (C8.pe_gc (v := .int 50000) rfl T.c_items) (nomark _)))))))), ?_⟩
    have hvl : vs.length = t.length := paired_len hp
    -- the first test
    refine ⟨_, rfl, .ref a, .ty "tuple", _, _, true, rfl, .ty "tuple", .base (.tup ha), kit_ty (by decide +kernel), true, rfl, iteF ?_⟩
    refine ⟨_, rfl, a, vs, rfl, .inr (SqT.of ha), _, _, rfl, rfl, _, rfl, ?_⟩
    have c5 : decide ((5000 : Int) < (vs.length : Int)) = false := decide_eq_false (by omega)
    rw [c5]
    refine iteF ?_
    refine ⟨by show 2 ≤ sizeLine; decide, fun q hq => ?_⟩
    refine ⟨q, _, rfl, SqT.of upd_same, rfl, .int 0, _, rfl, .int 0, _, rfl, rfl, ?_⟩
    have s0 : Same H (upd H q (.tup [.int 0, .int 0])) := same_new1 hq
    refine ⟨_, rfl, a, rfl, ⟨_, SqT.of (s0 _ _ ha)⟩, ?_⟩
    refine for_y (y_tup vs) (fun i σ H' => Same H H' ∧ ∃ (F : List (Tr Str)) (sv : Option V), Run F (t.drop i) T' ∧ σ = [some (.ref a), some (.str "stream"), some (.ref fS), some (.int (F.length : Int)), some (.int ((itemsF F).length : Int)), sv])
      (fun i σ H' _ p => SqT.of (p.1 _ _ ha)) ⟨s0, [], none, hrun, rfl⟩ (fun i σ H1 hi ⟨s1, F, sv, hF, hσ⟩ => ?_) fun σ H1 ⟨s1, F, sv, hF, hσ⟩ => ?_
    · subst hσ
      have ev : vs[i]? = some vs[i] := List.getElem?_eq_getElem hi
      obtain ⟨st, est, hst⟩ := paired_at hp ev
      have hst1 : StepAt H1 vs[i] st := hst.mono (tk_of s1)
      have ed : t.drop i = st :: t.drop (i + 1) := by
        obtain ⟨hl', e'⟩ := List.getElem?_eq_some_iff.mp est
        rw [List.drop_eq_getElem_cons hl', e']
      rw [ed] at hF
      rw [getD_of ev]
      refine ⟨_, rfl, vs[i], st, rfl, hst1, _, rfl, ?_⟩
      cases st with
      | pour =>
        obtain ⟨G, x, y, rfl, hG⟩ := hF.cases_po
        refine iteT ?_
        refine ⟨_, rfl, _, _, rfl, rfl, _, rfl, ?_⟩
        have c2 : decide ((((G ++ [x, y]).length : Nat) : Int) < 2) = false := decide_eq_false (by rw [List.length_append]; simp only [List.length_cons, List.length_nil]; omega)
        rw [c2]
        refine iteF ?_
        refine ⟨_, rfl, _, _, rfl, rfl, s1, _, some vs[i], hG, ?_⟩
        rw [itemsF_pour]
        have e2 : (((G ++ [x, y]).length : Nat) : Int) - 1 = ((G ++ [Tr.pour x y]).length : Int) := by
          rw [List.length_append, List.length_append]; simp only [List.length_cons, List.length_nil]; omega
        rw [← e2]
        rfl
      | stream ns =>
        have hS := hF.cases_st
        have hns : NsOk ns := (hF.all (P := NsOk) hok).2 ns List.mem_cons_self
        refine iteF ?_
        refine ⟨_, rfl, _, rfl, _, rfl, vs[i], ns, rfl, hst1, hns, fun H2 s2 => ⟨true, rfl, iteT ?_⟩⟩
        obtain ⟨a1, b1, e1, g1, g2⟩ := hst1
        refine ⟨_, rfl, _, _, rfl, rfl, _, rfl, vs[i], rfl, a1, _, 1, .ref b1, e1, rfl, SqT.of (s2 _ _ g1), rfl, b1, _, rfl, .inr (SqT.of (s2 _ _ g2)), _, _, rfl, rfl, s1.trans s2, _, some vs[i], hS, ?_⟩
        rw [itemsF_leaf, List.length_map]
        have e2 : (F.length : Int) + 1 = ((F ++ [Tr.leaf ns]).length : Int) := by
          rw [List.length_append]; simp only [List.length_cons, List.length_nil]; omega
        have e3 : ((itemsF F).length : Int) + (ns.length : Int) = ((itemsF F ++ ns).length : Int) := by
          rw [List.length_append]; omega
        rw [← e2, ← e3]
        rfl
    · subst hσ
      have en : t.drop vs.length = [] := List.drop_eq_nil_of_le (by omega)
      rw [en] at hF
      have := hF.cases_nil
      subst this
      refine ⟨_, rfl, rfl, true, rfl, iteT ?_⟩
      refine ⟨_, rfl, _, _, rfl, rfl, ?_⟩
      have c6 : decide (((itemsF [T']).length : Int) ≤ 50000) = true := decide_eq_true (by
        have : itemsF [T'] = T'.items := by simp [itemsF]
        rw [this]; omega)
      show Q (.bl (decide (((itemsF [T']).length : Int) ≤ 50000))) H1
      rw [c6]
      exact k H1 s1

def spTree : Sp := fun vs H Q _ => ∃ (tv : V) (t : List (Stp Str)) (T : Tr Str), vs = [tv] ∧ TreeAt H tv t ∧ Run [] t T ∧ T.All NsOk ∧ t.length ≤ 5000 ∧ T.items.length ≤ 50000 ∧ ∀ H', Same H H' → Q (.bl true) H'
theorem c_is_tree (T : Txt mg) {fS : Addr} (hS : mg "is_stream" = some (.ref fS)) (c1 : C8.Cal P w K mg base 4 "are_steps" (spSteps fS) []) (D : DefE K mg "is_tree" (top 24)) : C8.Cal P w K mg base 5 "is_tree" spTree [] := by
  refine cal_of (N := ["thing"]) (ps := ["thing"]) D (C8.fnScope_by (by decide +kernel)) (fun _ _ _ _ _ _ us hl => match us, hl with | [_], _ => rfl) (fun vs H Q E h => ?_) (fun f cdv A outer s H vs Q E hr h => ?_)
  · obtain ⟨tv, t, T, rfl, _⟩ := h
    rfl
  · obtain ⟨tv, t, T', rfl, h⟩ := h
    refine ⟨_, pss_one (ps_ret (pe_c c1 hr (by decide) rfl (pa_cons (pv 0) (pa_cons (C8.pe_gc (v := .str "stream") rfl T.c_stream) (pa_cons (pe_glob (v := .ref fS) rfl hS rfl) pa_nil))))), ?_⟩
    exact ⟨_, rfl, tv, t, T', rfl, h⟩
def spCheckTree : Sp := fun vs H Q _ => ∃ (tv : V) (t : List (Stp Str)) (T : Tr Str), vs = [tv] ∧ TreeAt H tv t ∧ Run [] t T ∧ T.All NsOk ∧ t.length ≤ 5000 ∧ T.items.length ≤ 50000 ∧ ∀ H', Same H H' → Q .non H'
theorem c_check_tree (T : Txt mg) (c1 : C8.Cal P w K mg base 5 "is_tree" spTree []) (D : DefE K mg "check_tree" (top 25)) : C8.Cal P w K mg base 6 "check_tree" spCheckTree [] := by
  refine cal_of (N := ["thing"]) (ps := ["thing"]) D (C8.fnScope_by (by decide +kernel)) (fun _ _ _ _ _ _ us hl => match us, hl with | [_], _ => rfl) (fun vs H Q E h => ?_) (fun f cdv A outer s H vs Q E hr h => ?_)
  · obtain ⟨tv, t, T, rfl, _⟩ := h
    rfl
  · obtain ⟨tv, t, T', rfl, h1, h2, h3, h4, h5, k⟩ := h
    refine ⟨_, pss_one (ps_if (pt_not (pt_val (pe_c c1 hr (by decide) rfl (pa_cons (pv 0) pa_nil)))) pss_never pss_nil), ?_⟩
    exact ⟨_, rfl, tv, t, T', rfl, h1, h2, h3, h4, h5, fun H1 s1 => ⟨true, rfl, iteF (k H1 s1)⟩⟩
end
end KN
namespace KN
open PySem PySem.Spec PyProof.Rows L2

/-- counts as are_counts wants them -/
structure CntOk (l : List (Str × Int)) : Prop where
  asc : Asc ltS l
  nm : ∀ p ∈ l, IsName p.1
  pos : ∀ p ∈ l, 1 ≤ p.2
  len : l.length ≤ 1000
/-- the counts above 0, in the order of names -/
def posL (ys : List Str) (l : List (Str × Int)) : List (Str × Int) := (ys.map fun n => (n, getA l n)).filter fun p => decide (0 < p.2)
theorem posL_snoc (ys : List Str) (y : Str) (l : List (Str × Int)) : posL (ys ++ [y]) l = posL ys l ++ (if 0 < getA l y then [(y, getA l y)] else []) := by
  unfold posL
  rw [List.map_append, List.filter_append]
  congr 1
  show ([(y, getA l y)] : List (Str × Int)).filter _ = _
  by_cases h : 0 < getA l y
  · rw [if_pos h, List.filter_cons, if_pos (decide_eq_true h)]; rfl
  · rw [if_neg h, List.filter_cons, if_neg (by simp [h])]; rfl
theorem posL_len (ys : List Str) (l : List (Str × Int)) : (posL ys l).length ≤ ys.length := by
  unfold posL
  refine Nat.le_trans (List.length_filter_le _ _) ?_
  rw [List.length_map]; exact Nat.le_refl _
theorem posL_keys (ys : List Str) (l : List (Str × Int)) : (keysA (posL ys l)).Sublist ys := by
  unfold posL keysA
  have h : (((ys.map fun n => (n, getA l n)).filter fun p => decide (0 < p.2)).map (·.1)).Sublist ((ys.map fun n => (n, getA l n)).map (·.1)) := List.Sublist.map _ List.filter_sublist
  rw [List.map_map] at h
  have e : (List.map ((fun x : Str × Int => x.1) ∘ fun n => (n, getA l n)) ys) = ys := by
    have : ((fun x : Str × Int => x.1) ∘ fun n => (n, getA l n)) = id := rfl
    rw [this, List.map_id]
  rw [e] at h
  exact h
theorem posL_asc {ys : List Str} (h : ys.Pairwise ltS) (l : List (Str × Int)) : Asc ltS (posL ys l) := List.Pairwise.sublist (posL_keys ys l) h
theorem posL_look {ys : List Str} {l : List (Str × Int)} (ny : ys.Nodup) (hk : ∀ y, y ∈ ys ↔ y ∈ keysA l) (k : Str) : lookA (posL ys l) k = (lookA l k).bind fun c => if 0 < c then some c else none := by
  have nd : (keysA (posL ys l)).Nodup := List.Nodup.sublist (posL_keys ys l) ny
  have mem : ∀ c, (k, c) ∈ posL ys l ↔ k ∈ ys ∧ c = getA l k ∧ 0 < c := fun c => by
    unfold posL
    rw [List.mem_filter, List.mem_map]
    constructor
    · rintro ⟨⟨n, hn, e⟩, hp⟩
      cases e
      exact ⟨hn, rfl, of_decide_eq_true hp⟩
    · rintro ⟨h1, rfl, h3⟩
      exact ⟨⟨k, h1, rfl⟩, decide_eq_true h3⟩
  cases e : lookA l k with
  | none =>
    show lookA (posL ys l) k = none
    rw [look_none] at e ⊢
    intro z
    exact e ((hk k).mp ((posL_keys ys l).mem z))
  | some c =>
    show lookA (posL ys l) k = if 0 < c then some c else none
    have g := get_of_look e
    have hin : k ∈ ys := (hk k).mpr (look_key e)
    by_cases h : 0 < c
    · rw [if_pos h]
      exact mem_look nd ((mem c).mpr ⟨hin, g.symm, h⟩)
    · rw [if_neg h, look_none]
      intro z
      obtain ⟨q, hq, e2⟩ := List.mem_map.mp z
      have : (k, q.2) ∈ posL ys l := by rw [← e2]; exact hq
      obtain ⟨_, z2, z3⟩ := (mem q.2).mp this
      rw [z2, g] at z3
      exact h z3

section
variable {P : Program} {w : World} {K : PySem.W.Frag} {mg : Str → Option Value} {base : Heap}

def spAreCounts : Sp := fun vs H Q _ => ∃ (v : V) (l : List (Str × Int)), vs = [v] ∧ KeptAt H v l ∧ CntOk l ∧ ∀ H', Same H H' → Q (.bl true) H'
theorem c_are_counts (T : Txt mg) (c1 : C8.Cal P w K mg base 1 "is_tuple_of" spIsTupleOf []) (c2 : C8.Cal P w K mg base 1 "is_name" spIsName []) (c3 : C8.Cal P w K mg base 1 "is_integer" spIsInteger []) (c4 : C8.Cal P w K mg base 1 "are_ascending" spAsc [])
    (D : DefE K mg "are_counts" (top 26)) : C8.Cal P w K mg base 2 "are_counts" spAreCounts [] := by
  have S : FnScope ["thing", "pair"] ["thing"] (C8.fnScope (top 26)) := C8.fnScope_by (by decide +kernel)
  refine cal_of D S (fun _ _ _ _ _ _ us hl => match us, hl with | [_], _ => rfl) (fun vs H Q E h => ?_) (fun f cdv A outer s H vs Q E hr h => ?_)
  · obtain ⟨v, l, rfl, _⟩ := h
    rfl
  · obtain ⟨v, l, rfl, ⟨a, xs, rfl, hz, hp⟩, hok, k⟩ := h
    have nd := S.nd
    obtain ⟨oz, hoz, haz⟩ := id hz
    refine ⟨_, pss_cons (ps_if (pt_not (pt_val (pe_callB call_isi rfl T.n_isinstance boot_isinstance (pa_cons (pv 0) (pa_cons (pe_bltn (v := .ty "tuple") rfl T.n_tuple boot_tuple' rfl) pa_nil))))) pss_never pss_nil)
      (pss_cons (ps_for PassesOwn.never rfl (pi_tup (pv 0)) (pg_name (i := 1) nd rfl (Or.inl rfl))
        (pss_one (ps_if (PW.pt (pw_or (pt_not (pt_val (pe_c c1 hr (by decide) rfl (pa_cons (pv 1) (pa_cons pe_int pa_nil)))))
          (pw_or (pt_not (pt_val (pe_c c2 hr (by decide) rfl (pa_cons (pe_ix ix_tup (pv 1) pe_int (fun _ _ => rfl)) pa_nil))))
          (pw_or (pt_not (pt_val (pe_c c3 hr (by decide) rfl (pa_cons (pe_ix ix_tup (pv 1) pe_int (fun _ _ => rfl)) pa_nil))))
          (pw_or1 (pt_cmpR op_lt (pe_ix ix_tup (pv 1) pe_int (fun _ _ => rfl)) pe_int (nomark _))))))) pss_never pss_nil)))
      (pss_one (ps_ret (pe_c c4 hr (by decide) rfl (pa_cons (pe_lc (own := [("pair", 1)]) (g := gName 1) (tt := tYes) rfl nd (pi_tup (pv 0))
        (blkOk_by (own := [("pair", 1)]) (N := ["thing", "pair"]) (sc := C8.fnScope (top 26)) (by decide +kernel)) (fun _ _ _ _ _ => pg_name (i := 1) nd rfl (Or.inl rfl)) (fun _ _ _ _ _ => pts_nil)
        (fun _ _ _ _ _ => pe_ix (ixT K) (pv 1) pe_int (fun _ _ => rfl))) pa_nil))))), ?_⟩
    refine ⟨_, rfl, .ref a, .ty "tuple", _, _, true, rfl, .ty "tuple", .fTuple haz, kit_ty (by decide +kernel), true, rfl, iteF ?_⟩
    refine ⟨_, rfl, a, rfl, ⟨_, hz.sq⟩, ?_⟩
    have hxl : xs.length = l.length := paired_len hp
    refine for_y (y_tup xs) (fun i σ H' => Same H H' ∧ ∃ sv : Option V, σ = [some (.ref a), sv]) (fun i σ H' _ p => same_sqt p.1 hz.sq) ⟨Same.refl H, none, rfl⟩ (fun i σ H1 hi ⟨s1, sv, hσ⟩ => ?_) fun σ H1 ⟨s1, sv, hσ⟩ => ?_
    · subst hσ
      have ev : xs[i]? = some xs[i] := List.getElem?_eq_getElem hi
      obtain ⟨p, ep, b, eb, hb⟩ := paired_at hp ev
      have hm : p ∈ l := List.mem_of_getElem? ep
      rw [getD_of ev]
      refine ⟨_, rfl, b, _, 2, (by rw [eb]), s1 _ _ hb, true, rfl, iteF ?_⟩
      refine ⟨_, rfl, b, _, 0, .str p.1, eb, rfl, SqT.of (s1 _ _ hb), rfl, p.1, rfl, hok.nm p hm, fun H2 s2 => ⟨true, rfl, iteF ?_⟩⟩
      refine ⟨_, rfl, b, _, 1, .int p.2, eb, rfl, SqT.of (s2 _ _ (s1 _ _ hb)), rfl, p.2, rfl, true, rfl, iteF ?_⟩
      refine ⟨_, rfl, b, _, 1, .int p.2, eb, rfl, SqT.of (s2 _ _ (s1 _ _ hb)), rfl, _, _, rfl, rfl, _, rfl, ?_⟩
      have c5 : decide (p.2 < 1) = false := decide_eq_false (by have := hok.pos p hm; omega)
      rw [c5]
      exact iteF ⟨s1.trans s2, some xs[i], by rw [eb]; rfl⟩
    · subst hσ
      refine ⟨_, rfl, a, rfl, ⟨_, same_sqt s1 hz.sq⟩, fun d hd => ?_⟩
      have hdn : H d = none := s1.free hd
      refine lc_y (y_tup xs) (fun i H' => Same H H' ∧ H' d = some (.lst (((keysA l).take i).map V.str))) (fun i H' _ p => same_sqt p.1 hz.sq) ⟨same_new s1 hdn, upd_same⟩ (fun i H2 hi ⟨s2, h2⟩ => ?_) fun H2 ⟨s2, h2⟩ => ?_
      · have ev : xs[i]? = some xs[i] := List.getElem?_eq_getElem hi
        obtain ⟨p, ep, b, eb, hb⟩ := paired_at hp ev
        rw [getD_of ev, eb]
        refine ⟨rfl, ?_⟩
        refine ⟨_, rfl, b, _, 0, .str p.1, rfl, rfl, SqT.of (s2 _ _ hb), rfl, _, h2, ?_, same_new s2 hdn, ?_⟩
        · rw [List.length_map, List.length_take]; exact small1000 (by have := hok.len; omega)
        · have ek : (keysA l)[i]? = some p.1 := by unfold keysA; rw [List.getElem?_map, ep]; rfl
          rw [upd_same, List.take_add_one, ek, List.map_append]
          rfl
      · have e : (keysA l).take xs.length = keysA l := List.take_of_length_le (by unfold keysA; rw [List.length_map]; omega)
        rw [e] at h2
        exact ⟨d, keysA l, rfl, h2, hok.asc, by unfold keysA; rw [List.length_map]; exact hok.len, fun H3 s3 => k H3 (s2.trans s3)⟩

def spAsCounts : Sp := fun vs H Q _ => ∃ (d : Addr) (l : List (Str × Int)), vs = [.ref d] ∧ H d = some (.dK (enc l)) ∧ (keysA l).Nodup ∧ l.length < 64 ∧
  ∀ (v : V) (m : List (Str × Int)) (H' : Hp), Same H H' → KeptAt H' v m → Asc ltS m → (∀ k, lookA m k = (lookA l k).bind fun c => if 0 < c then some c else none) → Q v H'
theorem c_as_counts (T : Txt mg) (D : DefE K mg "as_counts" (top 27)) : C8.Cal P w K mg base 1 "as_counts" spAsCounts [] := by
  have S : FnScope ["told", "name"] ["told"] (C8.fnScope (top 27)) := C8.fnScope_by (by decide +kernel)
  refine cal_of D S (fun _ _ _ _ _ _ us hl => match us, hl with | [_], _ => rfl) (fun vs H Q E h => ?_) (fun f cdv A outer s H vs Q E hr h => ?_)
  · obtain ⟨d, l, rfl, _⟩ := h
    rfl
  · obtain ⟨d, l, rfl, hd, hn, h64, k⟩ := h
    have nd := S.nd
    have hu := hu_of hr
    refine ⟨_, pss_one (ps_ret (pe_callTy call_tupleZ rfl T.n_tuple boot_tuple' (pa_cons (pe_lc (own := [("name", 1)]) (g := gName 1) rfl nd (pi_list (pe_callB (call_sortedD rfl) rfl T.n_sorted boot_sorted' (pa_cons (pv 0) pa_nil)))
      (blkOk_by (own := [("name", 1)]) (N := ["told", "name"]) (sc := C8.fnScope (top 27)) (by decide +kernel)) (fun _ _ _ _ _ => pg_name (i := 1) nd rfl (Or.inl rfl))
      (fun _ _ _ _ _ => pts_one (pt_cmpR op_gt (pe_dget hu (pv 0) (pv 1) (fun _ _ => rfl)) pe_int (nomark _)))
      (fun _ _ _ _ _ => pe_tup (pa_cons (pv 1) (pa_cons (pe_dget hu (pv 0) (pv 1) (fun _ _ => rfl)) pa_nil)))) pa_nil))), ?_⟩
    refine ⟨_, rfl, d, enc l, keysA l, rfl, .inl hd, keys_enc l, by unfold keysA; rw [List.length_map]; exact h64, fun ys p hperm hsort hp => ?_⟩
    have ny : ys.Nodup := hperm.nodup_iff.mpr hn
    have hk : ∀ y, y ∈ ys ↔ y ∈ keysA l := fun y => hperm.mem_iff
    have hyl : ys.length < 64 := by rw [hperm.length_eq]; unfold keysA; rw [List.length_map]; exact h64
    have s0 : Same H (upd H p (.lst (ys.map V.str))) := same_new1 hp
    refine ⟨p, rfl, ⟨_, SqL.of upd_same⟩, fun D' hD => ?_⟩
    have hDn : H D' = none := s0.free hD
    have nDp : p ≠ D' := fun e => by subst e; rw [upd_same] at hD; cases hD
    refine lc_y (y_lst (ys.map V.str)) (fun i H' => Same H H' ∧ H' p = some (.lst (ys.map V.str)) ∧ ∃ vs, H' D' = some (.lst vs) ∧ Paired (PairAt H') vs (posL (ys.take i) l)) (fun i H' _ q => SqL.of q.2.1)
      ⟨same_new s0 hDn, by rw [upd_ne nDp, upd_same], [], upd_same, .nil⟩ (fun i H1 hi ⟨s1, hp1, vs, h1, hv⟩ => ?_) fun H1 ⟨s1, hp1, vs, h1, hv⟩ => ?_
    · rw [List.length_map] at hi
      have ei : ys[i]? = some ys[i] := List.getElem?_eq_getElem hi
      have ex : (ys.map V.str).getD i .non = .str ys[i] := getD_of (by rw [List.getElem?_map, ei]; rfl)
      rw [ex]
      have hin : ys[i] ∈ keysA l := (hk _).mp (List.getElem_mem hi)
      obtain ⟨c, hc⟩ : ∃ c, lookA l ys[i] = some c := Option.isSome_iff_exists.mp (look_isSome.mpr hin)
      have gc := get_of_look hc
      have hd1 : DGet H1 d (.str ys[i]) (some (.int c)) := dget_some (.inl (s1 _ _ hd)) hc
      have et : posL (ys.take (i + 1)) l = posL (ys.take i) l ++ (if 0 < c then [(ys[i], c)] else []) := by
        rw [List.take_add_one, ei]
        show posL (ys.take i ++ [ys[i]]) l = _
        rw [posL_snoc, gc]
      refine ⟨rfl, ?_⟩
      refine ⟨_, rfl, _, rfl, d, _, rfl, hd1, c, 0, rfl, rfl, _, rfl, ?_⟩
      by_cases hpos : 0 < c
      · rw [decide_eq_true hpos]
        refine iteT ?_
        refine ⟨_, rfl, _, rfl, _, rfl, d, _, rfl, hd1, (by show 2 ≤ sizeLine; decide), fun t ht => ?_⟩
        have htn : H t = none := s1.free ht
        have nt : D' ≠ t := ne_of_none h1 ht
        have np : p ≠ t := ne_of_none hp1 ht
        have s2 : Same H1 (upd H1 t (.tup [.str ys[i], .int c])) := same_new1 ht
        refine ⟨vs, by rw [upd_ne nt]; exact h1, ?_, same_new (s1.trans s2) hDn, by rw [upd_ne nDp]; exact s2 _ _ hp1, vs ++ [.ref t], upd_same, ?_⟩
        · have z1 := paired_len hv
          have z2 := posL_len (ys.take i) l
          rw [List.length_take] at z2
          exact small1000 (by omega)
        · rw [et, if_pos hpos]
          have tk2 : TK H1 (upd (upd H1 t (.tup [.str ys[i], .int c])) D' (.lst (vs ++ [.ref t]))) :=
            (tk_of s2).trans (TK.lst (show (upd H1 t (.tup [.str ys[i], .int c])) D' = some (.lst vs) by rw [upd_ne nt]; exact h1))
          exact paired_snoc ⟨t, rfl, by rw [upd_ne nt.symm, upd_same]⟩ (paired_imp (fun _ _ => PairAt.mono tk2) hv)
      · rw [decide_eq_false hpos]
        refine iteF ⟨s1, hp1, vs, h1, ?_⟩
        rw [et, if_neg hpos, List.append_nil]
        exact hv
    · rw [List.length_map] at hv
      have e : ys.take ys.length = ys := List.take_length
      rw [e] at hv
      refine ⟨D', vs, rfl, SqL.of h1, fun q o ho hq => ?_⟩
      have s2 : Same H1 (upd H1 q (.frz o (.tup vs))) := same_new1 hq
      exact k (.ref q) (posL ys l) _ (s1.trans s2) ⟨q, vs, rfl, ⟨o, ho, upd_same⟩, paired_imp (fun _ _ => PairAt.mono (tk_of s2)) hv⟩ (posL_asc (sorted_pw ny hsort) l) (posL_look ny hk)
end
end KN
namespace KN
open PySem PySem.Spec PyProof.Rows L2

theorem subA_snoc (t : Int) (l : List (Str × Int)) (p : Str × Int) : subA t (l ++ [p]) = subA t l ++ (if t < p.2 then [(p.1, p.2 - t)] else []) := by
  unfold subA
  rw [List.filter_append, List.map_append]
  congr 1
  by_cases h : t < p.2
  · rw [if_pos h, List.filter_cons, if_pos (decide_eq_true h)]; rfl
  · rw [if_neg h, List.filter_cons, if_neg (by simp [h])]; rfl
theorem keys_take {l : List (Str × Int)} (nd : (keysA l).Nodup) {i : Nat} {p : Str × Int} (h : l[i]? = some p) : p.1 ∉ keysA (l.take i) := by
  intro hm
  obtain ⟨q, hq, e⟩ := List.mem_map.mp hm
  obtain ⟨j, hj, e2⟩ := List.getElem_of_mem hq
  rw [List.length_take] at hj
  rw [List.getElem_take] at e2
  have h1 : (keysA l)[j]? = some p.1 := by unfold keysA; rw [List.getElem?_map, List.getElem?_eq_getElem (by omega), e2, ← e]; rfl
  have h2 : (keysA l)[i]? = some p.1 := by unfold keysA; rw [List.getElem?_map, h]; rfl
  have := nd_ix nd h1 h2
  omega
theorem sub_keys {t : Int} {l : List (Str × Int)} {k : Str} (h : k ∈ keysA (subA t l)) : k ∈ keysA l := by
  rw [keys_sub] at h
  unfold keysA at *
  obtain ⟨q, hq, e⟩ := List.mem_map.mp h
  exact List.mem_map.mpr ⟨q, (List.mem_filter.mp hq).1, e⟩
theorem sub_len (t : Int) (l : List (Str × Int)) : (subA t l).length ≤ l.length := by
  unfold subA
  rw [List.length_map]
  exact List.length_filter_le _ _
theorem look_at {l : List (Str × Int)} (nd : (keysA l).Nodup) {i : Nat} {p : Str × Int} (h : l[i]? = some p) : lookA l p.1 = some p.2 := mem_look nd (List.mem_of_getElem? h)
theorem key_at {l : List (Str × Int)} {i : Nat} {p : Str × Int} (h : l[i]? = some p) : (keysA l).getD i Str.empty = p.1 := getD_of (by unfold keysA; rw [List.getElem?_map, h]; rfl)
theorem fed_nd {r : Nat} {s : St Str} (h : (keysA s.2).Nodup) (k : Str) : (keysA (fedA r s k).2).Nodup := by
  unfold fedA
  split
  · exact nd_put h
  · exact nd_sub h
theorem fed_pos {r : Nat} {s : St Str} (h : ∀ p ∈ s.2, 1 ≤ p.2) (k : Str) : ∀ p ∈ (fedA r s k).2, 1 ≤ p.2 := by
  unfold fedA
  split
  · intro p hp
    rcases mem_put hp with z | z
    · exact h p z
    · have := get_nonneg h k
      rw [z]; show 1 ≤ getA s.2 k + 1; exact Int.le_add_of_nonneg_left this
  · intro p hp
    have := (mem_sub (k := p.1) (c := p.2)).mp hp
    omega
theorem fed_len {r : Nat} (s : St Str) (k : Str) : (fedA r s k).2.length ≤ s.2.length + 1 := by
  unfold fedA
  split
  · exact len_put_le _ _ _
  · exact Nat.le_succ_of_le (sub_len 1 s.2)
theorem pos_eqv {m l : List (Str × Int)} (nd : (keysA l).Nodup) (hp : ∀ p ∈ l, 1 ≤ p.2) (h : ∀ k, lookA m k = (lookA l k).bind fun c => if 0 < c then some c else none) : Eqv m l := fun k => by
  rw [h k]
  cases e : lookA l k with
  | none => rfl
  | some c =>
    have := hp _ (look_some_mem e)
    show (if 0 < c then some c else none) = some c
    rw [if_pos (Int.lt_of_lt_of_le (by decide) this)]
theorem counts_len (ns : List Str) : (countsA ns).length ≤ ns.length := by
  have : ∀ (ns : List Str) (l : List (Str × Int)), (ns.foldl bump l).length ≤ l.length + ns.length := by
    intro ns
    induction ns with
    | nil => intro l; exact Nat.le_refl _
    | cons n ns ih =>
      intro l
      have h1 := ih (bump l n)
      have h2 : (bump l n).length ≤ l.length + 1 := len_put_le _ _ _
      rw [List.foldl_cons, List.length_cons]
      omega
  have h := this ns []
  unfold countsA
  simpa using h
theorem counts_snoc (ns : List Str) (n : Str) : countsA (ns ++ [n]) = putA (countsA ns) n (getA (countsA ns) n + 1) := by
  rw [counts_app]; rfl

section
variable {P : Program} {w : World} {K : PySem.W.Frag} {mg : Str → Option Value} {base : Heap}

def spCountsOf : Sp := fun vs H Q _ => ∃ (tv : V) (t : List (Stp Str)) (T : Tr Str), vs = [tv] ∧ TreeAt H tv t ∧ Run [] t T ∧ T.All NsOk ∧ t.length ≤ 5000 ∧ T.items.length ≤ 50000 ∧ (countsA T.items).length < 64 ∧
  ∀ (v : V) (m : List (Str × Int)) (H' : Hp), Same H H' → KeptAt H' v m → Asc ltS m → Eqv m (countsA T.items) → Q v H'
theorem c_counts_of (T : Txt mg) (c1 : C8.Cal P w K mg base 6 "check_tree" spCheckTree []) (c2 : C8.Cal P w K mg base 2 "is_pour" spIsPour []) (c3 : C8.Cal P w K mg base 1 "as_counts" spAsCounts [])
    (D : DefE K mg "counts_of" (top 28)) : C8.Cal P w K mg base 7 "counts_of" spCountsOf [] := by
  have S : FnScope ["tree", "found", "step", "name"] ["tree"] (C8.fnScope (top 28)) := C8.fnScope_by (by decide +kernel)
  refine cal_of D S (fun _ _ _ _ _ _ us hl => match us, hl with | [_], _ => rfl) (fun vs H Q E h => ?_) (fun f cdv A outer s H vs Q E hr h => ?_)
  · obtain ⟨tv, t, T, rfl, _⟩ := h
    rfl
  · obtain ⟨tv, t, T', rfl, ht, hrun, hok, hl, hi, h64, k⟩ := h
    have nd := S.nd
    have hu := hu_of hr
    refine ⟨_, pss_cons (ps_expr (pe_c c1 hr (by decide) rfl (pa_cons (pv 0) pa_nil)))
      (pss_cons (ps_set (i := 1) nd rfl (Or.inl rfl) pe_dnewK)
      (pss_cons (ps_for PassesOwn.never rfl (pi_tup (pv 0)) (pg_name (i := 2) nd rfl (Or.inl rfl))
        (pss_one (ps_if (pt_not (pt_val (pe_c c2 hr (by decide) rfl (pa_cons (pv 2) pa_nil))))
          (pss_one (ps_for PassesOwn.never rfl (pi_tup (pe_ix ix_tup (pv 2) pe_int (fun _ _ => rfl))) (pg_name (i := 3) nd rfl (Or.inl rfl))
            (pss_one (ps_dput hu (pv 1) (pv 3) (pe_op op_add (pe_dget2 hu (pv 1) (pv 3) pe_int ⟨rfl, rfl, rfl, rfl⟩) pe_int) rfl))))
          pss_nil)))
      (pss_one (ps_ret (pe_c c3 hr (by decide) rfl (pa_cons (pv 1) pa_nil)))))), ?_⟩
    refine ⟨_, rfl, tv, t, T', rfl, ht, hrun, hok, hl, hi, fun H0 s0 => ?_⟩
    intro d hd
    have hdn : H d = none := s0.free hd
    obtain ⟨a, vs, rfl, ha, hp⟩ := id ht
    have hvl : vs.length = t.length := paired_len hp
    have s1 : Same H (upd H0 d (.dK [])) := same_new s0 hdn
    refine ⟨_, rfl, a, rfl, ⟨_, SqT.of (s1 _ _ ha)⟩, ?_⟩
    refine for_y (y_tup vs) (fun i σ H' => Same H H' ∧ ∃ (F : List (Tr Str)) (sv nv : Option V), Run F (t.drop i) T' ∧ σ = [some (.ref a), some (.ref d), sv, nv] ∧ H' d = some (.dK (enc (countsA (itemsF F)))))
      (fun i σ H' _ p => SqT.of (p.1 _ _ ha)) ⟨s1, [], none, none, hrun, rfl, upd_same⟩ (fun i σ H1 hi' ⟨s2, F, sv, nv, hF, hσ, hd1⟩ => ?_) fun σ H1 ⟨s2, F, sv, nv, hF, hσ, hd1⟩ => ?_
    · subst hσ
      have ev : vs[i]? = some vs[i] := List.getElem?_eq_getElem hi'
      obtain ⟨st, est, hst⟩ := paired_at hp ev
      have hst1 : StepAt H1 vs[i] st := hst.mono (tk_of s2)
      have ed : t.drop i = st :: t.drop (i + 1) := by
        obtain ⟨hl', e'⟩ := List.getElem?_eq_some_iff.mp est
        rw [List.drop_eq_getElem_cons hl', e']
      rw [ed] at hF
      rw [getD_of ev]
      refine ⟨_, rfl, vs[i], st, rfl, hst1, _, rfl, ?_⟩
      cases st with
      | pour =>
        obtain ⟨G, x, y, rfl, hG⟩ := hF.cases_po
        refine iteF ⟨s2, _, some vs[i], nv, hG, rfl, ?_⟩
        rw [itemsF_pour]
        exact hd1
      | stream ns =>
        have hS := hF.cases_st
        have hm : (itemsF F).length + ns.length ≤ T'.items.length := by
          have := hS.mono
          rw [itemsF_leaf, List.length_append] at this
          exact this
        obtain ⟨a1, b1, e1, g1, g2⟩ := hst
        refine iteT ?_
        refine ⟨_, rfl, a1, _, 0 + 1, .ref b1, e1, rfl, SqT.of (s2 _ _ g1), rfl, b1, rfl, ⟨_, SqT.of (s2 _ _ g2)⟩, ?_⟩
        refine for_y (y_tup (ns.map V.str)) (fun j σ H' => Same H H' ∧ ∃ (nv : Option V), σ = [some (.ref a), some (.ref d), some vs[i], nv] ∧ H' d = some (.dK (enc (countsA (itemsF F ++ ns.take j)))))
          (fun j σ H' _ p => SqT.of (p.1 _ _ g2)) ⟨s2, nv, rfl, by rw [List.take_zero, List.append_nil]; exact hd1⟩ (fun j σ H2 hj ⟨s3, nv', hσ, hd2⟩ => ?_) fun σ H2 ⟨s3, nv', hσ, hd2⟩ => ?_
        · subst hσ
          rw [List.length_map] at hj
          have ex : (ns.map V.str).getD j .non = .str ns[j] := getD_of (by rw [List.getElem?_map, List.getElem?_eq_getElem hj]; rfl)
          rw [ex]
          generalize hM : countsA (itemsF F ++ ns.take j) = M at hd2
          have hML : M.length < sizeLine := by
            have z := counts_len (itemsF F ++ ns.take j)
            rw [hM, List.length_append, List.length_take] at z
            exact small64 (by omega)
          refine ⟨_, rfl, d, rfl, .inl ⟨_, .inl hd2⟩, _, rfl, _, dget_enc ns[j] (.inl hd2), ?_⟩
          rw [getD_look]
          refine ⟨_, _, rfl, rfl, _, rfl, _, rfl, d, _, rfl, dput_enc ns[j] (getA M ns[j] + 1) hd2 hML, same_new s3 hdn, some (.str ns[j]), rfl, ?_⟩
          have et : itemsF F ++ ns.take (j + 1) = (itemsF F ++ ns.take j) ++ [ns[j]] := by
            rw [List.take_add_one, List.getElem?_eq_getElem hj, List.append_assoc]; rfl
          rw [upd_same, et, counts_snoc, hM]
        · subst hσ
          refine ⟨s3, _, some vs[i], nv', hS, rfl, ?_⟩
          rw [itemsF_leaf]
          rw [List.length_map, List.take_length] at hd2
          exact hd2
    · subst hσ
      have en : t.drop vs.length = [] := List.drop_eq_nil_of_le (by omega)
      rw [en] at hF
      have := hF.cases_nil
      subst this
      have e1 : itemsF [T'] = T'.items := by simp [itemsF]
      rw [e1] at hd1
      exact ⟨_, rfl, d, countsA T'.items, rfl, hd1, counts_nd _, h64, fun v m H2 s3 hk ha' hlk => k v m H2 (s2.trans s3) hk ha' (pos_eqv (counts_nd _) (counts_pos _) hlk)⟩
end
end KN
namespace KN
open PySem PySem.Spec PyProof.Rows L2

/-- a sketch as is_sketch wants it -/
structure SkOk (s : Sk) : Prop where
  r1 : 1 ≤ s.room
  r2 : s.room ≤ 64
  many : 0 ≤ s.many
  off : 0 ≤ s.off
  cnt : CntOk s.kept
  len : (s.kept.length : Int) ≤ s.room
  l1 : (s.room + 1) * s.off ≤ s.many - (valsA s.kept).sum
  l2 : s.many - (valsA s.kept).sum ≤ 2 * s.room * s.off

section
variable {P : Program} {w : World} {K : PySem.W.Frag} {mg : Str → Option Value} {base : Heap}

def spCheckRoom : Sp := fun vs H Q _ => ∃ i a b : Int, vs = [.int i, .int a, .int b] ∧ a ≤ i ∧ i ≤ b ∧ Q .non H
theorem c_check_room (T : Txt mg) (c1 : C8.Cal P w K mg base 2 "is_between" spIsBetween []) (D : DefE K mg "check_room" (top 35)) : C8.Cal P w K mg base 3 "check_room" spCheckRoom [] := by
  refine cal_of (N := ["thing", "least", "most"]) (ps := ["thing", "least", "most"]) D (C8.fnScope_by (by decide +kernel)) (fun _ _ _ _ _ _ us hl => match us, hl with | [_, _, _], _ => rfl) (fun vs H Q E h => ?_) (fun f cdv A outer s H vs Q E hr h => ?_)
  · obtain ⟨i, a, b, rfl, _⟩ := h
    rfl
  · obtain ⟨i, a, b, rfl, h1, h2, k⟩ := h
    refine ⟨_, pss_one (ps_if (pt_not (pt_val (pe_c c1 hr (by decide) rfl (pa_cons (pv 0) (pa_cons (pv 1) (pa_cons (pv 2) pa_nil)))))) pss_never pss_nil), ?_⟩
    exact ⟨_, rfl, _, rfl, _, rfl, i, a, b, rfl, h1, h2, true, rfl, iteF k⟩

def spLost : Sp := fun vs H Q _ => ∃ (v : V) (s : Sk), vs = [v] ∧ SkAt H v s ∧ s.kept.length ≤ 1000 ∧ ∀ H', Same H H' → Q (.int (s.many - (valsA s.kept).sum)) H'
theorem c_lost_of (T : Txt mg) (D : DefE K mg "lost_of" (top 36)) : C8.Cal P w K mg base 1 "lost_of" spLost [] := by
  have S : FnScope ["sketch", "pair"] ["sketch"] (C8.fnScope (top 36)) := C8.fnScope_by (by decide +kernel)
  refine cal_of D S (fun _ _ _ _ _ _ us hl => match us, hl with | [_], _ => rfl) (fun vs H Q E h => ?_) (fun f cdv A outer s H vs Q E hr h => ?_)
  · obtain ⟨v, s, rfl, _⟩ := h
    rfl
  · obtain ⟨v, sk, rfl, ⟨a, kv, rfl, ha, b, xs, rfl, hz, hp⟩, hl, k⟩ := h
    have nd := S.nd
    refine ⟨_, pss_one (ps_ret (pe_op op_sub (pe_ix ix_tup (pv 0) (C8.pe_gc (v := .int 1) rfl T.c_many) (fun _ _ => rfl))
      (pe_callB (cr_sum rfl) rfl T.n_sum boot_sum' (pa_cons (pe_lc (own := [("pair", 1)]) (g := gName 1) (tt := tYes) rfl nd (pi_tup (pe_ix ix_tup (pv 0) (C8.pe_gc (v := .int 3) rfl T.c_kept) (fun _ _ => rfl)))
        (blkOk_by (own := [("pair", 1)]) (N := ["sketch", "pair"]) (sc := C8.fnScope (top 36)) (by decide +kernel)) (fun _ _ _ _ _ => pg_name (i := 1) nd rfl (Or.inl rfl)) (fun _ _ _ _ _ => pts_nil)
        (fun _ _ _ _ _ => pe_ix (ixT K) (pv 1) pe_int (fun _ _ => rfl))) pa_nil)))), ?_⟩
    refine ⟨_, rfl, a, _, 1, .int sk.many, rfl, rfl, SqT.of ha, rfl, ?_⟩
    refine ⟨_, rfl, a, _, 3, .ref b, rfl, rfl, SqT.of ha, rfl, b, rfl, ⟨_, hz.sq⟩, fun d hd => ?_⟩
    refine lc_y (y_tup xs) (fun i H' => Same H H' ∧ H' d = some (.lst (((valsA sk.kept).take i).map V.int))) (fun i H' _ p => same_sqt p.1 hz.sq) ⟨same_new1 hd, upd_same⟩ (fun i H1 hi ⟨s1, h1⟩ => ?_) fun H1 ⟨s1, h1⟩ => ?_
    · have ev : xs[i]? = some xs[i] := List.getElem?_eq_getElem hi
      obtain ⟨p, ep, c, ec, hc⟩ := paired_at hp ev
      rw [getD_of ev, ec]
      refine ⟨rfl, ?_⟩
      refine ⟨_, rfl, c, _, 1, .int p.2, rfl, rfl, SqT.of (s1 _ _ hc), rfl, _, h1, ?_, same_new s1 hd, ?_⟩
      · rw [List.length_map, List.length_take]; exact small1000 (by have := paired_len hp; omega)
      · have ek : (valsA sk.kept)[i]? = some p.2 := by unfold valsA; rw [List.getElem?_map, ep]; rfl
        rw [upd_same, List.take_add_one, ek, List.map_append]
        rfl
    · have e : (valsA sk.kept).take xs.length = valsA sk.kept := List.take_of_length_le (by unfold valsA; rw [List.length_map, paired_len hp]; exact Nat.le_refl _)
      rw [e] at h1
      refine ⟨d, valsA sk.kept, rfl, SqL.of h1, _, _, rfl, rfl, k H1 s1⟩

def spIsSketch : Sp := fun vs H Q _ => ∃ (v : V) (s : Sk), vs = [v] ∧ SkAt H v s ∧ SkOk s ∧ ∀ H', Same H H' → Q (.bl true) H'
theorem c_is_sketch (T : Txt mg) (c1 : C8.Cal P w K mg base 1 "is_tuple_of" spIsTupleOf []) (c2 : C8.Cal P w K mg base 2 "is_between" spIsBetween []) (c3 : C8.Cal P w K mg base 2 "is_count" spIsCount []) (c4 : C8.Cal P w K mg base 2 "are_counts" spAreCounts [])
    (c5 : C8.Cal P w K mg base 1 "lost_of" spLost []) (D : DefE K mg "is_sketch" (top 37)) : C8.Cal P w K mg base 3 "is_sketch" spIsSketch [] := by
  have S : FnScope ["thing", "room", "off"] ["thing"] (C8.fnScope (top 37)) := C8.fnScope_by (by decide +kernel)
  refine cal_of D S (fun _ _ _ _ _ _ us hl => match us, hl with | [_], _ => rfl) (fun vs H Q E h => ?_) (fun f cdv A outer s H vs Q E hr h => ?_)
  · obtain ⟨v, s, rfl, _⟩ := h
    rfl
  · obtain ⟨v, sk, rfl, hsk, hok, k⟩ := h
    obtain ⟨a, kv, rfl, ha, hkv⟩ := id hsk
    have nd := S.nd
    refine ⟨_, pss_cons (ps_if (PW.pt (pw_or (pt_not (pt_val (pe_c c1 hr (by decide) rfl (pa_cons (pv 0) (pa_cons pe_int pa_nil)))))
        (pw_or1 (pt_not (pt_val (pe_c c2 hr (by decide) rfl (pa_cons (pe_ix ix_tup (pv 0) (C8.pe_gc (v := .int 0) rfl T.c_room) (fun _ _ => rfl)) (pa_cons pe_int (pa_cons (C8.pe_gc (v := .int 64) rfl T.c_mroom) pa_nil))))))))) pss_never pss_nil)
      (pss_cons (ps_if (PW.pt (pw_or (pt_not (pt_val (pe_c c3 hr (by decide) rfl (pa_cons (pe_ix ix_tup (pv 0) (C8.pe_gc (v := .int 1) rfl T.c_many) (fun _ _ => rfl)) pa_nil))))
        (pw_or (pt_not (pt_val (pe_c c3 hr (by decide) rfl (pa_cons (pe_ix ix_tup (pv 0) (C8.pe_gc (v := .int 2) rfl T.c_off) (fun _ _ => rfl)) pa_nil))))
        (pw_or1 (pt_not (pt_val (pe_c c4 hr (by decide) rfl (pa_cons (pe_ix ix_tup (pv 0) (C8.pe_gc (v := .int 3) rfl T.c_kept) (fun _ _ => rfl)) pa_nil)))))))) pss_never pss_nil)
      (pss_cons (ps_par (i := 1) (j := 2) rfl nd rfl rfl (by decide) rfl rfl (pa_cons (pe_ix ix_tup (pv 0) (C8.pe_gc (v := .int 0) rfl T.c_room) (fun _ _ => rfl)) (pa_cons (pe_ix ix_tup (pv 0) (C8.pe_gc (v := .int 2) rfl T.c_off) (fun _ _ => rfl)) pa_nil)) (by rfl))
      (pss_one (ps_ret (pe_and (pe_cmpR op_le (pe_callB call_len_seq rfl T.n_len boot_len' (pa_cons (pe_ix ix_tup (pv 0) (C8.pe_gc (v := .int 3) rfl T.c_kept) (fun _ _ => rfl)) pa_nil)) (pv 1) (nomark _))
        (pe_one (pe_chain op_le op_le (pe_op op_mul (pe_op op_add (pv 1) pe_int) (pv 2)) (pe_c c5 hr (by decide) rfl (pa_cons (pv 0) pa_nil)) (pe_op op_mul (pe_op op_mul pe_int (pv 1)) (pv 2))))))))), ?_⟩
    have r1 := hok.r1
    have r2 := hok.r2
    have sq : SqT K H a [.int sk.room, .int sk.many, .int sk.off, kv] := SqT.of ha
    refine ⟨_, rfl, a, _, 4, rfl, ha, true, rfl, iteF ?_⟩
    refine ⟨_, rfl, a, _, 0, .int sk.room, rfl, rfl, sq, rfl, sk.room, 1, 64, rfl, r1, r2, true, rfl, iteF ?_⟩
    refine ⟨_, rfl, a, _, 1, .int sk.many, rfl, rfl, sq, rfl, sk.many, rfl, hok.many, true, rfl, iteF ?_⟩
    refine ⟨_, rfl, a, _, 2, .int sk.off, rfl, rfl, sq, rfl, sk.off, rfl, hok.off, true, rfl, iteF ?_⟩
    refine ⟨_, rfl, a, _, 3, kv, rfl, rfl, sq, rfl, kv, sk.kept, rfl, hkv, hok.cnt, fun H1 s1 => ⟨true, rfl, iteF ?_⟩⟩
    have sq1 : SqT K H1 a [.int sk.room, .int sk.many, .int sk.off, kv] := same_sqt s1 sq
    refine ⟨_, rfl, a, _, 0, .int sk.room, rfl, rfl, sq1, rfl, _, rfl, a, _, 2, .int sk.off, rfl, rfl, sq1, rfl, _, _, rfl, ?_⟩
    obtain ⟨b, xs, rfl, hz, hp⟩ := hkv.mono (tk_of s1)
    refine ⟨_, rfl, a, _, 3, .ref b, rfl, rfl, sq1, rfl, b, xs, rfl, .inr hz.sq, _, rfl, _, _, rfl, rfl, true, ?_, iteT ?_⟩
    · show V.bl (decide ((xs.length : Int) ≤ sk.room)) = V.bl true
      rw [decide_eq_true (by have := paired_len hp; have := hok.len; omega)]
    refine ⟨_, rfl, _, _, rfl, rfl, _, rfl, _, _, rfl, rfl, .inl ⟨by omega, by omega⟩, ?_⟩
    refine ⟨_, rfl, .ref a, sk, rfl, hsk.mono (tk_of s1), hok.cnt.len, fun H2 s2 => ?_⟩
    refine ⟨_, _, rfl, rfl, true, ?_, iteT ?_⟩
    · show V.bl (decide ((sk.room + 1) * sk.off ≤ sk.many - (valsA sk.kept).sum)) = V.bl true
      rw [decide_eq_true hok.l1]
    refine ⟨_, rfl, _, _, rfl, rfl, .inl ⟨by decide, by decide⟩, _, rfl, _, _, rfl, rfl, .inl ⟨by omega, by omega⟩, _, _, rfl, rfl, ?_⟩
    show Q (.bl (decide (sk.many - (valsA sk.kept).sum ≤ 2 * sk.room * sk.off))) H2
    rw [decide_eq_true hok.l2]
    exact k H2 (s1.trans s2)

def spCheckSketch : Sp := fun vs H Q _ => ∃ (v : V) (s : Sk), vs = [v] ∧ SkAt H v s ∧ SkOk s ∧ ∀ H', Same H H' → Q .non H'
theorem c_check_sketch (T : Txt mg) (c1 : C8.Cal P w K mg base 3 "is_sketch" spIsSketch []) (D : DefE K mg "check_sketch" (top 38)) : C8.Cal P w K mg base 4 "check_sketch" spCheckSketch [] := by
  refine cal_of (N := ["thing"]) (ps := ["thing"]) D (C8.fnScope_by (by decide +kernel)) (fun _ _ _ _ _ _ us hl => match us, hl with | [_], _ => rfl) (fun vs H Q E h => ?_) (fun f cdv A outer s H vs Q E hr h => ?_)
  · obtain ⟨v, s, rfl, _⟩ := h
    rfl
  · obtain ⟨v, sk, rfl, h1, h2, k⟩ := h
    refine ⟨_, pss_one (ps_if (pt_not (pt_val (pe_c c1 hr (by decide) rfl (pa_cons (pv 0) pa_nil)))) pss_never pss_nil), ?_⟩
    exact ⟨_, rfl, v, sk, rfl, h1, h2, fun H1 s1 => ⟨true, rfl, iteF (k H1 s1)⟩⟩

def spBare : Sp := fun vs H Q _ => ∃ (r : Int), vs = [.int r] ∧ ∀ (v : V) (H' : Hp), Same H H' → SkAt H' v ⟨r, 0, 0, []⟩ → Q v H'
theorem c_raw_bare (T : Txt mg) (D : DefE K mg "raw_bare" (top 39)) : C8.Cal P w K mg base 1 "raw_bare" spBare [] := by
  refine cal_of (N := ["room"]) (ps := ["room"]) D (C8.fnScope_by (by decide +kernel)) (fun _ _ _ _ _ _ us hl => match us, hl with | [_], _ => rfl) (fun vs H Q E h => ?_) (fun f cdv A outer s H vs Q E hr h => ?_)
  · obtain ⟨r, rfl, _⟩ := h
    rfl
  · obtain ⟨r, rfl, k⟩ := h
    refine ⟨_, pss_one (ps_ret (pe_tup (pa_cons (pv 0) (pa_cons pe_int (pa_cons pe_int (pa_cons (pe_tupZ pa_nil) pa_nil)))))), ?_⟩
    refine ⟨_, rfl, Nat.zero_le _, fun p o ho hp => ⟨(by show 4 ≤ sizeLine; decide), fun q hq => ?_⟩⟩
    have npq : p ≠ q := fun e => by subst e; rw [upd_same] at hq; cases hq
    have s1 : Same H (upd H p (.frz o (.tup []))) := same_new1 hp
    have s2 := same_new1 (o := HO.tup [.int r, .int 0, .int 0, .ref p]) hq
    exact k (.ref q) _ (s1.trans s2) ⟨q, .ref p, rfl, upd_same, p, [], rfl, ⟨o, ho, by rw [upd_ne npq, upd_same]⟩, .nil⟩
end
end KN
namespace KN
open PySem PySem.Spec PyProof.Rows L2

theorem enc_paired {H : Hp} {v : V} {l : List (Str × Int)} (h : KeptAt H v l) : ∃ (a : Addr) (ps : List Addr), v = .ref a ∧ ZT H a (ps.map V.ref) ∧ Paired (fun (p : Addr) (kv : Key × V) => H p = some (.tup [kV kv.1, kv.2])) ps (enc l) := by
  obtain ⟨a, vs, rfl, z, p⟩ := h
  obtain ⟨ps, rfl, q⟩ := paired_refs p
  exact ⟨a, ps, rfl, z, q⟩
theorem vals_mem {l : List (Str × Int)} {j : Int} (h : j ∈ valsA l) : ∃ p ∈ l, p.2 = j := List.mem_map.mp h
theorem subA_take_all (t : Int) (l : List (Str × Int)) : subA t (l.take l.length) = subA t l := by rw [List.take_length]
theorem take_key {l : List (Str × Int)} {i : Nat} {p : Str × Int} (h : l[i]? = some p) : l.take (i + 1) = l.take i ++ [p] := by
  rw [List.take_add_one, h]; rfl
theorem sub_put {t : Int} {l : List (Str × Int)} (nd : (keysA l).Nodup) {i : Nat} {p : Str × Int} (h : l[i]? = some p) (ht : t < p.2) : putA (subA t (l.take i)) p.1 (p.2 - t) = subA t (l.take (i + 1)) := by
  rw [take_key h, subA_snoc, if_pos ht]
  exact put_out fun z => keys_take nd h (sub_keys z)
section
variable {P : Program} {w : World} {K : PySem.W.Frag} {mg : Str → Option Value} {base : Heap}

def spFed : Sp := fun vs H Q _ => ∃ (v : V) (s : Sk) (n : Str) (r : Nat), vs = [v, .str n, .int 1] ∧ SkAt H v s ∧ (keysA s.kept).Nodup ∧ (∀ p ∈ s.kept, 1 ≤ p.2) ∧ s.room = r ∧ 1 ≤ r ∧ s.kept.length ≤ r ∧ s.kept.length ≤ 62 ∧
  ∀ (v' : V) (s' : Sk) (H' : Hp), Same H H' → SkAt H' v' s' → s'.room = s.room → s'.many = s.many + 1 → Rel ltS (fedA r (s.off, s.kept) n) s'.off s'.kept → Q v' H'
theorem c_raw_fed_many (T : Txt mg) (c1 : C8.Cal P w K mg base 1 "as_counts" spAsCounts []) (D : DefE K mg "raw_fed_many" (top 40)) : C8.Cal P w K mg base 2 "raw_fed_many" spFed [] := by
  have S : FnScope ["sketch", "name", "times", "room", "many", "off", "kept", "counts", "left", "least", "other"] ["sketch", "name", "times"] (C8.fnScope (top 40)) := C8.fnScope_by (by decide +kernel)
  refine cal_of D S (fun _ _ _ _ _ _ us hl => match us, hl with | [_, _, _], _ => rfl) (fun vs H Q E h => ?_) (fun f cdv A outer s H vs Q E hr h => ?_)
  · obtain ⟨v, s, n, r, rfl, _⟩ := h
    rfl
  · obtain ⟨v, sk, n, r, rfl, ⟨a, kv, rfl, ha, hkv⟩, hnd, hpos, er, hr1, hlr, hl62, k⟩ := h
    have nd := S.nd
    have hu := hu_of hr
    refine ⟨_, pss_cons (ps_asg (pv 0) (pg_tup rfl (pgs_cons (pg_name (i := 3) nd rfl (Or.inl rfl)) (pgs_cons (pg_name (i := 4) nd rfl (Or.inl rfl)) (pgs_cons (pg_name (i := 5) nd rfl (Or.inl rfl)) (pgs_cons (pg_name (i := 6) nd rfl (Or.inl rfl)) pgs_nil))))))
      (pss_cons (ps_set (i := 7) nd rfl (Or.inr rfl) (pe_callTy (call_dictT rfl) rfl T.n_dict boot_dict' (pa_cons (pv 6) pa_nil)))
      (pss_cons (ps_set (i := 8) nd rfl (Or.inl rfl) (pv 2))
      (pss_cons (ps_while PassesOwn.never (pt_cmpR op_gt (pv 8) pe_int (nomark _))
        (pss_one (ps_if (PW.pt (pw_or (pt_cmp (pc_din hu (pv 1) (pv 7))) (pw_or1 (pt_cmpR op_lt (pe_callB call_lenD rfl T.n_len boot_len' (pa_cons (pv 7) pa_nil)) (pv 3) (nomark _)))))
          (pss_cons (ps_dput hu (pv 7) (pv 1) (pe_op op_add (pe_dget2 hu (pv 7) (pv 1) pe_int ⟨rfl, rfl, rfl, rfl⟩) (pv 8)) rfl)
            (pss_one (ps_set (i := 8) nd rfl (Or.inl rfl) pe_int)))
          (pss_cons (ps_set (i := 9) nd rfl (Or.inr rfl) (pe_callB (call_min2 rfl) rfl T.n_min boot_min' (pa_cons (pv 8) (pa_cons (pe_minVals rfl rfl T.n_min (pv 7)) pa_nil))))
            (pss_cons (ps_set (i := 7) nd rfl (Or.inr rfl) (pe_lock (pe_dc (own := [("other", 10)]) (g := gName 10) rfl nd (pi_keys (pv 7))
                (blkOk_by (own := [("other", 10)]) (N := ["sketch", "name", "times", "room", "many", "off", "kept", "counts", "left", "least", "other"]) (sc := C8.fnScope (top 40)) (by decide +kernel)) (fun _ _ _ _ _ => pg_name (i := 10) nd rfl (Or.inl rfl))
                (fun _ _ _ _ _ => pts_one (pt_cmpR op_gt (pe_dget hu (pv 7) (pv 10) (fun _ _ => rfl)) (pv 9) (nomark _)))
                (fun _ _ _ _ _ => pv 10)
                (fun _ _ _ _ _ => pe_op op_sub (pe_dget hu (pv 7) (pv 10) (fun _ _ => rfl)) (pv 9)))))
            (pss_cons (ps_aug (i := 5) nd rfl (Or.inl rfl) (pv 9) ip_add)
              (pss_one (ps_aug (i := 8) nd rfl (Or.inl rfl) (pv 9) ip_sub))))))))
      (pss_one (ps_ret (pe_tup (pa_cons (pv 3) (pa_cons (pe_op op_add (pv 4) (pv 2)) (pa_cons (pv 5) (pa_cons (pe_c c1 hr (by decide) rfl (pa_cons (pv 7) pa_nil)) pa_nil)))))))))), ?_⟩
    have sq : SqT K H a [.int sk.room, .int sk.many, .int sk.off, kv] := SqT.of ha
    refine ⟨_, rfl, a, _, rfl, sq, rfl, _, _, rfl, _, _, rfl, _, _, rfl, _, _, rfl, rfl, ?_⟩
    obtain ⟨b, ps, rfl, hz, hp⟩ := enc_paired hkv
    refine ⟨_, rfl, b, ps, enc sk.kept, rfl, hz, paired_sq hp, fun d hd => ?_⟩
    rw [merge_enc hnd]
    refine ⟨_, rfl, ?_⟩
    have s0 : Same H (upd H d (.dK (enc sk.kept))) := same_new1 hd
    refine ⟨fun m σ H' => Same H H' ∧ ((m = 1 ∧ ∃ d, H d = none ∧ σ = [some (.ref a), some (.str n), some (.int 1), some (.int sk.room), some (.int sk.many), some (.int sk.off), some (.ref b), some (.ref d), some (.int 1), none, none] ∧ H' d = some (.dK (enc sk.kept))) ∨
      (m = 0 ∧ ∃ d x y, σ = [some (.ref a), some (.str n), some (.int 1), some (.int sk.room), some (.int sk.many), some (.int (fedA r (sk.off, sk.kept) n).1), some (.ref b), some (.ref d), some (.int 0), x, y] ∧ H' d = some (.dK (enc (fedA r (sk.off, sk.kept) n).2)))), ⟨1, s0, .inl ⟨rfl, d, hd, rfl, upd_same⟩⟩, ?_⟩
    rintro m σ H1 ⟨s1, ⟨rfl, d1, hdn, rfl, h1⟩ | ⟨rfl, d1, x, y, rfl, h1⟩⟩
    · refine ⟨_, rfl, _, _, rfl, rfl, true, rfl, ?_⟩
      refine iteT ⟨fun σ' H' => Same H H' ∧ ∃ d x y, σ' = [some (.ref a), some (.str n), some (.int 1), some (.int sk.room), some (.int sk.many), some (.int (fedA r (sk.off, sk.kept) n).1), some (.ref b), some (.ref d), some (.int 0), x, y] ∧ H' d = some (.dK (enc (fedA r (sk.off, sk.kept) n).2)), fun σ' H' ⟨g1, g2⟩ => ⟨0, Nat.zero_lt_one, g1, .inr ⟨rfl, g2⟩⟩, ?_⟩
      refine ⟨_, rfl, _, rfl, d1, _, rfl, dget_enc n (.inl h1), _, rfl, ?_⟩
      rw [isSome_look]
      by_cases hc : n ∈ keysA sk.kept ∨ sk.kept.length < r
      · have ef : fedA r (sk.off, sk.kept) n = (sk.off, putA sk.kept n (getA sk.kept n + 1)) := if_pos hc
        rw [ef]
        by_cases hin : n ∈ keysA sk.kept
        rw [decide_eq_true hin]
        refine iteT (iteT ?_)
        rotate_left
        rw [decide_eq_false hin]
        refine iteF ⟨_, rfl, d1, _, rfl, h1, _, rfl, _, _, rfl, rfl, _, rfl, ?_⟩
        have c2 : decide (((enc sk.kept).length : Int) < sk.room) = true := decide_eq_true (by
          have := hc.resolve_left hin
          rw [enc_len, er]; omega)
        rw [c2]
        refine iteT ?_
        all_goals
          refine ⟨_, rfl, d1, rfl, .inl ⟨_, .inl h1⟩, _, rfl, _, dget_enc n (.inl h1), ?_⟩
          rw [getD_look]
          refine ⟨_, rfl, _, _, rfl, rfl, _, rfl, _, rfl, d1, _, rfl, dput_enc n (getA sk.kept n + 1) h1 (small64 (by omega)), same_new s1 hdn, d1, _, _, rfl, upd_same⟩
      · have ef : fedA r (sk.off, sk.kept) n = (sk.off + 1, subA 1 sk.kept) := if_neg hc
        have hin : n ∉ keysA sk.kept := fun z => hc (.inl z)
        have hge : ¬ sk.kept.length < r := fun z => hc (.inr z)
        rw [ef, decide_eq_false hin]
        refine iteF ⟨_, rfl, d1, _, rfl, h1, _, rfl, _, _, rfl, rfl, _, rfl, ?_⟩
        have c2 : decide (((enc sk.kept).length : Int) < sk.room) = false := decide_eq_false (by rw [enc_len, er]; omega)
        rw [c2]
        refine iteF ?_
        have hne : valsA sk.kept ≠ [] := fun z => by
          have := congrArg List.length z
          unfold valsA at this
          rw [List.length_map] at this
          simp at this
          rw [this] at hge
          simp at hge
          omega
        refine ⟨_, rfl, _, rfl, d1, enc sk.kept, valsA sk.kept, rfl, h1, vals_enc _, hne, fun mn hm hle => ⟨1, mn, rfl, ?_⟩⟩
        have hmn : ¬ mn < 1 := by
          obtain ⟨q, hq, e⟩ := vals_mem hm
          have := hpos q hq
          omega
        rw [if_neg hmn]
        refine ⟨d1, _, h1, trivial, fun od => ⟨_, rfl, d1, od, rfl, .inl ⟨_, upd_same, fun D hD => ?_⟩⟩⟩
        generalize hHL : upd H1 d1 (.frz od (.dK (enc sk.kept))) = HL at hD ⊢
        have hl1 : HL d1 = some (.frz od (.dK (enc sk.kept))) := by rw [← hHL, upd_same]
        refine dc_y (y_keys sk.kept) (fun i H' => Same HL H' ∧ H' D = some (.dK (enc (subA 1 (sk.kept.take i))))) (fun i H' _ q => q.1 _ _ hl1) ⟨same_new1 hD, upd_same⟩ (fun i H2 hi ⟨s2, h2⟩ => ?_) fun H2 ⟨s2, h2⟩ => ?_
        · have ep : sk.kept[i]? = some sk.kept[i] := List.getElem?_eq_getElem hi
          have hl2 : Rd H2 d1 (.dK (enc sk.kept)) := .inr ⟨od, s2 _ _ hl1⟩
          have hdg : DGet H2 d1 (.str sk.kept[i].1) (some (.int sk.kept[i].2)) := dget_some hl2 (look_at hnd ep)
          rw [key_at ep]
          refine ⟨rfl, ?_⟩
          refine ⟨_, rfl, _, rfl, d1, _, rfl, hdg, _, rfl, _, _, rfl, rfl, _, rfl, ?_⟩
          by_cases h1p : 1 < sk.kept[i].2
          · rw [decide_eq_true h1p]
            refine iteT ⟨_, rfl, _, rfl, _, rfl, d1, _, rfl, hdg, _, rfl, _, _, rfl, rfl, _, Sum.inr sk.kept[i].1, rfl, h2, ?_, same_new s2 hD, ?_⟩
            · rw [enc_len]
              have := sub_len 1 (sk.kept.take i)
              rw [List.length_take] at this
              exact small64 (by omega)
            · rw [upd_same, put_enc, sub_put hnd ep h1p]
          · rw [decide_eq_false h1p]
            refine iteF ⟨s2, ?_⟩
            rw [take_key ep, subA_snoc, if_neg h1p, List.append_nil]
            exact h2
        · rw [subA_take_all] at h2
          have nDd : D ≠ d1 := fun e => by rw [e, hl1] at hD; cases hD
          refine ⟨s2 _ _ hl1, ?_⟩
          refine ⟨_, rfl, _, rfl, _, _, rfl, rfl, _, rfl, _, rfl, _, _, rfl, rfl, s1.trans (same_unlock h1 (by rw [hHL]; exact s2)), D, _, _, rfl, ?_⟩
          rw [upd_ne nDd]
          exact h2
    · refine ⟨_, rfl, _, _, rfl, rfl, false, rfl, ?_⟩
      refine iteF ⟨_, rfl, _, rfl, _, rfl, _, _, rfl, rfl, _, rfl, _, rfl, d1, _, rfl, h1, fed_nd (s := (sk.off, sk.kept)) hnd n, ?_, fun kv' m' H2 s2 hk hasc hlk => ⟨?_, fun p hp => ?_⟩⟩
      · have := fed_len (r := r) (sk.off, sk.kept) n
        have e : (sk.off, sk.kept).2.length = sk.kept.length := rfl
        omega
      · show 4 ≤ sizeLine
        decide
      · have s3 := same_new (o := HO.tup [.int sk.room, .int (sk.many + 1), .int (fedA r (sk.off, sk.kept) n).1, kv']) (Same.refl H2) hp
        exact k (.ref p) ⟨sk.room, sk.many + 1, (fedA r (sk.off, sk.kept) n).1, m'⟩ _ ((s1.trans s2).trans s3) ⟨p, kv', rfl, upd_same, hk.mono (tk_of s3)⟩ rfl rfl
          ⟨rfl, hasc, pos_eqv (fed_nd (s := (sk.off, sk.kept)) hnd n) (fed_pos (s := (sk.off, sk.kept)) hpos n) hlk⟩
end
end KN
namespace KN
open PySem PySem.Spec PyProof.Rows L2

/-- every count less t, none left out -/
def offA (t : Int) (l : List (Str × Int)) : List (Str × Int) := l.map fun p => (p.1, p.2 - t)
theorem keys_off (t : Int) (l : List (Str × Int)) : keysA (offA t l) = keysA l := by
  unfold offA keysA; rw [List.map_map]; rfl
theorem look_off (t : Int) (l : List (Str × Int)) (k : Str) : lookA (offA t l) k = (lookA l k).map (· - t) := by
  induction l with
  | nil => rfl
  | cons p l ih =>
    show lookA ((p.1, p.2 - t) :: offA t l) k = _
    rw [look_cons, look_cons]
    by_cases e : p.1 = k
    · rw [if_pos e, if_pos e]; rfl
    · rw [if_neg e, if_neg e, ih]
theorem off_snoc (t : Int) (l : List (Str × Int)) (p : Str × Int) : offA t (l ++ [p]) = offA t l ++ [(p.1, p.2 - t)] := by
  unfold offA; rw [List.map_append]; rfl
theorem off_put {t : Int} {l : List (Str × Int)} (nd : (keysA l).Nodup) {i : Nat} {p : Str × Int} (h : l[i]? = some p) : putA (offA t (l.take i)) p.1 (p.2 - t) = offA t (l.take (i + 1)) := by
  rw [take_key h, off_snoc]
  exact put_out fun z => keys_take nd h (by rw [keys_off] at z; exact z)
theorem off_sub {t : Int} {l m : List (Str × Int)} (nd : (keysA l).Nodup) (h : ∀ k, lookA m k = (lookA (offA t l) k).bind fun c => if 0 < c then some c else none) : Eqv m (subA t l) := fun k => by
  rw [h k, look_off, look_sub nd]
  cases lookA l k with
  | none => rfl
  | some c =>
    show (if 0 < c - t then some (c - t) else none) = if t < c then some (c - t) else none
    by_cases e : t < c
    · rw [if_pos e, if_pos (by omega)]
    · rw [if_neg e, if_neg (by omega)]
theorem addA_snoc (l m : List (Str × Int)) (p : Str × Int) : addA l (m ++ [p]) = putA (addA l m) p.1 (getA (addA l m) p.1 + p.2) := by
  unfold addA; rw [List.foldl_append]; rfl
/-- a if t else b: one value for both ways -/
theorem tIf_one {c : TT} {ta tb : TE} {σ : L2.St} {H : Hp} {Q : VK} (y : V) (b : Bool) (hc : ∀ R : Bool → Hp → Prop, R b H → c σ H R) (hT : b = true → ∀ R : VK, R y H → ta σ H R) (hF : b = false → ∀ R : VK, R y H → tb σ H R) (h : Q y H) : tIf c ta tb σ H Q := by
  refine hc _ ?_
  show if b = true then ta σ H Q else tb σ H Q
  cases b with
  | true => exact iteT (hT rfl Q h)
  | false => exact iteF (hF rfl Q h)
section
variable {P : Program} {w : World} {K : PySem.W.Frag} {mg : Str → Option Value} {base : Heap}

def spPour : Sp := fun vs H Q _ => ∃ (v u : V) (s z : Sk) (r : Nat), vs = [v, u] ∧ SkAt H v s ∧ SkAt H u z ∧ (keysA s.kept).Nodup ∧ (keysA z.kept).Nodup ∧ s.room = r ∧ s.kept.length ≤ 1000 ∧ z.kept.length ≤ 1000 ∧ (addA s.kept z.kept).length < 64 ∧
  ∀ (v' : V) (s' : Sk) (H' : Hp), Same H H' → SkAt H' v' s' → s'.room = s.room → s'.many = s.many + z.many → Rel ltS (pourA r (s.off, s.kept) (z.off, z.kept)) s'.off s'.kept → Q v' H'
theorem c_raw_poured (T : Txt mg) (c1 : C8.Cal P w K mg base 1 "as_counts" spAsCounts []) (D : DefE K mg "raw_poured" (top 41)) : C8.Cal P w K mg base 2 "raw_poured" spPour [] := by
  have S : FnScope ["one", "other", "room", "counts", "name", "count", "falling", "taken", "left"] ["one", "other"] (C8.fnScope (top 41)) := C8.fnScope_by (by decide +kernel)
  refine cal_of D S (fun _ _ _ _ _ _ us hl => match us, hl with | [_, _], _ => rfl) (fun vs H Q E h => ?_) (fun f cdv A outer s H vs Q E hr h => ?_)
  · obtain ⟨v, u, s, z, r, rfl, _⟩ := h
    rfl
  · obtain ⟨v, u, sk, zk, r, rfl, ⟨a, kv, rfl, ha, hkv⟩, ⟨b, kw, rfl, hb, hkw⟩, nd1, nd2, er, hl1, hl2, h64, k⟩ := h
    have nd := S.nd
    have hu := hu_of hr
    refine ⟨_, pss_cons (ps_set (i := 2) nd rfl (Or.inl rfl) (pe_ix ix_tup (pv 0) (C8.pe_gc (v := .int 0) rfl T.c_room) (fun _ _ => rfl)))
      (pss_cons (ps_set (i := 3) nd rfl (Or.inr rfl) (pe_callTy (call_dictT rfl) rfl T.n_dict boot_dict' (pa_cons (pe_ix ix_tup (pv 0) (C8.pe_gc (v := .int 3) rfl T.c_kept) (fun _ _ => rfl)) pa_nil)))
      (pss_cons (ps_for PassesOwn.never rfl (pi_tup (pe_ix ix_tup (pv 1) (C8.pe_gc (v := .int 3) rfl T.c_kept) (fun _ _ => rfl))) (pg_tup rfl (pgs_cons (pg_name (i := 4) nd rfl (Or.inl rfl)) (pgs_cons (pg_name (i := 5) nd rfl (Or.inl rfl)) pgs_nil)))
        (pss_one (ps_dput hu (pv 3) (pv 4) (pe_op op_add (pe_dget2 hu (pv 3) (pv 4) pe_int ⟨rfl, rfl, rfl, rfl⟩) (pv 5)) rfl)))
      (pss_cons (ps_set (i := 6) nd rfl (Or.inl rfl) (pe_callBK (cr_sortedVals rfl) rfl T.n_sorted boot_sorted' (pa_cons (pe_bm0 PySem.F.plainAttrs_dict PySem.F.slot_dict_values PySem.F.type_dict_values mt_vals (pv 3)) pa_nil) (pk_cons pe_bl pk_nil)))
      (pss_cons (ps_set (i := 7) nd rfl (Or.inr rfl) (pe_ifExp (pt_cmpR op_gt (pe_callB call_len_seq rfl T.n_len boot_len' (pa_cons (pv 6) pa_nil)) (pv 2) (nomark _)) (pe_ix ix_list (pv 6) (pv 2) (fun _ _ => rfl)) pe_int))
      (pss_cons (ps_lock (ps_setDc (i := 8) (own := [("name", 4)]) (g := gName 4) (tt := tYes) rfl nd rfl rfl (sw_trueD rfl rfl rfl (by decide +kernel)) (pi_keys (pv 3))
        (blkOk_by (own := [("name", 4)]) (N := ["one", "other", "room", "counts", "name", "count", "falling", "taken", "left"]) (sc := C8.fnScope (top 41)) (by decide +kernel)) (fun _ _ _ _ _ => pg_name (i := 4) nd rfl (Or.inl rfl))
        (fun _ _ _ _ _ => pts_nil) (fun _ _ _ _ _ => pv 4) (fun _ _ _ _ _ => pe_op op_sub (pe_dget hu (pv 3) (pv 4) (fun _ _ => rfl)) (pv 7))))
      (pss_one (ps_ret (pe_tup (pa_cons (pv 2)
        (pa_cons (pe_op op_add (pe_ix ix_tup (pv 0) (C8.pe_gc (v := .int 1) rfl T.c_many) (fun _ _ => rfl)) (pe_ix ix_tup (pv 1) (C8.pe_gc (v := .int 1) rfl T.c_many) (fun _ _ => rfl)))
        (pa_cons (pe_op op_add (pe_op op_add (pe_ix ix_tup (pv 0) (C8.pe_gc (v := .int 2) rfl T.c_off) (fun _ _ => rfl)) (pe_ix ix_tup (pv 1) (C8.pe_gc (v := .int 2) rfl T.c_off) (fun _ _ => rfl))) (pv 7))
        (pa_cons (pe_c c1 hr (by decide) rfl (pa_cons (pv 8) pa_nil)) pa_nil)))))))))))), ?_⟩
    have sq1 : SqT K H a [.int sk.room, .int sk.many, .int sk.off, kv] := SqT.of ha
    have sq2 : SqT K H b [.int zk.room, .int zk.many, .int zk.off, kw] := SqT.of hb
    obtain ⟨a3, ps, rfl, hz, hp⟩ := enc_paired hkv
    obtain ⟨b3, xs, rfl, hzw, hpw⟩ := id hkw
    refine ⟨_, rfl, a, _, 0, .int sk.room, rfl, rfl, sq1, rfl, ?_⟩
    refine ⟨_, rfl, a, _, 3, .ref a3, rfl, rfl, sq1, rfl, a3, ps, enc sk.kept, rfl, hz, paired_sq hp, fun d hd => ?_⟩
    rw [merge_enc nd1]
    have s0 : Same H (upd H d (.dK (enc sk.kept))) := same_new1 hd
    refine ⟨_, rfl, b, _, 3, .ref b3, rfl, rfl, same_sqt s0 sq2, rfl, b3, rfl, ⟨_, same_sqt s0 hzw.sq⟩, ?_⟩
    have hxl := paired_len hpw
    refine for_y (y_tup xs) (fun i σ H' => Same H H' ∧ ∃ (x y : Option V), σ = [some (.ref a), some (.ref b), some (.int sk.room), some (.ref d), x, y, none, none, none] ∧ H' d = some (.dK (enc (addA sk.kept (zk.kept.take i)))))
      (fun i σ H' _ p => same_sqt p.1 hzw.sq) ⟨s0, none, none, rfl, upd_same⟩ (fun i σ H1 hi ⟨s1, x, y, hσ, h1⟩ => ?_) fun σ H1 ⟨s1, x, y, hσ, h1⟩ => ?_
    · subst hσ
      have ev : xs[i]? = some xs[i] := List.getElem?_eq_getElem hi
      obtain ⟨p, ep, c, ec, hc⟩ := paired_at hpw ev
      rw [getD_of ev, ec]
      refine ⟨c, _, rfl, SqT.of (s1 _ _ hc), rfl, _, _, rfl, _, _, rfl, rfl, ?_⟩
      refine ⟨_, rfl, d, rfl, .inl ⟨_, .inl h1⟩, _, rfl, _, dget_enc p.1 (.inl h1), ?_⟩
      rw [getD_look]
      refine ⟨_, rfl, _, _, rfl, rfl, _, rfl, _, rfl, d, _, rfl, dput_enc p.1 (getA (addA sk.kept (zk.kept.take i)) p.1 + p.2) h1 (small64 ?_), same_new s1 hd, _, _, rfl, ?_⟩
      · have := len_add (zk.kept.take i) sk.kept
        rw [List.length_take] at this
        omega
      · rw [upd_same, take_key ep, addA_snoc]
    · subst hσ
      have e : zk.kept.take xs.length = zk.kept := List.take_of_length_le (by omega)
      rw [e] at h1
      generalize hL : addA sk.kept zk.kept = L at h1 h64 k
      have ndL : (keysA L).Nodup := by rw [← hL]; exact nd_add nd1
      have eP : pourA r (sk.off, sk.kept) (zk.off, zk.kept) = (sk.off + zk.off + takenA r L, subA (takenA r L) L) := by rw [← hL]; rfl
      refine ⟨_, rfl, .inr (.inr (.inl ⟨rfl, .inl ⟨_, h1⟩⟩)), d, _, rfl, rfl, h1, fun p hp => ?_⟩
      have npd : d ≠ p := ne_of_none h1 hp
      refine ⟨p, d, _, valsA L, rfl, rfl, upd_same, by rw [upd_ne npd]; exact h1, vals_enc L, fun ns' q hperm hdesc hq => ?_⟩
      have en : ns' = falls L := falls_uniq hdesc hperm
      subst en
      have s2 : Same H1 (upd (upd H1 p (valsO p d)) q (.lst ((falls L).map V.int))) := (same_new1 hp).trans (same_new1 hq)
      have h2q : (upd (upd H1 p (valsO p d)) q (.lst ((falls L).map V.int))) q = some (.lst ((falls L).map V.int)) := upd_same
      generalize upd (upd H1 p (valsO p d)) q (.lst ((falls L).map V.int)) = H2 at s2 h2q ⊢
      have fl : ((falls L).map V.int).length = L.length := by rw [List.length_map, falls_len]
      have s12 := s1.trans s2
      dsimp only [gName, tSeq, tAsg]
      refine tIf_one (.int (takenA r L)) (decide (r < L.length)) (fun R h => ?_) (fun hb R h => ?_) (fun hb R h => ?_) ?_
      · refine ⟨_, rfl, q, _, rfl, .inl (SqL.of h2q), _, rfl, _, _, rfl, rfl, _, rfl, ?_⟩
        rw [fl]
        have : decide (sk.room < (L.length : Int)) = decide (r < L.length) := by rw [er]; exact decide_eq_decide.mpr (by omega)
        rw [this]
        exact h
      · have hb := of_decide_eq_true hb
        have hi : atI ((falls L).map V.int) sk.room = some (.int (takenA r L)) := at_of (j := r) er (by rw [List.getElem?_map, taken_at hb]; rfl)
        exact ⟨_, rfl, _, rfl, q, _, _, _, rfl, rfl, SqL.of h2q, hi, h⟩
      · have hb := of_decide_eq_false hb
        have : takenA r L = 0 := if_neg hb
        rw [this] at h
        exact h
      · have hd2 : H2 d = some (.dK (enc L)) := s2 _ _ h1
        generalize takenA r L = t at eP ⊢
        refine ⟨d, _, hd2, trivial, fun od => ⟨_, rfl, d, od, rfl, .inl ⟨_, upd_same, fun D hD => ?_⟩⟩⟩
        generalize hHL : upd H2 d (.frz od (.dK (enc L))) = HL at hD ⊢
        have hl1' : HL d = some (.frz od (.dK (enc L))) := by rw [← hHL, upd_same]
        refine dc_y (y_keys L) (fun i H' => Same HL H' ∧ H' D = some (.dK (enc (offA t (L.take i))))) (fun i H' _ q => q.1 _ _ hl1') ⟨same_new1 hD, upd_same⟩ (fun i H3 hi ⟨s3, h3⟩ => ?_) fun H3 ⟨s3, h3⟩ => ?_
        · have ep : L[i]? = some L[i] := List.getElem?_eq_getElem hi
          have hdg : DGet H3 d (.str L[i].1) (some (.int L[i].2)) := dget_some (.inr ⟨od, s3 _ _ hl1'⟩) (look_at ndL ep)
          rw [key_at ep]
          refine ⟨rfl, _, rfl, _, rfl, _, rfl, d, _, rfl, hdg, _, rfl, _, _, rfl, rfl, _, Sum.inr L[i].1, rfl, h3, ?_, same_new s3 hD, ?_⟩
          · rw [enc_len]
            unfold offA
            rw [List.length_map, List.length_take]
            exact small64 (by omega)
          · rw [upd_same, put_enc, off_put ndL ep]
        · have nDd : D ≠ d := fun e => by rw [e, hl1'] at hD; cases hD
          rw [List.take_length] at h3
          refine ⟨s3 _ _ hl1', ?_⟩
          have s13 : Same H (upd H3 d (.dK (enc L))) := s12.trans (same_unlock hd2 (by rw [hHL]; exact s3))
          have hD3 : (upd H3 d (.dK (enc L))) D = some (.dK (enc (offA t L))) := by rw [upd_ne nDd]; exact h3
          generalize upd H3 d (.dK (enc L)) = H4 at s13 hD3 ⊢
          have q1 := same_sqt s13 sq1
          have q2 := same_sqt s13 sq2
          refine ⟨_, rfl, _, rfl, a, _, 1, .int sk.many, rfl, rfl, q1, rfl, _, rfl, b, _, 1, .int zk.many, rfl, rfl, q2, rfl, _, _, rfl, rfl, ?_⟩
          refine ⟨_, rfl, a, _, 2, .int sk.off, rfl, rfl, q1, rfl, _, rfl, b, _, 2, .int zk.off, rfl, rfl, q2, rfl, _, _, rfl, rfl, _, rfl, _, _, rfl, rfl, ?_⟩
          refine ⟨_, rfl, D, _, rfl, hD3, by rw [keys_off]; exact ndL, by unfold offA; rw [List.length_map]; exact h64, fun kv' m' H5 s5 hk hasc hlk => ⟨by show 4 ≤ sizeLine; decide, fun p' hp' => ?_⟩⟩
          have s6 := same_new (o := HO.tup [.int sk.room, .int (sk.many + zk.many), .int (sk.off + zk.off + t), kv']) (Same.refl H5) hp'
          refine k (.ref p') ⟨sk.room, sk.many + zk.many, sk.off + zk.off + t, m'⟩ _ ((s13.trans s5).trans s6) ⟨p', kv', rfl, upd_same, hk.mono (tk_of s6)⟩ rfl rfl ?_
          rw [eP]
          exact ⟨rfl, hasc, off_sub ndL hlk⟩
end
end KN
namespace KN
open PySem PySem.Spec PyProof.Rows L2

theorem nd_len {α : Type} [DecidableEq α] : ∀ {l m : List α}, l.Nodup → (∀ x ∈ l, x ∈ m) → l.length ≤ m.length
  | [], _, _, _ => Nat.zero_le _
  | a :: l, m, nd, h => by
    obtain ⟨n1, n2⟩ := List.nodup_cons.mp nd
    have ha : a ∈ m := h a List.mem_cons_self
    have := nd_len (l := l) (m := m.erase a) n2 fun x hx => (List.mem_erase_of_ne (fun e => n1 (by rw [← e]; exact hx))).mpr (h x (List.mem_cons_of_mem _ hx))
    rw [List.length_erase_of_mem ha] at this
    have hp : 0 < m.length := List.length_pos_of_mem ha
    show l.length + 1 ≤ m.length
    omega
theorem keys_len (l : List (Str × Int)) : (keysA l).length = l.length := List.length_map _
theorem keys_add {l m : List (Str × Int)} (nm : (keysA m).Nodup) {k : Str} (h : k ∈ keysA (addA l m)) : k ∈ keysA l ∨ k ∈ keysA m := by
  rw [← look_isSome, look_add _ nm] at h
  cases e : lookA m k with
  | none => rw [e] at h; exact .inl (look_isSome.mp h)
  | some c => exact .inr (look_key e)
theorem Rel.to {s u : St Str} {off : Int} {kept : List (Str × Int)} (h : Rel ltS s off kept) (e : s.1 = u.1) (f : Eqv s.2 u.2) : Rel ltS u off kept := ⟨h.off.trans e, h.asc, h.eqv.trans f⟩
/-- what holds of a leaf's names -/
def LeafOk (Nm : List Str) (ns : List Str) : Prop := NsOk ns ∧ ∀ n ∈ ns, n ∈ Nm
/-- a sketch is the tree's -/
structure SkTr (r : Nat) (T : Tr Str) (s : Sk) : Prop where
  room : s.room = r
  many : s.many = (T.items.length : Int)
  rel : Rel ltS (T.st r) s.off s.kept
theorem leaf_names {Nm : List Str} {T : Tr Str} (h : T.All (LeafOk Nm)) : ∀ n ∈ T.items, n ∈ Nm ∧ IsName n :=
  Tr.All.mem (P := fun n => n ∈ Nm ∧ IsName n) (h.imp fun ns q n hn => ⟨q.2 n hn, q.1.2 n hn⟩)
section
variable {r : Nat} {T : Tr Str} {s : Sk} {Nm : List Str}
theorem SkTr.nd (h : SkTr r T s) : (keysA s.kept).Nodup := h.rel.asc.nd ltS_irr
theorem SkTr.pos (hr : 1 ≤ r) (h : SkTr r T s) : ∀ p ∈ s.kept, 1 ≤ p.2 := fun p hp => by
  have e := mem_look (k := p.1) (c := p.2) h.nd hp
  rw [h.rel.eqv p.1] at e
  exact (Tr.good hr T).pos _ (look_some_mem e)
theorem SkTr.perm (hr : 1 ≤ r) (h : SkTr r T s) : s.kept.Perm (T.st r).2 := h.rel.eqv.perm h.nd (Tr.good hr T).nd
theorem SkTr.len (hr : 1 ≤ r) (h : SkTr r T s) : s.kept.length ≤ r := by
  rw [(h.perm hr).length_eq]
  exact (Tr.good hr T).len
theorem SkTr.keys (hr : 1 ≤ r) (h : SkTr r T s) {k : Str} (hk : k ∈ keysA s.kept) : k ∈ T.items :=
  (Tr.good hr T).key_in ((h.rel.eqv.keys k).mp hk)
theorem SkTr.few (hr : 1 ≤ r) (h : SkTr r T s) (ha : T.All (LeafOk Nm)) : s.kept.length ≤ Nm.length := by
  rw [← keys_len]
  exact nd_len h.nd fun k hk => (leaf_names ha k (h.keys hr hk)).1
theorem SkTr.ok (hr : 1 ≤ r) (hr2 : r ≤ 64) (h : SkTr r T s) (ha : T.All (LeafOk Nm)) : SkOk s := by
  have g := Tr.good hr T
  have hs : (valsA s.kept).sum = (valsA (T.st r).2).sum := sum_perm ((h.perm hr).map _)
  have hl := h.len hr
  refine ⟨by rw [h.room]; omega, by rw [h.room]; omega, by rw [h.many]; omega, by rw [h.rel.off]; exact g.off, ⟨h.rel.asc, fun p hp => ?_, h.pos hr, by omega⟩, by rw [h.room]; omega, ?_, ?_⟩
  · exact (leaf_names ha _ (h.keys hr (List.mem_map.mpr ⟨p, hp, rfl⟩))).2
  · rw [hs, h.many, h.rel.off, h.room]; exact g.l1
  · rw [hs, h.many, h.rel.off, h.room]; exact g.l2
theorem SkTr.fed (hr : 1 ≤ r) {ns : List Str} {n : Str} {u : Sk} (h : SkTr r (.leaf ns) s) (e1 : u.room = s.room) (e2 : u.many = s.many + 1) (e3 : Rel ltS (fedA r (s.off, s.kept) n) u.off u.kept) : SkTr r (.leaf (ns ++ [n])) u := by
  refine ⟨e1.trans h.room, ?_, ?_⟩
  · rw [e2, h.many]
    show ((ns.length : Nat) : Int) + 1 = (((ns ++ [n]).length : Nat) : Int)
    rw [List.length_append]; rfl
  · have e : (Tr.leaf (ns ++ [n])).st r = fedA r ((Tr.leaf ns).st r) n := by
      show streamA r (ns ++ [n]) = fedA r (streamA r ns) n
      unfold streamA
      rw [List.foldl_append]; rfl
    rw [e]
    have q := fed_eqv (room := r) (s := (s.off, s.kept)) (u := (Tr.leaf ns).st r) h.rel.off h.rel.eqv h.nd (Tr.good hr (.leaf ns)).nd n
    exact e3.to q.1 q.2
theorem SkTr.pour (hr : 1 ≤ r) {A B : Tr Str} {z u : Sk} (h : SkTr r A s) (g : SkTr r B z) (e1 : u.room = s.room) (e2 : u.many = s.many + z.many) (e3 : Rel ltS (pourA r (s.off, s.kept) (z.off, z.kept)) u.off u.kept) : SkTr r (.pour A B) u := by
  refine ⟨e1.trans h.room, ?_, ?_⟩
  · rw [e2, h.many, g.many]
    show _ = (((A.items ++ B.items).length : Nat) : Int)
    rw [List.length_append]; omega
  · have q := pour_eqv (room := r) (s := (s.off, s.kept)) (u := (z.off, z.kept)) (s' := A.st r) (u' := B.st r) h.rel.off h.rel.eqv g.rel.off g.rel.eqv h.nd g.nd (Tr.good hr A).nd (Tr.good hr B).nd
    exact e3.to q.1 q.2
theorem SkTr.add_few (hr : 1 ≤ r) {A B : Tr Str} {z : Sk} (h : SkTr r A s) (g : SkTr r B z) (ha : A.All (LeafOk Nm)) (hb : B.All (LeafOk Nm)) : (addA s.kept z.kept).length ≤ Nm.length := by
  rw [← keys_len]
  refine nd_len (nd_add h.nd) fun k hk => ?_
  rcases keys_add g.nd hk with y | y
  · exact (leaf_names ha k (h.keys hr y)).1
  · exact (leaf_names hb k (g.keys hr y)).1
end
theorem paired_two {α β : Type} {R : α → β → Prop} {x y : β} : ∀ {vs : List α} {G : List β}, Paired R vs (G ++ [x, y]) → ∃ ws a b, vs = ws ++ [a, b] ∧ Paired R ws G ∧ R a x ∧ R b y
  | _, [], .cons h (.cons g .nil) => ⟨[], _, _, rfl, .nil, h, g⟩
  | _, _ :: _, .cons h t => by
    obtain ⟨ws, a, b, e, p, q1, q2⟩ := paired_two t
    exact ⟨_ :: ws, a, b, by rw [e]; rfl, .cons h p, q1, q2⟩
section
variable {P : Program} {w : World} {K : PySem.W.Frag} {mg : Str → Option Value} {base : Heap}

def spPoured : Sp := fun vs H Q _ => ∃ (v u : V) (s z : Sk) (r : Nat) (A B : Tr Str) (Nm : List Str), vs = [v, u] ∧ SkAt H v s ∧ SkAt H u z ∧ SkTr r A s ∧ SkTr r B z ∧ 1 ≤ r ∧ r ≤ 64 ∧ A.All (LeafOk Nm) ∧ B.All (LeafOk Nm) ∧ Nm.length ≤ 60 ∧
  ∀ (v' : V) (s' : Sk) (H' : Hp), Same H H' → SkAt H' v' s' → SkTr r (.pour A B) s' → Q v' H'
theorem c_poured (T : Txt mg) (c1 : C8.Cal P w K mg base 4 "check_sketch" spCheckSketch []) (c2 : C8.Cal P w K mg base 2 "raw_poured" spPour []) (D : DefE K mg "poured" (top 42)) : C8.Cal P w K mg base 5 "poured" spPoured [] := by
  refine cal_of (N := ["one", "other"]) (ps := ["one", "other"]) D (C8.fnScope_by (by decide +kernel)) (fun _ _ _ _ _ _ us hl => match us, hl with | [_, _], _ => rfl) (fun vs H Q E h => ?_) (fun f cdv A outer s H vs Q E hr h => ?_)
  · obtain ⟨v, u, s, z, r, A, B, Nm, rfl, _⟩ := h
    rfl
  · obtain ⟨v, u, sk, zk, r, A, B, Nm, rfl, h1, h2, t1, t2, hr1, hr2, a1, a2, hN, k⟩ := h
    refine ⟨_, pss_cons (ps_expr (pe_c c1 hr (by decide) rfl (pa_cons (pv 0) pa_nil)))
      (pss_cons (ps_expr (pe_c c1 hr (by decide) rfl (pa_cons (pv 1) pa_nil)))
      (pss_cons (ps_if (pt_cmpR op_ne (pe_ix ix_tup (pv 0) (C8.pe_gc (v := .int 0) rfl T.c_room) (fun _ _ => rfl)) (pe_ix ix_tup (pv 1) (C8.pe_gc (v := .int 0) rfl T.c_room) (fun _ _ => rfl)) (nomark _)) pss_never pss_nil)
      (pss_one (ps_ret (pe_c c2 hr (by decide) rfl (pa_cons (pv 0) (pa_cons (pv 1) pa_nil))))))), ?_⟩
    refine ⟨_, rfl, v, sk, rfl, h1, t1.ok hr1 hr2 a1, fun H1 s1 => ?_⟩
    refine ⟨_, rfl, u, zk, rfl, h2.mono (tk_of s1), t2.ok hr1 hr2 a2, fun H2 s2 => ?_⟩
    have s12 := s1.trans s2
    have h1' := h1.mono (tk_of s12)
    have h2' := h2.mono (tk_of s12)
    obtain ⟨a, kv, rfl, ha, _⟩ := id h1'
    obtain ⟨b, kw, rfl, hb, _⟩ := id h2'
    refine ⟨_, rfl, a, _, 0, .int sk.room, rfl, rfl, SqT.of ha, rfl, _, rfl, b, _, 0, .int zk.room, rfl, rfl, SqT.of hb, rfl, rfl, false, ?_, iteF ?_⟩
    · show V.bl (!decide (V.int sk.room = V.int zk.room)) = V.bl false
      rw [t1.room, t2.room]; simp
    · have l1 := t1.len hr1
      have l2 := t2.len hr1
      refine ⟨_, rfl, _, rfl, .ref a, .ref b, sk, zk, r, rfl, h1', h2', t1.nd, t2.nd, t1.room, by omega, by omega, Nat.lt_of_le_of_lt (t1.add_few hr1 t2 a1 a2) (by omega), fun v' s' H3 s3 q e1 e2 e3 => ?_⟩
      exact k v' s' H3 (s12.trans s3) q (t1.pour hr1 t2 e1 e2 e3)

def spOfStream : Sp := fun vs H Q _ => ∃ (r : Nat) (b : Addr) (ns Nm : List Str), vs = [.int r, .ref b] ∧ H b = some (.tup (ns.map V.str)) ∧ 1 ≤ r ∧ LeafOk Nm ns ∧ Nm.length ≤ 60 ∧
  ∀ (v' : V) (s' : Sk) (H' : Hp), Same H H' → SkAt H' v' s' → SkTr r (.leaf ns) s' → Q v' H'
theorem c_raw_of_stream (T : Txt mg) (c1 : C8.Cal P w K mg base 1 "raw_bare" spBare []) (c2 : C8.Cal P w K mg base 2 "raw_fed_many" spFed []) (D : DefE K mg "raw_of_stream" (top 43)) : C8.Cal P w K mg base 3 "raw_of_stream" spOfStream [] := by
  have S : FnScope ["room", "names", "found", "name"] ["room", "names"] (C8.fnScope (top 43)) := C8.fnScope_by (by decide +kernel)
  refine cal_of D S (fun _ _ _ _ _ _ us hl => match us, hl with | [_, _], _ => rfl) (fun vs H Q E h => ?_) (fun f cdv A outer s H vs Q E hr h => ?_)
  · obtain ⟨r, b, ns, Nm, rfl, _⟩ := h
    rfl
  · obtain ⟨r, b, ns, Nm, rfl, hb, hr1, hok, hN, k⟩ := h
    have nd := S.nd
    refine ⟨_, pss_cons (ps_set (i := 2) nd rfl (Or.inl rfl) (pe_c c1 hr (by decide) rfl (pa_cons (pv 0) pa_nil)))
      (pss_cons (ps_for PassesOwn.never rfl (pi_tup (pv 1)) (pg_name (i := 3) nd rfl (Or.inl rfl))
        (pss_one (ps_set (i := 2) nd rfl (Or.inl rfl) (pe_c c2 hr (by decide) rfl (pa_cons (pv 2) (pa_cons (pv 3) (pa_cons pe_int pa_nil)))))))
      (pss_one (ps_ret (pv 2)))), ?_⟩
    refine ⟨_, rfl, r, rfl, fun v0 H0 s0 q0 => ?_⟩
    refine ⟨_, rfl, b, rfl, ⟨_, SqT.of (s0 _ _ hb)⟩, ?_⟩
    refine for_y (y_tup (ns.map V.str)) (fun i σ H' => Same H H' ∧ ∃ (v : V) (sk : Sk) (x : Option V), σ = [some (.int r), some (.ref b), some v, x] ∧ SkAt H' v sk ∧ SkTr r (.leaf (ns.take i)) sk)
      (fun i σ H' _ p => SqT.of (p.1 _ _ hb)) ⟨s0, v0, _, none, rfl, q0, rfl, rfl, rfl, List.Pairwise.nil, Eqv.refl _⟩ (fun i σ H1 hi ⟨s1, v, sk, x, hσ, q1, t1⟩ => ?_) fun σ H1 ⟨s1, v, sk, x, hσ, q1, t1⟩ => ?_
    · subst hσ
      rw [List.length_map] at hi
      have ex : (ns.map V.str).getD i .non = .str ns[i] := getD_of (by rw [List.getElem?_map, List.getElem?_eq_getElem hi]; rfl)
      rw [ex]
      have ha : (Tr.leaf (ns.take i)).All (LeafOk Nm) := ⟨⟨by have := hok.1.1; rw [List.length_take]; omega, fun n hn => hok.1.2 n (List.mem_of_mem_take hn)⟩, fun n hn => hok.2 n (List.mem_of_mem_take hn)⟩
      refine ⟨_, rfl, _, rfl, v, sk, ns[i], r, rfl, q1, t1.nd, t1.pos hr1, t1.room, hr1, t1.len hr1, Nat.le_trans (t1.few hr1 ha) (by omega), fun v' s' H2 s2 q2 e1 e2 e3 => ?_⟩
      refine ⟨s1.trans s2, v', s', _, rfl, q2, ?_⟩
      have et : ns.take (i + 1) = ns.take i ++ [ns[i]] := by rw [List.take_add_one, List.getElem?_eq_getElem hi]; rfl
      rw [et]
      exact t1.fed hr1 e1 e2 e3
    · subst hσ
      rw [List.length_map, List.take_length] at t1
      exact ⟨_, rfl, k v sk H1 s1 q1 t1⟩

/-- the pile's sketches are the trees' -/
def TrAt (r : Nat) (H : Hp) (v : V) (T : Tr Str) : Prop := ∃ sk, SkAt H v sk ∧ SkTr r T sk
theorem TrAt.mono {r : Nat} {H H' : Hp} (t : TK H H') {v : V} {T : Tr Str} (h : TrAt r H v T) : TrAt r H' v T := let ⟨sk, a, b⟩ := h; ⟨sk, a.mono t, b⟩

def spRawSk : Sp := fun vs H Q _ => ∃ (r : Nat) (tv : V) (t : List (Stp Str)) (T : Tr Str) (Nm : List Str), vs = [.int r, tv] ∧ TreeAt H tv t ∧ Run [] t T ∧ T.All (LeafOk Nm) ∧ t.length ≤ 5000 ∧ 1 ≤ r ∧ r ≤ 64 ∧ Nm.length ≤ 60 ∧
  ∀ (v' : V) (H' : Hp), Same H H' → TrAt r H' v' T → Q v' H'
theorem c_raw_sketch_of (T : Txt mg) (c1 : C8.Cal P w K mg base 2 "is_pour" spIsPour []) (c2 : C8.Cal P w K mg base 2 "raw_poured" spPour []) (c3 : C8.Cal P w K mg base 3 "raw_of_stream" spOfStream [])
    (D : DefE K mg "raw_sketch_of" (top 44)) : C8.Cal P w K mg base 4 "raw_sketch_of" spRawSk [] := by
  have S : FnScope ["room", "tree", "pile", "step", "other", "one"] ["room", "tree"] (C8.fnScope (top 44)) := C8.fnScope_by (by decide +kernel)
  refine cal_of D S (fun _ _ _ _ _ _ us hl => match us, hl with | [_, _], _ => rfl) (fun vs H Q E h => ?_) (fun f cdv A outer s H vs Q E hr h => ?_)
  · obtain ⟨r, tv, t, T, Nm, rfl, _⟩ := h
    rfl
  · obtain ⟨r, tv, t, T', Nm, rfl, ⟨a, vs, rfl, ha, hp⟩, hrun, hok, hl, hr1, hr2, hN, k⟩ := h
    have nd := S.nd
    refine ⟨_, pss_cons (ps_set (i := 2) nd rfl (Or.inl rfl) (pe_lst pa_nil))
      (pss_cons (ps_for PassesOwn.never rfl (pi_tup (pv 1)) (pg_name (i := 3) nd rfl (Or.inl rfl))
        (pss_one (ps_if (pt_val (pe_c c1 hr (by decide) rfl (pa_cons (pv 3) pa_nil)))
          (pss_cons (ps_set (i := 4) nd rfl (Or.inl rfl) (pe_bm0 PySem.F.plainAttrs_list PySem.F.slot_list_pop PySem.F.type_list_pop mt_pop (pv 2)))
            (pss_cons (ps_set (i := 5) nd rfl (Or.inl rfl) (pe_bm0 PySem.F.plainAttrs_list PySem.F.slot_list_pop PySem.F.type_list_pop mt_pop (pv 2)))
            (pss_one (ps_expr (pe_bm PySem.F.plainAttrs_list PySem.F.slot_list_append PySem.F.type_list_append mt_append (pv 2) (pa_cons (pe_c c2 hr (by decide) rfl (pa_cons (pv 5) (pa_cons (pv 4) pa_nil))) pa_nil))))))
          (pss_one (ps_expr (pe_bm PySem.F.plainAttrs_list PySem.F.slot_list_append PySem.F.type_list_append mt_append (pv 2) (pa_cons (pe_c c3 hr (by decide) rfl (pa_cons (pv 0) (pa_cons (pe_ix ix_tup (pv 3) pe_int (fun _ _ => rfl)) pa_nil))) pa_nil)))))))
      (pss_one (ps_ret (pe_ix ix_list (pv 2) pe_int (fun _ _ => rfl))))), ?_⟩
    refine ⟨Nat.zero_le _, fun p hpn => ?_⟩
    have hvl : vs.length = t.length := paired_len hp
    refine ⟨_, rfl, a, rfl, ⟨_, SqT.of (same_new1 hpn _ _ ha)⟩, ?_⟩
    refine for_y (y_tup vs) (fun i σ H' => Same H H' ∧ ∃ (F : List (Tr Str)) (ws : List V) (x y z : Option V), Run F (t.drop i) T' ∧ H' p = some (.lst ws) ∧ Paired (TrAt r H') ws F ∧ ws.length ≤ i ∧ σ = [some (.int r), some (.ref a), some (.ref p), x, y, z])
      (fun i σ H' _ q => SqT.of (q.1 _ _ ha)) ⟨same_new1 hpn, [], [], none, none, none, hrun, upd_same, .nil, Nat.le_refl _, rfl⟩ (fun i σ H1 hi ⟨s1, F, ws, x, y, z, hF, h1, hpw, hwl, hσ⟩ => ?_) fun σ H1 ⟨s1, F, ws, x, y, z, hF, h1, hpw, hwl, hσ⟩ => ?_
    · subst hσ
      have ev : vs[i]? = some vs[i] := List.getElem?_eq_getElem hi
      obtain ⟨st, est, hst⟩ := paired_at hp ev
      have hst1 : StepAt H1 vs[i] st := hst.mono (tk_of s1)
      have ed : t.drop i = st :: t.drop (i + 1) := by
        obtain ⟨hl', e'⟩ := List.getElem?_eq_some_iff.mp est
        rw [List.drop_eq_getElem_cons hl', e']
      rw [ed] at hF
      rw [getD_of ev]
      refine ⟨_, rfl, vs[i], st, rfl, hst1, _, rfl, ?_⟩
      cases st with
      | pour =>
        have hall := (hF.all (P := LeafOk Nm) hok).1
        obtain ⟨G, A, B, rfl, hG⟩ := hF.cases_po
        obtain ⟨us, va, vb, rfl, hpu, ⟨sa, qa, ta⟩, ⟨sb, qb, tb⟩⟩ := paired_two hpw
        have hA := hall A (List.mem_append_right _ List.mem_cons_self)
        have hB := hall B (List.mem_append_right _ (List.mem_cons_of_mem _ List.mem_cons_self))
        have e1 : (us ++ [va, vb]).dropLast = us ++ [va] := by rw [List.dropLast_append_of_ne_nil (by simp)]; rfl
        have e2 : (us ++ [va]).dropLast = us := by rw [List.dropLast_append_of_ne_nil (by simp)]; simp
        refine iteT ?_
        refine ⟨_, rfl, .inl ⟨rfl, _, SqL.of h1⟩, p, _, vb, rfl, rfl, h1, ?_, ?_⟩
        · rw [List.length_append, List.getElem?_append_right (by simp only [List.length_cons, List.length_nil]; omega)]
          have : us.length + [va, vb].length - 1 - us.length = 1 := by simp only [List.length_cons, List.length_nil]; omega
          rw [this]; rfl
        rw [e1]
        refine ⟨_, rfl, .inl ⟨rfl, _, SqL.of upd_same⟩, p, _, va, rfl, rfl, upd_same, ?_, ?_⟩
        · rw [List.length_append, List.getElem?_append_right (by simp only [List.length_cons, List.length_nil]; omega)]
          have : us.length + [va].length - 1 - us.length = 0 := by simp only [List.length_cons, List.length_nil]; omega
          rw [this]; rfl
        rw [e2]
        have s2 : Same H (upd (upd H1 p (.lst (us ++ [va]))) p (.lst us)) := same_new (same_new s1 hpn) hpn
        have tk2 : TK H1 (upd (upd H1 p (.lst (us ++ [va]))) p (.lst us)) := (TK.lst h1).trans (TK.lst upd_same)
        have h2 : (upd (upd H1 p (.lst (us ++ [va]))) p (.lst us)) p = some (.lst us) := upd_same
        generalize upd (upd H1 p (.lst (us ++ [va]))) p (.lst us) = H2 at s2 tk2 h2 ⊢
        have l1 := ta.len hr1
        have l2 := tb.len hr1
        refine ⟨_, rfl, .inl ⟨rfl, _, SqL.of h2⟩, _, rfl, _, rfl, va, vb, sa, sb, r, rfl, qa.mono tk2, qb.mono tk2, ta.nd, tb.nd, ta.room, by omega, by omega, Nat.lt_of_le_of_lt (ta.add_few hr1 tb hA hB) (by omega), fun v' s' H3 s3 q f1 f2 f3 => ?_⟩
        have h3 := s3 _ _ h2
        have hul : (us ++ [va, vb]).length = us.length + 2 := by rw [List.length_append]; rfl
        refine ⟨p, us, v', rfl, rfl, h3, small64 (by omega), same_new (s2.trans s3) hpn, G ++ [.pour A B], us ++ [v'], _, _, _, hG, upd_same, ?_, ?_, rfl⟩
        · have tk4 : TK H3 (upd H3 p (.lst (us ++ [v']))) := TK.lst h3
          exact paired_snoc ⟨s', q.mono tk4, ta.pour hr1 tb f1 f2 f3⟩ (paired_imp (fun _ _ => TrAt.mono ((tk2.trans (tk_of s3)).trans tk4)) hpu)
        · rw [List.length_append]
          show us.length + 1 ≤ i + 1
          omega
      | stream ns =>
        have hns : LeafOk Nm ns := (hF.all (P := LeafOk Nm) hok).2 ns List.mem_cons_self
        have hS := hF.cases_st
        obtain ⟨a1, b1, ea, g1, g2⟩ := hst1
        refine iteF ?_
        refine ⟨_, rfl, .inl ⟨rfl, _, SqL.of h1⟩, _, rfl, _, rfl, a1, _, 1, .ref b1, ea, rfl, SqT.of g1, rfl, r, b1, ns, Nm, rfl, g2, hr1, hns, hN, fun v' s' H3 s3 q q2 => ?_⟩
        have h3 := s3 _ _ h1
        refine ⟨p, ws, v', rfl, rfl, h3, small64 (by omega), same_new (s1.trans s3) hpn, F ++ [.leaf ns], ws ++ [v'], _, _, _, hS, upd_same, ?_, ?_, rfl⟩
        · have tk4 : TK H3 (upd H3 p (.lst (ws ++ [v']))) := TK.lst h3
          exact paired_snoc ⟨s', q.mono tk4, q2⟩ (paired_imp (fun _ _ => TrAt.mono ((tk_of s3).trans tk4)) hpw)
        · rw [List.length_append]
          show ws.length + 1 ≤ i + 1
          omega
    · subst hσ
      have en : t.drop vs.length = [] := List.drop_eq_nil_of_le (by omega)
      rw [en] at hF
      have := hF.cases_nil
      subst this
      cases hpw with
      | cons q1 q2 =>
        cases q2
        exact ⟨_, rfl, p, _, 0, _, rfl, rfl, SqL.of h1, rfl, k _ H1 s1 q1⟩

def spSketchOf : Sp := fun vs H Q _ => ∃ (r : Nat) (tv : V) (t : List (Stp Str)) (T : Tr Str) (Nm : List Str), vs = [.int r, tv] ∧ TreeAt H tv t ∧ Run [] t T ∧ T.All (LeafOk Nm) ∧ t.length ≤ 5000 ∧ T.items.length ≤ 50000 ∧ 1 ≤ r ∧ r ≤ 64 ∧ Nm.length ≤ 60 ∧
  ∀ (v' : V) (H' : Hp), Same H H' → TrAt r H' v' T → Q v' H'
theorem c_sketch_of (T : Txt mg) (c1 : C8.Cal P w K mg base 3 "check_room" spCheckRoom []) (c2 : C8.Cal P w K mg base 6 "check_tree" spCheckTree []) (c3 : C8.Cal P w K mg base 4 "raw_sketch_of" spRawSk [])
    (D : DefE K mg "sketch_of" (top 45)) : C8.Cal P w K mg base 7 "sketch_of" spSketchOf [] := by
  refine cal_of (N := ["room", "tree"]) (ps := ["room", "tree"]) D (C8.fnScope_by (by decide +kernel)) (fun _ _ _ _ _ _ us hl => match us, hl with | [_, _], _ => rfl) (fun vs H Q E h => ?_) (fun f cdv A outer s H vs Q E hr h => ?_)
  · obtain ⟨r, tv, t, T, Nm, rfl, _⟩ := h
    rfl
  · obtain ⟨r, tv, t, T', Nm, rfl, ht, hrun, hok, hl, hi, hr1, hr2, hN, k⟩ := h
    refine ⟨_, pss_cons (ps_expr (pe_c c1 hr (by decide) rfl (pa_cons (pv 0) (pa_cons pe_int (pa_cons (C8.pe_gc (v := .int 64) rfl T.c_mroom) pa_nil)))))
      (pss_cons (ps_expr (pe_c c2 hr (by decide) rfl (pa_cons (pv 1) pa_nil)))
      (pss_one (ps_ret (pe_c c3 hr (by decide) rfl (pa_cons (pv 0) (pa_cons (pv 1) pa_nil)))))), ?_⟩
    refine ⟨_, rfl, r, 1, 64, rfl, by omega, by omega, ?_⟩
    refine ⟨_, rfl, tv, t, T', rfl, ht, hrun, hok.imp (fun _ q => q.1), hl, hi, fun H1 s1 => ?_⟩
    refine ⟨_, rfl, _, rfl, r, tv, t, T', Nm, rfl, ht.mono (tk_of s1), hrun, hok, hl, hr1, hr2, hN, fun v' H2 s2 q => ?_⟩
    exact k v' H2 (s1.trans s2) q
end
end KN
/-! The law's pot. -/
namespace KN
open PySem PySem.Spec PyProof.Rows L2

/-- the pot at p, its two lists at a, b -/
structure PotAt (H : Hp) (p a b : Addr) : Prop where
  ex : ∃ (gs ss : List Int) (t m : Int), H p = some (.lst [.ref a, .ref b, .int t, .int m]) ∧ H a = some (.lst (gs.map V.int)) ∧ H b = some (.lst (ss.map V.int)) ∧ (∀ g ∈ gs, 0 ≤ g) ∧ ss ≠ []
  pa : p ≠ a
  pb : p ≠ b
  ab : a ≠ b
/-- what the pot's users leave: all else stands -/
structure Fr (p a b : Addr) (H H' : Hp) : Prop where
  pot0 : PotAt H p a b
  pot : PotAt H' p a b
  keep : ∀ x u, H x = some u → x ≠ p → x ≠ a → x ≠ b → H' x = some u
section
variable {p a b : Addr} {H H1 H2 : Hp}
theorem PotAt.mono (s : Same H H1) (h : PotAt H p a b) : PotAt H1 p a b := by
  obtain ⟨⟨gs, ss, t, m, h1, h2, h3, h4⟩, h5⟩ := h
  exact ⟨⟨gs, ss, t, m, s _ _ h1, s _ _ h2, s _ _ h3, h4⟩, by assumption, by assumption, by assumption⟩
theorem PotAt.out (h : PotAt H p a b) {x : Addr} (n : H x = none) : x ≠ p ∧ x ≠ a ∧ x ≠ b := by
  obtain ⟨⟨gs, ss, t, m, h1, h2, h3, h4⟩, h5⟩ := h
  exact ⟨(ne_of_none h1 n).symm, (ne_of_none h2 n).symm, (ne_of_none h3 n).symm⟩
theorem PotAt.tup (h : PotAt H p a b) {x : Addr} {u : HO} (e : H x = some u) (nl : ∀ xs, u ≠ .lst xs) : x ≠ p ∧ x ≠ a ∧ x ≠ b := by
  obtain ⟨⟨gs, ss, t, m, h1, h2, h3, h4⟩, h5⟩ := h
  refine ⟨fun z => ?_, fun z => ?_, fun z => ?_⟩ <;> subst z
  · rw [h1] at e; cases e; exact nl _ rfl
  · rw [h2] at e; cases e; exact nl _ rfl
  · rw [h3] at e; cases e; exact nl _ rfl
theorem Fr.refl (h : PotAt H p a b) : Fr p a b H H := ⟨h, h, fun _ _ e _ _ _ => e⟩
theorem Fr.trans (h : Fr p a b H H1) (g : Fr p a b H1 H2) : Fr p a b H H2 := ⟨h.pot0, g.pot, fun x u e n1 n2 n3 => g.keep x u (h.keep x u e n1 n2 n3) n1 n2 n3⟩
theorem Fr.same (h : Fr p a b H H1) (s : Same H1 H2) : Fr p a b H H2 := ⟨h.pot0, h.pot.mono s, fun x u e n1 n2 n3 => s _ _ (h.keep x u e n1 n2 n3)⟩
theorem fr_same (h : PotAt H p a b) (s : Same H H1) : Fr p a b H H1 := (Fr.refl h).same s
theorem Fr.tk (h : Fr p a b H H1) : TK H H1 := ⟨fun x xs e => let n := h.pot0.tup e (fun _ z => nomatch z); h.keep x _ e n.1 n.2.1 n.2.2, fun x o xs e => let n := h.pot0.tup e (fun _ z => nomatch z); h.keep x _ e n.1 n.2.1 n.2.2⟩
theorem Fr.free (h : Fr p a b H H1) {x : Addr} (n : H1 x = none) : H x = none := by
  cases e : H x with
  | none => rfl
  | some u =>
    have := h.pot.out n
    rw [h.keep x u e this.1 this.2.1 this.2.2] at n
    cases n
/-- an object that was not there is written -/
theorem Fr.new (h : Fr p a b H H1) {d : Addr} {o : HO} (n : H d = none) : Fr p a b H (upd H1 d o) := by
  have q := h.pot0.out n
  refine ⟨h.pot0, ?_, fun x u e n1 n2 n3 => ?_⟩
  · obtain ⟨⟨gs, ss, t, m, h1, h2, h3, h4⟩, h5⟩ := h.pot
    exact ⟨⟨gs, ss, t, m, by rw [upd_ne q.1.symm]; exact h1, by rw [upd_ne q.2.1.symm]; exact h2, by rw [upd_ne q.2.2.symm]; exact h3, h4⟩, by assumption, by assumption, by assumption⟩
  · rw [upd_ne (ne_of_none e n)]
    exact h.keep x u e n1 n2 n3
end
/-- a list that is not the pot's -/
structure OutL (H : Hp) (q p a b : Addr) (xs : List V) : Prop where
  at' : H q = some (.lst xs)
  np : q ≠ p
  na : q ≠ a
  nb : q ≠ b
theorem OutL.mono {H H1 : Hp} {q p a b : Addr} {xs : List V} (h : OutL H q p a b xs) (f : Fr p a b H H1) : OutL H1 q p a b xs := ⟨f.keep _ _ h.at' h.np h.na h.nb, h.np, h.na, h.nb⟩
theorem OutL.new {H H1 : Hp} {q p a b : Addr} {xs : List V} (f : Fr p a b H H1) (n : H q = none) (e : H1 q = some (.lst xs)) : OutL H1 q p a b xs :=
  let ⟨a1, a2, a3⟩ := f.pot0.out n; ⟨e, a1, a2, a3⟩

section
variable {P : Program} {w : World} {K : PySem.W.Frag} {mg : Str → Option Value} {base : Heap}

theorem cut_ints (ns : List Int) (lo hi : Option Int) : ∃ ms : List Int, cutV (ns.map V.int) lo hi = ms.map V.int ∧ ms.length ≤ ns.length := by
  unfold cutV
  refine ⟨(ns.drop (HT.sIx (ns.map V.int).length 0 lo)).take (HT.sIx (ns.map V.int).length (ns.map V.int).length hi - HT.sIx (ns.map V.int).length 0 lo), ?_, ?_⟩
  · rw [List.map_take, List.map_drop]
  · rw [List.length_take, List.length_drop]; omega
theorem getD_int {ns : List Int} {i : Nat} (h : i < ns.length) : (ns.map V.int).getD i .non = .int ns[i] := getD_of (by rw [List.getElem?_map, List.getElem?_eq_getElem h]; rfl)
theorem take_int {ns : List Int} {i : Nat} (h : i < ns.length) : (ns.take i).map V.int ++ [V.int ns[i]] = (ns.take (i + 1)).map V.int := by
  rw [List.take_add_one, List.getElem?_eq_getElem h, List.map_append]; rfl

def spPotMk : Sp := fun vs H Q _ => ∃ (l : Addr) (ns : List Int), vs = [.ref l] ∧ SqL K H l (ns.map V.int) ∧ ns.length ≤ 63 ∧ ∀ (p a b : Addr) (H' : Hp), Same H H' → PotAt H' p a b → Q (.ref p) H'
theorem c_law_pot (T : Txt mg) (D : DefE K mg "_law_pot" (top 47)) : C8.Cal P w K mg base 1 "_law_pot" (spPotMk (K := K)) [] := by
  have S : FnScope ["_law_script", "_law_cells", "_law_greats", "_law_smalls", "_law_item"] ["_law_script"] (C8.fnScope (top 47)) := C8.fnScope_by (by decide +kernel)
  refine cal_of D S (fun _ _ _ _ _ _ us hl => match us, hl with | [_], _ => rfl) (fun vs H Q E h => ?_) (fun f cdv A outer s H vs Q E hr h => ?_)
  · obtain ⟨l, ns, rfl, _⟩ := h
    rfl
  · obtain ⟨l, ns, rfl, hl, hn, k⟩ := h
    have nd := S.nd
    refine ⟨_, pss_cons (ps_setLc (i := 1) (own := [("_law_item", 4)]) (g := gName 4) (tt := tYes) rfl nd rfl rfl (sw_true rfl rfl rfl (by decide +kernel)) (pi_list (pe_slice sl_list (pv 0) po_none (po_some pe_int)))
        (blkOk_by (own := [("_law_item", 4)]) (N := ["_law_script", "_law_cells", "_law_greats", "_law_smalls", "_law_item"]) (sc := C8.fnScope (top 47)) (by decide +kernel)) (fun _ _ _ _ _ => pg_name (i := 4) nd rfl (Or.inl rfl)) (fun _ _ _ _ _ => pts_nil)
        (fun _ _ _ _ _ => pe_callTy call_int1 rfl T.n_int boot_int' (pa_cons (pv 4) pa_nil)))
      (pss_cons (ps_setLc (i := 2) (own := [("_law_item", 4)]) (g := gName 4) rfl nd rfl rfl (sw_true rfl rfl rfl (by decide +kernel)) (pi_list (pv 1))
        (blkOk_by (own := [("_law_item", 4)]) (N := ["_law_script", "_law_cells", "_law_greats", "_law_smalls", "_law_item"]) (sc := C8.fnScope (top 47)) (by decide +kernel)) (fun _ _ _ _ _ => pg_name (i := 4) nd rfl (Or.inl rfl))
        (fun _ _ _ _ _ => pts_one (pt_cmpR op_ge (pe_callB call_abs rfl T.n_abs boot_abs' (pa_cons (pv 4) pa_nil)) (pe_op op_pow pe_int pe_int) (nomark _)))
        (fun _ _ _ _ _ => pe_callB call_abs rfl T.n_abs boot_abs' (pa_cons (pv 4) pa_nil)))
      (pss_cons (ps_set (i := 3) nd rfl (Or.inl rfl) (pe_op op_cat (pe_lc (own := [("_law_item", 4)]) (g := gName 4) rfl nd (pi_list (pv 1))
          (blkOk_by (own := [("_law_item", 4)]) (N := ["_law_script", "_law_cells", "_law_greats", "_law_smalls", "_law_item"]) (sc := C8.fnScope (top 47)) (by decide +kernel)) (fun _ _ _ _ _ => pg_name (i := 4) nd rfl (Or.inl rfl))
          (fun _ _ _ _ _ => pts_one (pt_cmpR op_lt (pe_callB call_abs rfl T.n_abs boot_abs' (pa_cons (pv 4) pa_nil)) (pe_op op_pow pe_int pe_int) (nomark _)))
          (fun _ _ _ _ _ => pe_op op_mod (pe_callTy call_int1 rfl T.n_int boot_int' (pa_cons (pv 4) pa_nil)) pe_int))
        (pe_lst (pa_cons (pe_op op_add (pe_callB call_len_seq rfl T.n_len boot_len' (pa_cons (pv 1) pa_nil)) pe_int) pa_nil))))
      (pss_one (ps_ret (pe_lst (pa_cons (pv 2) (pa_cons (pv 3) (pa_cons pe_int (pa_cons (pe_op op_mod (pe_callTy call_int1 rfl T.n_int boot_int' (pa_cons (pe_callB (cr_sum rfl) rfl T.n_sum boot_sum' (pa_cons (pv 3) pa_nil)) pa_nil)) pe_int) pa_nil))))))))), ?_⟩
    obtain ⟨ms, em, hms⟩ := cut_ints ns none (some 63)
    refine ⟨_, rfl, _, rfl, l, _, rfl, hl, fun p hp => ?_⟩
    rw [em]
    have s0 : Same H (upd H p (.lst (ms.map V.int))) := same_new1 hp
    have hp0 : (upd H p (.lst (ms.map V.int))) p = some (.lst (ms.map V.int)) := upd_same
    generalize upd H p (.lst (ms.map V.int)) = H0 at s0 hp0 ⊢
    refine ⟨p, rfl, ⟨_, SqL.of hp0⟩, fun d hd => ?_⟩
    refine lc_y (y_lst (ms.map V.int)) (fun i H' => Same H0 H' ∧ H' d = some (.lst ((ms.take i).map V.int))) (fun i H' _ q => SqL.of (q.1 _ _ hp0)) ⟨same_new1 hd, upd_same⟩ (fun i H1 hi ⟨s1, h1⟩ => ?_) fun H1 ⟨s1, h1⟩ => ?_
    · rw [List.length_map] at hi
      rw [getD_int hi]
      refine ⟨rfl, _, rfl, .inl ⟨_, rfl, _, h1, ?_, same_new s1 hd, ?_⟩⟩
      · rw [List.length_map, List.length_take]; exact small64 (by omega)
      · rw [upd_same, take_int hi]
    rw [List.length_map, List.take_length] at h1
    have s01 := s0.trans s1
    refine ⟨_, rfl, d, rfl, ⟨_, SqL.of h1⟩, fun e he => ?_⟩
    refine lc_y (y_lst (ms.map V.int)) (fun i H' => Same H1 H' ∧ ∃ gs : List Int, H' e = some (.lst (gs.map V.int)) ∧ (∀ g ∈ gs, 0 ≤ g) ∧ gs.length ≤ i) (fun i H' _ q => SqL.of (q.1 _ _ h1)) ⟨same_new1 he, [], upd_same, (fun _ h => (by cases h)), Nat.le_refl _⟩ (fun i H2 hi ⟨s2, gs, h2, hg, hgl⟩ => ?_) fun H2 ⟨s2, gs, h2, hg, hgl⟩ => ?_
    · rw [List.length_map] at hi
      rw [getD_int hi]
      refine ⟨rfl, _, rfl, _, rfl, _, _, rfl, rfl, ⟨by decide, by decide, by decide⟩, _, _, rfl, rfl, _, rfl, ?_⟩
      refine ite2 (fun _ => ?_) (fun _ => ⟨s2, gs, h2, hg, by omega⟩)
      refine ⟨_, rfl, _, rfl, _, h2, by rw [List.length_map]; exact small64 (by omega), same_new s2 he, gs ++ [if ms[i] < 0 then -ms[i] else ms[i]], ?_, fun g hgm => ?_, ?_⟩
      · rw [upd_same, List.map_append]; rfl
      · rcases List.mem_append.mp hgm with z | z
        · exact hg g z
        · rw [List.mem_singleton.mp z]; split <;> omega
      · rw [List.length_append]; show gs.length + 1 ≤ i + 1; omega
    rw [List.length_map] at hgl
    have hd2 := s2 _ _ h1
    have hne : d ≠ e := ne_of_none h1 he
    refine ⟨_, rfl, d, rfl, ⟨_, SqL.of hd2⟩, fun f' hf => ?_⟩
    refine lc_y (y_lst (ms.map V.int)) (fun i H' => Same H2 H' ∧ ∃ ss : List Int, H' f' = some (.lst (ss.map V.int)) ∧ ss.length ≤ i) (fun i H' _ q => SqL.of (q.1 _ _ hd2)) ⟨same_new1 hf, [], upd_same, Nat.le_refl _⟩ (fun i H3 hi ⟨s3, ss, h3, hsl⟩ => ?_) fun H3 ⟨s3, ss, h3, hsl⟩ => ?_
    · rw [List.length_map] at hi
      rw [getD_int hi]
      refine ⟨rfl, _, rfl, _, rfl, _, _, rfl, rfl, ⟨by decide, by decide, by decide⟩, _, _, rfl, rfl, _, rfl, ?_⟩
      refine ite2 (fun _ => ?_) (fun _ => ⟨s3, ss, h3, by omega⟩)
      refine ⟨_, rfl, .inl ⟨_, rfl, _, _, rfl, rfl, (by show (0 : Int) < 1000000007; decide), _, h3, by rw [List.length_map]; exact small64 (by omega), same_new s3 hf, ss ++ [ms[i] % 1000000007], ?_, ?_⟩⟩
      · rw [upd_same, List.map_append]; rfl
      · rw [List.length_append]; show ss.length + 1 ≤ i + 1; omega
    rw [List.length_map] at hsl
    have hd3 := s3 _ _ hd2
    have he3 := s3 _ _ h2
    refine ⟨_, rfl, d, _, rfl, .inl (SqL.of hd3), _, _, rfl, rfl, (by show 1 ≤ sizeLine; decide), fun g hgn => ?_⟩
    rw [List.length_map]
    have s4 : Same H3 (upd H3 g (.lst [V.int ((ms.length : Int) + 1)])) := same_new1 hgn
    have hg4 : (upd H3 g (.lst [V.int ((ms.length : Int) + 1)])) g = some (.lst [V.int ((ms.length : Int) + 1)]) := upd_same
    generalize upd H3 g (.lst [V.int ((ms.length : Int) + 1)]) = H4 at s4 hg4 ⊢
    refine ⟨f', g, _, _, rfl, rfl, s4 _ _ h3, hg4, ?_, fun q hq => ?_⟩
    · rw [List.length_map]; show ss.length + 1 ≤ sizeLine; have := sizeLine_eq; omega
    have eS : ss.map V.int ++ [V.int ((ms.length : Int) + 1)] = (ss ++ [(ms.length : Int) + 1]).map V.int := by rw [List.map_append]; rfl
    rw [eS]
    have s5 : Same H4 (upd H4 q (.lst ((ss ++ [(ms.length : Int) + 1]).map V.int))) := same_new1 hq
    have hq5 : (upd H4 q (.lst ((ss ++ [(ms.length : Int) + 1]).map V.int))) q = some (.lst ((ss ++ [(ms.length : Int) + 1]).map V.int)) := upd_same
    generalize upd H4 q (.lst ((ss ++ [(ms.length : Int) + 1]).map V.int)) = H5 at s5 hq5 ⊢
    have he4 := s4 _ _ he3
    have neq : e ≠ q := ne_of_none he4 hq
    refine ⟨_, rfl, _, rfl, _, rfl, q, _, rfl, SqL.of hq5, .inl ⟨_, rfl, _, _, rfl, rfl, (by show (0 : Int) < 999983; decide), (by show 4 ≤ sizeLine; decide), fun z hz => ?_⟩⟩
    have he5 := s5 _ _ he4
    have nez : e ≠ z := ne_of_none he5 hz
    have nqz : q ≠ z := ne_of_none hq5 hz
    have s6 := same_new1 (o := HO.lst [.ref e, .ref q, .int 0, .int ((ss ++ [(ms.length : Int) + 1]).sum % 999983)]) hz
    refine k z e q _ ((((s01.trans s2).trans s3).trans s4).trans (s5.trans s6)) ⟨⟨gs, _, _, _, upd_same, s6 _ _ he5, s6 _ _ hq5, hg, by simp⟩, nez.symm, nqz.symm, neq⟩
end
end KN
namespace KN
open PySem PySem.Spec PyProof.Rows L2

theorem pop0 {xs : List V} {y : V} : seqIndex? 0 (y :: xs).length = some 0 := by
  unfold seqIndex?
  simp
theorem ix0 {xs : List V} {y : V} : ixN (y :: xs).length 0 = some 0 := by
  unfold ixN
  rw [if_pos (by decide), if_pos (by simp only [List.length_cons]; omega)]
  rfl
theorem modI {i : Int} {n : Nat} (h : 0 < n) : ∃ j : Nat, i % (n : Int) = (j : Int) ∧ j < n := by
  have h1 := Int.emod_nonneg i (show (n : Int) ≠ 0 by omega)
  have h2 := Int.emod_lt_of_pos i (show (0 : Int) < n by omega)
  exact ⟨(i % (n : Int)).toNat, by omega, by omega⟩
section
variable {P : Program} {w : World} {K : PySem.W.Frag} {mg : Str → Option Value} {base : Heap}

def spDraw : Sp := fun vs H Q _ => ∃ (p a b : Addr) (n : Int), vs = [.ref p, .int n] ∧ PotAt H p a b ∧ 0 < n ∧ n < 1073741824 ∧ ∀ (j : Int) (H' : Hp), 0 ≤ j → j < n → Fr p a b H H' → Q (.int j) H'
theorem c_law_draw (T : Txt mg) (D : DefE K mg "_law_draw" (top 48)) : C8.Cal P w K mg base 1 "_law_draw" spDraw [] := by
  have S : FnScope ["_law_pot_here", "_law_many", "_law_turn", "_law_number", "_law_seed"] ["_law_pot_here", "_law_many"] (C8.fnScope (top 48)) := C8.fnScope_by (by decide +kernel)
  refine cal_of D S (fun _ _ _ _ _ _ us hl => match us, hl with | [_, _], _ => rfl) (fun vs H Q E h => ?_) (fun f cdv A outer s H vs Q E hr h => ?_)
  · obtain ⟨p, a, b, n, rfl, _⟩ := h
    rfl
  · obtain ⟨p, a, b, n, rfl, hp, hn1, hn2, k⟩ := h
    have nd := S.nd
    refine ⟨_, pss_cons (ps_set (i := 2) nd rfl (Or.inl rfl) (pe_ix ix_list (pv 0) pe_int (fun _ _ => rfl)))
      (pss_cons (ps_asg (pe_op op_add (pv 2) pe_int) (pg_sub (pv 0) pe_int set_list))
      (pss_cons (ps_if (pt_cmpR op_gt (pe_callB call_len_seq rfl T.n_len boot_len' (pa_cons (pe_ix ix_list (pv 0) pe_int (fun _ _ => rfl)) pa_nil)) pe_int (nomark _))
        (pss_cons (ps_set (i := 3) nd rfl (Or.inl rfl) (pe_ix ix_list (pe_ix ix_list (pv 0) pe_int (fun _ _ => rfl)) pe_int (fun _ _ => rfl)))
        (pss_cons (ps_asg (pe_op op_fdiv (pv 3) (pv 1)) (pg_sub (pe_ix ix_list (pv 0) pe_int (fun _ _ => rfl)) pe_int set_list))
        (pss_cons (ps_if (pt_cmpR op_lt (pv 3) (pv 1) (nomark _)) (pss_one (ps_expr (pe_bm PySem.F.plainAttrs_list PySem.F.slot_list_pop PySem.F.type_list_pop mt_popAt (pe_ix ix_list (pv 0) pe_int (fun _ _ => rfl)) (pa_cons pe_int pa_nil)))) pss_nil)
        (pss_one (ps_ret (pe_op op_mod (pe_callTy call_int1 rfl T.n_int boot_int' (pa_cons (pv 3) pa_nil)) (pv 1)))))))
        pss_nil)
      (pss_cons (ps_set (i := 4) nd rfl (Or.inl rfl) (pe_op op_add (pe_op op_add
          (pe_op op_mul (pe_ix ix_list (pe_ix ix_list (pv 0) pe_int (fun _ _ => rfl)) (pe_op op_mod (pe_callTy call_int1 rfl T.n_int boot_int' (pa_cons (pv 2) pa_nil)) (pe_callB call_len_seq rfl T.n_len boot_len' (pa_cons (pe_ix ix_list (pv 0) pe_int (fun _ _ => rfl)) pa_nil))) (fun _ _ => rfl)) pe_int)
          (pe_op op_mul pe_int (pv 2))) (pe_op op_mul (pe_ix ix_list (pv 0) pe_int (fun _ _ => rfl)) pe_int)))
      (pss_cons (ps_set (i := 3) nd rfl (Or.inl rfl) (pe_op op_mod (pe_callTy call_int1 rfl T.n_int boot_int' (pa_cons (pe_op op_add (pe_op op_mul (pv 4) pe_int) pe_int) pa_nil)) pe_int))
      (pss_cons (ps_set (i := 3) nd rfl (Or.inl rfl) (pe_op op_mod (pe_callTy call_int1 rfl T.n_int boot_int' (pa_cons (pe_op op_mul (pv 3) (pe_op op_add (pe_op op_fdiv (pv 3) pe_int) pe_int)) pa_nil)) pe_int))
      (pss_cons (ps_set (i := 3) nd rfl (Or.inl rfl) (pe_op op_mod (pe_callTy call_int1 rfl T.n_int boot_int' (pa_cons (pe_op op_add (pe_op op_mul (pv 3) (pe_op op_add (pe_op op_fdiv (pv 3) pe_int) pe_int)) (pv 2)) pa_nil)) pe_int))
      (pss_one (ps_ret (pe_op op_mod (pe_callTy call_int1 rfl T.n_int boot_int' (pa_cons (pe_op op_fdiv (pv 3) pe_int) pa_nil)) (pv 1)))))))))), ?_⟩
    obtain ⟨⟨gs, ss, t, m, h1, h2, h3, hg, hss⟩, npa, npb, nab⟩ := id hp
    have hj : ∀ z : Int, 0 ≤ z % n ∧ z % n < n := fun z => ⟨Int.emod_nonneg z (by omega), Int.emod_lt_of_pos z hn1⟩
    refine ⟨_, rfl, p, _, 2, .int t, rfl, rfl, SqL.of h1, rfl, ?_⟩
    refine ⟨_, rfl, _, _, rfl, rfl, _, rfl, p, _, 2, 2, rfl, rfl, h1, rfl, ?_⟩
    -- the pot behind the turn
    generalize hH1 : upd H p (.lst ([V.ref a, V.ref b, V.int t, V.int m].set 2 (.int (t + 1)))) = H1
    have g1 : H1 p = some (.lst [.ref a, .ref b, .int (t + 1), .int m]) := by rw [← hH1, upd_same]; rfl
    have g2 : H1 a = some (.lst (gs.map V.int)) := by rw [← hH1, upd_ne npa.symm]; exact h2
    have g3 : H1 b = some (.lst (ss.map V.int)) := by rw [← hH1, upd_ne npb.symm]; exact h3
    have keep1 : ∀ x u, H x = some u → x ≠ p → x ≠ a → x ≠ b → H1 x = some u := fun x u e n1 _ _ => by rw [← hH1, upd_ne n1]; exact e
    refine ⟨_, rfl, p, _, 0, .ref a, rfl, rfl, SqL.of g1, rfl, a, _, rfl, .inl (SqL.of g2), _, _, rfl, rfl, _, rfl, ?_⟩
    rw [List.length_map]
    cases gs with
    | cons g gs =>
      have hg0 : 0 ≤ g := hg g List.mem_cons_self
      have c1 : decide ((0 : Int) < (((g :: gs).length : Nat) : Int)) = true := decide_eq_true (by simp only [List.length_cons]; omega)
      rw [c1]
      refine iteT ?_
      refine ⟨_, rfl, p, _, 0, .ref a, rfl, rfl, SqL.of g1, rfl, a, _, 0, .int g, rfl, rfl, SqL.of g2, at_of (j := 0) rfl rfl, ?_⟩
      refine ⟨_, rfl, _, rfl, _, _, rfl, rfl, ⟨hn1, hn2⟩, _, rfl, p, _, 0, .ref a, rfl, rfl, SqL.of g1, rfl, a, _, 0, 0, rfl, rfl, g2, ix0, ?_⟩
      have e2 : ((g :: gs).map V.int).set 0 (.int (g / n)) = ((g / n) :: gs).map V.int := rfl
      rw [e2]
      have k2 : ∀ (us : List Int) (x : Addr) (u : HO), H x = some u → x ≠ p → x ≠ a → x ≠ b → (upd H1 a (.lst (us.map V.int))) x = some u := fun us x u e n1 n2 n3 => by rw [upd_ne n2]; exact keep1 x u e n1 n2 n3
      have hq : ∀ (us : List Int), (∀ z ∈ us, 0 ≤ z) → PotAt (upd H1 a (.lst (us.map V.int))) p a b := fun us hu =>
        ⟨⟨us, ss, t + 1, m, by rw [upd_ne npa]; exact g1, upd_same, by rw [upd_ne nab.symm]; exact g3, hu, hss⟩, npa, npb, nab⟩
      have hdiv : 0 ≤ g / n := Int.ediv_nonneg hg0 (by omega)
      refine ⟨_, rfl, _, rfl, _, _, rfl, rfl, _, rfl, ?_⟩
      refine ite2 (fun _ => ?_) (fun _ => ?_)
      · have g4 : (upd H1 a (.lst (((g / n) :: gs).map V.int))) p = some (.lst [.ref a, .ref b, .int (t + 1), .int m]) := by rw [upd_ne npa]; exact g1
        refine ⟨_, rfl, p, _, 0, .ref a, rfl, rfl, SqL.of g4, rfl, .inl ⟨rfl, _, SqL.of upd_same⟩, a, _, 0, 0, _, rfl, rfl, upd_same, by decide, by decide, pop0, rfl, ?_⟩
        have e5 : upd (upd H1 a (.lst (((g / n) :: gs).map V.int))) a (.lst ((((g / n) :: gs).map V.int).eraseIdx 0)) = upd H1 a (.lst (gs.map V.int)) := by
          funext x
          by_cases z : x = a
          · subst z; rw [upd_same, upd_same]; rfl
          · rw [upd_ne z, upd_ne z, upd_ne z]
        rw [e5]
        refine ⟨_, rfl, .inl ⟨_, rfl, _, rfl, _, _, rfl, rfl, hn1, ?_⟩⟩
        exact k _ _ (hj _).1 (hj _).2 ⟨hp, hq gs fun z hz => hg z (List.mem_cons_of_mem _ hz), k2 gs⟩
      · refine ⟨_, rfl, .inl ⟨_, rfl, _, rfl, _, _, rfl, rfl, hn1, ?_⟩⟩
        refine k _ _ (hj _).1 (hj _).2 ⟨hp, hq _ fun z hz => ?_, k2 _⟩
        rcases List.mem_cons.mp hz with y | y
        · rw [y]; exact hdiv
        · exact hg z (List.mem_cons_of_mem _ y)
    | nil =>
      refine iteF ?_
      have hp1 : PotAt H1 p a b := ⟨⟨[], ss, t + 1, m, g1, g2, g3, hg, hss⟩, npa, npb, nab⟩
      have hlen : 0 < ss.length := List.length_pos_iff.mpr hss
      obtain ⟨j, ej, hjl⟩ := modI (i := t) hlen
      refine ⟨_, rfl, p, _, 1, .ref b, rfl, rfl, SqL.of g1, rfl, _, rfl, .inl ⟨_, rfl, _, rfl, p, _, 1, .ref b, rfl, rfl, SqL.of g1, rfl, b, _, rfl, .inl (SqL.of g3), ?_⟩⟩
      rw [List.length_map]
      refine ⟨_, _, rfl, rfl, (by show (0 : Int) < (ss.length : Int); omega), b, _, _, .int ss[j], rfl, rfl, SqL.of g3, at_of (j := j) ej (by rw [List.getElem?_map, List.getElem?_eq_getElem hjl]; rfl), ?_⟩
      refine ⟨_, _, rfl, rfl, .inr ⟨by decide, by decide⟩, _, rfl, _, _, rfl, rfl, .inl ⟨by decide, by decide⟩, _, _, rfl, rfl, ?_⟩
      refine ⟨_, rfl, p, _, 3, .int m, rfl, rfl, SqL.of g1, rfl, _, _, rfl, rfl, .inr ⟨by decide, by decide⟩, _, _, rfl, rfl, ?_⟩
      generalize ss[j] * 7919 + 104729 * t + m * 31 = sd
      refine ⟨_, rfl, _, _, rfl, rfl, .inr ⟨by decide, by decide⟩, _, _, rfl, rfl, .inl ⟨_, rfl, _, _, rfl, rfl, (by show (0 : Int) < 2147483647; decide), ?_⟩⟩
      have b1 : 0 ≤ (sd * 48271 + 11) % 2147483647 ∧ (sd * 48271 + 11) % 2147483647 < 2147483647 := ⟨Int.emod_nonneg _ (by decide), Int.emod_lt_of_pos _ (by decide)⟩
      generalize (sd * 48271 + 11) % 2147483647 = n1 at b1
      refine ⟨_, rfl, _, rfl, _, _, rfl, rfl, ⟨by decide, by decide⟩, _, _, rfl, rfl, _, _, rfl, rfl, .inl ⟨by omega, by omega⟩, .inl ⟨_, rfl, _, _, rfl, rfl, (by show (0 : Int) < 2147483629; decide), ?_⟩⟩
      have b2 : 0 ≤ (n1 * (n1 / 1009 + 69621)) % 2147483629 ∧ (n1 * (n1 / 1009 + 69621)) % 2147483629 < 2147483629 := ⟨Int.emod_nonneg _ (by decide), Int.emod_lt_of_pos _ (by decide)⟩
      generalize (n1 * (n1 / 1009 + 69621)) % 2147483629 = n2 at b2
      refine ⟨_, rfl, _, rfl, _, _, rfl, rfl, ⟨by decide, by decide⟩, _, _, rfl, rfl, _, _, rfl, rfl, .inl ⟨by omega, by omega⟩, _, rfl, _, _, rfl, rfl, .inl ⟨_, rfl, _, _, rfl, rfl, (by show (0 : Int) < 2147483399; decide), ?_⟩⟩
      refine ⟨_, rfl, _, _, rfl, rfl, ⟨by decide, by decide⟩, .inl ⟨_, rfl, _, rfl, _, _, rfl, rfl, hn1, ?_⟩⟩
      exact k _ _ (hj _).1 (hj _).2 ⟨hp, hp1, keep1⟩

def spAny : Sp := fun vs H Q _ => ∃ (p a b q : Addr) (xs : List V), vs = [.ref p, .ref q] ∧ PotAt H p a b ∧ OutL H q p a b xs ∧ 0 < xs.length ∧ xs.length ≤ 1000 ∧ ∀ (x : V) (H' : Hp), x ∈ xs → Fr p a b H H' → Q x H'
theorem c_law_any (T : Txt mg) (c1 : C8.Cal P w K mg base 1 "_law_draw" spDraw []) (D : DefE K mg "_law_any" (top 49)) : C8.Cal P w K mg base 2 "_law_any" spAny [] := by
  refine cal_of (N := ["_law_pot_here", "_law_items"]) (ps := ["_law_pot_here", "_law_items"]) D (C8.fnScope_by (by decide +kernel)) (fun _ _ _ _ _ _ us hl => match us, hl with | [_, _], _ => rfl) (fun vs H Q E h => ?_) (fun f cdv A outer s H vs Q E hr h => ?_)
  · obtain ⟨p, a, b, q, xs, rfl, _⟩ := h
    rfl
  · obtain ⟨p, a, b, q, xs, rfl, hp, hq, h1, h2, k⟩ := h
    refine ⟨_, pss_one (ps_ret (pe_ix ix_list (pv 1) (pe_c c1 hr (by decide) rfl (pa_cons (pv 0) (pa_cons (pe_callB call_len_seq rfl T.n_len boot_len' (pa_cons (pv 1) pa_nil)) pa_nil))) (fun _ _ => rfl))), ?_⟩
    refine ⟨_, rfl, _, rfl, _, rfl, q, xs, rfl, .inl (SqL.of hq.at'), p, a, b, _, rfl, hp, by omega, by omega, fun j H' j1 j2 fr => ?_⟩
    have hj : j.toNat < xs.length := by omega
    exact ⟨q, xs, j, xs[j.toNat], rfl, rfl, SqL.of (hq.mono fr).at', at_of (j := j.toNat) (by omega) (List.getElem?_eq_getElem hj), k _ H' (List.getElem_mem hj) fr⟩
end
end KN
namespace KN
open PySem PySem.Spec PyProof.Rows L2

theorem joinL_nil : ∀ ls : List (List Nat), TL.joinL [] ls = ls.flatten
  | [] => rfl
  | [p] => by simp [TL.joinL]
  | p :: q :: r => by
    show p ++ ([] ++ TL.joinL [] (q :: r)) = _
    rw [joinL_nil (q :: r)]
    simp
/-- one letter -/
def Let1 (y : Str) : Prop := ∃ c : Nat, y = ⟨#[c]⟩ ∧ c ∈ letters.cps.toList
theorem join_name {ys : List Str} (h : ∀ y ∈ ys, Let1 y) (h1 : 1 ≤ ys.length) (h2 : ys.length ≤ 8) : IsName (Txt.join "" ys) := by
  have e : (Txt.join "" ys).cps.toList = (ys.map fun y => y.cps.toList).flatten := by
    rw [TL.join_eq]
    have := TL.tl_join "" ys
    have e2 : TL.tl "" = [] := by decide +kernel
    rw [e2, joinL_nil] at this
    exact this
  have hl : ∀ (zs : List Str), (∀ y ∈ zs, Let1 y) → (zs.map fun y => y.cps.toList).flatten.length = zs.length := by
    intro zs
    induction zs with
    | nil => intro _; rfl
    | cons z zs ih =>
      intro hz
      obtain ⟨c, e, _⟩ := hz z List.mem_cons_self
      rw [List.map_cons, List.flatten_cons, List.length_append, ih fun y hy => hz y (List.mem_cons_of_mem _ hy), e]
      simp only [List.length_cons, List.length_nil]
      omega
  have el : (Txt.join "" ys).length = ys.length := by
    have : (Txt.join "" ys).length = (Txt.join "" ys).cps.toList.length := by simp [Str.length]
    rw [this, e, hl ys h]
  refine ⟨⟨by omega, by omega⟩, fun c hc => ?_⟩
  rw [e, List.mem_flatten] at hc
  obtain ⟨l, hl, hcl⟩ := hc
  obtain ⟨y, hy, rfl⟩ := List.mem_map.mp hl
  obtain ⟨d, e3, hd⟩ := h y hy
  rw [e3] at hcl
  have : c = d := by simpa using hcl
  rw [this]; exact hd
theorem name5 : ∀ x ∈ [V.str "a", .str "b", .str "zz", .str "q", .str "abcdefgh"], ∃ y : Str, x = .str y ∧ IsName y := by
  intro x hx
  simp only [List.mem_cons, List.not_mem_nil, or_false] at hx
  rcases hx with rfl | rfl | rfl | rfl | rfl
  all_goals exact ⟨_, rfl, by unfold IsName; decide +kernel⟩
theorem nums5 : ∀ x ∈ [V.int 1, .int 3, .int 6, .int 12, .int 40], ∃ n : Nat, x = .int (n : Int) ∧ 1 ≤ n ∧ n ≤ 40 := by
  intro x hx
  simp only [List.mem_cons, List.not_mem_nil, or_false] at hx
  rcases hx with rfl | rfl | rfl | rfl | rfl
  · exact ⟨1, rfl, by decide, by decide⟩
  · exact ⟨3, rfl, by decide, by decide⟩
  · exact ⟨6, rfl, by decide, by decide⟩
  · exact ⟨12, rfl, by decide, by decide⟩
  · exact ⟨40, rfl, by decide, by decide⟩
theorem let_at {j : Int} (h1 : 0 ≤ j) (h2 : j < 26) : ∃ c, atI letters.cps.toList j = some c ∧ c ∈ letters.cps.toList := by
  have hl : letters.cps.toList.length = 26 := by decide +kernel
  have hj : j.toNat < letters.cps.toList.length := by omega
  have e : j = (j.toNat : Int) := by omega
  refine ⟨letters.cps.toList[j.toNat], ?_, List.getElem_mem hj⟩
  have ix : ixN letters.cps.toList.length j = some j.toNat := by
    unfold ixN
    rw [if_pos h1, if_pos (by omega)]
  unfold atI
  rw [ix]
  exact List.getElem?_eq_getElem hj
theorem map_str_snoc (xs : List Str) (y : Str) : xs.map V.str ++ [V.str y] = (xs ++ [y]).map V.str := by rw [List.map_append]; rfl
section
variable {P : Program} {w : World} {K : PySem.W.Frag} {mg : Str → Option Value} {base : Heap}

/-- names as the law draws them -/
structure NmOk (Nm : List Str) : Prop where
  nm : ∀ n ∈ Nm, IsName n
  ne : Nm ≠ []
  len : Nm.length ≤ 42
def spNames : Sp := fun vs H Q _ => ∃ (p a b : Addr), vs = [.ref p] ∧ PotAt H p a b ∧ ∀ (q : Addr) (Nm : List Str) (H' : Hp), Fr p a b H H' → OutL H' q p a b (Nm.map V.str) → NmOk Nm → Q (.ref q) H'
theorem c_law_names (T : Txt mg) (c1 : C8.Cal P w K mg base 1 "_law_draw" spDraw []) (c2 : C8.Cal P w K mg base 2 "_law_any" spAny []) (D : DefE K mg "_law_names" (top 50)) : C8.Cal P w K mg base 3 "_law_names" spNames [] := by
  have S : FnScope ["_law_pot_here", "_law_turn", "_law_names_here", "_law_many", "_law_k"] ["_law_pot_here"] (C8.fnScope (top 50)) := C8.fnScope_by (by decide +kernel)
  refine cal_of D S (fun _ _ _ _ _ _ us hl => match us, hl with | [_], _ => rfl) (fun vs H Q E h => ?_) (fun f cdv A outer s H vs Q E hr h => ?_)
  · obtain ⟨p, a, b, rfl, _⟩ := h
    rfl
  · obtain ⟨p, a, b, rfl, hp, k⟩ := h
    have nd := S.nd
    refine ⟨_, pss_cons (ps_setLc (i := 2) (own := [("_law_turn", 1)]) (g := gName 1) (tt := tYes) rfl nd rfl rfl (sw_true rfl rfl rfl (by decide +kernel)) (pi_range1 rfl T.n_range (pa_cons pe_int pa_nil))
        (blkOk_by (own := [("_law_turn", 1)]) (N := ["_law_pot_here", "_law_turn", "_law_names_here", "_law_many", "_law_k"]) (sc := C8.fnScope (top 50)) (by decide +kernel)) (fun _ _ _ _ _ => pg_name (i := 1) nd rfl (Or.inl rfl)) (fun _ _ _ _ _ => pts_nil)
        (fun _ _ _ _ _ => pe_c c2 hr (by decide) rfl (pa_cons (pv 0) (pa_cons (pe_lst (pa_cons pe_str (pa_cons pe_str (pa_cons pe_str (pa_cons pe_str (pa_cons pe_str pa_nil)))))) pa_nil))))
      (pss_cons (ps_for PassesOwn.never rfl (pi_range1 rfl T.n_range (pa_cons (pe_c c2 hr (by decide) rfl (pa_cons (pv 0) (pa_cons (pe_lst (pa_cons pe_int (pa_cons pe_int (pa_cons pe_int (pa_cons pe_int (pa_cons pe_int pa_nil)))))) pa_nil))) pa_nil)) (pg_name (i := 1) nd rfl (Or.inl rfl))
        (pss_cons (ps_set (i := 3) nd rfl (Or.inl rfl) (pe_op op_add pe_int (pe_c c1 hr (by decide) rfl (pa_cons (pv 0) (pa_cons pe_int pa_nil)))))
        (pss_one (ps_expr (pe_bm PySem.F.plainAttrs_list PySem.F.slot_list_append PySem.F.type_list_append mt_append (pv 2)
          (pa_cons (pe_join pe_str (pe_lc (own := [("_law_k", 4)]) (g := gName 4) (tt := tYes) rfl nd (pi_range1 rfl T.n_range (pa_cons (pv 3) pa_nil))
            (blkOk_by (own := [("_law_k", 4)]) (N := ["_law_pot_here", "_law_turn", "_law_names_here", "_law_many", "_law_k"]) (sc := C8.fnScope (top 50)) (by decide +kernel)) (fun _ _ _ _ _ => pg_name (i := 4) nd rfl (Or.inl rfl)) (fun _ _ _ _ _ => pts_nil)
            (fun _ _ _ _ _ => pe_ix ix_str pe_str (pe_c c1 hr (by decide) rfl (pa_cons (pv 0) (pa_cons pe_int pa_nil))) (fun _ _ => rfl)))) pa_nil))))))
      (pss_one (ps_ret (pe_callB (cr_sortedS' rfl) rfl T.n_sorted boot_sorted' (pa_cons (pe_callTy (cr_setS rfl) rfl T.n_set boot_set' (pa_cons (pv 2) pa_nil)) pa_nil))))), ?_⟩
    refine ⟨_, rfl, by decide, by decide, fun d hd => ?_⟩
    refine lc_range (lo := 0) (n := 2) (fun i H' => Fr p a b H H' ∧ ∃ xs : List Str, H' d = some (.lst (xs.map V.str)) ∧ (∀ x ∈ xs, IsName x) ∧ xs.length = i) ⟨(Fr.refl hp).new hd, [], upd_same, (fun _ h => (by cases h)), rfl⟩ (fun i H1 hi ⟨f1, xs, h1, hx, hxl⟩ => ?_) fun H1 ⟨f1, xs, h1, hx, hxl⟩ => ?_
    · refine ⟨rfl, _, rfl, (by show 5 ≤ sizeLine; decide), fun q hq => ?_⟩
      have f2 := f1.same (same_new1 (o := .lst [V.str "a", .str "b", .str "zz", .str "q", .str "abcdefgh"]) hq)
      refine ⟨p, a, b, q, _, rfl, f2.pot, OutL.new f2 (f1.free hq) upd_same, by decide, by decide, fun x H2 hxm f3 => ?_⟩
      obtain ⟨y, rfl, hy⟩ := name5 x hxm
      have f23 := f2.trans f3
      have ndq : d ≠ q := ne_of_none h1 hq
      have ho : OutL H1 d p a b (xs.map V.str) := OutL.new f1 hd h1
      have h2 : H2 d = some (.lst (xs.map V.str)) := f3.keep _ _ (by rw [upd_ne ndq]; exact h1) ho.np ho.na ho.nb
      refine ⟨_, h2, by rw [List.length_map]; exact small64 (by omega), f23.new hd, xs ++ [y], by rw [upd_same, map_str_snoc], fun z hz => ?_, by rw [List.length_append, hxl]; rfl⟩
      rcases List.mem_append.mp hz with e | e
      · exact hx z e
      · rw [List.mem_singleton.mp e]; exact hy
    refine ⟨_, rfl, (by show 5 ≤ sizeLine; decide), fun q hq => ?_⟩
    have f2 := f1.same (same_new1 (o := .lst [V.int 1, .int 3, .int 6, .int 12, .int 40]) hq)
    refine ⟨p, a, b, q, _, rfl, f2.pot, OutL.new f2 (f1.free hq) upd_same, by decide, by decide, fun x H2 hxm f3 => ?_⟩
    obtain ⟨n, rfl, hn1, hn2⟩ := nums5 x hxm
    have f23 := f2.trans f3
    have ndq : d ≠ q := ne_of_none h1 hq
    have ho : OutL H1 d p a b (xs.map V.str) := OutL.new f1 hd h1
    have h2 : H2 d = some (.lst (xs.map V.str)) := f3.keep _ _ (by rw [upd_ne ndq]; exact h1) ho.np ho.na ho.nb
    refine ⟨_, rfl, by omega, by omega, ?_⟩
    rw [Int.toNat_natCast]
    refine for_range (lo := 0) (n := n) (fun i σ H' => Fr p a b H H' ∧ ∃ (ys : List Str) (x y z : Option V), H' d = some (.lst (ys.map V.str)) ∧ (∀ y ∈ ys, IsName y) ∧ ys.length = 2 + i ∧ σ = [some (.ref p), x, some (.ref d), y, z]) ⟨f23, xs, _, _, _, h2, hx, by omega, rfl⟩ (fun i σ H3 hi ⟨f4, ys, x, y, z, h3, hy, hyl, hσ⟩ => ?_) fun σ H3 ⟨f4, ys, x, y, z, h3, hy, hyl, hσ⟩ => ?_
    · subst hσ
      refine ⟨_, rfl, p, a, b, 3, rfl, f4.pot, by decide, by decide, fun j H4 j1 j2 f5 => ⟨_, _, rfl, rfl, ?_⟩⟩
      have f45 := f4.trans f5
      have ho3 : OutL H3 d p a b (ys.map V.str) := OutL.new f4 hd h3
      have ho4 := ho3.mono f5
      refine ⟨_, rfl, .inl ⟨rfl, _, SqL.of ho4.at'⟩, ⟨_, rfl⟩, _, rfl, _, rfl, by omega, by omega, fun e he => ?_⟩
      have nde : d ≠ e := ne_of_none ho4.at' he
      refine lc_range (lo := 0) (n := (1 + j).toNat) (fun i H' => Fr p a b H4 H' ∧ ∃ zs : List Str, H' e = some (.lst (zs.map V.str)) ∧ (∀ z ∈ zs, Let1 z) ∧ zs.length = i) ⟨(Fr.refl f45.pot).new he, [], upd_same, (fun _ h => (by cases h)), rfl⟩ (fun i H5 hi ⟨f6, zs, h5, hz, hzl⟩ => ?_) fun H5 ⟨f6, zs, h5, hz, hzl⟩ => ?_
      · refine ⟨rfl, _, rfl, p, a, b, 26, rfl, f6.pot, by decide, by decide, fun jj H6 jj1 jj2 f7 => ?_⟩
        obtain ⟨c, hc, hcm⟩ := let_at jj1 jj2
        have he6 := (OutL.new f6 he h5).mono f7
        refine ⟨letters, jj, c, rfl, rfl, by decide +kernel, hc, _, he6.at', by rw [List.length_map]; exact small64 (by omega), (f6.trans f7).new he, zs ++ [⟨#[c]⟩], by rw [upd_same, map_str_snoc], fun y hy => ?_, by rw [List.length_append, hzl]; rfl⟩
        rcases List.mem_append.mp hy with e | e
        · exact hz y e
        · rw [List.mem_singleton.mp e]; exact ⟨c, rfl, hcm⟩
      · have ho5 := ho4.mono f6
        refine ⟨"", e, zs, rfl, rfl, .inl (SqL.of h5), ?_, d, _, _, rfl, rfl, ho5.at', by rw [List.length_map]; exact small64 (by omega), ?_⟩
        · have hsum : ∀ (zs : List Str), (∀ z ∈ zs, Let1 z) → (zs.map (·.length)).sum = zs.length := by
            intro zs
            induction zs with
            | nil => intro _; rfl
            | cons z zs ih =>
              intro hz
              obtain ⟨c, e, _⟩ := hz z List.mem_cons_self
              rw [List.map_cons, List.sum_cons, ih fun y hy => hz y (List.mem_cons_of_mem _ hy), e]
              show 1 + zs.length = zs.length + 1
              omega
          rw [hsum zs hz]
          have : ("" : Str).length = 0 := by decide +kernel
          rw [this]; omega
        · have hN : IsName (Txt.join "" zs) := join_name hz (by omega) (by omega)
          refine ⟨(f45.trans f6).new hd, ys ++ [Txt.join "" zs], _, _, _, by rw [upd_same, map_str_snoc], fun y hy' => ?_, by rw [List.length_append, hyl]; rfl, rfl⟩
          rcases List.mem_append.mp hy' with e | e
          · exact hy y e
          · rw [List.mem_singleton.mp e]; exact hN
    · subst hσ
      refine ⟨_, rfl, d, ys, rfl, SqL.of h3, by rw [hyl]; exact Nat.lt_of_le_of_lt (show 2 + n + 1 ≤ 43 by omega) (by decide), fun q hq => ?_⟩
      have f5 := f4.same (same_new1 (o := SetSO w q (fun y => y ∈ ys) ys.length) hq)
      refine ⟨q, _, _, rfl, upd_same, by omega, fun zs r hnd hmem hlen hsort hr => ?_⟩
      have f6 := f5.same (same_new1 (o := .lst (zs.map V.str)) hr)
      refine k r zs _ f6 (OutL.new f6 (f5.free hr) upd_same) ⟨fun n hn => hy n ((hmem n).mp hn), fun e => ?_, by omega⟩
      have : 0 < ys.length := by omega
      have h0 := (hmem ys[0]).mpr (List.getElem_mem this)
      rw [e] at h0
      cases h0
end
end KN
namespace KN
open PySem PySem.Spec PyProof.Rows L2

section
variable {P : Program} {w : World} {K : PySem.W.Frag} {mg : Str → Option Value} {base : Heap}

def spStream : Sp := fun vs H Q _ => ∃ (p a b q : Addr) (Nm : List Str) (m : Nat), vs = [.ref p, .ref q, .int (m : Int)] ∧ PotAt H p a b ∧ OutL H q p a b (Nm.map V.str) ∧ NmOk Nm ∧ m ≤ 1000 ∧
  ∀ (t : Addr) (ns : List Str) (H' : Hp), Fr p a b H H' → H' t = some (.tup (ns.map V.str)) → (∀ n ∈ ns, n ∈ Nm) → ns.length ≤ m → Q (.ref t) H'
theorem c_law_stream (T : Txt mg) (c1 : C8.Cal P w K mg base 1 "_law_draw" spDraw []) (c2 : C8.Cal P w K mg base 2 "_law_any" spAny []) (D : DefE K mg "_law_stream" (top 51)) : C8.Cal P w K mg base 3 "_law_stream" spStream [] := by
  have S : FnScope ["_law_pot_here", "_law_names_here", "_law_most", "_law_many", "_law_way", "_law_few", "_law_k", "_law_turn"] ["_law_pot_here", "_law_names_here", "_law_most"] (C8.fnScope (top 51)) := C8.fnScope_by (by decide +kernel)
  refine cal_of D S (fun _ _ _ _ _ _ us hl => match us, hl with | [_, _, _], _ => rfl) (fun vs H Q E h => ?_) (fun f cdv A outer s H vs Q E hr h => ?_)
  · obtain ⟨p, a, b, q, Nm, m, rfl, _⟩ := h
    rfl
  · obtain ⟨p, a, b, q, Nm, m, rfl, hp, hq, hN, hm, k⟩ := h
    have nd := S.nd
    refine ⟨_, pss_cons (ps_set (i := 3) nd rfl (Or.inl rfl) (pe_c c1 hr (by decide) rfl (pa_cons (pv 0) (pa_cons (pe_op op_add (pv 2) pe_int) pa_nil))))
      (pss_cons (ps_set (i := 4) nd rfl (Or.inl rfl) (pe_c c1 hr (by decide) rfl (pa_cons (pv 0) (pa_cons pe_int pa_nil))))
      (pss_cons (ps_if (pt_cmpR op_eq (pv 4) pe_int (nomark _))
        (pss_one (ps_ret (pe_callTy call_tuple_of rfl T.n_tuple boot_tuple' (pa_cons (pe_lc (own := [("_law_k", 6)]) (g := gName 6) (tt := tYes) rfl nd (pi_range1 rfl T.n_range (pa_cons (pv 3) pa_nil))
          (blkOk_by (own := [("_law_k", 6)]) (N := ["_law_pot_here", "_law_names_here", "_law_most", "_law_many", "_law_way", "_law_few", "_law_k", "_law_turn"]) (sc := C8.fnScope (top 51)) (by decide +kernel)) (fun _ _ _ _ _ => pg_name (i := 6) nd rfl (Or.inl rfl)) (fun _ _ _ _ _ => pts_nil)
          (fun _ _ _ _ _ => pe_ix (ixL K) (pv 1) (pe_op op_mod (pe_callTy call_int1 rfl T.n_int boot_int' (pa_cons (pv 6) pa_nil)) (pe_callB (lenK K) rfl T.n_len boot_len' (pa_cons (pv 1) pa_nil))) (fun _ _ => rfl))) pa_nil))))
        pss_nil)
      (pss_cons (ps_if (pt_cmpR op_eq (pv 4) pe_int (nomark _))
        (pss_cons (ps_set (i := 5) nd rfl (Or.inr rfl) (pe_lc (own := [("_law_turn", 7)]) (g := gName 7) (tt := tYes) rfl nd (pi_range1 rfl T.n_range (pa_cons pe_int pa_nil))
          (blkOk_by (own := [("_law_turn", 7)]) (N := ["_law_pot_here", "_law_names_here", "_law_most", "_law_many", "_law_way", "_law_few", "_law_k", "_law_turn"]) (sc := C8.fnScope (top 51)) (by decide +kernel)) (fun _ _ _ _ _ => pg_name (i := 7) nd rfl (Or.inl rfl)) (fun _ _ _ _ _ => pts_nil)
          (fun _ _ _ _ _ => pe_c c2 hr (by decide) rfl (pa_cons (pv 0) (pa_cons (pv 1) pa_nil)))))
        (pss_one (ps_ret (pe_callTy call_tuple_of rfl T.n_tuple boot_tuple' (pa_cons (pe_lc (own := [("_law_k", 6)]) (g := gName 6) (tt := tYes) rfl nd (pi_range1 rfl T.n_range (pa_cons (pv 3) pa_nil))
          (blkOk_by (own := [("_law_k", 6)]) (N := ["_law_pot_here", "_law_names_here", "_law_most", "_law_many", "_law_way", "_law_few", "_law_k", "_law_turn"]) (sc := C8.fnScope (top 51)) (by decide +kernel)) (fun _ _ _ _ _ => pg_name (i := 6) nd rfl (Or.inl rfl)) (fun _ _ _ _ _ => pts_nil)
          (fun _ _ _ _ _ => pe_c c2 hr (by decide) rfl (pa_cons (pv 0) (pa_cons (pe_ifExp (pt_cmpR op_gt (pe_c c1 hr (by decide) rfl (pa_cons (pv 0) (pa_cons pe_int pa_nil))) pe_int (nomark _)) (pv 5) (pv 1)) pa_nil)))) pa_nil)))))
        pss_nil)
      (pss_one (ps_ret (pe_callTy call_tuple_of rfl T.n_tuple boot_tuple' (pa_cons (pe_lc (own := [("_law_k", 6)]) (g := gName 6) (tt := tYes) rfl nd (pi_range1 rfl T.n_range (pa_cons (pv 3) pa_nil))
          (blkOk_by (own := [("_law_k", 6)]) (N := ["_law_pot_here", "_law_names_here", "_law_most", "_law_many", "_law_way", "_law_few", "_law_k", "_law_turn"]) (sc := C8.fnScope (top 51)) (by decide +kernel)) (fun _ _ _ _ _ => pg_name (i := 6) nd rfl (Or.inl rfl)) (fun _ _ _ _ _ => pts_nil)
          (fun _ _ _ _ _ => pe_c c2 hr (by decide) rfl (pa_cons (pv 0) (pa_cons (pv 1) pa_nil)))) pa_nil))))))), ?_⟩
    have hN1 : 0 < Nm.length := List.length_pos_iff.mpr hN.ne
    have hN2 := hN.len
    refine ⟨_, rfl, _, rfl, _, _, rfl, rfl, p, a, b, _, rfl, hp, by omega, by omega, fun n H1 n1 n2 f1 => ?_⟩
    refine ⟨_, rfl, p, a, b, 4, rfl, f1.pot, by decide, by decide, fun way H2 _ _ f2 => ?_⟩
    have f12 := f1.trans f2
    have q2 := hq.mono f12
    have hn : n.toNat ≤ m := by omega
    -- one name more
    have more : ∀ (e : Addr) (H3 : Hp), H2 e = none → Fr p a b H2 H3 → ∀ (ns : List Str) (y : Str), (∀ n ∈ ns, n ∈ Nm) → y ∈ Nm → ∀ z ∈ ns ++ [y], z ∈ Nm := fun e H3 _ _ ns y h hy z hz => by
      rcases List.mem_append.mp hz with g | g
      · exact h z g
      · rw [List.mem_singleton.mp g]; exact hy
    have nm_of : ∀ x ∈ Nm.map V.str, ∃ y ∈ Nm, x = .str y := fun x hx => let ⟨y, hy, e⟩ := List.mem_map.mp hx; ⟨y, hy, e.symm⟩
    -- the tuple at the end
    have fin : ∀ (e : Addr) (H3 H4 : Hp) (ns : List Str) (t : Addr), Fr p a b H H3 → (∀ n ∈ ns, n ∈ Nm) → ns.length ≤ m → H3 t = none → Q (.ref t) (upd H3 t (.tup (ns.map V.str))) := fun e H3 H4 ns t f h1 h2 h3 =>
      k t ns _ (f.same (same_new1 h3)) upd_same h1 h2
    refine ⟨_, rfl, rfl, _, rfl, ?_⟩
    refine ite2 (fun _ => ?_) (fun _ => ?_)
    · refine ⟨_, rfl, _, rfl, by omega, by omega, fun e he => ?_⟩
      refine lc_range (lo := 0) (n := n.toNat) (fun i H' => Fr p a b H2 H' ∧ ∃ ns : List Str, H' e = some (.lst (ns.map V.str)) ∧ (∀ n ∈ ns, n ∈ Nm) ∧ ns.length = i) ⟨(Fr.refl f12.pot).new he, [], upd_same, (fun _ h => (by cases h)), rfl⟩ (fun i H3 hi ⟨f3, ns, h3, hns, hnl⟩ => ?_) fun H3 ⟨f3, ns, h3, hns, hnl⟩ => ?_
      · have q3 := q2.mono f3
        obtain ⟨j, ej, hj⟩ := modI (i := 0 + (i : Int)) hN1
        refine ⟨rfl, _, rfl, _, rfl, .inl ⟨_, rfl, _, rfl, q, _, rfl, .inl (SqL.of q3.at'), ?_⟩⟩
        rw [List.length_map]
        refine ⟨_, _, rfl, rfl, (by show (0 : Int) < (Nm.length : Int); omega), q, _, _, .str Nm[j], rfl, rfl, SqL.of q3.at', at_of (j := j) ej (by rw [List.getElem?_map, List.getElem?_eq_getElem hj]; rfl), ?_⟩
        exact ⟨_, h3, by rw [List.length_map]; exact small64 (by omega), f3.new he, ns ++ [Nm[j]], by rw [upd_same, map_str_snoc], more e H3 he f3 ns _ hns (List.getElem_mem hj), by rw [List.length_append, hnl]; rfl⟩
      · exact ⟨e, _, rfl, .inl ⟨SqL.of h3, fun t ht => fin e H3 H3 ns t (f12.trans f3) hns (by omega) ht⟩⟩
    refine ⟨_, rfl, rfl, _, rfl, ?_⟩
    refine ite2 (fun _ => ?_) (fun _ => ?_)
    · refine ⟨_, rfl, by decide, by decide, fun g hg => ?_⟩
      refine lc_range (lo := 0) (n := 3) (fun i H' => Fr p a b H2 H' ∧ ∃ ns : List Str, H' g = some (.lst (ns.map V.str)) ∧ (∀ n ∈ ns, n ∈ Nm) ∧ ns.length = i) ⟨(Fr.refl f12.pot).new hg, [], upd_same, (fun _ h => (by cases h)), rfl⟩ (fun i H3 hi ⟨f3, ns, h3, hns, hnl⟩ => ?_) fun H3 ⟨f3, fs, h3, hfs, hfl⟩ => ?_
      · refine ⟨rfl, _, rfl, _, rfl, p, a, b, q, _, rfl, f3.pot, q2.mono f3, by rw [List.length_map]; exact hN1, by rw [List.length_map]; omega, fun x H4 hx f4 => ?_⟩
        obtain ⟨y, hy, rfl⟩ := nm_of x hx
        have h4 := ((OutL.new f3 hg h3).mono f4).at'
        exact ⟨_, h4, by rw [List.length_map]; exact small64 (by omega), (f3.trans f4).new hg, ns ++ [y], by rw [upd_same, map_str_snoc], more g H4 hg (f3.trans f4) ns _ hns hy, by rw [List.length_append, hnl]; rfl⟩
      have g3 := OutL.new f3 hg h3
      have q3 := q2.mono f3
      refine ⟨_, rfl, _, rfl, by omega, by omega, fun e he => ?_⟩
      refine lc_range (lo := 0) (n := n.toNat) (fun i H' => Fr p a b H3 H' ∧ ∃ ns : List Str, H' e = some (.lst (ns.map V.str)) ∧ (∀ n ∈ ns, n ∈ Nm) ∧ ns.length = i) ⟨(Fr.refl f3.pot).new he, [], upd_same, (fun _ h => (by cases h)), rfl⟩ (fun i H4 hi ⟨f4, ns, h4, hns, hnl⟩ => ?_) fun H4 ⟨f4, ns, h4, hns, hnl⟩ => ?_
      · refine ⟨rfl, _, rfl, _, rfl, p, a, b, 3, rfl, f4.pot, by decide, by decide, fun j H5 _ _ f5 => ?_⟩
        have f45 := f4.trans f5
        have e5 := ((OutL.new f4 he h4).mono f5)
        refine ⟨_, _, rfl, rfl, _, rfl, ?_⟩
        have step : ∀ (y : Str) (H6 : Hp), y ∈ Nm → Fr p a b H5 H6 → ∃ acc, H6 e = some (.lst acc) ∧ acc.length < sizeLine ∧ Fr p a b H3 (upd H6 e (.lst (acc ++ [.str y]))) ∧ ∃ ns : List Str, (upd H6 e (.lst (acc ++ [.str y]))) e = some (.lst (ns.map V.str)) ∧ (∀ n ∈ ns, n ∈ Nm) ∧ ns.length = i + 1 := fun y H6 hy f6 =>
          ⟨_, (e5.mono f6).at', by rw [List.length_map]; exact small64 (by omega), (f45.trans f6).new he, ns ++ [y], by rw [upd_same, map_str_snoc], more g H3 hg f3 ns _ hns hy, by rw [List.length_append, hnl]; rfl⟩
        refine ite2 (fun _ => ?_) (fun _ => ?_)
        · refine ⟨_, rfl, p, a, b, g, _, rfl, f5.pot, g3.mono f45, by rw [List.length_map, hfl]; decide, by rw [List.length_map, hfl]; decide, fun x H6 hx f6 => ?_⟩
          obtain ⟨y, hy, rfl⟩ := List.mem_map.mp hx
          exact step y H6 (hfs y hy) f6
        · refine ⟨_, rfl, p, a, b, q, _, rfl, f5.pot, q3.mono f45, by rw [List.length_map]; exact hN1, by rw [List.length_map]; omega, fun x H6 hx f6 => ?_⟩
          obtain ⟨y, hy, rfl⟩ := nm_of x hx
          exact step y H6 hy f6
      · exact ⟨e, _, rfl, .inl ⟨SqL.of h4, fun t ht => fin e H4 H4 ns t ((f12.trans f3).trans f4) hns (by omega) ht⟩⟩
    · refine ⟨_, rfl, _, rfl, by omega, by omega, fun e he => ?_⟩
      refine lc_range (lo := 0) (n := n.toNat) (fun i H' => Fr p a b H2 H' ∧ ∃ ns : List Str, H' e = some (.lst (ns.map V.str)) ∧ (∀ n ∈ ns, n ∈ Nm) ∧ ns.length = i) ⟨(Fr.refl f12.pot).new he, [], upd_same, (fun _ h => (by cases h)), rfl⟩ (fun i H3 hi ⟨f3, ns, h3, hns, hnl⟩ => ?_) fun H3 ⟨f3, ns, h3, hns, hnl⟩ => ?_
      · refine ⟨rfl, _, rfl, _, rfl, p, a, b, q, _, rfl, f3.pot, q2.mono f3, by rw [List.length_map]; exact hN1, by rw [List.length_map]; omega, fun x H4 hx f4 => ?_⟩
        obtain ⟨y, hy, rfl⟩ := nm_of x hx
        have h4 := ((OutL.new f3 he h3).mono f4).at'
        exact ⟨_, h4, by rw [List.length_map]; exact small64 (by omega), (f3.trans f4).new he, ns ++ [y], by rw [upd_same, map_str_snoc], more e H4 he (f3.trans f4) ns _ hns hy, by rw [List.length_append, hnl]; rfl⟩
      · exact ⟨e, _, rfl, .inl ⟨SqL.of h3, fun t ht => fin e H3 H3 ns t (f12.trans f3) hns (by omega) ht⟩⟩
end
end KN
namespace KN
open PySem PySem.Spec PyProof.Rows L2

/-- a leaf as the law draws it -/
def LawLeaf (Nm : List Str) (m : Nat) (ns : List Str) : Prop := LeafOk Nm ns ∧ ns.length ≤ m
theorem snoc2 {α : Type} {l : List α} {n : Nat} (h : l.length = n + 2) : ∃ G x y, l = G ++ [x, y] := by
  have h1 : l ≠ [] := fun e => by rw [e] at h; cases h
  have e1 := List.dropLast_concat_getLast h1
  have h2 : l.dropLast ≠ [] := fun e => by
    have := congrArg List.length e
    rw [List.length_dropLast, h] at this
    simp at this
  have e2 := List.dropLast_concat_getLast h2
  refine ⟨l.dropLast.dropLast, l.dropLast.getLast h2, l.getLast h1, ?_⟩
  rw [show ([l.dropLast.getLast h2, l.getLast h1] : List α) = [l.dropLast.getLast h2] ++ [l.getLast h1] from rfl, ← List.append_assoc, e2, e1]
theorem snoc1 {α : Type} {l : List α} {n : Nat} (h : l.length = n + 1) : ∃ G x, l = G ++ [x] ∧ G.length = n := by
  have h1 : l ≠ [] := fun e => by rw [e] at h; cases h
  exact ⟨l.dropLast, l.getLast h1, (List.dropLast_concat_getLast h1).symm, by rw [List.length_dropLast]; omega⟩
theorem leavesF_pour {G : List (Tr Str)} {x y : Tr Str} : leavesF (G ++ [.pour x y]) = leavesF (G ++ [x, y]) := by
  rw [leavesF_app, leavesF_app]
  simp only [leavesF, List.map_cons, List.map_nil, List.sum_cons, List.sum_nil, Tr.leaves]
  omega
theorem all_pour {P : List Str → Prop} {G : List (Tr Str)} {x y : Tr Str} (h : ∀ t ∈ G ++ [x, y], t.All P) : ∀ t ∈ G ++ [.pour x y], t.All P := fun t ht => by
  rcases List.mem_append.mp ht with z | z
  · exact h t (List.mem_append_left _ z)
  · rw [List.mem_singleton.mp z]
    exact ⟨h x (List.mem_append_right _ List.mem_cons_self), h y (List.mem_append_right _ (List.mem_cons_of_mem _ List.mem_cons_self))⟩
theorem builds_end {P : List Str → Prop} : ∀ (n : Nat) (st : List (Stp Str)) (F : List (Tr Str)), F.length = n + 1 → Builds st F → (∀ t ∈ F, t.All P) → ∃ T, Builds (st ++ List.replicate n .pour) [T] ∧ T.All P ∧ T.leaves = leavesF F
  | 0, st, F, hl, hb, ha => by
    obtain ⟨G, x, rfl, hG⟩ := snoc1 hl
    have : G = [] := List.length_eq_zero_iff.mp hG
    subst this
    refine ⟨x, by rw [List.replicate_zero, List.append_nil]; exact hb, ha x List.mem_cons_self, ?_⟩
    simp [leavesF]
  | n + 1, st, F, hl, hb, ha => by
    obtain ⟨G, x, y, rfl⟩ := snoc2 hl
    have hl2 : (G ++ [Tr.pour x y]).length = n + 1 := by
      rw [List.length_append] at hl ⊢
      simp only [List.length_cons, List.length_nil] at hl ⊢
      omega
    obtain ⟨T, h1, h2, h3⟩ := builds_end n (st ++ [.pour]) (G ++ [.pour x y]) hl2 hb.pour (all_pour ha)
    refine ⟨T, ?_, h2, by rw [h3, leavesF_pour]⟩
    rw [List.replicate_succ]
    rw [List.append_assoc] at h1
    exact h1
theorem paired_app {α β : Type} {R : α → β → Prop} {l' : List α} {m' : List β} (g : Paired R l' m') : ∀ {l : List α} {m : List β}, Paired R l m → Paired R (l ++ l') (m ++ m')
  | _, _, .nil => g
  | _, _, .cons h t => .cons h (paired_app g t)
theorem paired_rep {α β : Type} {R : α → β → Prop} {x : α} {y : β} (h : R x y) : ∀ n, Paired R (List.replicate n x) (List.replicate n y)
  | 0 => .nil
  | n + 1 => .cons h (paired_rep h n)
theorem flat_rep {α : Type} (x : α) : ∀ n, (List.replicate n [x]).flatten = List.replicate n x
  | 0 => rfl
  | n + 1 => by rw [List.replicate_succ, List.flatten_cons, flat_rep x n]; rfl
section
variable {P : Program} {w : World} {K : PySem.W.Frag} {mg : Str → Option Value} {base : Heap}

/-- a tree as the law draws it -/
structure LawTree (Nm : List Str) (m : Nat) (n : Nat) (t : List (Stp Str)) (T : Tr Str) : Prop where
  builds : Builds t [T]
  all : T.All (LawLeaf Nm m)
  leaves : T.leaves = n
def spLawTree : Sp := fun vs H Q _ => ∃ (p a b q : Addr) (Nm : List Str) (n m : Nat), vs = [.ref p, .ref q, .int (n : Int), .int (m : Int)] ∧ PotAt H p a b ∧ OutL H q p a b (Nm.map V.str) ∧ NmOk Nm ∧ 1 ≤ n ∧ n ≤ 40 ∧ m ≤ 30 ∧
  ∀ (v : V) (t : List (Stp Str)) (T : Tr Str) (H' : Hp), Fr p a b H H' → TreeAt H' v t → LawTree Nm m n t T → Q v H'
theorem c_law_tree (T : Txt mg) (c1 : C8.Cal P w K mg base 1 "_law_draw" spDraw []) (c2 : C8.Cal P w K mg base 3 "_law_stream" spStream []) (D : DefE K mg "_law_tree" (top 52)) : C8.Cal P w K mg base 4 "_law_tree" spLawTree [] := by
  have S : FnScope ["_law_pot_here", "_law_names_here", "_law_leaves", "_law_most", "_law_steps", "_law_pile", "_law_turn", "_law_again"] ["_law_pot_here", "_law_names_here", "_law_leaves", "_law_most"] (C8.fnScope (top 52)) := C8.fnScope_by (by decide +kernel)
  refine cal_of D S (fun _ _ _ _ _ _ us hl => match us, hl with | [_, _, _, _], _ => rfl) (fun vs H Q E h => ?_) (fun f cdv A outer s H vs Q E hr h => ?_)
  · obtain ⟨p, a, b, q, Nm, n, m, rfl, _⟩ := h
    rfl
  · obtain ⟨p, a, b, q, Nm, n, m, rfl, hp, hq, hN, hn1, hn2, hm, k⟩ := h
    have nd := S.nd
    refine ⟨_, pss_cons (ps_par (i := 4) (j := 5) rfl nd rfl rfl (by decide) rfl rfl (pa_cons (pe_lst pa_nil) (pa_cons pe_int pa_nil)) (by rfl))
      (pss_cons (ps_for PassesOwn.never rfl (pi_range1 rfl T.n_range (pa_cons (pv 2) pa_nil)) (pg_name (i := 6) nd rfl (Or.inl rfl))
        (pss_cons (ps_expr (pe_bm PySem.F.plainAttrs_list PySem.F.slot_list_append PySem.F.type_list_append mt_append (pv 4) (pa_cons (pe_tup (pa_cons pe_str (pa_cons (pe_c c2 hr (by decide) rfl (pa_cons (pv 0) (pa_cons (pv 1) (pa_cons (pv 3) pa_nil)))) pa_nil))) pa_nil)))
        (pss_cons (ps_set (i := 5) nd rfl (Or.inl rfl) (pe_op op_add (pv 5) pe_int))
        (pss_one (ps_for PassesOwn.never rfl (pi_range1 rfl T.n_range (pa_cons (pe_c c1 hr (by decide) rfl (pa_cons (pv 0) (pa_cons pe_int pa_nil))) pa_nil)) (pg_name (i := 7) nd rfl (Or.inl rfl))
          (pss_one (ps_if (pt_cmpR op_gt (pv 5) pe_int (nomark _))
            (pss_cons (ps_expr (pe_bm PySem.F.plainAttrs_list PySem.F.slot_list_append PySem.F.type_list_append mt_append (pv 4) (pa_cons (pe_tup (pa_cons pe_str pa_nil)) pa_nil)))
            (pss_one (ps_set (i := 5) nd rfl (Or.inl rfl) (pe_op op_sub (pv 5) pe_int)))) pss_nil)))))))
      (pss_one (ps_ret (pe_callTy call_tuple_of rfl T.n_tuple boot_tuple' (pa_cons (pe_op op_cat (pv 4) (pe_op op_rep (pe_lst (pa_cons (pe_tup (pa_cons pe_str pa_nil)) pa_nil)) (pe_op op_sub (pv 5) pe_int))) pa_nil))))), ?_⟩
    refine ⟨Nat.zero_le _, fun d hd => ⟨_, _, rfl, ?_⟩⟩
    refine ⟨_, rfl, _, rfl, by omega, by omega, ?_⟩
    rw [Int.toNat_natCast]
    let J : Nat → List (Tr Str) → List (Stp Str) → L2.St → Hp → Prop := fun i F st σ H' => Fr p a b H H' ∧ Builds st F ∧ leavesF F = i ∧ (∀ t ∈ F, t.All (LawLeaf Nm m)) ∧
      ∃ (vs : List V) (x y : Option V), H' d = some (.lst vs) ∧ Paired (StepAt H') vs st ∧ σ = [some (.ref p), some (.ref q), some (.int n), some (.int m), some (.ref d), some (.int (F.length : Int)), x, y]
    refine for_range (lo := 0) (n := n) (fun i σ H' => ∃ F st, J i F st σ H' ∧ (0 < i → F ≠ [])) ⟨[], [], ⟨(Fr.refl hp).new hd, .nil, rfl, (fun _ h => (by cases h)), [], none, none, upd_same, .nil, rfl⟩, fun h => absurd h (by decide)⟩
      (fun i σ H1 hi ⟨F, st, ⟨f1, hB, hL, hA, vs, x, y, h1, hv, hσ⟩, hF⟩ => ?_) fun σ H1 ⟨F, st, ⟨f1, hB, hL, hA, vs, x, y, h1, hv, hσ⟩, hF⟩ => ?_
    · subst hσ
      have ho1 := OutL.new f1 hd h1
      refine ⟨_, rfl, .inl ⟨rfl, _, SqL.of h1⟩, _, rfl, _, rfl, _, rfl, p, a, b, q, Nm, m, rfl, f1.pot, hq.mono f1, hN, by omega, fun bt ns H2 f2 hbt hns hnl => ⟨by show 2 ≤ sizeLine; decide, fun tp htp => ?_⟩⟩
      have f12 := f1.trans f2
      have ho2 := ho1.mono f2
      have ntd : d ≠ tp := ne_of_none ho2.at' htp
      have s3 : Same H2 (upd H2 tp (.tup [.str "stream", .ref bt])) := same_new1 htp
      have h3 : (upd H2 tp (.tup [.str "stream", .ref bt])) tp = some (.tup [.str "stream", .ref bt]) := upd_same
      generalize upd H2 tp (.tup [.str "stream", .ref bt]) = H3 at s3 h3 ⊢
      have hl : st.length + F.length = 2 * i := by rw [hB.len, hL]
      have hvl := paired_len hv
      refine ⟨d, vs, .ref tp, rfl, rfl, s3 _ _ ho2.at', small64 (by omega), ?_⟩
      have f3 := f12.same s3
      have tk4 : TK H3 (upd H3 d (.lst (vs ++ [.ref tp]))) := TK.lst (s3 _ _ ho2.at')
      have f4 : Fr p a b H (upd H3 d (.lst (vs ++ [.ref tp]))) := f3.new hd
      have hleaf : LawLeaf Nm m ns := ⟨⟨⟨by omega, fun n' hn' => hN.nm n' (hns n' hn')⟩, hns⟩, hnl⟩
      have hv4 : Paired (StepAt (upd H3 d (.lst (vs ++ [.ref tp])))) (vs ++ [.ref tp]) (st ++ [.stream ns]) :=
        paired_snoc ⟨tp, bt, rfl, tk4.1 _ _ h3, tk4.1 _ _ (s3 _ _ hbt)⟩ (paired_imp (fun _ _ => StepAt.mono ((f2.tk.trans (tk_of s3)).trans tk4)) hv)
      have h4 : (upd H3 d (.lst (vs ++ [.ref tp]))) d = some (.lst (vs ++ [.ref tp])) := upd_same
      generalize upd H3 d (.lst (vs ++ [.ref tp])) = H4 at f4 hv4 h4 ⊢
      have hl4 : leavesF (F ++ [.leaf ns]) = i + 1 := by
        rw [leavesF_app, hL]
        simp [leavesF, Tr.leaves]
      have hA4 : ∀ t ∈ F ++ [.leaf ns], t.All (LawLeaf Nm m) := fun t ht => by
        rcases List.mem_append.mp ht with z | z
        · exact hA t z
        · rw [List.mem_singleton.mp z]; exact hleaf
      refine ⟨_, rfl, _, _, rfl, rfl, ?_⟩
      refine ⟨_, rfl, p, a, b, 3, rfl, f4.pot, by decide, by decide, fun j H5 j1 j2 f5 => ⟨_, rfl, by omega, by omega, ?_⟩⟩
      have h5 := ((OutL.new f4 hd h4).mono f5).at'
      refine for_range (lo := 0) (n := j.toNat) (fun _ σ H' => ∃ F st, J (i + 1) F st σ H' ∧ F ≠ []) ⟨F ++ [.leaf ns], st ++ [.stream ns], ⟨f4.trans f5, hB.leaf, hl4, hA4, _, some (.int (0 + (i : Int))), y, h5, paired_imp (fun _ _ => StepAt.mono f5.tk) hv4, ?_⟩, by simp⟩
        (fun i2 σ H6 _ ⟨F, st, ⟨f1, hB, hL, hA, vs, x, y, h1, hv, hσ⟩, hF⟩ => ?_) fun σ H6 ⟨F, st, ⟨f1, hB, hL, hA, vs, x, y, h1, hv, hσ⟩, hF⟩ => ?_
      · have e2 : (F.length : Int) + 1 = ((F ++ [Tr.leaf ns]).length : Int) := by
          rw [List.length_append]; simp only [List.length_cons, List.length_nil]; omega
        rw [← e2]
        rfl
      · subst hσ
        have hl6 : st.length + F.length = 2 * (i + 1) := by rw [hB.len, hL]
        have hvl6 := paired_len hv
        refine ⟨_, rfl, _, _, rfl, rfl, _, rfl, ?_⟩
        by_cases hgt : 1 < (F.length : Int)
        · rw [decide_eq_true hgt]
          obtain ⟨G, X, Y, rfl⟩ := snoc2 (n := F.length - 2) (l := F) (by omega)
          refine iteT ⟨_, rfl, .inl ⟨rfl, _, SqL.of h1⟩, (by show 1 ≤ sizeLine; decide), fun tp htp => ?_⟩
          have ntd : d ≠ tp := ne_of_none h1 htp
          have s7 : Same H6 (upd H6 tp (.tup [.str "pour"])) := same_new1 htp
          have h7 : (upd H6 tp (.tup [.str "pour"])) tp = some (.tup [.str "pour"]) := upd_same
          generalize upd H6 tp (.tup [.str "pour"]) = H7 at s7 h7 ⊢
          refine ⟨d, vs, .ref tp, rfl, rfl, s7 _ _ h1, small64 (by omega), ?_⟩
          have tk8 : TK H7 (upd H7 d (.lst (vs ++ [.ref tp]))) := TK.lst (s7 _ _ h1)
          refine ⟨_, rfl, _, _, rfl, rfl, G ++ [.pour X Y], st ++ [.pour], ⟨(f1.same s7).new hd, hB.pour, by rw [leavesF_pour]; exact hL, all_pour hA, _, x, some (.int (0 + (i2 : Int))), upd_same, ?_, ?_⟩, by simp⟩
          · exact paired_snoc ⟨tp, rfl, tk8.1 _ _ h7⟩ (paired_imp (fun _ _ => StepAt.mono ((tk_of s7).trans tk8)) hv)
          · have e2 : (((G ++ [X, Y]).length : Nat) : Int) - 1 = ((G ++ [Tr.pour X Y]).length : Int) := by
              rw [List.length_append, List.length_append]; simp only [List.length_cons, List.length_nil]; omega
            rw [← e2]
            rfl
        · rw [decide_eq_false hgt]
          exact iteF ⟨F, st, ⟨f1, hB, hL, hA, vs, _, _, h1, hv, rfl⟩, hF⟩
      · exact ⟨F, st, ⟨f1, hB, hL, hA, vs, x, y, h1, hv, hσ⟩, fun _ => hF⟩
    · subst hσ
      have hl6 : st.length + F.length = 2 * n := by rw [hB.len, hL]
      have hvl := paired_len hv
      have hF1 : 0 < F.length := List.length_pos_iff.mpr (hF (by omega))
      obtain ⟨T', b1, b2, b3⟩ := builds_end (F.length - 1) st F (by omega) hB hA
      refine ⟨_, rfl, (by show 1 ≤ sizeLine; decide), fun tp htp => ⟨(by show 1 ≤ sizeLine; decide), fun lp hlp => ?_⟩⟩
      have s2 : Same H1 (upd H1 tp (.tup [.str "pour"])) := same_new1 htp
      have h2 : (upd H1 tp (.tup [.str "pour"])) tp = some (.tup [.str "pour"]) := upd_same
      generalize upd H1 tp (.tup [.str "pour"]) = H2 at s2 h2 hlp ⊢
      have s3 : Same H2 (upd H2 lp (.lst [.ref tp])) := same_new1 hlp
      have h3 : (upd H2 lp (.lst [.ref tp])) lp = some (.lst [.ref tp]) := upd_same
      generalize upd H2 lp (.lst [.ref tp]) = H3 at s3 h3 ⊢
      refine ⟨_, rfl, _, _, rfl, rfl, lp, _, _, rfl, rfl, h3, by omega, by omega, ?_, fun rp hrp => ?_⟩
      · show 1 * ((F.length : Int) - 1).toNat ≤ sizeLine
        have := sizeLine_eq; omega
      have ek : ((F.length : Int) - 1).toNat = F.length - 1 := by omega
      rw [ek, flat_rep]
      have s4 : Same H3 (upd H3 rp (.lst (List.replicate (F.length - 1) (V.ref tp)))) := same_new1 hrp
      have h4 : (upd H3 rp (.lst (List.replicate (F.length - 1) (V.ref tp)))) rp = some (.lst (List.replicate (F.length - 1) (V.ref tp))) := upd_same
      generalize upd H3 rp (.lst (List.replicate (F.length - 1) (V.ref tp))) = H4 at s4 h4 ⊢
      have s14 := (s2.trans s3).trans s4
      refine ⟨d, rp, vs, _, rfl, rfl, s14 _ _ h1, h4, ?_, fun cp hcp => ?_⟩
      · rw [List.length_replicate]; have := sizeLine_eq; omega
      have s5 : Same H4 (upd H4 cp (.lst (vs ++ List.replicate (F.length - 1) (V.ref tp)))) := same_new1 hcp
      have h5 : (upd H4 cp (.lst (vs ++ List.replicate (F.length - 1) (V.ref tp)))) cp = some (.lst (vs ++ List.replicate (F.length - 1) (V.ref tp))) := upd_same
      generalize upd H4 cp (.lst (vs ++ List.replicate (F.length - 1) (V.ref tp))) = H5 at s5 h5 ⊢
      refine ⟨cp, _, rfl, .inl ⟨SqL.of h5, fun z hz => ?_⟩⟩
      have s6 : Same H5 (upd H5 z (.tup (vs ++ List.replicate (F.length - 1) (V.ref tp)))) := same_new1 hz
      have s16 := (s14.trans s5).trans s6
      have tp6 := s6 _ _ (s5 _ _ (s4 _ _ (s3 _ _ h2)))
      exact k (.ref z) _ T' _ (f1.same s16) ⟨z, _, rfl, upd_same, paired_app (paired_rep (R := StepAt _) (y := Stp.pour) ⟨tp, rfl, tp6⟩ _) (paired_imp (fun _ _ => StepAt.mono (tk_of s16)) hv)⟩ ⟨b1, b2, by rw [b3, hL]⟩
end
end KN
namespace KN
open PySem PySem.Spec PyProof.Rows L2

theorem dec_len {n m : Nat} : decide (V.int (n : Int) = V.int (m : Int)) = decide (n = m) := by
  rw [dec_vi]
  exact decide_eq_decide.mpr (by omega)
section
variable {P : Program} {w : World} {K : PySem.W.Frag} {mg : Str → Option Value} {base : Heap}

def spCounted : Sp := fun vs H Q _ => ∃ (tv : V) (t : List (Stp Str)) (T : Tr Str), vs = [tv] ∧ TreeAt H tv t ∧ Run [] t T ∧ T.items.length ≤ 50000 ∧ ∀ (d : Addr) (H' : Hp), Same H H' → H' d = some (.dK (enc (countsA T.items))) → Q (.ref d) H'
theorem c_law_counted (T : Txt mg) (D : DefE K mg "_law_counted" (top 53)) : C8.Cal P w K mg base 1 "_law_counted" spCounted [] := by
  have S : FnScope ["_law_tree_here", "_law_found", "_law_step", "_law_name"] ["_law_tree_here"] (C8.fnScope (top 53)) := C8.fnScope_by (by decide +kernel)
  refine cal_of D S (fun _ _ _ _ _ _ us hl => match us, hl with | [_], _ => rfl) (fun vs H Q E h => ?_) (fun f cdv A outer s H vs Q E hr h => ?_)
  · obtain ⟨tv, t, T, rfl, _⟩ := h
    rfl
  · obtain ⟨tv, t, T', rfl, ht, hrun, hi, k⟩ := h
    have nd := S.nd
    have hu := hu_of hr
    refine ⟨_, pss_cons (ps_set (i := 1) nd rfl (Or.inl rfl) pe_dnewK)
      (pss_cons (ps_for PassesOwn.never rfl (pi_tup (pv 0)) (pg_name (i := 2) nd rfl (Or.inl rfl))
        (pss_one (ps_if (pt_cmpR op_eq (pe_callB call_len_seq rfl T.n_len boot_len' (pa_cons (pv 2) pa_nil)) pe_int (nomark _))
          (pss_one (ps_for PassesOwn.never rfl (pi_tup (pe_ix ix_tup (pv 2) pe_int (fun _ _ => rfl))) (pg_name (i := 3) nd rfl (Or.inl rfl))
            (pss_one (ps_dput hu (pv 1) (pv 3) (pe_op op_add (pe_dget2 hu (pv 1) (pv 3) pe_int ⟨rfl, rfl, rfl, rfl⟩) pe_int) rfl))))
          pss_nil)))
      (pss_one (ps_ret (pv 1)))), ?_⟩
    intro d hd
    obtain ⟨a, vs, rfl, ha, hp⟩ := id ht
    have hvl : vs.length = t.length := paired_len hp
    have s1 : Same H (upd H d (.dK [])) := same_new1 hd
    refine ⟨_, rfl, a, rfl, ⟨_, SqT.of (s1 _ _ ha)⟩, ?_⟩
    refine for_y (y_tup vs) (fun i σ H' => Same H H' ∧ ∃ (F : List (Tr Str)) (sv nv : Option V), Run F (t.drop i) T' ∧ σ = [some (.ref a), some (.ref d), sv, nv] ∧ H' d = some (.dK (enc (countsA (itemsF F)))))
      (fun i σ H' _ p => SqT.of (p.1 _ _ ha)) ⟨s1, [], none, none, hrun, rfl, upd_same⟩ (fun i σ H1 hi' ⟨s2, F, sv, nv, hF, hσ, hd1⟩ => ?_) fun σ H1 ⟨s2, F, sv, nv, hF, hσ, hd1⟩ => ?_
    · subst hσ
      have ev : vs[i]? = some vs[i] := List.getElem?_eq_getElem hi'
      obtain ⟨st, est, hst⟩ := paired_at hp ev
      have hst1 : StepAt H1 vs[i] st := hst.mono (tk_of s2)
      have ed : t.drop i = st :: t.drop (i + 1) := by
        obtain ⟨hl', e'⟩ := List.getElem?_eq_some_iff.mp est
        rw [List.drop_eq_getElem_cons hl', e']
      rw [ed] at hF
      rw [getD_of ev]
      cases st with
      | pour =>
        obtain ⟨G, x, y, rfl, hG⟩ := hF.cases_po
        obtain ⟨a1, e1, g1⟩ := hst1
        refine ⟨_, rfl, a1, _, e1 ▸ rfl, .inr (SqT.of g1), rfl, _, rfl, ?_⟩
        have c : decide (V.int (([V.str "pour"] : List V).length : Int) = V.int 2) = false := by rw [dec_vi]; decide
        rw [c]
        refine iteF ⟨s2, _, some vs[i], nv, hG, rfl, ?_⟩
        rw [itemsF_pour]
        exact hd1
      | stream ns =>
        have hS := hF.cases_st
        have hm : (itemsF F).length + ns.length ≤ T'.items.length := by
          have := hS.mono
          rw [itemsF_leaf, List.length_append] at this
          exact this
        obtain ⟨a1, b1, e1, g1, g2⟩ := hst
        refine ⟨_, rfl, a1, _, e1 ▸ rfl, .inr (SqT.of (s2 _ _ g1)), rfl, _, rfl, ?_⟩
        have c : decide (V.int (([V.str "stream", V.ref b1] : List V).length : Int) = V.int 2) = true := by rw [dec_vi]; exact decide_eq_true rfl
        rw [c]
        refine iteT ?_
        refine ⟨_, rfl, a1, _, 1, .ref b1, e1, rfl, SqT.of (s2 _ _ g1), rfl, b1, rfl, ⟨_, SqT.of (s2 _ _ g2)⟩, ?_⟩
        refine for_y (y_tup (ns.map V.str)) (fun j σ H' => Same H H' ∧ ∃ (nv : Option V), σ = [some (.ref a), some (.ref d), some vs[i], nv] ∧ H' d = some (.dK (enc (countsA (itemsF F ++ ns.take j)))))
          (fun j σ H' _ p => SqT.of (p.1 _ _ g2)) ⟨s2, nv, rfl, by rw [List.take_zero, List.append_nil]; exact hd1⟩ (fun j σ H2 hj ⟨s3, nv', hσ, hd2⟩ => ?_) fun σ H2 ⟨s3, nv', hσ, hd2⟩ => ?_
        · subst hσ
          rw [List.length_map] at hj
          have ex : (ns.map V.str).getD j .non = .str ns[j] := getD_of (by rw [List.getElem?_map, List.getElem?_eq_getElem hj]; rfl)
          rw [ex]
          generalize hM : countsA (itemsF F ++ ns.take j) = M at hd2
          have hML : M.length < sizeLine := by
            have z := counts_len (itemsF F ++ ns.take j)
            rw [hM, List.length_append, List.length_take] at z
            exact small64 (by omega)
          refine ⟨_, rfl, d, rfl, .inl ⟨_, .inl hd2⟩, _, rfl, _, dget_enc ns[j] (.inl hd2), ?_⟩
          rw [getD_look]
          refine ⟨_, _, rfl, rfl, _, rfl, _, rfl, d, _, rfl, dput_enc ns[j] (getA M ns[j] + 1) hd2 hML, same_new s3 hd, some (.str ns[j]), rfl, ?_⟩
          have et : itemsF F ++ ns.take (j + 1) = (itemsF F ++ ns.take j) ++ [ns[j]] := by
            rw [List.take_add_one, List.getElem?_eq_getElem hj, List.append_assoc]; rfl
          rw [upd_same, et, counts_snoc, hM]
        · subst hσ
          refine ⟨s3, _, some vs[i], nv', hS, rfl, ?_⟩
          rw [itemsF_leaf]
          rw [List.length_map, List.take_length] at hd2
          exact hd2
    · subst hσ
      have en : t.drop vs.length = [] := List.drop_eq_nil_of_le (by omega)
      rw [en] at hF
      have := hF.cases_nil
      subst this
      have e1 : itemsF [T'] = T'.items := by simp [itemsF]
      rw [e1] at hd1
      exact ⟨_, rfl, k d H1 s2 hd1⟩

def spLawFed : Sp := fun vs H Q _ => ∃ (r : Nat) (v : V) (s : St Str) (n : Str), vs = [.int r, v, .str n] ∧ StAt H v s ∧ (keysA s.2).Nodup ∧ s.2.length ≤ 1000 ∧ ∀ (v' : V) (H' : Hp), Same H H' → StAt H' v' (fedA r s n) → Q v' H'
theorem c_law_fed (T : Txt mg) (D : DefE K mg "_law_fed" (top 54)) : C8.Cal P w K mg base 1 "_law_fed" spLawFed [] := by
  have S : FnScope ["_law_room", "_law_state", "_law_name", "_law_off", "_law_counts", "_law_later", "_law_other"] ["_law_room", "_law_state", "_law_name"] (C8.fnScope (top 54)) := C8.fnScope_by (by decide +kernel)
  refine cal_of D S (fun _ _ _ _ _ _ us hl => match us, hl with | [_, _, _], _ => rfl) (fun vs H Q E h => ?_) (fun f cdv A outer s H vs Q E hr h => ?_)
  · obtain ⟨r, v, s, n, rfl, _⟩ := h
    rfl
  · obtain ⟨r, v, st, n, rfl, ⟨a, d0, rfl, ha, hd0⟩, hnd, hl, k⟩ := h
    have nd := S.nd
    have hu := hu_of hr
    refine ⟨_, pss_cons (ps_asg (pv 1) (pg_tup rfl (pgs_cons (pg_name (i := 3) nd rfl (Or.inl rfl)) (pgs_cons (pg_name (i := 4) nd rfl (Or.inl rfl)) pgs_nil))))
      (pss_cons (ps_set (i := 5) nd rfl (Or.inr rfl) (pe_callTy call_dictD rfl T.n_dict boot_dict' (pa_cons (pv 4) pa_nil)))
      (pss_cons (ps_if (PW.pt (pw_or (pt_cmp (pc_din hu (pv 2) (pv 5))) (pw_or1 (pt_cmpR op_lt (pe_callB call_lenD rfl T.n_len boot_len' (pa_cons (pv 5) pa_nil)) (pv 0) (nomark _)))))
          (pss_cons (ps_dput hu (pv 5) (pv 2) (pe_op op_add (pe_dget2 hu (pv 5) (pv 2) pe_int ⟨rfl, rfl, rfl, rfl⟩) pe_int) rfl)
            (pss_one (ps_ret (pe_tup (pa_cons (pv 3) (pa_cons (pv 5) pa_nil)))))) pss_nil)
      (pss_one (ps_ret (pe_tup (pa_cons (pe_op op_add (pv 3) pe_int) (pa_cons (pe_callTy (call_dictP rfl) rfl T.n_dict boot_dict' (pa_cons (pe_lock (pe_lc (own := [("_law_other", 6)]) (g := gName 6) rfl nd (pi_keys (pv 5))
        (blkOk_by (own := [("_law_other", 6)]) (N := ["_law_room", "_law_state", "_law_name", "_law_off", "_law_counts", "_law_later", "_law_other"]) (sc := C8.fnScope (top 54)) (by decide +kernel)) (fun _ _ _ _ _ => pg_name (i := 6) nd rfl (Or.inl rfl))
        (fun _ _ _ _ _ => pts_one (pt_cmpR op_gt (pe_dget hu (pv 5) (pv 6) (fun _ _ => rfl)) pe_int (nomark _)))
        (fun _ _ _ _ _ => pe_tup (pa_cons (pv 6) (pa_cons (pe_op op_sub (pe_dget hu (pv 5) (pv 6) (fun _ _ => rfl)) pe_int) pa_nil))))) pa_nil)) pa_nil))))))), ?_⟩
    refine ⟨_, rfl, a, _, rfl, SqT.of ha, rfl, _, _, rfl, _, _, rfl, rfl, ?_⟩
    refine ⟨_, rfl, d0, _, rfl, .inl hd0, fun d hd => ?_⟩
    have s1 : Same H (upd H d (.dK (enc st.2))) := same_new1 hd
    have h1 : (upd H d (.dK (enc st.2))) d = some (.dK (enc st.2)) := upd_same
    generalize upd H d (.dK (enc st.2)) = H1 at s1 h1 ⊢
    refine ⟨_, rfl, _, rfl, d, _, rfl, dget_enc n (.inl h1), _, rfl, ?_⟩
    rw [isSome_look]
    by_cases hc : n ∈ keysA st.2 ∨ st.2.length < r
    · have ef : fedA r st n = (st.1, putA st.2 n (getA st.2 n + 1)) := if_pos hc
      by_cases hin : n ∈ keysA st.2
      rw [decide_eq_true hin]
      refine iteT (iteT ?_)
      rotate_left
      rw [decide_eq_false hin]
      refine iteF ⟨_, rfl, d, _, rfl, h1, _, rfl, _, _, rfl, rfl, _, rfl, ?_⟩
      have c2 : decide (((enc st.2).length : Int) < (r : Int)) = true := decide_eq_true (by
        have := hc.resolve_left hin
        rw [enc_len]; omega)
      rw [c2]
      refine iteT ?_
      all_goals
        refine ⟨_, rfl, d, rfl, .inl ⟨_, .inl h1⟩, _, rfl, _, dget_enc n (.inl h1), ?_⟩
        rw [getD_look]
        refine ⟨_, _, rfl, rfl, _, rfl, _, rfl, d, _, rfl, dput_enc n (getA st.2 n + 1) h1 (small64 (by omega)), ?_⟩
        have s2 : Same H (upd H1 d (.dK (enc (putA st.2 n (getA st.2 n + 1))))) := same_new s1 hd
        have h2 : (upd H1 d (.dK (enc (putA st.2 n (getA st.2 n + 1))))) d = some (.dK (enc (putA st.2 n (getA st.2 n + 1)))) := upd_same
        generalize upd H1 d (.dK (enc (putA st.2 n (getA st.2 n + 1)))) = H2 at s2 h2 ⊢
        refine ⟨_, rfl, _, rfl, (by show 2 ≤ sizeLine; decide), fun t ht => ?_⟩
        have s3 : Same H2 (upd H2 t (.tup [.int st.1, .ref d])) := same_new1 ht
        refine k (.ref t) _ (s2.trans s3) ⟨t, d, rfl, ?_, ?_⟩
        · rw [upd_same, ef]
        · rw [ef]; exact s3 _ _ h2
    · have ef : fedA r st n = (st.1 + 1, subA 1 st.2) := if_neg hc
      have hin : n ∉ keysA st.2 := fun z => hc (.inl z)
      have hge : ¬ st.2.length < r := fun z => hc (.inr z)
      rw [decide_eq_false hin]
      refine iteF ⟨_, rfl, d, _, rfl, h1, _, rfl, _, _, rfl, rfl, _, rfl, ?_⟩
      have c2 : decide (((enc st.2).length : Int) < (r : Int)) = false := decide_eq_false (by rw [enc_len]; omega)
      rw [c2]
      refine iteF ?_
      refine ⟨_, rfl, _, _, rfl, rfl, d, _, h1, trivial, fun od => ⟨_, rfl, d, od, rfl, .inl ⟨_, upd_same, fun D hD => ?_⟩⟩⟩
      generalize hHL : upd H1 d (.frz od (.dK (enc st.2))) = HL at hD ⊢
      have hl1 : HL d = some (.frz od (.dK (enc st.2))) := by rw [← hHL, upd_same]
      refine lc_y (y_keys st.2) (fun i H' => Same HL H' ∧ ∃ ps : List Addr, H' D = some (.lst (ps.map V.ref)) ∧ Paired (fun (p : Addr) (kv : Key × V) => H' p = some (.tup [kV kv.1, kv.2])) ps (enc (subA 1 (st.2.take i)))) (fun i H' _ q => q.1 _ _ hl1)
        ⟨same_new1 hD, [], upd_same, .nil⟩ (fun i H2 hi ⟨s2, ps, h2, hps⟩ => ?_) fun H2 ⟨s2, ps, h2, hps⟩ => ?_
      · have ep : st.2[i]? = some st.2[i] := List.getElem?_eq_getElem hi
        have hdg : DGet H2 d (.str st.2[i].1) (some (.int st.2[i].2)) := dget_some (.inr ⟨od, s2 _ _ hl1⟩) (look_at hnd ep)
        rw [key_at ep]
        refine ⟨rfl, _, rfl, _, rfl, d, _, rfl, hdg, _, _, rfl, rfl, _, rfl, ?_⟩
        by_cases h1p : 1 < st.2[i].2
        · rw [decide_eq_true h1p]
          refine iteT ⟨_, rfl, _, rfl, _, rfl, d, _, rfl, hdg, _, _, rfl, rfl, (by show 2 ≤ sizeLine; decide), fun t ht => ?_⟩
          have ntD : D ≠ t := ne_of_none h2 ht
          have s3 : Same H2 (upd H2 t (.tup [.str st.2[i].1, .int (st.2[i].2 - 1)])) := same_new1 ht
          have h3 : (upd H2 t (.tup [.str st.2[i].1, .int (st.2[i].2 - 1)])) t = some (.tup [.str st.2[i].1, .int (st.2[i].2 - 1)]) := upd_same
          generalize upd H2 t (.tup [.str st.2[i].1, .int (st.2[i].2 - 1)]) = H3 at s3 h3 ⊢
          have tk4 : TK H3 (upd H3 D (.lst (ps.map V.ref ++ [.ref t]))) := TK.lst (s3 _ _ h2)
          refine ⟨_, s3 _ _ h2, ?_, same_new (s2.trans s3) hD, ps ++ [t], ?_, ?_⟩
          · have z1 := paired_len hps
            rw [enc_len] at z1
            have z2 := sub_len 1 (st.2.take i)
            rw [List.length_take] at z2
            rw [List.length_map]
            exact small64 (by omega)
          · rw [upd_same, List.map_append]; rfl
          · rw [take_key ep, subA_snoc, if_pos h1p]
            have e5 : enc (subA 1 (st.2.take i) ++ [(st.2[i].1, st.2[i].2 - 1)]) = enc (subA 1 (st.2.take i)) ++ [(Sum.inr st.2[i].1, V.int (st.2[i].2 - 1))] := by unfold enc; rw [List.map_append]; rfl
            rw [e5]
            exact paired_snoc (R := fun (p : Addr) (kv : Key × V) => (upd H3 D (.lst (ps.map V.ref ++ [.ref t]))) p = some (.tup [kV kv.1, kv.2])) (b := (Sum.inr st.2[i].1, V.int (st.2[i].2 - 1))) (tk4.1 _ _ h3) (paired_imp (fun _ _ q => tk4.1 _ _ (s3 _ _ q)) hps)
        · rw [decide_eq_false h1p]
          refine iteF ⟨s2, ps, h2, ?_⟩
          rw [take_key ep, subA_snoc, if_neg h1p, List.append_nil]
          exact hps
      · rw [subA_take_all] at hps
        have nDd : D ≠ d := fun e => by rw [e, hl1] at hD; cases hD
        refine ⟨s2 _ _ hl1, ?_⟩
        have s3 : Same H (upd H2 d (.dK (enc st.2))) := s1.trans (same_unlock h1 (by rw [hHL]; exact s2))
        have h3 : (upd H2 d (.dK (enc st.2))) D = some (.lst (ps.map V.ref)) := by rw [upd_ne nDd]; exact h2
        have p3 : Paired (fun (p : Addr) (kv : Key × V) => (upd H2 d (.dK (enc st.2))) p = some (.tup [kV kv.1, kv.2])) ps (enc (subA 1 st.2)) := paired_imp (fun x kv q => by
          rw [upd_ne (fun e => by rw [e, s2 _ _ hl1] at q; cases q)]; exact q) hps
        generalize upd H2 d (.dK (enc st.2)) = H3 at s3 h3 p3 ⊢
        refine ⟨D, ps, enc (subA 1 st.2), rfl, SqL.of h3, paired_sq p3, fun e he => ?_⟩
        rw [merge_enc (nd_sub hnd)]
        have s4 : Same H3 (upd H3 e (.dK (enc (subA 1 st.2)))) := same_new1 he
        have h4 : (upd H3 e (.dK (enc (subA 1 st.2)))) e = some (.dK (enc (subA 1 st.2))) := upd_same
        generalize upd H3 e (.dK (enc (subA 1 st.2))) = H4 at s4 h4 ⊢
        refine ⟨(by show 2 ≤ sizeLine; decide), fun t ht => ?_⟩
        have s5 : Same H4 (upd H4 t (.tup [.int (st.1 + 1), .ref e])) := same_new1 ht
        refine k (.ref t) _ ((s3.trans s4).trans s5) ⟨t, e, rfl, ?_, ?_⟩
        · rw [upd_same, ef]
        · rw [ef]; exact s5 _ _ h4
end
end KN
namespace KN
open PySem PySem.Spec PyProof.Rows L2

/-! ### sorted pairs -/
abbrev srtA (l : List (Str × Int)) : List (Str × Int) := l.mergeSort (PySem.W.dataLe false encP)
theorem srt_perm (l : List (Str × Int)) : (srtA l).Perm l := List.mergeSort_perm _ _
theorem le_lt {p q : Str × Int} (h : PySem.W.dataLe false encP p q = true) (n : p.1 ≠ q.1) : ltS p.1 q.1 := by
  have h : (!PySem.W.dataLt (.tuple [.str q.1, .int q.2]) (.tuple [.str p.1, .int p.2])) = true := h
  rw [PySem.W.dataLt_pair (by simp [PySem.W.alike]) (by simp [PySem.W.alike])] at h
  have e : PyData.eqv (.str q.1) (.str p.1) = false := by
    simp only [PyData.eqv, beq_eq_false_iff_ne]
    exact fun z => n z.symm
  rw [if_neg (by rw [e]; exact Bool.false_ne_true), PySem.W.dataLt_str, Bool.not_eq_true'] at h
  exact ltS_of (show ¬ (q.1.cps.toList < p.1.cps.toList) from of_decide_eq_false h) n
theorem srt_asc {l : List (Str × Int)} (nd : (keysA l).Nodup) : Asc ltS (srtA l) := by
  have hp := srt_perm l
  have nd2 : (keysA (srtA l)).Nodup := (hp.map _).nodup_iff.mpr nd
  have h1 := PySem.W.sort_pairwise (PySem.W.sortLe_total (PyProof.Rows.listOrd PyProof.Rows.itemOrd) false fun b => PySem.W.keyToks (encP b)) l
  unfold Asc keysA
  unfold keysA at nd2
  rw [List.pairwise_map]
  have h2 : (srtA l).Pairwise fun a b => a.1 ≠ b.1 := by
    have := nd2
    unfold List.Nodup at this
    rw [List.pairwise_map] at this
    exact this
  exact (List.Pairwise.and h1 h2).imp fun ⟨a, b⟩ => le_lt a b
theorem srt_eqv {l : List (Str × Int)} (nd : (keysA l).Nodup) : Eqv (srtA l) l := (perm_eqv (srt_perm l).symm nd).symm
section
variable {X : Cx}
def rSortSP (K : PySem.W.Frag) : List V → Hp → VK → Prop := fun vs H Q => ∃ (a : Addr) (xs : List V) (ps : List (Str × Int)), vs = [V.ref a] ∧ SqL K H a xs ∧ Paired (PairAt H) xs ps ∧
  ∀ (ys : List V) (q : Addr), Paired (PairAt H) ys (srtA ps) → H q = none → Q (.ref q) (upd H q (.lst ys))
theorem cr_sortedSP (hu : X.A.units + 64 < cLine) : CallR X (.builtin "sorted") (rSortSP X.K) := by
  intro pins s σ H vs us Q I r h
  obtain ⟨a, xs, ps, rfl, hs, hp, q⟩ := h
  obtain rfl := Vals.ref1 r
  obtain ⟨its, rv, hl, hz⟩ := I.list hs
  have hlen : its.length = ps.length := by rw [← rv.length, Paired.length hp]
  refine PySem.W.sorted_data (R := fun u b => ∃ x, RelV x u ∧ PairAt H x b) (enc := encP) hl.isList (each_join (fun x u b r q => ⟨x, r, q⟩) rv hp) (each_join (fun x u b r q => ?_) rv hp) (PySem.W.AllAlike.of fun b b' => rfl) (PySem.W.Sortable.tuples fun b => ⟨_, _, rfl⟩)
    (by rw [← Paired.length hp]; exact hz) (fun b _ => ?_) fun out hol he => ?_
  · obtain ⟨t, rfl, ht⟩ := q
    cases r
    obtain ⟨its2, rv2, ht2, _⟩ := I.tuple (SqT.of (K := X.K) ht)
    obtain ⟨u1, u2, rfl, r1, r2⟩ := vals2 rv2
    obtain ⟨t1, rfl⟩ := r1
    obtain ⟨t2, rfl⟩ := r2
    obtain ⟨o, h1, h2, n, h3⟩ := ht2
    exact ⟨_, .tuple h1 h2 h3 (.cons (.str _ _) (.cons (.int _ _) .nil))⟩
  · show X.A.units + 2 + (encP b).depth < cLine
    have : (encP b).depth ≤ 2 := by
      show PyData.depth (.tuple [.str b.1, .int b.2]) ≤ 2
      simp only [PyData.depth, PyData.depthAll]
      decide
    omega
  · obtain ⟨ys, ry, py⟩ := each_split he
    obtain ⟨ep, he'⟩ := PyProof.Rows.sortedAll_at s.heap its out.toArray
    have hyl : ys.length ≤ sizeLine := by rw [ry.length, hol, ← hlen, ← rv.length]; exact hz
    exact ⟨.ref _, upd H (s.heap.objs.size + 1) (.lst ys), I.laid (t' := s.toks) (fun _ _ => PyProof.Rows.sortedAll_old) (Nat.le_succ _) ⟨hyl, out, ep, ry, he'⟩, rfl, q _ _ py (I.hok.fresh (Nat.le_succ _))⟩
end

/-! ### the law's pour -/
theorem same_upd {H H1 : Hp} {d : Addr} {o : HO} (s : Same H H1) : Same (upd H d o) (upd H1 d o) := fun b u e => by
  by_cases z : b = d
  · rw [z, upd_same] at e ⊢; exact e
  · rw [upd_ne z] at e ⊢; exact s _ _ e
theorem neg_falls {L : List (Str × Int)} {ns : List Int} (p : ns.Perm ((valsA L).map fun c => -c)) (h : ns.Pairwise (· ≤ ·)) : ns = (falls L).map fun c => -c := by
  have inv : ∀ l : List Int, (l.map fun c : Int => -c).map (fun c : Int => -c) = l := fun l => by
    induction l with
    | nil => rfl
    | cons c l ih => rw [List.map_cons, List.map_cons, ih, Int.neg_neg]
  have h2 : (ns.map fun c => -c).Perm (valsA L) := by
    have := p.map fun c : Int => -c
    rw [inv] at this
    exact this
  have h3 : (ns.map fun c => -c).Pairwise fun a b => b ≤ a := by
    rw [List.pairwise_map]
    exact h.imp fun {a b} q => by omega
  rw [← falls_uniq h3 h2, inv]
theorem sub_snoc_enc (t : Int) (l : List (Str × Int)) (p : Str × Int) : enc (subA t l ++ [(p.1, p.2 - t)]) = enc (subA t l) ++ [(Sum.inr p.1, V.int (p.2 - t))] := by unfold enc; rw [List.map_append]; rfl
theorem StAt.lst {H : Hp} {p : Addr} {xs ys : List V} {v : V} {s : St Str} (h : StAt H v s) (hp : H p = some (.lst xs)) : StAt (upd H p (.lst ys)) v s := by
  obtain ⟨a, d, e, h1, h2⟩ := h
  exact ⟨a, d, e, by rw [upd_ne (ne_of h1 hp (fun z => nomatch z))]; exact h1, by rw [upd_ne (ne_of h2 hp (fun z => nomatch z))]; exact h2⟩
section
variable {P : Program} {w : World} {K : PySem.W.Frag} {mg : Str → Option Value} {base : Heap}

def spLawPoured : Sp := fun vs H Q _ => ∃ (r : Nat) (v u : V) (s z : St Str), vs = [.int r, v, u] ∧ StAt H v s ∧ StAt H u z ∧ (keysA s.2).Nodup ∧ (keysA z.2).Nodup ∧ s.2.length ≤ 1000 ∧ z.2.length ≤ 1000 ∧ (addA s.2 z.2).length < 64 ∧
  ∀ (v' : V) (H' : Hp), Same H H' → StAt H' v' (pourA r s z) → Q v' H'
theorem c_law_poured (T : Txt mg) (D : DefE K mg "_law_poured" (top 55)) : C8.Cal P w K mg base 1 "_law_poured" spLawPoured [] := by
  have S : FnScope ["_law_room", "_law_one", "_law_other", "_law_counts", "_law_name", "_law_falling", "_law_taken", "_law_left"] ["_law_room", "_law_one", "_law_other"] (C8.fnScope (top 55)) := C8.fnScope_by (by decide +kernel)
  refine cal_of D S (fun _ _ _ _ _ _ us hl => match us, hl with | [_, _, _], _ => rfl) (fun vs H Q E h => ?_) (fun f cdv A outer s H vs Q E hr h => ?_)
  · obtain ⟨r, v, u, s, z, rfl, _⟩ := h
    rfl
  · obtain ⟨r, v, u, st, zt, rfl, ⟨a, d1, rfl, ha, hd1⟩, ⟨b, d2, rfl, hb, hd2⟩, nd1, nd2, hl1, hl2, h64, k⟩ := h
    have nd := S.nd
    have hu := hu_of hr
    refine ⟨_, pss_cons (ps_set (i := 3) nd rfl (Or.inr rfl) (pe_callTy call_dictD rfl T.n_dict boot_dict' (pa_cons (pe_ix ix_tup (pv 1) pe_int (fun _ _ => rfl)) pa_nil)))
      (pss_cons (ps_lock (ps_for PassesOwn.never rfl (pi_keys (pe_ix ix_tup (pv 2) pe_int (fun _ _ => rfl))) (pg_name (i := 4) nd rfl (Or.inl rfl))
        (pss_one (ps_dput hu (pv 3) (pv 4) (pe_op op_add (pe_dget2 hu (pv 3) (pv 4) pe_int ⟨rfl, rfl, rfl, rfl⟩) (pe_dget hu (pe_ix ix_tup (pv 2) pe_int (fun _ _ => rfl)) (pv 4) (fun _ _ => rfl))) rfl))))
      (pss_cons (ps_set (i := 5) nd rfl (Or.inl rfl) (pe_callB cr_sorted rfl T.n_sorted boot_sorted' (pa_cons (pe_lock (pe_lc (own := [("_law_name", 4)]) (g := gName 4) (tt := tYes) rfl nd (pi_keys (pv 3))
        (blkOk_by (own := [("_law_name", 4)]) (N := ["_law_room", "_law_one", "_law_other", "_law_counts", "_law_name", "_law_falling", "_law_taken", "_law_left"]) (sc := C8.fnScope (top 55)) (by decide +kernel)) (fun _ _ _ _ _ => pg_name (i := 4) nd rfl (Or.inl rfl))
        (fun _ _ _ _ _ => pts_nil) (fun _ _ _ _ _ => pe_un un_neg (pe_dget hu (pv 3) (pv 4) (fun _ _ => rfl))))) pa_nil)))
      (pss_cons (ps_set (i := 6) nd rfl (Or.inr rfl) (pe_ifExp (pt_cmpR op_gt (pe_callB call_len_seq rfl T.n_len boot_len' (pa_cons (pv 5) pa_nil)) (pv 0) (nomark _)) (pe_un un_neg (pe_ix ix_list (pv 5) (pv 0) (fun _ _ => rfl))) pe_int))
      (pss_cons (ps_set (i := 7) nd rfl (Or.inl rfl) (pe_callTy (call_dictP rfl) rfl T.n_dict boot_dict' (pa_cons (pe_lock (pe_lc (own := [("_law_name", 4)]) (g := gName 4) rfl nd (pi_keys (pv 3))
        (blkOk_by (own := [("_law_name", 4)]) (N := ["_law_room", "_law_one", "_law_other", "_law_counts", "_law_name", "_law_falling", "_law_taken", "_law_left"]) (sc := C8.fnScope (top 55)) (by decide +kernel)) (fun _ _ _ _ _ => pg_name (i := 4) nd rfl (Or.inl rfl))
        (fun _ _ _ _ _ => pts_one (pt_cmpR op_gt (pe_dget hu (pv 3) (pv 4) (fun _ _ => rfl)) (pv 6) (nomark _)))
        (fun _ _ _ _ _ => pe_tup (pa_cons (pv 4) (pa_cons (pe_op op_sub (pe_dget hu (pv 3) (pv 4) (fun _ _ => rfl)) (pv 6)) pa_nil))))) pa_nil)))
      (pss_one (ps_ret (pe_tup (pa_cons (pe_op op_add (pe_op op_add (pe_ix ix_tup (pv 1) pe_int (fun _ _ => rfl)) (pe_ix ix_tup (pv 2) pe_int (fun _ _ => rfl))) (pv 6)) (pa_cons (pv 7) pa_nil)))))))))
      , ?_⟩
    have sq1 : SqT K H a [.int st.1, .ref d1] := SqT.of ha
    have sq2 : SqT K H b [.int zt.1, .ref d2] := SqT.of hb
    refine ⟨_, rfl, a, _, 1, .ref d1, rfl, rfl, sq1, rfl, d1, _, rfl, .inl hd1, fun d hd => ?_⟩
    have s0 : Same H (upd H d (.dK (enc st.2))) := same_new1 hd
    have h0 : (upd H d (.dK (enc st.2))) d = some (.dK (enc st.2)) := upd_same
    generalize upd H d (.dK (enc st.2)) = H0 at s0 h0 ⊢
    refine ⟨d2, _, s0 _ _ hd2, trivial, fun od => ?_⟩
    have nd2d : d2 ≠ d := ne_of_none hd2 hd
    have sL0 : Same (upd H d2 (.frz od (.dK (enc zt.2)))) (upd H0 d2 (.frz od (.dK (enc zt.2)))) := same_upd s0
    have hLo : (upd H d2 (.frz od (.dK (enc zt.2)))) d2 = some (.frz od (.dK (enc zt.2))) := upd_same
    have hdL : (upd H d2 (.frz od (.dK (enc zt.2)))) d = none := by rw [upd_ne nd2d.symm]; exact hd
    have tkL : TK H (upd H d2 (.frz od (.dK (enc zt.2)))) := TK.lockd hd2
    have h0L : (upd H0 d2 (.frz od (.dK (enc zt.2)))) d = some (.dK (enc st.2)) := by rw [upd_ne nd2d.symm]; exact h0
    have sU : ∀ H', Same (upd H d2 (.frz od (.dK (enc zt.2)))) H' → Same H (upd H' d2 (.dK (enc zt.2))) := fun H' q => same_unlock hd2 q
    generalize upd H d2 (.frz od (.dK (enc zt.2))) = HLo at sL0 hLo hdL tkL sU
    generalize upd H0 d2 (.frz od (.dK (enc zt.2))) = HL0 at sL0 h0L ⊢
    have sqL : ∀ H', Same HLo H' → SqT K H' b [.int zt.1, .ref d2] := fun H' q => SqT.of (q _ _ (tkL.1 _ _ hb))
    refine ⟨_, rfl, b, _, 1, .ref d2, rfl, rfl, sqL _ sL0, rfl, d2, od, rfl, .inl ⟨_, sL0 _ _ hLo, ?_⟩⟩
    refine for_y (y_keys zt.2) (fun i σ H' => Same HLo H' ∧ ∃ (x : Option V), σ = [some (.int r), some (.ref a), some (.ref b), some (.ref d), x, none, none, none] ∧ H' d = some (.dK (enc (addA st.2 (zt.2.take i)))))
      (fun i σ H' _ p => p.1 _ _ hLo) ⟨sL0, none, rfl, h0L⟩ (fun i σ H1 hi ⟨s1, x, hσ, h1⟩ => ?_) fun σ H1 ⟨s1, x, hσ, h1⟩ => ?_
    · subst hσ
      have ep : zt.2[i]? = some zt.2[i] := List.getElem?_eq_getElem hi
      have hdg : DGet H1 d2 (.str zt.2[i].1) (some (.int zt.2[i].2)) := dget_some (.inr ⟨od, s1 _ _ hLo⟩) (look_at nd2 ep)
      rw [key_at ep]
      refine ⟨_, rfl, d, rfl, .inl ⟨_, .inl h1⟩, _, rfl, _, dget_enc zt.2[i].1 (.inl h1), ?_⟩
      rw [getD_look]
      refine ⟨_, rfl, b, _, 1, .ref d2, rfl, rfl, sqL _ s1, rfl, _, rfl, d2, _, rfl, hdg, _, _, rfl, rfl, _, rfl, _, rfl, d, _, rfl, dput_enc zt.2[i].1 (getA (addA st.2 (zt.2.take i)) zt.2[i].1 + zt.2[i].2) h1 (small64 ?_), same_new s1 hdL, _, rfl, ?_⟩
      · have := len_add (zt.2.take i) st.2
        rw [List.length_take] at this
        omega
      · rw [upd_same, take_key ep, addA_snoc]
    subst hσ
    rw [List.take_length] at h1
    refine ⟨s1 _ _ hLo, ?_⟩
    have s2 := sU _ s1
    have h2 : (upd H1 d2 (.dK (enc zt.2))) d = some (.dK (enc (addA st.2 zt.2))) := by rw [upd_ne nd2d.symm]; exact h1
    generalize upd H1 d2 (.dK (enc zt.2)) = H2 at s2 h2 ⊢
    have ndL : (keysA (addA st.2 zt.2)).Nodup := nd_add nd1
    have eP : pourA r st zt = (st.1 + zt.1 + takenA r (addA st.2 zt.2), subA (takenA r (addA st.2 zt.2)) (addA st.2 zt.2)) := rfl
    generalize addA st.2 zt.2 = L at h2 h64 ndL eP
    refine ⟨d, _, h2, trivial, fun od2 => ⟨_, rfl, d, od2, rfl, .inl ⟨_, upd_same, fun D hD => ?_⟩⟩⟩
    generalize hHL : upd H2 d (.frz od2 (.dK (enc L))) = HL at hD ⊢
    have hl1' : HL d = some (.frz od2 (.dK (enc L))) := by rw [← hHL, upd_same]
    refine lc_y (y_keys L) (fun i H' => Same HL H' ∧ H' D = some (.lst ((((valsA L).take i).map fun c => -c).map V.int))) (fun i H' _ q => q.1 _ _ hl1') ⟨same_new1 hD, upd_same⟩ (fun i H3 hi ⟨s3, h3⟩ => ?_) fun H3 ⟨s3, h3⟩ => ?_
    · have ep : L[i]? = some L[i] := List.getElem?_eq_getElem hi
      have hdg : DGet H3 d (.str L[i].1) (some (.int L[i].2)) := dget_some (.inr ⟨od2, s3 _ _ hl1'⟩) (look_at ndL ep)
      rw [key_at ep]
      refine ⟨rfl, _, rfl, _, rfl, d, _, rfl, hdg, _, rfl, _, h3, ?_, same_new s3 hD, ?_⟩
      · rw [List.length_map, List.length_map, List.length_take]; exact small64 (by omega)
      · have ek : (valsA L)[i]? = some L[i].2 := by unfold valsA; rw [List.getElem?_map, ep]; rfl
        rw [upd_same, List.take_add_one, ek, List.map_append, List.map_append]
        rfl
    have evl : (valsA L).take L.length = valsA L := List.take_of_length_le (by unfold valsA; rw [List.length_map]; exact Nat.le_refl _)
    rw [evl] at h3
    refine ⟨s3 _ _ hl1', ?_⟩
    have nDd : D ≠ d := fun e => by rw [e, hl1'] at hD; cases hD
    have s4 : Same H (upd H3 d (.dK (enc L))) := s2.trans (same_unlock h2 (by rw [hHL]; exact s3))
    have h4 : (upd H3 d (.dK (enc L))) D = some (.lst (((valsA L).map fun c => -c).map V.int)) := by rw [upd_ne nDd]; exact h3
    have h4d : (upd H3 d (.dK (enc L))) d = some (.dK (enc L)) := upd_same
    generalize upd H3 d (.dK (enc L)) = H4 at s4 h4 h4d ⊢
    refine ⟨D, _, rfl, SqL.of h4, ?_, fun ns' q hperm hsort hq => ?_⟩
    · rw [List.length_map]; unfold valsA; rw [List.length_map]; exact h64
    have en := neg_falls hperm hsort
    subst en
    have s5 : Same H4 (upd H4 q (.lst (((falls L).map fun c => -c).map V.int))) := same_new1 hq
    have h5 : (upd H4 q (.lst (((falls L).map fun c => -c).map V.int))) q = some (.lst (((falls L).map fun c => -c).map V.int)) := upd_same
    generalize upd H4 q (.lst (((falls L).map fun c => -c).map V.int)) = H5 at s5 h5 ⊢
    have s05 := s4.trans s5
    have h5d := s5 _ _ h4d
    dsimp only [gName, tSeq, tAsg]
    refine tIf_one (.int (takenA r L)) (decide (r < L.length)) (fun R h => ?_) (fun hb R h => ?_) (fun hb R h => ?_) ?_
    · refine ⟨_, rfl, q, _, rfl, .inl (SqL.of h5), _, rfl, _, _, rfl, rfl, _, rfl, ?_⟩
      rw [List.length_map, List.length_map, falls_len]
      have : decide ((r : Int) < (L.length : Int)) = decide (r < L.length) := decide_eq_decide.mpr (by omega)
      rw [this]
      exact h
    · have hb := of_decide_eq_true hb
      have hi : atI (((falls L).map fun c => -c).map V.int) (r : Int) = some (.int (-takenA r L)) := at_of (j := r) rfl (by rw [List.getElem?_map, List.getElem?_map, taken_at hb]; rfl)
      refine ⟨_, rfl, _, rfl, q, _, _, _, rfl, rfl, SqL.of h5, hi, _, rfl, ?_⟩
      show R (.int (- -takenA r L)) H5
      rw [Int.neg_neg]
      exact h
    · have hb := of_decide_eq_false hb
      have : takenA r L = 0 := if_neg hb
      rw [this] at h
      exact h
    generalize takenA r L = t at eP ⊢
    refine ⟨d, _, h5d, trivial, fun od3 => ⟨_, rfl, d, od3, rfl, .inl ⟨_, upd_same, fun G hG => ?_⟩⟩⟩
    generalize hHM : upd H5 d (.frz od3 (.dK (enc L))) = HM at hG ⊢
    have hm1 : HM d = some (.frz od3 (.dK (enc L))) := by rw [← hHM, upd_same]
    refine lc_y (y_keys L) (fun i H' => Same HM H' ∧ ∃ ps : List Addr, H' G = some (.lst (ps.map V.ref)) ∧ Paired (fun (p : Addr) (kv : Key × V) => H' p = some (.tup [kV kv.1, kv.2])) ps (enc (subA t (L.take i)))) (fun i H' _ q => q.1 _ _ hm1)
      ⟨same_new1 hG, [], upd_same, .nil⟩ (fun i H6 hi ⟨s6, ps, h6, hps⟩ => ?_) fun H6 ⟨s6, ps, h6, hps⟩ => ?_
    · have ep : L[i]? = some L[i] := List.getElem?_eq_getElem hi
      have hdg : DGet H6 d (.str L[i].1) (some (.int L[i].2)) := dget_some (.inr ⟨od3, s6 _ _ hm1⟩) (look_at ndL ep)
      rw [key_at ep]
      refine ⟨rfl, _, rfl, _, rfl, d, _, rfl, hdg, _, rfl, _, _, rfl, rfl, _, rfl, ?_⟩
      by_cases h1p : t < L[i].2
      · rw [decide_eq_true h1p]
        refine iteT ⟨_, rfl, _, rfl, _, rfl, d, _, rfl, hdg, _, rfl, _, _, rfl, rfl, (by show 2 ≤ sizeLine; decide), fun tp htp => ?_⟩
        have s7 : Same H6 (upd H6 tp (.tup [.str L[i].1, .int (L[i].2 - t)])) := same_new1 htp
        have h7 : (upd H6 tp (.tup [.str L[i].1, .int (L[i].2 - t)])) tp = some (.tup [.str L[i].1, .int (L[i].2 - t)]) := upd_same
        generalize upd H6 tp (.tup [.str L[i].1, .int (L[i].2 - t)]) = H7 at s7 h7 ⊢
        have tk8 : TK H7 (upd H7 G (.lst (ps.map V.ref ++ [.ref tp]))) := TK.lst (s7 _ _ h6)
        refine ⟨_, s7 _ _ h6, ?_, same_new (s6.trans s7) hG, ps ++ [tp], ?_, ?_⟩
        · have z1 := paired_len hps
          rw [enc_len] at z1
          have z2 := sub_len t (L.take i)
          rw [List.length_take] at z2
          rw [List.length_map]
          exact small64 (by omega)
        · rw [upd_same, List.map_append]; rfl
        · rw [take_key ep, subA_snoc, if_pos h1p, sub_snoc_enc]
          exact paired_snoc (R := fun (p : Addr) (kv : Key × V) => (upd H7 G (.lst (ps.map V.ref ++ [.ref tp]))) p = some (.tup [kV kv.1, kv.2])) (b := (Sum.inr L[i].1, V.int (L[i].2 - t))) (tk8.1 _ _ h7) (paired_imp (fun _ _ q => tk8.1 _ _ (s7 _ _ q)) hps)
      · rw [decide_eq_false h1p]
        refine iteF ⟨s6, ps, h6, ?_⟩
        rw [take_key ep, subA_snoc, if_neg h1p, List.append_nil]
        exact hps
    rw [List.take_length] at hps
    have nGd : G ≠ d := fun e => by rw [e, hm1] at hG; cases hG
    refine ⟨s6 _ _ hm1, ?_⟩
    have s8 : Same H (upd H6 d (.dK (enc L))) := s05.trans (same_unlock h5d (by rw [hHM]; exact s6))
    have h8 : (upd H6 d (.dK (enc L))) G = some (.lst (ps.map V.ref)) := by rw [upd_ne nGd]; exact h6
    have p8 : Paired (fun (p : Addr) (kv : Key × V) => (upd H6 d (.dK (enc L))) p = some (.tup [kV kv.1, kv.2])) ps (enc (subA t L)) := paired_imp (fun x kv q => by
      rw [upd_ne (fun e => by rw [e, s6 _ _ hm1] at q; cases q)]; exact q) hps
    generalize upd H6 d (.dK (enc L)) = H8 at s8 h8 p8 ⊢
    refine ⟨G, ps, enc (subA t L), rfl, SqL.of h8, paired_sq p8, fun e he => ?_⟩
    rw [merge_enc (nd_sub ndL)]
    have s9 : Same H8 (upd H8 e (.dK (enc (subA t L)))) := same_new1 he
    have h9 : (upd H8 e (.dK (enc (subA t L)))) e = some (.dK (enc (subA t L))) := upd_same
    generalize upd H8 e (.dK (enc (subA t L))) = H9 at s9 h9 ⊢
    have s19 := s8.trans s9
    refine ⟨_, rfl, a, _, 0, .int st.1, rfl, rfl, same_sqt s19 sq1, rfl, _, rfl, b, _, 0, .int zt.1, rfl, rfl, same_sqt s19 sq2, rfl, _, _, rfl, rfl, _, rfl, _, _, rfl, rfl, _, rfl, (by show 2 ≤ sizeLine; decide), fun z hz => ?_⟩
    have s10 : Same H9 (upd H9 z (.tup [.int (st.1 + zt.1 + t), .ref e])) := same_new1 hz
    refine k (.ref z) _ (s19.trans s10) ⟨z, e, rfl, ?_, ?_⟩
    · rw [upd_same, eP]
    · rw [eP]; exact s10 _ _ h9
end
end KN
namespace KN
open PySem PySem.Spec PyProof.Rows L2

/-- the law's state of a tree -/
def TSt (r : Nat) (H : Hp) (v : V) (T : Tr Str) : Prop := StAt H v (T.st r)
theorem st_keys {r : Nat} (hr : 1 ≤ r) {T : Tr Str} {k : Str} (h : k ∈ keysA (T.st r).2) : k ∈ T.items := (Tr.good hr T).key_in h
theorem st_few {r : Nat} (hr : 1 ≤ r) {T : Tr Str} {Nm : List Str} (ha : T.All (LeafOk Nm)) : (T.st r).2.length ≤ Nm.length := by
  rw [← keys_len]
  exact nd_len (Tr.good hr T).nd fun k hk => (leaf_names ha k (st_keys hr hk)).1
theorem st_add_few {r : Nat} (hr : 1 ≤ r) {A B : Tr Str} {Nm : List Str} (ha : A.All (LeafOk Nm)) (hb : B.All (LeafOk Nm)) : (addA (A.st r).2 (B.st r).2).length ≤ Nm.length := by
  rw [← keys_len]
  refine nd_len (nd_add (Tr.good hr A).nd) fun k hk => ?_
  rcases keys_add (Tr.good hr B).nd hk with y | y
  · exact (leaf_names ha k (st_keys hr y)).1
  · exact (leaf_names hb k (st_keys hr y)).1
theorem stream_snoc (r : Nat) (ns : List Str) (n : Str) : streamA r (ns ++ [n]) = fedA r (streamA r ns) n := by
  unfold streamA
  rw [List.foldl_append]; rfl
/-- pairs in a tuple -/
def PrsAt (H : Hp) (v : V) (l : List (Str × Int)) : Prop := ∃ (a : Addr) (vs : List V), v = .ref a ∧ H a = some (.tup vs) ∧ Paired (PairAt H) vs l
theorem PrsAt.mono {H H' : Hp} (t : TK H H') {v : V} {l : List (Str × Int)} : PrsAt H v l → PrsAt H' v l := fun ⟨a, vs, e, h, p⟩ => ⟨a, vs, e, t.1 _ _ h, paired_imp (fun _ _ => PairAt.mono t) p⟩
/-- a sketch as the law lays it -/
def DueAt (H : Hp) (v : V) (s : Sk) : Prop := ∃ (a : Addr) (kv : V), v = .ref a ∧ H a = some (.tup [.int s.room, .int s.many, .int s.off, kv]) ∧ PrsAt H kv s.kept
theorem DueAt.mono {H H' : Hp} (t : TK H H') {v : V} {s : Sk} : DueAt H v s → DueAt H' v s := fun ⟨a, kv, e, h, p⟩ => ⟨a, kv, e, t.1 _ _ h, p.mono t⟩
section
variable {P : Program} {w : World} {K : PySem.W.Frag} {mg : Str → Option Value} {base : Heap}

def spLed : Sp := fun vs H Q _ => ∃ (r : Nat) (tv : V) (t : List (Stp Str)) (T : Tr Str) (Nm : List Str), vs = [.int r, tv] ∧ TreeAt H tv t ∧ Run [] t T ∧ T.All (LeafOk Nm) ∧ t.length ≤ 5000 ∧ 1 ≤ r ∧ Nm.length ≤ 60 ∧
  ∀ (v' : V) (H' : Hp), Same H H' → TSt r H' v' T → Q v' H'
theorem c_law_led (T : Txt mg) (c1 : C8.Cal P w K mg base 1 "_law_poured" spLawPoured []) (c2 : C8.Cal P w K mg base 1 "_law_fed" spLawFed []) (D : DefE K mg "_law_led" (top 56)) : C8.Cal P w K mg base 2 "_law_led" spLed [] := by
  have S : FnScope ["_law_room", "_law_tree_here", "_law_pile", "_law_step", "_law_other", "_law_one", "_law_state", "_law_name"] ["_law_room", "_law_tree_here"] (C8.fnScope (top 56)) := C8.fnScope_by (by decide +kernel)
  refine cal_of D S (fun _ _ _ _ _ _ us hl => match us, hl with | [_, _], _ => rfl) (fun vs H Q E h => ?_) (fun f cdv A outer s H vs Q E hr h => ?_)
  · obtain ⟨r, tv, t, T, Nm, rfl, _⟩ := h
    rfl
  · obtain ⟨r, tv, t, T', Nm, rfl, ⟨a, vs, rfl, ha, hp⟩, hrun, hok, hl, hr1, hN, k⟩ := h
    have nd := S.nd
    refine ⟨_, pss_cons (ps_set (i := 2) nd rfl (Or.inl rfl) (pe_lst pa_nil))
      (pss_cons (ps_for PassesOwn.never rfl (pi_tup (pv 1)) (pg_name (i := 3) nd rfl (Or.inl rfl))
        (pss_one (ps_if (pt_cmpR op_eq (pe_callB call_len_seq rfl T.n_len boot_len' (pa_cons (pv 3) pa_nil)) pe_int (nomark _))
          (pss_cons (ps_set (i := 4) nd rfl (Or.inl rfl) (pe_bm0 PySem.F.plainAttrs_list PySem.F.slot_list_pop PySem.F.type_list_pop mt_pop (pv 2)))
            (pss_cons (ps_set (i := 5) nd rfl (Or.inl rfl) (pe_bm0 PySem.F.plainAttrs_list PySem.F.slot_list_pop PySem.F.type_list_pop mt_pop (pv 2)))
            (pss_one (ps_expr (pe_bm PySem.F.plainAttrs_list PySem.F.slot_list_append PySem.F.type_list_append mt_append (pv 2) (pa_cons (pe_c c1 hr (by decide) rfl (pa_cons (pv 0) (pa_cons (pv 5) (pa_cons (pv 4) pa_nil)))) pa_nil))))))
          (pss_cons (ps_set (i := 6) nd rfl (Or.inl rfl) (pe_tup (pa_cons pe_int (pa_cons pe_dnewK pa_nil))))
            (pss_cons (ps_for PassesOwn.never rfl (pi_tup (pe_ix ix_tup (pv 3) pe_int (fun _ _ => rfl))) (pg_name (i := 7) nd rfl (Or.inl rfl))
              (pss_one (ps_set (i := 6) nd rfl (Or.inl rfl) (pe_c c2 hr (by decide) rfl (pa_cons (pv 0) (pa_cons (pv 6) (pa_cons (pv 7) pa_nil)))))))
            (pss_one (ps_expr (pe_bm PySem.F.plainAttrs_list PySem.F.slot_list_append PySem.F.type_list_append mt_append (pv 2) (pa_cons (pv 6) pa_nil)))))))))
      (pss_one (ps_ret (pe_ix ix_list (pv 2) pe_int (fun _ _ => rfl))))), ?_⟩
    refine ⟨Nat.zero_le _, fun p hpn => ?_⟩
    have hvl : vs.length = t.length := paired_len hp
    refine ⟨_, rfl, a, rfl, ⟨_, SqT.of (same_new1 hpn _ _ ha)⟩, ?_⟩
    refine for_y (y_tup vs) (fun i σ H' => Same H H' ∧ ∃ (F : List (Tr Str)) (ws : List V) (x y z u n : Option V), Run F (t.drop i) T' ∧ H' p = some (.lst ws) ∧ Paired (TSt r H') ws F ∧ ws.length ≤ i ∧ σ = [some (.int r), some (.ref a), some (.ref p), x, y, z, u, n])
      (fun i σ H' _ q => SqT.of (q.1 _ _ ha)) ⟨same_new1 hpn, [], [], none, none, none, none, none, hrun, upd_same, .nil, Nat.le_refl _, rfl⟩ (fun i σ H1 hi ⟨s1, F, ws, x, y, z, u, n, hF, h1, hpw, hwl, hσ⟩ => ?_) fun σ H1 ⟨s1, F, ws, x, y, z, u, n, hF, h1, hpw, hwl, hσ⟩ => ?_
    · subst hσ
      have ev : vs[i]? = some vs[i] := List.getElem?_eq_getElem hi
      obtain ⟨st, est, hst⟩ := paired_at hp ev
      have hst1 : StepAt H1 vs[i] st := hst.mono (tk_of s1)
      have ed : t.drop i = st :: t.drop (i + 1) := by
        obtain ⟨hl', e'⟩ := List.getElem?_eq_some_iff.mp est
        rw [List.drop_eq_getElem_cons hl', e']
      rw [ed] at hF
      rw [getD_of ev]
      cases st with
      | pour =>
        have hall := (hF.all (P := LeafOk Nm) hok).1
        obtain ⟨G, A, B, rfl, hG⟩ := hF.cases_po
        obtain ⟨us, va, vb, rfl, hpu, ta, tb⟩ := paired_two hpw
        have hA := hall A (List.mem_append_right _ List.mem_cons_self)
        have hB := hall B (List.mem_append_right _ (List.mem_cons_of_mem _ List.mem_cons_self))
        have e1 : (us ++ [va, vb]).dropLast = us ++ [va] := by rw [List.dropLast_append_of_ne_nil (by simp)]; rfl
        have e2 : (us ++ [va]).dropLast = us := by rw [List.dropLast_append_of_ne_nil (by simp)]; simp
        obtain ⟨a1, ea, g1⟩ := hst1
        refine ⟨_, rfl, a1, _, ea ▸ rfl, .inr (SqT.of g1), rfl, _, rfl, ?_⟩
        have c : decide (V.int (([V.str "pour"] : List V).length : Int) = V.int 1) = true := by rw [dec_vi]; exact decide_eq_true rfl
        rw [c]
        refine iteT ?_
        refine ⟨_, rfl, .inl ⟨rfl, _, SqL.of h1⟩, p, _, vb, rfl, rfl, h1, ?_, ?_⟩
        · rw [List.length_append, List.getElem?_append_right (by simp only [List.length_cons, List.length_nil]; omega)]
          have : us.length + [va, vb].length - 1 - us.length = 1 := by simp only [List.length_cons, List.length_nil]; omega
          rw [this]; rfl
        rw [e1]
        refine ⟨_, rfl, .inl ⟨rfl, _, SqL.of upd_same⟩, p, _, va, rfl, rfl, upd_same, ?_, ?_⟩
        · rw [List.length_append, List.getElem?_append_right (by simp only [List.length_cons, List.length_nil]; omega)]
          have : us.length + [va].length - 1 - us.length = 0 := by simp only [List.length_cons, List.length_nil]; omega
          rw [this]; rfl
        rw [e2]
        have h2a : (upd H1 p (.lst (us ++ [va]))) p = some (.lst (us ++ [va])) := upd_same
        have s2 : Same H (upd (upd H1 p (.lst (us ++ [va]))) p (.lst us)) := same_new (same_new s1 hpn) hpn
        have m2 : ∀ v T, TSt r H1 v T → TSt r (upd (upd H1 p (.lst (us ++ [va]))) p (.lst us)) v T := fun v T q => StAt.lst (StAt.lst q h1) h2a
        have h2 : (upd (upd H1 p (.lst (us ++ [va]))) p (.lst us)) p = some (.lst us) := upd_same
        generalize upd (upd H1 p (.lst (us ++ [va]))) p (.lst us) = H2 at s2 m2 h2 ⊢
        have l1 := st_few hr1 hA
        have l2 := st_few hr1 hB
        refine ⟨_, rfl, .inl ⟨rfl, _, SqL.of h2⟩, _, rfl, _, rfl, _, rfl, r, va, vb, A.st r, B.st r, rfl, m2 _ _ ta, m2 _ _ tb, (Tr.good hr1 A).nd, (Tr.good hr1 B).nd, by omega, by omega, Nat.lt_of_le_of_lt (st_add_few hr1 hA hB) (by omega), fun v' H3 s3 q => ?_⟩
        have h3 := s3 _ _ h2
        have hul : (us ++ [va, vb]).length = us.length + 2 := by rw [List.length_append]; rfl
        refine ⟨p, us, v', rfl, rfl, h3, small64 (by omega), same_new (s2.trans s3) hpn, G ++ [.pour A B], us ++ [v'], _, _, _, _, _, hG, upd_same, ?_, ?_, rfl⟩
        · exact paired_snoc (R := TSt r _) (b := Tr.pour A B) (StAt.lst q h3) (paired_imp (fun v T q => StAt.lst (StAt.mono s3 (m2 v T q)) h3) hpu)
        · rw [List.length_append]
          show us.length + 1 ≤ i + 1
          omega
      | stream ns =>
        have hns : LeafOk Nm ns := (hF.all (P := LeafOk Nm) hok).2 ns List.mem_cons_self
        have hS := hF.cases_st
        obtain ⟨a1, b1, ea, g1, g2⟩ := hst
        have g1' := s1 _ _ g1
        refine ⟨_, rfl, a1, _, ea ▸ rfl, .inr (SqT.of g1'), rfl, _, rfl, ?_⟩
        have c : decide (V.int (([V.str "stream", V.ref b1] : List V).length : Int) = V.int 1) = false := by rw [dec_vi]; exact decide_eq_false (by simp only [List.length_cons, List.length_nil]; omega)
        rw [c]
        refine iteF ?_
        refine fun d hd => ⟨(by show 2 ≤ sizeLine; decide), fun q hq => ?_⟩
        have s2 : Same H1 (upd H1 d (.dK [])) := same_new1 hd
        have h2 : (upd H1 d (.dK [])) d = some (.dK []) := upd_same
        generalize upd H1 d (.dK []) = H2 at s2 h2 hq ⊢
        have s3 : Same H2 (upd H2 q (.tup [.int 0, .ref d])) := same_new1 hq
        have h3 : (upd H2 q (.tup [.int 0, .ref d])) q = some (.tup [.int 0, .ref d]) := upd_same
        generalize upd H2 q (.tup [.int 0, .ref d]) = H3 at s3 h3 ⊢
        have s13 := s2.trans s3
        have s03 := s1.trans s13
        refine ⟨_, rfl, a1, _, 1, .ref b1, ea, rfl, SqT.of (s03 _ _ g1), rfl, b1, rfl, ⟨_, SqT.of (s03 _ _ g2)⟩, ?_⟩
        refine for_y (y_tup (ns.map V.str)) (fun j σ H' => Same H1 H' ∧ ∃ (v : V) (n : Option V), σ = [some (.int r), some (.ref a), some (.ref p), some vs[i], y, z, some v, n] ∧ StAt H' v (streamA r (ns.take j)))
          (fun j σ H' _ q => SqT.of (q.1 _ _ (s1 _ _ g2))) ⟨s13, .ref q, n, rfl, q, d, rfl, h3, s3 _ _ h2⟩ (fun j σ H4 hj ⟨s4, v, n', hσ, q4⟩ => ?_) fun σ H4 ⟨s4, v, n', hσ, q4⟩ => ?_
        · subst hσ
          rw [List.length_map] at hj
          have ex : (ns.map V.str).getD j .non = .str ns[j] := getD_of (by rw [List.getElem?_map, List.getElem?_eq_getElem hj]; rfl)
          rw [ex]
          have hlj : LeafOk Nm (ns.take j) := ⟨⟨by have := hns.1.1; rw [List.length_take]; omega, fun n hn => hns.1.2 n (List.mem_of_mem_take hn)⟩, fun n hn => hns.2 n (List.mem_of_mem_take hn)⟩
          have fw : (streamA r (ns.take j)).2.length ≤ Nm.length := st_few (T := .leaf (ns.take j)) hr1 hlj
          refine ⟨_, rfl, _, rfl, _, rfl, r, v, streamA r (ns.take j), ns[j], rfl, q4, (Tr.good hr1 (.leaf (ns.take j))).nd, by omega, fun v' H5 s5 q5 => ?_⟩
          refine ⟨s4.trans s5, v', _, rfl, ?_⟩
          have et : ns.take (j + 1) = ns.take j ++ [ns[j]] := by rw [List.take_add_one, List.getElem?_eq_getElem hj]; rfl
          rw [et, stream_snoc]
          exact q5
        · subst hσ
          rw [List.length_map, List.take_length] at q4
          have h4 := s4 _ _ h1
          refine ⟨_, rfl, .inl ⟨rfl, _, SqL.of h4⟩, _, rfl, p, ws, v, rfl, rfl, h4, small64 (by omega), same_new (s1.trans s4) hpn, F ++ [.leaf ns], ws ++ [v], _, _, _, _, _, hS, upd_same, ?_, ?_, rfl⟩
          · exact paired_snoc (R := TSt r _) (b := Tr.leaf ns) (StAt.lst q4 h4) (paired_imp (fun v T q => StAt.lst (StAt.mono s4 q) h4) hpw)
          · rw [List.length_append]
            show ws.length + 1 ≤ i + 1
            omega
    · subst hσ
      have en : t.drop vs.length = [] := List.drop_eq_nil_of_le (by omega)
      rw [en] at hF
      have := hF.cases_nil
      subst this
      cases hpw with
      | cons q1 q2 =>
        cases q2
        exact ⟨_, rfl, p, _, 0, _, rfl, rfl, SqL.of h1, rfl, k _ H1 s1 q1⟩

def spLawSk : Sp := fun vs H Q _ => ∃ (r m : Int) (v : V) (s : St Str), vs = [.int r, .int m, v] ∧ StAt H v s ∧ (keysA s.2).Nodup ∧ s.2.length ≤ 1000 ∧ ∀ (v' : V) (H' : Hp), Same H H' → DueAt H' v' ⟨r, m, s.1, srtA s.2⟩ → Q v' H'
theorem c_law_sketch (T : Txt mg) (D : DefE K mg "_law_sketch" (top 57)) : C8.Cal P w K mg base 1 "_law_sketch" spLawSk [] := by
  have S : FnScope ["_law_room", "_law_many", "_law_state", "_law_name"] ["_law_room", "_law_many", "_law_state"] (C8.fnScope (top 57)) := C8.fnScope_by (by decide +kernel)
  refine cal_of D S (fun _ _ _ _ _ _ us hl => match us, hl with | [_, _, _], _ => rfl) (fun vs H Q E h => ?_) (fun f cdv A outer s H vs Q E hr h => ?_)
  · obtain ⟨r, m, v, s, rfl, _⟩ := h
    rfl
  · obtain ⟨r, m, v, st, rfl, ⟨a, d, rfl, ha, hd⟩, hnd, hl, k⟩ := h
    have nd := S.nd
    have hu := hu_of hr
    have hu2 : (cxOf C8.CX0 P w K mg base ["_law_room", "_law_many", "_law_state", "_law_name"] "_law_sketch" (C8.fnScope (top 57)) f cdv A outer s H E).nox.A.units + 64 < cLine := hr.units
    refine ⟨_, pss_one (ps_ret (pe_tup (pa_cons (pv 0) (pa_cons (pv 1) (pa_cons (pe_ix ix_tup (pv 2) pe_int (fun _ _ => rfl))
      (pa_cons (pe_callTy call_tuple_of rfl T.n_tuple boot_tuple' (pa_cons (pe_callB (cr_sortedSP hu2) rfl T.n_sorted boot_sorted' (pa_cons (pe_lock (pe_lc (own := [("_law_name", 3)]) (g := gName 3) (tt := tYes) rfl nd (pi_keys (pe_ix ix_tup (pv 2) pe_int (fun _ _ => rfl)))
        (blkOk_by (own := [("_law_name", 3)]) (N := ["_law_room", "_law_many", "_law_state", "_law_name"]) (sc := C8.fnScope (top 57)) (by decide +kernel)) (fun _ _ _ _ _ => pg_name (i := 3) nd rfl (Or.inl rfl)) (fun _ _ _ _ _ => pts_nil)
        (fun _ _ _ _ _ => pe_tup (pa_cons (pv 3) (pa_cons (pe_dget hu (pe_ix (ixT K) (pv 2) pe_int (fun _ _ => rfl)) (pv 3) (fun _ _ => rfl)) pa_nil))))) pa_nil)) pa_nil)) pa_nil)))))), ?_⟩
    refine ⟨_, rfl, _, rfl, _, rfl, a, _, 0, .int st.1, rfl, rfl, SqT.of ha, rfl, ?_⟩
    refine ⟨d, _, hd, trivial, fun od => ?_⟩
    have tkL : TK H (upd H d (.frz od (.dK (enc st.2)))) := TK.lockd hd
    have hl1 : (upd H d (.frz od (.dK (enc st.2)))) d = some (.frz od (.dK (enc st.2))) := upd_same
    have sU : ∀ H', Same (upd H d (.frz od (.dK (enc st.2)))) H' → Same H (upd H' d (.dK (enc st.2))) := fun H' q => same_unlock hd q
    generalize upd H d (.frz od (.dK (enc st.2))) = HL at tkL hl1 sU ⊢
    refine ⟨_, rfl, a, _, 1, .ref d, rfl, rfl, SqT.of (tkL.1 _ _ ha), rfl, d, od, rfl, .inl ⟨_, hl1, fun D hD => ?_⟩⟩
    refine lc_y (y_keys st.2) (fun i H' => Same HL H' ∧ ∃ xs : List V, H' D = some (.lst xs) ∧ Paired (PairAt H') xs (st.2.take i)) (fun i H' _ q => q.1 _ _ hl1) ⟨same_new1 hD, [], upd_same, .nil⟩ (fun i H2 hi ⟨s2, xs, h2, hxs⟩ => ?_) fun H2 ⟨s2, xs, h2, hxs⟩ => ?_
    · have ep : st.2[i]? = some st.2[i] := List.getElem?_eq_getElem hi
      have hdg : DGet H2 d (.str st.2[i].1) (some (.int st.2[i].2)) := dget_some (.inr ⟨od, s2 _ _ hl1⟩) (look_at hnd ep)
      rw [key_at ep]
      refine ⟨rfl, _, rfl, _, rfl, a, _, 1, .ref d, rfl, rfl, SqT.of (s2 _ _ (tkL.1 _ _ ha)), rfl, _, rfl, d, _, rfl, hdg, (by show 2 ≤ sizeLine; decide), fun tp htp => ?_⟩
      have s3 : Same H2 (upd H2 tp (.tup [.str st.2[i].1, .int st.2[i].2])) := same_new1 htp
      have h3 : (upd H2 tp (.tup [.str st.2[i].1, .int st.2[i].2])) tp = some (.tup [.str st.2[i].1, .int st.2[i].2]) := upd_same
      generalize upd H2 tp (.tup [.str st.2[i].1, .int st.2[i].2]) = H3 at s3 h3 ⊢
      have tk4 : TK H3 (upd H3 D (.lst (xs ++ [.ref tp]))) := TK.lst (s3 _ _ h2)
      refine ⟨_, s3 _ _ h2, ?_, same_new (s2.trans s3) hD, xs ++ [.ref tp], upd_same, ?_⟩
      · have z1 := paired_len hxs
        rw [List.length_take] at z1
        exact small64 (by omega)
      · rw [take_key ep]
        exact paired_snoc ⟨tp, rfl, tk4.1 _ _ h3⟩ (paired_imp (fun _ _ => PairAt.mono ((tk_of s3).trans tk4)) hxs)
    rw [List.take_length] at hxs
    refine ⟨s2 _ _ hl1, ?_⟩
    have nDd : D ≠ d := fun e => by rw [e, hl1] at hD; cases hD
    have s3 := sU _ s2
    have h3 : (upd H2 d (.dK (enc st.2))) D = some (.lst xs) := by rw [upd_ne nDd]; exact h2
    have p3 : Paired (PairAt (upd H2 d (.dK (enc st.2)))) xs st.2 := paired_imp (fun x p ⟨c, e, q⟩ => ⟨c, e, by
      rw [upd_ne (fun z => by rw [z, s2 _ _ hl1] at q; cases q)]; exact q⟩) hxs
    generalize upd H2 d (.dK (enc st.2)) = H3 at s3 h3 p3 ⊢
    refine ⟨D, xs, st.2, rfl, SqL.of h3, p3, fun ys q py hq => ?_⟩
    have s4 : Same H3 (upd H3 q (.lst ys)) := same_new1 hq
    have h4 : (upd H3 q (.lst ys)) q = some (.lst ys) := upd_same
    generalize upd H3 q (.lst ys) = H4 at s4 h4 ⊢
    refine ⟨q, ys, rfl, .inl ⟨SqL.of h4, fun tp htp => ⟨(by show 4 ≤ sizeLine; decide), fun z hz => ?_⟩⟩⟩
    have s5 : Same H4 (upd H4 tp (.tup ys)) := same_new1 htp
    have h5 : (upd H4 tp (.tup ys)) tp = some (.tup ys) := upd_same
    generalize upd H4 tp (.tup ys) = H5 at s5 h5 hz ⊢
    have s6 : Same H5 (upd H5 z (.tup [.int r, .int m, .int st.1, .ref tp])) := same_new1 hz
    exact k (.ref z) _ (((s3.trans s4).trans s5).trans s6) ⟨z, .ref tp, rfl, upd_same, tp, ys, rfl, s6 _ _ h5, paired_imp (fun _ _ => PairAt.mono (tk_of ((s4.trans s5).trans s6))) py⟩
end
end KN
namespace KN
open PySem PySem.Spec PyProof.Rows L2

/-! ### alike -/
def TupV (H : Hp) (a : Addr) (xs : List V) : Prop := H a = some (.tup xs) ∨ ZT H a xs
theorem TupV.sq {K : PySem.W.Frag} {H : Hp} {a : Addr} {xs : List V} (h : TupV H a xs) : SqT K H a xs := h.elim SqT.of ZT.sq
theorem TupV.ty {K : PySem.W.Frag} {H : Hp} {a : Addr} {xs : List V} (h : TupV H a xs) : TyX K H (.ref a) (.type "tuple") := h.elim (fun e => .base (.tup e)) fun ⟨_, _, e⟩ => .fTuple e
theorem TupV.mono {H H' : Hp} (t : TK H H') {a : Addr} {xs : List V} (h : TupV H a xs) : TupV H' a xs := h.elim (fun e => .inl (t.1 _ _ e)) fun ⟨o, n, e⟩ => .inr ⟨o, n, t.2 _ _ _ e⟩
def LeafV (v u : V) : Prop := (∃ i, v = .int i ∧ u = .int i) ∨ ∃ x, v = .str x ∧ u = .str x
def Alike (H : Hp) : Nat → V → V → Prop
  | 0, v, u => LeafV v u
  | n + 1, v, u => LeafV v u ∨ ∃ (a b : Addr) (xs ys : List V), v = .ref a ∧ u = .ref b ∧ TupV H a xs ∧ TupV H b ys ∧ xs.length ≤ 1000 ∧ Paired (Alike H n) xs ys
theorem Alike.mono {H H' : Hp} (t : TK H H') : ∀ {n : Nat} {v u : V}, Alike H n v u → Alike H' n v u
  | 0, _, _, h => h
  | n + 1, _, _, .inl h => .inl h
  | n + 1, _, _, .inr ⟨a, b, xs, ys, e1, e2, h1, h2, hl, p⟩ => .inr ⟨a, b, xs, ys, e1, e2, h1.mono t, h2.mono t, hl, paired_imp (fun _ _ => Alike.mono t) p⟩
theorem Alike.leaf {H : Hp} {n : Nat} {v u : V} (h : LeafV v u) : Alike H n v u := by
  cases n with
  | zero => exact h
  | succ n => exact .inl h
theorem Alike.int {H : Hp} {n : Nat} (i : Int) : Alike H n (.int i) (.int i) := .leaf (.inl ⟨i, rfl, rfl⟩)
theorem Alike.str {H : Hp} {n : Nat} (x : Str) : Alike H n (.str x) (.str x) := .leaf (.inr ⟨x, rfl, rfl⟩)
theorem alike_pair {H : Hp} {n : Nat} {v u : V} {p : Str × Int} (h : PairAt H v p) (g : PairAt H u p) : Alike H (n + 1) v u := by
  obtain ⟨a, rfl, ha⟩ := h
  obtain ⟨b, rfl, hb⟩ := g
  exact .inr ⟨a, b, _, _, rfl, rfl, .inl ha, .inl hb, by simp, .cons (.str _) (.cons (.int _) .nil)⟩
theorem alike_pairs {H : Hp} {n : Nat} : ∀ {vs us : List V} {l : List (Str × Int)}, Paired (PairAt H) vs l → Paired (PairAt H) us l → Paired (Alike H (n + 1)) vs us
  | _, _, _, .nil, .nil => .nil
  | _, _, _, .cons h t, .cons g u => .cons (alike_pair h g) (alike_pairs t u)
section
variable {P : Program} {w : World} {K : PySem.W.Frag} {mg : Str → Option Value} {base : Heap}

theorem kitAny_nil (t : Value) : PySem.W.kitAny K t [] = some false := rfl
theorem kit2_tup : PySem.W.kitAny K (.type "tuple") [.type "tuple", .type "list"] = some true :=
  kitAny_cons (b := true) (kit_ty (by decide +kernel)) (fun e => by cases e) fun _ => rfl
theorem kit2_int : PySem.W.kitAny K (.type "int") [.type "tuple", .type "list"] = some false :=
  kitAny_cons (b := false) (kit_ty (by decide +kernel)) (fun _ => kitAny_cons (b := false) (kit_ty (by decide +kernel)) (fun _ => rfl) fun e => by cases e) fun e => by cases e
theorem kit2_str : PySem.W.kitAny K (.type "str") [.type "tuple", .type "list"] = some false :=
  kitAny_cons (b := false) (kit_ty (by decide +kernel)) (fun _ => kitAny_cons (b := false) (kit_ty (by decide +kernel)) (fun _ => rfl) fun e => by cases e) fun e => by cases e
theorem ne_tt : (!decide (V.bl true = V.bl true)) = false := by simp
theorem ne_ff : (!decide (V.bl false = V.bl false)) = false := by simp
theorem eq_ff : decide (V.bl false = V.bl false) = true := by simp

def spLIs (n : Nat) : Sp := fun vs H Q _ => ∃ v u : V, vs = [v, u] ∧ Alike H n v u ∧ ∀ H', Same H H' → Q (.bl true) H'
theorem c_law_is0 (T : Txt mg) (D : DefE K mg "_law_is" (top 58)) : C8.Cal P w K mg base 1 "_law_is" (spLIs 0) [] := by
  have S : FnScope ["_law_told", "_law_due", "_law_k"] ["_law_told", "_law_due"] (C8.fnScope (top 58)) := C8.fnScope_by (by decide +kernel)
  refine cal_of D S (fun _ _ _ _ _ _ us hl => match us, hl with | [_, _], _ => rfl) (fun vs H Q E h => ?_) (fun f cdv A outer s H vs Q E hr h => ?_)
  · obtain ⟨v, u, rfl, _⟩ := h
    rfl
  · obtain ⟨v, u, rfl, hal, k⟩ := h
    have nd := S.nd
    refine ⟨_, pss_cons (ps_if (pt_val (pe_callB call_isiT rfl T.n_isinstance boot_isinstance (pa_cons (pv 1) (pa_cons (pe_tup (pa_cons (pe_bltn (v := .ty "tuple") rfl T.n_tuple boot_tuple' rfl) (pa_cons (pe_bltn (v := .ty "list") rfl T.n_list boot_list' rfl) pa_nil))) pa_nil))))
        pss_never pss_nil)
      (pss_one (ps_ret (pe_and (pe_cmpR op_eq (pe_callB call_isi rfl T.n_isinstance boot_isinstance (pa_cons (pv 0) (pa_cons (pe_bltn (v := .ty "bool") rfl T.n_bool boot_bool' rfl) pa_nil)))
          (pe_callB call_isi rfl T.n_isinstance boot_isinstance (pa_cons (pv 1) (pa_cons (pe_bltn (v := .ty "bool") rfl T.n_bool boot_bool' rfl) pa_nil))) (nomark _))
        (pe_one (pe_cmpR op_eq (pv 0) (pv 1) (nomark _)))))), ?_⟩
    rcases hal with ⟨i, rfl, rfl⟩ | ⟨x, rfl, rfl⟩
    · refine ⟨_, rfl, (by show 2 ≤ sizeLine; decide), fun tp htp => ⟨.int i, tp, _, _, _, false, rfl, upd_same, .cons (.ty _) (.cons (.ty _) .nil), .base (.int i), kit2_int, _, rfl, iteF ?_⟩⟩
      refine ⟨_, rfl, .int i, .ty "bool", _, _, false, rfl, .ty "bool", .base (.int i), kit_ty (by decide +kernel), _, rfl, .int i, .ty "bool", _, _, false, rfl, .ty "bool", .base (.int i), kit_ty (by decide +kernel), rfl, true, congrArg V.bl eq_ff, iteT ?_⟩
      refine ⟨_, rfl, _, rfl, rfl, ?_⟩
      rw [show decide (V.int i = V.int i) = true by simp]
      exact k _ (same_new1 htp)
    · refine ⟨_, rfl, (by show 2 ≤ sizeLine; decide), fun tp htp => ⟨.str x, tp, _, _, _, false, rfl, upd_same, .cons (.ty _) (.cons (.ty _) .nil), .base (.str x), kit2_str, _, rfl, iteF ?_⟩⟩
      refine ⟨_, rfl, .str x, .ty "bool", _, _, false, rfl, .ty "bool", .base (.str x), kit_ty (by decide +kernel), _, rfl, .str x, .ty "bool", _, _, false, rfl, .ty "bool", .base (.str x), kit_ty (by decide +kernel), rfl, true, congrArg V.bl eq_ff, iteT ?_⟩
      refine ⟨_, rfl, _, rfl, rfl, ?_⟩
      rw [show decide (V.str x = V.str x) = true by simp]
      exact k _ (same_new1 htp)
theorem c_law_isS (T : Txt mg) {n : Nat} (c1 : C8.Cal P w K mg base (n + 1) "_law_is" (spLIs n) []) (D : DefE K mg "_law_is" (top 58)) : C8.Cal P w K mg base (n + 1 + 1) "_law_is" (spLIs (n + 1)) [] := by
  have S : FnScope ["_law_told", "_law_due", "_law_k"] ["_law_told", "_law_due"] (C8.fnScope (top 58)) := C8.fnScope_by (by decide +kernel)
  refine cal_of D S (fun _ _ _ _ _ _ us hl => match us, hl with | [_, _], _ => rfl) (fun vs H Q E h => ?_) (fun f cdv A outer s H vs Q E hr h => ?_)
  · obtain ⟨v, u, rfl, _⟩ := h
    rfl
  · obtain ⟨v, u, rfl, hal, k⟩ := h
    have nd := S.nd
    refine ⟨_, pss_cons (ps_if (pt_val (pe_callB call_isiT rfl T.n_isinstance boot_isinstance (pa_cons (pv 1) (pa_cons (pe_tup (pa_cons (pe_bltn (v := .ty "tuple") rfl T.n_tuple boot_tuple' rfl) (pa_cons (pe_bltn (v := .ty "list") rfl T.n_list boot_list' rfl) pa_nil))) pa_nil))))
        (pss_cons (ps_if (PW.pt (pw_or (pt_cmpR op_ne (pe_callB call_isi rfl T.n_isinstance boot_isinstance (pa_cons (pv 0) (pa_cons (pe_bltn (v := .ty "tuple") rfl T.n_tuple boot_tuple' rfl) pa_nil)))
              (pe_callB call_isi rfl T.n_isinstance boot_isinstance (pa_cons (pv 1) (pa_cons (pe_bltn (v := .ty "tuple") rfl T.n_tuple boot_tuple' rfl) pa_nil))) (nomark _))
            (pw_or1 (pt_cmpR op_ne (pe_callB call_isi rfl T.n_isinstance boot_isinstance (pa_cons (pv 0) (pa_cons (pe_bltn (v := .ty "list") rfl T.n_list boot_list' rfl) pa_nil)))
              (pe_callB call_isi rfl T.n_isinstance boot_isinstance (pa_cons (pv 1) (pa_cons (pe_bltn (v := .ty "list") rfl T.n_list boot_list' rfl) pa_nil))) (nomark _))))) pss_never pss_nil)
          (pss_one (ps_ret (pe_and (pe_cmpR op_eq (pe_callB call_len_seq rfl T.n_len boot_len' (pa_cons (pv 0) pa_nil)) (pe_callB call_len_seq rfl T.n_len boot_len' (pa_cons (pv 1) pa_nil)) (nomark _))
            (pe_one (pe_callB (cr_all rfl) rfl T.n_all boot_all' (pa_cons (pe_lc (own := [("_law_k", 2)]) (g := gName 2) (tt := tYes) rfl nd (pi_range1 rfl T.n_range (pa_cons (pe_callB call_len_seq rfl T.n_len boot_len' (pa_cons (pv 1) pa_nil)) pa_nil))
              (blkOk_by (own := [("_law_k", 2)]) (N := ["_law_told", "_law_due", "_law_k"]) (sc := C8.fnScope (top 58)) (by decide +kernel)) (fun _ _ _ _ _ => pg_name (i := 2) nd rfl (Or.inl rfl)) (fun _ _ _ _ _ => pts_nil)
              (fun _ _ _ _ _ => pe_c c1 hr (Nat.le_refl _) rfl (pa_cons (pe_ix (ixT K) (pv 0) (pv 2) (fun _ _ => rfl)) (pa_cons (pe_ix (ixT K) (pv 1) (pv 2) (fun _ _ => rfl)) pa_nil)))) pa_nil)))))))
        pss_nil)
      (pss_one (ps_ret (pe_and (pe_cmpR op_eq (pe_callB call_isi rfl T.n_isinstance boot_isinstance (pa_cons (pv 0) (pa_cons (pe_bltn (v := .ty "bool") rfl T.n_bool boot_bool' rfl) pa_nil)))
          (pe_callB call_isi rfl T.n_isinstance boot_isinstance (pa_cons (pv 1) (pa_cons (pe_bltn (v := .ty "bool") rfl T.n_bool boot_bool' rfl) pa_nil))) (nomark _))
        (pe_one (pe_cmpR op_eq (pv 0) (pv 1) (nomark _)))))), ?_⟩
    rcases hal with (⟨i, rfl, rfl⟩ | ⟨x, rfl, rfl⟩) | ⟨a, b, xs, ys, rfl, rfl, ha, hb, hl, hp⟩
    · refine ⟨_, rfl, (by show 2 ≤ sizeLine; decide), fun tp htp => ⟨.int i, tp, _, _, _, false, rfl, upd_same, .cons (.ty _) (.cons (.ty _) .nil), .base (.int i), kit2_int, _, rfl, iteF ?_⟩⟩
      refine ⟨_, rfl, .int i, .ty "bool", _, _, false, rfl, .ty "bool", .base (.int i), kit_ty (by decide +kernel), _, rfl, .int i, .ty "bool", _, _, false, rfl, .ty "bool", .base (.int i), kit_ty (by decide +kernel), rfl, true, congrArg V.bl eq_ff, iteT ?_⟩
      refine ⟨_, rfl, _, rfl, rfl, ?_⟩
      rw [show decide (V.int i = V.int i) = true by simp]
      exact k _ (same_new1 htp)
    · refine ⟨_, rfl, (by show 2 ≤ sizeLine; decide), fun tp htp => ⟨.str x, tp, _, _, _, false, rfl, upd_same, .cons (.ty _) (.cons (.ty _) .nil), .base (.str x), kit2_str, _, rfl, iteF ?_⟩⟩
      refine ⟨_, rfl, .str x, .ty "bool", _, _, false, rfl, .ty "bool", .base (.str x), kit_ty (by decide +kernel), _, rfl, .str x, .ty "bool", _, _, false, rfl, .ty "bool", .base (.str x), kit_ty (by decide +kernel), rfl, true, congrArg V.bl eq_ff, iteT ?_⟩
      refine ⟨_, rfl, _, rfl, rfl, ?_⟩
      rw [show decide (V.str x = V.str x) = true by simp]
      exact k _ (same_new1 htp)
    · refine ⟨_, rfl, (by show 2 ≤ sizeLine; decide), fun tp htp => ?_⟩
      have s1 : Same H (upd H tp (.tup [.ty "tuple", .ty "list"])) := same_new1 htp
      have h1 : (upd H tp (.tup [.ty "tuple", .ty "list"])) tp = some (.tup [.ty "tuple", .ty "list"]) := upd_same
      generalize upd H tp (.tup [.ty "tuple", .ty "list"]) = H1 at s1 h1 ⊢
      have ha1 := ha.mono (tk_of s1)
      have hb1 := hb.mono (tk_of s1)
      refine ⟨.ref b, tp, _, _, _, true, rfl, h1, .cons (.ty _) (.cons (.ty _) .nil), hb1.ty, kit2_tup, _, rfl, iteT ?_⟩
      refine ⟨_, rfl, .ref a, .ty "tuple", _, _, true, rfl, .ty "tuple", ha1.ty, kit_ty (by decide +kernel), _, rfl, .ref b, .ty "tuple", _, _, true, rfl, .ty "tuple", hb1.ty, kit_ty (by decide +kernel), rfl, false, congrArg V.bl ne_tt, iteF ?_⟩
      refine ⟨_, rfl, .ref a, .ty "list", _, _, false, rfl, .ty "list", ha1.ty, kit_ty (by decide +kernel), _, rfl, .ref b, .ty "list", _, _, false, rfl, .ty "list", hb1.ty, kit_ty (by decide +kernel), rfl, false, congrArg V.bl ne_ff, iteF ?_⟩
      have hxy := paired_len hp
      refine ⟨_, rfl, a, xs, rfl, .inr ha1.sq, _, rfl, b, ys, rfl, .inr hb1.sq, rfl, true, ?_, iteT ?_⟩
      · show V.bl (decide (V.int (xs.length : Int) = V.int (ys.length : Int))) = V.bl true
        rw [hxy]; simp
      refine ⟨_, rfl, b, ys, rfl, .inr hb1.sq, _, rfl, by omega, by omega, fun d hd => ?_⟩
      rw [Int.toNat_natCast]
      refine lc_range (lo := 0) (n := ys.length) (fun i H' => Same H1 H' ∧ H' d = some (.lst (List.replicate i (V.bl true)))) ⟨same_new1 hd, upd_same⟩ (fun i H2 hi ⟨s2, h2⟩ => ?_) fun H2 ⟨s2, h2⟩ => ?_
      · have hix : i < xs.length := by omega
        have ex : xs[i]? = some xs[i] := List.getElem?_eq_getElem hix
        obtain ⟨y, ey, hal⟩ := paired_at hp ex
        refine ⟨rfl, _, rfl, _, rfl, a, xs, _, xs[i], rfl, rfl, (ha1.mono (tk_of s2)).sq, at_of (j := i) (by omega) ex, _, rfl, _, rfl, b, ys, _, y, rfl, rfl, (hb1.mono (tk_of s2)).sq, at_of (j := i) (by omega) ey, _, _, rfl, hal.mono (tk_of (s1.trans s2)), fun H3 s3 => ?_⟩
        exact ⟨_, s3 _ _ h2, by rw [List.length_replicate]; exact small64 (by omega), same_new (s2.trans s3) hd, by rw [upd_same, List.replicate_succ']⟩
      · refine ⟨d, List.replicate ys.length true, rfl, SqL.of (by rw [h2, List.map_replicate]), ?_⟩
        rw [rep_all]
        exact k H2 (s1.trans s2)
theorem c_law_is (T : Txt mg) (D : DefE K mg "_law_is" (top 58)) : C8.Cal P w K mg base 4 "_law_is" (spLIs 3) [] := c_law_isS T (c_law_isS T (c_law_isS T (c_law_is0 T D) D) D) D
end
end KN
namespace KN
open PySem PySem.Spec PyProof.Rows L2

section
variable {P : Program} {w : World} {K : PySem.W.Frag} {mg : Str → Option Value} {base : Heap}

def spBounds : Sp := fun vs H Q _ => ∃ (r : Nat) (v : V) (T : Tr Str) (d : Addr), vs = [.int r, .int (T.items.length : Int), v, .ref d] ∧ 1 ≤ r ∧ r ≤ 64 ∧ TSt r H v T ∧ H d = some (.dK (enc (countsA T.items))) ∧ T.items.length ≤ 50000 ∧ ∀ H', Same H H' → Q (.bl true) H'
theorem c_law_bounds (T : Txt mg) (D : DefE K mg "_law_bounds_right" (top 59)) : C8.Cal P w K mg base 1 "_law_bounds_right" spBounds [] := by
  have S : FnScope ["_law_room", "_law_many", "_law_state", "_law_counts", "_law_off", "_law_kept", "_law_lost", "_law_name"] ["_law_room", "_law_many", "_law_state", "_law_counts"] (C8.fnScope (top 59)) := C8.fnScope_by (by decide +kernel)
  refine cal_of D S (fun _ _ _ _ _ _ us hl => match us, hl with | [_, _, _, _], _ => rfl) (fun vs H Q E h => ?_) (fun f cdv A outer s H vs Q E hr h => ?_)
  · obtain ⟨r, v, T, d, rfl, _⟩ := h
    rfl
  · obtain ⟨r, v, T', d, rfl, hr1, hr2, ⟨a, e, rfl, ha, he⟩, hd, hi, k⟩ := h
    have nd := S.nd
    have hu := hu_of hr
    refine ⟨_, pss_cons (ps_asg (pv 2) (pg_tup rfl (pgs_cons (pg_name (i := 4) nd rfl (Or.inr rfl)) (pgs_cons (pg_name (i := 5) nd rfl (Or.inr rfl)) pgs_nil))))
      (pss_cons (ps_set (i := 6) nd rfl (Or.inl rfl) (pe_op op_sub (pv 1) (pe_callB (cr_sum rfl) rfl T.n_sum boot_sum' (pa_cons (pe_lock (pe_lc (own := [("_law_name", 7)]) (g := gName 7) (tt := tYes) rfl nd (pi_keys (pv 5))
        (blkOk_by (own := [("_law_name", 7)]) (N := ["_law_room", "_law_many", "_law_state", "_law_counts", "_law_off", "_law_kept", "_law_lost", "_law_name"]) (sc := C8.fnScope (top 59)) (by decide +kernel)) (fun _ _ _ _ _ => pg_name (i := 7) nd rfl (Or.inl rfl)) (fun _ _ _ _ _ => pts_nil)
        (fun _ _ _ _ _ => pe_dget hu (pv 5) (pv 7) (fun _ _ => rfl)))) pa_nil))))
      (pss_cons (ps_if (pt_not (pt_val (pe_callB (cr_all rfl) rfl T.n_all boot_all' (pa_cons (pe_lock (pe_lc (own := [("_law_name", 7)]) (g := gName 7) (tt := tYes) rfl nd (pi_keys (pv 5))
        (blkOk_by (own := [("_law_name", 7)]) (N := ["_law_room", "_law_many", "_law_state", "_law_counts", "_law_off", "_law_kept", "_law_lost", "_law_name"]) (sc := C8.fnScope (top 59)) (by decide +kernel)) (fun _ _ _ _ _ => pg_name (i := 7) nd rfl (Or.inl rfl)) (fun _ _ _ _ _ => pts_nil)
        (fun _ _ _ _ _ => pe_cmp (pc_din hu (pv 7) (pv 3))))) pa_nil)))) pss_never pss_nil)
      (pss_cons (ps_if (pt_not (pt_val (pe_callB (cr_all rfl) rfl T.n_all boot_all' (pa_cons (pe_lock (pe_lc (own := [("_law_name", 7)]) (g := gName 7) (tt := tYes) rfl nd (pi_keys (pv 3))
        (blkOk_by (own := [("_law_name", 7)]) (N := ["_law_room", "_law_many", "_law_state", "_law_counts", "_law_off", "_law_kept", "_law_lost", "_law_name"]) (sc := C8.fnScope (top 59)) (by decide +kernel)) (fun _ _ _ _ _ => pg_name (i := 7) nd rfl (Or.inl rfl)) (fun _ _ _ _ _ => pts_nil)
        (fun _ _ _ _ _ => pe_chain op_le op_le pe_int (pe_op op_sub (pe_dget hu (pv 3) (pv 7) (fun _ _ => rfl)) (pe_dget2 hu (pv 5) (pv 7) pe_int ⟨rfl, rfl, rfl, rfl⟩)) (pv 4)))) pa_nil)))) pss_never pss_nil)
      (pss_one (ps_ret (pe_and (pe_chain op_le op_le (pe_op op_mul (pe_callTy call_int1 rfl T.n_int boot_int' (pa_cons (pe_op op_add (pv 0) pe_int) pa_nil)) (pv 4)) (pv 6) (pe_op op_mul (pe_op op_mul pe_int (pv 0)) (pv 4)))
        (pe_and (pe_cmpR op_le (pe_op op_mul (pv 4) (pe_callTy call_int1 rfl T.n_int boot_int' (pa_cons (pe_op op_add (pv 0) pe_int) pa_nil))) (pv 1) (nomark _))
        (pe_one (pe_cmpR op_le (pe_callB call_lenD rfl T.n_len boot_len' (pa_cons (pv 5) pa_nil)) (pv 0) (nomark _)))))))))), ?_⟩
    have g := Tr.good hr1 T'
    have hkey : ∀ {x : Str}, x ∈ keysA (T'.st r).2 → x ∈ T'.items := fun h => g.key_in h
    generalize T'.st r = st at ha he g hkey
    have hcn := counts_nd T'.items
    have hcg : ∀ x, getA (countsA T'.items) x = ((T'.items.count x : Nat) : Int) := counts_get T'.items
    have hck : ∀ x, x ∈ keysA (countsA T'.items) ↔ x ∈ T'.items := counts_key T'.items
    have hcl := counts_len T'.items
    generalize countsA T'.items = C at hd hcn hcg hck hcl
    have hlen := g.len
    refine ⟨_, rfl, a, _, rfl, SqT.of ha, rfl, _, _, rfl, _, _, rfl, rfl, ?_⟩
    -- the sum of what is kept
    refine ⟨_, rfl, e, _, he, trivial, fun od => ?_⟩
    have hl1 : (upd H e (.frz od (.dK (enc st.2)))) e = some (.frz od (.dK (enc st.2))) := upd_same
    have sU : ∀ H', Same (upd H e (.frz od (.dK (enc st.2)))) H' → Same H (upd H' e (.dK (enc st.2))) := fun H' q => same_unlock he q
    generalize upd H e (.frz od (.dK (enc st.2))) = HL at hl1 sU ⊢
    refine ⟨_, rfl, e, od, rfl, .inl ⟨_, hl1, fun D hD => ?_⟩⟩
    refine lc_y (y_keys st.2) (fun i H' => Same HL H' ∧ H' D = some (.lst (((valsA st.2).take i).map V.int))) (fun i H' _ q => q.1 _ _ hl1) ⟨same_new1 hD, upd_same⟩ (fun i H2 hi' ⟨s2, h2⟩ => ?_) fun H2 ⟨s2, h2⟩ => ?_
    · have ep : st.2[i]? = some st.2[i] := List.getElem?_eq_getElem hi'
      have hdg : DGet H2 e (.str st.2[i].1) (some (.int st.2[i].2)) := dget_some (.inr ⟨od, s2 _ _ hl1⟩) (look_at g.nd ep)
      rw [key_at ep]
      refine ⟨rfl, _, rfl, _, rfl, e, _, rfl, hdg, _, h2, ?_, same_new s2 hD, ?_⟩
      · rw [List.length_map, List.length_take]; exact small64 (by omega)
      · have ek : (valsA st.2)[i]? = some st.2[i].2 := by unfold valsA; rw [List.getElem?_map, ep]; rfl
        rw [upd_same, List.take_add_one, ek, List.map_append]
        rfl
    have evl : (valsA st.2).take st.2.length = valsA st.2 := List.take_of_length_le (by unfold valsA; rw [List.length_map]; exact Nat.le_refl _)
    rw [evl] at h2
    refine ⟨s2 _ _ hl1, ?_⟩
    have nDe : D ≠ e := fun z => by rw [z, hl1] at hD; cases hD
    have s3 := sU _ s2
    have h3 : (upd H2 e (.dK (enc st.2))) D = some (.lst ((valsA st.2).map V.int)) := by rw [upd_ne nDe]; exact h2
    generalize upd H2 e (.dK (enc st.2)) = H3 at s3 h3 ⊢
    refine ⟨D, _, rfl, SqL.of h3, _, _, rfl, rfl, ?_⟩
    -- every name kept is counted
    have he3 := s3 _ _ he
    have hd3 := s3 _ _ hd
    refine ⟨e, _, he3, trivial, fun od2 => ?_⟩
    have hm1 : (upd H3 e (.frz od2 (.dK (enc st.2)))) e = some (.frz od2 (.dK (enc st.2))) := upd_same
    have sV : ∀ H', Same (upd H3 e (.frz od2 (.dK (enc st.2)))) H' → Same H3 (upd H' e (.dK (enc st.2))) := fun H' q => same_unlock he3 q
    have hdm : Rd (upd H3 e (.frz od2 (.dK (enc st.2)))) d (.dK (enc C)) := by
      by_cases z : d = e
      · rw [z, he3] at hd3
        rw [z, ← Option.some.inj hd3]; exact .inr ⟨od2, upd_same⟩
      · exact .inl (by rw [upd_ne z]; exact hd3)
    generalize upd H3 e (.frz od2 (.dK (enc st.2))) = HM at hm1 sV hdm ⊢
    have rd_mono : ∀ {H1 H2 : Hp} {x : Addr} {u : HO}, Same H1 H2 → Rd H1 x u → Rd H2 x u := fun s h => by
      rcases h with h | ⟨o, h⟩
      · exact .inl (s _ _ h)
      · exact .inr ⟨o, s _ _ h⟩
    refine ⟨_, rfl, e, od2, rfl, .inl ⟨_, hm1, fun D2 hD2 => ?_⟩⟩
    refine lc_y (y_keys st.2) (fun i H' => Same HM H' ∧ H' D2 = some (.lst (List.replicate i (V.bl true)))) (fun i H' _ q => q.1 _ _ hm1) ⟨same_new1 hD2, upd_same⟩ (fun i H4 hi' ⟨s4, h4⟩ => ?_) fun H4 ⟨s4, h4⟩ => ?_
    · have ep : st.2[i]? = some st.2[i] := List.getElem?_eq_getElem hi'
      rw [key_at ep]
      refine ⟨rfl, _, rfl, _, rfl, d, _, rfl, dget_enc st.2[i].1 (rd_mono s4 hdm), ?_⟩
      have hin : st.2[i].1 ∈ keysA C := (hck _).mpr (hkey (List.mem_map.mpr ⟨_, List.getElem_mem hi', rfl⟩))
      rw [isSome_look, decide_eq_true hin]
      exact ⟨_, h4, by rw [List.length_replicate]; exact small64 (by omega), same_new s4 hD2, by rw [upd_same, List.replicate_succ']⟩
    refine ⟨s4 _ _ hm1, ?_⟩
    have nD2e : D2 ≠ e := fun z => by rw [z, hm1] at hD2; cases hD2
    have s5 := sV _ s4
    have h5 : (upd H4 e (.dK (enc st.2))) D2 = some (.lst (List.replicate st.2.length (V.bl true))) := by rw [upd_ne nD2e]; exact h4
    generalize upd H4 e (.dK (enc st.2)) = H5 at s5 h5 ⊢
    refine ⟨D2, List.replicate st.2.length true, rfl, SqL.of (by rw [h5, List.map_replicate]), ?_⟩
    rw [rep_all]
    refine ⟨true, rfl, iteF ?_⟩
    -- every count within the bounds
    have s35 := s3.trans s5
    have he5 := s35 _ _ he
    have hd5 := s35 _ _ hd
    refine ⟨d, _, hd5, trivial, fun od3 => ?_⟩
    have hn1 : (upd H5 d (.frz od3 (.dK (enc C)))) d = some (.frz od3 (.dK (enc C))) := upd_same
    have sW : ∀ H', Same (upd H5 d (.frz od3 (.dK (enc C)))) H' → Same H5 (upd H' d (.dK (enc C))) := fun H' q => same_unlock hd5 q
    have hen : Rd (upd H5 d (.frz od3 (.dK (enc C)))) e (.dK (enc st.2)) := by
      by_cases z : e = d
      · rw [z, hd5] at he5
        rw [z, ← Option.some.inj he5]; exact .inr ⟨od3, upd_same⟩
      · exact .inl (by rw [upd_ne z]; exact he5)
    generalize upd H5 d (.frz od3 (.dK (enc C))) = HN at hn1 sW hen ⊢
    refine ⟨_, rfl, d, od3, rfl, .inl ⟨_, hn1, fun D3 hD3 => ?_⟩⟩
    refine lc_y (y_keys C) (fun i H' => Same HN H' ∧ H' D3 = some (.lst (List.replicate i (V.bl true)))) (fun i H' _ q => q.1 _ _ hn1) ⟨same_new1 hD3, upd_same⟩ (fun i H6 hi' ⟨s6, h6⟩ => ?_) fun H6 ⟨s6, h6⟩ => ?_
    · have ep : C[i]? = some C[i] := List.getElem?_eq_getElem hi'
      have hlk := look_at hcn ep
      have hdg : DGet H6 d (.str C[i].1) (some (.int C[i].2)) := dget_some (.inr ⟨od3, s6 _ _ hn1⟩) hlk
      have hck2 : C[i].2 = ((T'.items.count C[i].1 : Nat) : Int) := by rw [← hcg, get_of_look hlk]
      have lo : getA st.2 C[i].1 ≤ ((T'.items.count C[i].1 : Nat) : Int) := g.lo C[i].1
      have hi2 : ((T'.items.count C[i].1 : Nat) : Int) ≤ getA st.2 C[i].1 + st.1 := g.hi C[i].1
      have he6 := rd_mono s6 hen
      rw [key_at ep]
      refine ⟨rfl, _, rfl, _, rfl, d, _, rfl, hdg, _, rfl, e, rfl, .inl ⟨_, he6⟩, _, rfl, _, dget_enc C[i].1 he6, ?_⟩
      rw [getD_look]
      refine ⟨_, _, rfl, rfl, _, _, rfl, rfl, true, ?_, iteT ?_⟩
      · show V.bl (decide ((0 : Int) ≤ C[i].2 - getA st.2 C[i].1)) = V.bl true
        rw [decide_eq_true (by omega)]
      refine ⟨_, rfl, _, _, rfl, rfl, ?_⟩
      show ∃ acc, H6 D3 = some (.lst acc) ∧ acc.length < sizeLine ∧ Same HN (upd H6 D3 (.lst (acc ++ [V.bl (decide (C[i].2 - getA st.2 C[i].1 ≤ st.1))]))) ∧ (upd H6 D3 (.lst (acc ++ [V.bl (decide (C[i].2 - getA st.2 C[i].1 ≤ st.1))]))) D3 = some (.lst (List.replicate (i + 1) (V.bl true)))
      rw [decide_eq_true (show C[i].2 - getA st.2 C[i].1 ≤ st.1 by omega)]
      exact ⟨_, h6, by rw [List.length_replicate]; exact small64 (by omega), same_new s6 hD3, by rw [upd_same, List.replicate_succ']⟩
    refine ⟨s6 _ _ hn1, ?_⟩
    have nD3d : D3 ≠ d := fun z => by rw [z, hn1] at hD3; cases hD3
    have s7 := sW _ s6
    have h7 : (upd H6 d (.dK (enc C))) D3 = some (.lst (List.replicate C.length (V.bl true))) := by rw [upd_ne nD3d]; exact h6
    generalize upd H6 d (.dK (enc C)) = H7 at s7 h7 ⊢
    refine ⟨D3, List.replicate C.length true, rfl, SqL.of (by rw [h7, List.map_replicate]), ?_⟩
    rw [rep_all]
    refine ⟨true, rfl, iteF ?_⟩
    -- the last line
    have s07 := s35.trans s7
    have hsum := sum_ge_len g.pos
    have hl := g.l1
    have hh := g.l2
    have hoff := g.off
    have e0 : (0 : Int) ≤ (valsA st.2).sum := Int.le_trans (Int.natCast_nonneg _) hsum
    refine ⟨_, rfl, _, _, rfl, rfl, .inl ⟨_, rfl, _, rfl, _, _, rfl, rfl, .inl ⟨by omega, by omega⟩, _, rfl, _, _, rfl, rfl, true, ?_, iteT ?_⟩⟩
    · show V.bl (decide (((r : Int) + 1) * st.1 ≤ (T'.items.length : Int) - (valsA st.2).sum)) = V.bl true
      rw [decide_eq_true hl]
    refine ⟨_, rfl, _, _, rfl, rfl, .inl ⟨by decide, by decide⟩, _, rfl, _, _, rfl, rfl, .inl ⟨by omega, by omega⟩, _, _, rfl, rfl, true, ?_, iteT ?_⟩
    · show V.bl (decide ((T'.items.length : Int) - (valsA st.2).sum ≤ 2 * (r : Int) * st.1)) = V.bl true
      rw [decide_eq_true hh]
    refine ⟨_, rfl, _, rfl, _, _, rfl, rfl, .inl ⟨_, rfl, _, _, rfl, rfl, .inr ⟨by omega, by omega⟩, _, rfl, _, _, rfl, rfl, true, ?_, iteT ?_⟩⟩
    · show V.bl (decide (st.1 * ((r : Int) + 1) ≤ (T'.items.length : Int))) = V.bl true
      rw [decide_eq_true (by rw [Int.mul_comm]; omega)]
    refine ⟨_, rfl, e, _, rfl, s07 _ _ he, _, rfl, _, _, rfl, rfl, ?_⟩
    show Q (.bl (decide (((enc st.2).length : Int) ≤ (r : Int)))) H7
    rw [decide_eq_true (by rw [enc_len]; omega)]
    exact k H7 s07
end
end KN
/-! The law. -/
namespace KN
open PySem PySem.Spec PyProof.Rows L2

theorem nums7 : ∀ x ∈ [V.int 1, .int 2, .int 3, .int 5, .int 8, .int 20, .int 64], ∃ n : Nat, x = .int (n : Int) ∧ 1 ≤ n ∧ n ≤ 64 := by
  intro x hx
  simp only [List.mem_cons, List.not_mem_nil, or_false] at hx
  rcases hx with rfl | rfl | rfl | rfl | rfl | rfl | rfl
  · exact ⟨1, rfl, by decide, by decide⟩
  · exact ⟨2, rfl, by decide, by decide⟩
  · exact ⟨3, rfl, by decide, by decide⟩
  · exact ⟨5, rfl, by decide, by decide⟩
  · exact ⟨8, rfl, by decide, by decide⟩
  · exact ⟨20, rfl, by decide, by decide⟩
  · exact ⟨64, rfl, by decide, by decide⟩
theorem nums5b : ∀ x ∈ [V.int 1, .int 2, .int 5, .int 12, .int 40], ∃ n : Nat, x = .int (n : Int) ∧ 1 ≤ n ∧ n ≤ 40 := by
  intro x hx
  simp only [List.mem_cons, List.not_mem_nil, or_false] at hx
  rcases hx with rfl | rfl | rfl | rfl | rfl
  · exact ⟨1, rfl, by decide, by decide⟩
  · exact ⟨2, rfl, by decide, by decide⟩
  · exact ⟨5, rfl, by decide, by decide⟩
  · exact ⟨12, rfl, by decide, by decide⟩
  · exact ⟨40, rfl, by decide, by decide⟩
theorem nums2 : ∀ x ∈ [V.int 6, .int 30], ∃ n : Nat, x = .int (n : Int) ∧ n ≤ 30 := by
  intro x hx
  simp only [List.mem_cons, List.not_mem_nil, or_false] at hx
  rcases hx with rfl | rfl
  · exact ⟨6, rfl, by decide⟩
  · exact ⟨30, rfl, by decide⟩

/-! ### one sketch only -/
theorem sk_uniq {r : Nat} {T : Tr Str} {s u : Sk} (h : SkTr r T s) (g : SkTr r T u) : s = u := by
  have e1 := h.room.trans g.room.symm
  have e2 := h.many.trans g.many.symm
  have e3 := h.rel.off.trans g.rel.off.symm
  have e4 := Asc.uniq ltS_irr ltS_tr h.rel.asc g.rel.asc (h.rel.eqv.trans g.rel.eqv.symm)
  cases s; cases u
  simp only at e1 e2 e3 e4
  rw [e1, e2, e3, e4]
theorem sk_due {r : Nat} (hr : 1 ≤ r) (T : Tr Str) : SkTr r T ⟨r, (T.items.length : Int), (T.st r).1, srtA (T.st r).2⟩ :=
  ⟨rfl, rfl, rfl, srt_asc (Tr.good hr T).nd, srt_eqv (Tr.good hr T).nd⟩
theorem kept_tupv {H : Hp} {v : V} {l : List (Str × Int)} (h : KeptAt H v l) : ∃ a xs, v = .ref a ∧ TupV H a xs ∧ Paired (PairAt H) xs l :=
  let ⟨a, xs, e, z, p⟩ := h; ⟨a, xs, e, .inr z, p⟩
theorem prs_tupv {H : Hp} {v : V} {l : List (Str × Int)} (h : PrsAt H v l) : ∃ a xs, v = .ref a ∧ TupV H a xs ∧ Paired (PairAt H) xs l :=
  let ⟨a, xs, e, z, p⟩ := h; ⟨a, xs, e, .inl z, p⟩
theorem alike_tv {H : Hp} {n : Nat} {l : List (Str × Int)} {v u : V} (hl : l.length ≤ 1000) (h : ∃ a xs, v = .ref a ∧ TupV H a xs ∧ Paired (PairAt H) xs l) (g : ∃ a xs, u = .ref a ∧ TupV H a xs ∧ Paired (PairAt H) xs l) : Alike H (n + 1 + 1) v u := by
  obtain ⟨a, xs, rfl, t, p⟩ := h
  obtain ⟨b, ys, rfl, t', p'⟩ := g
  exact .inr ⟨a, b, xs, ys, rfl, rfl, t, t', by rw [paired_len p]; exact hl, alike_pairs p p'⟩
theorem alike_four {H : Hp} {n : Nat} {a b : Addr} {x y z : Int} {k k' : V} (h : TupV H a [.int x, .int y, .int z, k]) (g : TupV H b [.int x, .int y, .int z, k']) (q : Alike H n k k') : Alike H (n + 1) (.ref a) (.ref b) :=
  .inr ⟨a, b, _, _, rfl, rfl, h, g, by simp, .cons (.int _) (.cons (.int _) (.cons (.int _) (.cons q .nil)))⟩
theorem alike_due {H : Hp} {v u : V} {s : Sk} (hl : s.kept.length ≤ 1000) (h : SkAt H v s) (g : DueAt H u s) : Alike H 3 v u := by
  obtain ⟨a, k, rfl, h1, h2⟩ := h
  obtain ⟨b, k', rfl, g1, g2⟩ := g
  exact alike_four (.inl h1) (.inl g1) (alike_tv hl (kept_tupv h2) (prs_tupv g2))
theorem alike_sk {H : Hp} {v u : V} {s : Sk} (hl : s.kept.length ≤ 1000) (h : SkAt H v s) (g : SkAt H u s) : Alike H 3 v u := by
  obtain ⟨a, k, rfl, h1, h2⟩ := h
  obtain ⟨b, k', rfl, g1, g2⟩ := g
  exact alike_four (.inl h1) (.inl g1) (alike_tv hl (kept_tupv h2) (kept_tupv g2))
theorem counts_few {Nm : List Str} {T : Tr Str} (h : T.All (LeafOk Nm)) : (countsA T.items).length ≤ Nm.length := by
  rw [← keys_len]
  exact nd_len (counts_nd _) fun k hk => (leaf_names h k ((counts_key _ k).mp hk)).1

/-! ### the trees of a turn -/
abbrev PT := List (Stp Str) × Tr Str
structure TrOk (Nm : List Str) (x : PT) : Prop where
  builds : Builds x.1 [x.2]
  all : x.2.All (LawLeaf Nm 30)
  leaves : x.2.leaves ≤ 80
theorem TrOk.run {Nm : List Str} {x : PT} (h : TrOk Nm x) : Run [] x.1 x.2 := h.builds.run1
theorem TrOk.leaf {Nm : List Str} {x : PT} (h : TrOk Nm x) : x.2.All (LeafOk Nm) := h.all.imp fun _ q => q.1
theorem TrOk.len {Nm : List Str} {x : PT} (h : TrOk Nm x) : x.1.length ≤ 5000 := by
  have := h.builds.len
  have e : leavesF [x.2] = x.2.leaves := by simp [leavesF]
  rw [e] at this
  have := h.leaves
  simp only [List.length_cons, List.length_nil] at *
  omega
theorem TrOk.items {Nm : List Str} {x : PT} (h : TrOk Nm x) : x.2.items.length ≤ 50000 := by
  have h1 := Tr.items_len (m := 30) (h.all.imp fun _ q => q.2)
  have h2 := h.leaves
  have h3 : 30 * x.2.leaves ≤ 30 * 80 := Nat.mul_le_mul_left 30 h2
  omega
theorem TrOk.some {Nm : List Str} {x : PT} (h : TrOk Nm x) : x.1 ≠ [] := fun e => by
  have q := h.builds.len
  rw [e] at q
  simp only [List.length_cons, List.length_nil] at q
  have e : leavesF [x.2] = x.2.leaves := by simp [leavesF]
  omega
/-- the values are the trees -/
def TsAt (Nm : List Str) (H : Hp) (v : V) (x : PT) : Prop := TreeAt H v x.1 ∧ TrOk Nm x
theorem TsAt.mono {Nm : List Str} {H H' : Hp} (t : TK H H') {v : V} {x : PT} (h : TsAt Nm H v x) : TsAt Nm H' v x := ⟨h.1.mono t, h.2⟩
theorem two_of {α β : Type} {R : α → β → Prop} {l : List α} {m : List β} (p : Paired R l m) (h : m.length = 2) : ∃ a b x y, l = [a, b] ∧ m = [x, y] ∧ R a x ∧ R b y := by
  cases p with
  | nil => cases h
  | cons h1 p =>
    cases p with
    | nil => cases h
    | cons h2 p =>
      cases p with
      | nil => exact ⟨_, _, _, _, rfl, rfl, h1, h2⟩
      | cons h3 p => simp only [List.length_cons] at h; omega
theorem three_of {α β : Type} {R : α → β → Prop} {l : List α} {x y z : β} (p : Paired R l [x, y, z]) : ∃ a b c, l = [a, b, c] ∧ R a x ∧ R b y ∧ R c z := by
  cases p with
  | cons h1 p =>
    cases p with
    | cons h2 p =>
      cases p with
      | cons h3 p =>
        cases p
        exact ⟨_, _, _, rfl, h1, h2, h3⟩
theorem paired_ne {α β : Type} {R : α → β → Prop} {l : List α} {m : List β} (p : Paired R l m) (h : m ≠ []) : l ≠ [] := fun e => by
  subst e; cases p; exact h rfl
end KN
namespace KN
open PySem PySem.Spec PyProof.Rows L2

section
variable {P : Program} {w : World} {K : PySem.W.Frag} {mg : Str → Option Value} {base : Heap}

def spLaw (K : PySem.W.Frag) : Sp := fun vs H Q _ => ∃ (l : Addr) (ns : List Int), vs = [.ref l] ∧ SqL K H l (ns.map V.int) ∧ ns.length ≤ 63 ∧ ∀ H', Q (.bl true) H'
theorem law_ok (T : Txt mg) {x : Str} {f : Addr} {fd : FuncData} (F : C8.Def K mg x (top 60) f fd)
    (c1 : C8.Cal P w K mg base 1 "_law_pot" (spPotMk (K := K)) []) (c2 : C8.Cal P w K mg base 2 "_law_any" spAny []) (c3 : C8.Cal P w K mg base 3 "_law_names" spNames []) (c4 : C8.Cal P w K mg base 4 "_law_tree" spLawTree [])
    (c5 : C8.Cal P w K mg base 7 "sketch_of" spSketchOf []) (c6 : C8.Cal P w K mg base 1 "_law_counted" spCounted []) (c7 : C8.Cal P w K mg base 2 "_law_led" spLed []) (c8 : C8.Cal P w K mg base 1 "_law_sketch" spLawSk [])
    (c9 : C8.Cal P w K mg base 4 "_law_is" (spLIs 3) []) (c10 : C8.Cal P w K mg base 3 "is_sketch" spIsSketch []) (c11 : C8.Cal P w K mg base 7 "counts_of" spCountsOf []) (c12 : C8.Cal P w K mg base 1 "_law_bounds_right" spBounds [])
    (c13 : C8.Cal P w K mg base 5 "poured" spPoured []) : FnOk P w K mg base C8.CX0 8 f fd ["_law_script"] (spLaw K) := by
  have S : FnScope ["_law_script", "_law_pot_here", "_law_turn", "_law_room", "_law_names_here", "_law_leaves", "_law_trees", "_law_told", "_law_k", "_law_counts", "_law_state", "_law_many", "_law_side", "_law_tree_here", "_law_name"] ["_law_script"] (C8.fnScope (top 60)) := C8.fnScope_by (by decide +kernel)
  refine C8.fn0 F.fn S (fun vs H Q E h => ?_) (fun cdv A outer s H vs Q E hr h => ?_)
  · obtain ⟨l, ns, rfl, _⟩ := h
    rfl
  · obtain ⟨l, ns, rfl, hl, hn, k⟩ := h
    have nd := S.nd
    have hu := hu_of hr
    have hu2 : (cxOf C8.CX0 P w K mg base ["_law_script", "_law_pot_here", "_law_turn", "_law_room", "_law_names_here", "_law_leaves", "_law_trees", "_law_told", "_law_k", "_law_counts", "_law_state", "_law_many", "_law_side", "_law_tree_here", "_law_name"] x (C8.fnScope (top 60)) f cdv A outer s H E).nox.A.units + 64 < cLine := hr.units
    refine ⟨_, pss_cons (ps_set (i := 1) nd rfl (Or.inr rfl) (pe_c c1 hr (by decide) rfl (pa_cons (pv 0) pa_nil)))
      (pss_cons (ps_for PassesOwn.never rfl (pi_range1 rfl T.n_range (pa_cons pe_int pa_nil)) (pg_name (i := 2) nd rfl (Or.inl rfl))
        (pss_cons (ps_set (i := 3) nd rfl (Or.inr rfl) (pe_c c2 hr (by decide) rfl (pa_cons (pv 1) (pa_cons (pe_lst (pa_cons pe_int (pa_cons pe_int (pa_cons pe_int (pa_cons pe_int (pa_cons pe_int (pa_cons pe_int (pa_cons pe_int pa_nil)))))))) pa_nil))))
        (pss_cons (ps_set (i := 4) nd rfl (Or.inr rfl) (pe_c c3 hr (by decide) rfl (pa_cons (pv 1) pa_nil)))
        (pss_cons (ps_set (i := 5) nd rfl (Or.inr rfl) (pe_c c2 hr (by decide) rfl (pa_cons (pv 1) (pa_cons (pe_lst (pa_cons pe_int (pa_cons pe_int (pa_cons pe_int (pa_cons pe_int (pa_cons pe_int pa_nil)))))) pa_nil))))
        (pss_cons (ps_setLc (i := 6) (own := [("_law_side", 12)]) (g := gName 12) (tt := tYes) rfl nd rfl rfl (sw_true rfl rfl rfl (by decide +kernel)) (pi_range1 rfl T.n_range (pa_cons pe_int pa_nil))
          (blkOk_by (own := [("_law_side", 12)]) (N := ["_law_script", "_law_pot_here", "_law_turn", "_law_room", "_law_names_here", "_law_leaves", "_law_trees", "_law_told", "_law_k", "_law_counts", "_law_state", "_law_many", "_law_side", "_law_tree_here", "_law_name"]) (sc := C8.fnScope (top 60)) (by decide +kernel)) (fun _ _ _ _ _ => pg_name (i := 12) nd rfl (Or.inl rfl)) (fun _ _ _ _ _ => pts_nil)
          (fun _ _ _ _ _ => pe_c c4 hr (by decide) rfl (pa_cons (pv 1) (pa_cons (pv 4) (pa_cons (pv 5) (pa_cons (pe_c c2 hr (by decide) rfl (pa_cons (pv 1) (pa_cons (pe_lst (pa_cons pe_int (pa_cons pe_int pa_nil))) pa_nil))) pa_nil))))))
        (pss_cons (ps_expr (pe_bm PySem.F.plainAttrs_list PySem.F.slot_list_append PySem.F.type_list_append mt_append (pv 6)
          (pa_cons (pe_op op_catA (pe_op op_catA (pe_ix ix_list (pv 6) pe_int (fun _ _ => rfl)) (pe_ix ix_list (pv 6) pe_int (fun _ _ => rfl))) (pe_tup (pa_cons (pe_tup (pa_cons pe_str pa_nil)) pa_nil))) pa_nil)))
        (pss_cons (ps_setLc (i := 7) (own := [("_law_tree_here", 13)]) (g := gName 13) (tt := tYes) rfl nd rfl rfl (sw_true rfl rfl rfl (by decide +kernel)) (pi_list (pv 6))
          (blkOk_by (own := [("_law_tree_here", 13)]) (N := ["_law_script", "_law_pot_here", "_law_turn", "_law_room", "_law_names_here", "_law_leaves", "_law_trees", "_law_told", "_law_k", "_law_counts", "_law_state", "_law_many", "_law_side", "_law_tree_here", "_law_name"]) (sc := C8.fnScope (top 60)) (by decide +kernel)) (fun _ _ _ _ _ => pg_name (i := 13) nd rfl (Or.inl rfl)) (fun _ _ _ _ _ => pts_nil)
          (fun _ _ _ _ _ => pe_c c5 hr (by decide) rfl (pa_cons (pv 3) (pa_cons (pv 13) pa_nil))))
        (pss_cons (ps_for PassesOwn.never rfl (pi_range1 rfl T.n_range (pa_cons pe_int pa_nil)) (pg_name (i := 8) nd rfl (Or.inl rfl))
          (pss_cons (ps_asg (pe_tup (pa_cons (pe_c c6 hr (by decide) rfl (pa_cons (pe_ix ix_list (pv 6) (pv 8) (fun _ _ => rfl)) pa_nil)) (pa_cons (pe_c c7 hr (by decide) rfl (pa_cons (pv 3) (pa_cons (pe_ix ix_list (pv 6) (pv 8) (fun _ _ => rfl)) pa_nil))) pa_nil)))
            (pg_tup rfl (pgs_cons (pg_name (i := 9) nd rfl (Or.inr rfl)) (pgs_cons (pg_name (i := 10) nd rfl (Or.inl rfl)) pgs_nil))))
          (pss_cons (ps_set (i := 11) nd rfl (Or.inl rfl) (pe_callB (cr_sum rfl) rfl T.n_sum boot_sum' (pa_cons (pe_lock (pe_lc (own := [("_law_name", 14)]) (g := gName 14) (tt := tYes) rfl nd (pi_keys (pv 9))
            (blkOk_by (own := [("_law_name", 14)]) (N := ["_law_script", "_law_pot_here", "_law_turn", "_law_room", "_law_names_here", "_law_leaves", "_law_trees", "_law_told", "_law_k", "_law_counts", "_law_state", "_law_many", "_law_side", "_law_tree_here", "_law_name"]) (sc := C8.fnScope (top 60)) (by decide +kernel)) (fun _ _ _ _ _ => pg_name (i := 14) nd rfl (Or.inl rfl)) (fun _ _ _ _ _ => pts_nil)
            (fun _ _ _ _ _ => pe_dget hu (pv 9) (pv 14) (fun _ _ => rfl)))) pa_nil)))
          (pss_cons (ps_if (PW.pt (pw_or (pt_not (pt_val (pe_c c9 hr (by decide) rfl (pa_cons (pe_ix ix_list (pv 7) (pv 8) (fun _ _ => rfl)) (pa_cons (pe_c c8 hr (by decide) rfl (pa_cons (pv 3) (pa_cons (pv 11) (pa_cons (pv 10) pa_nil)))) pa_nil)))))
              (pw_or1 (pt_cmpR op_isnot_bl (pe_c c10 hr (by decide) rfl (pa_cons (pe_ix ix_list (pv 7) (pv 8) (fun _ _ => rfl)) pa_nil)) pe_bl (nomark _))))) pss_never pss_nil)
          (pss_cons (ps_if (pt_not (pt_val (pe_c c9 hr (by decide) rfl (pa_cons (pe_c c11 hr (by decide) rfl (pa_cons (pe_ix ix_list (pv 6) (pv 8) (fun _ _ => rfl)) pa_nil))
              (pa_cons (pe_callTy call_tuple_of rfl T.n_tuple boot_tuple' (pa_cons (pe_callB (cr_sortedSP hu2) rfl T.n_sorted boot_sorted' (pa_cons (pe_lock (pe_lc (own := [("_law_name", 14)]) (g := gName 14) (tt := tYes) rfl nd (pi_keys (pv 9))
                (blkOk_by (own := [("_law_name", 14)]) (N := ["_law_script", "_law_pot_here", "_law_turn", "_law_room", "_law_names_here", "_law_leaves", "_law_trees", "_law_told", "_law_k", "_law_counts", "_law_state", "_law_many", "_law_side", "_law_tree_here", "_law_name"]) (sc := C8.fnScope (top 60)) (by decide +kernel)) (fun _ _ _ _ _ => pg_name (i := 14) nd rfl (Or.inl rfl)) (fun _ _ _ _ _ => pts_nil)
                (fun _ _ _ _ _ => pe_tup (pa_cons (pv 14) (pa_cons (pe_dget hu (pv 9) (pv 14) (fun _ _ => rfl)) pa_nil))))) pa_nil)) pa_nil)) pa_nil))))) pss_never pss_nil)
          (pss_one (ps_if (pt_not (pt_val (pe_c c12 hr (by decide) rfl (pa_cons (pv 3) (pa_cons (pv 11) (pa_cons (pv 10) (pa_cons (pv 9) pa_nil))))))) pss_never pss_nil)))))))
        (pss_one (ps_if (pt_not (pt_val (pe_c c9 hr (by decide) rfl (pa_cons (pe_c c13 hr (by decide) rfl (pa_cons (pe_ix ix_list (pv 7) pe_int (fun _ _ => rfl)) (pa_cons (pe_ix ix_list (pv 7) pe_int (fun _ _ => rfl)) pa_nil))) (pa_cons (pe_ix ix_list (pv 7) pe_int (fun _ _ => rfl)) pa_nil))))) pss_never pss_nil))))))))))
      (pss_one (ps_ret pe_bl))), ?_⟩
    -- the pot
    refine ⟨_, rfl, l, ns, rfl, hl, hn, fun p a b H0 s0 hp => ?_⟩
    refine ⟨_, rfl, by decide, by decide, ?_⟩
    refine for_range (lo := 0) (n := 2) (fun _ σ H' => PotAt H' p a b ∧ ∃ (x2 x3 x4 x5 x6 x7 x8 x9 x10 x11 : Option V), σ = [some (.ref l), some (.ref p), x2, x3, x4, x5, x6, x7, x8, x9, x10, x11, none, none, none])
      ⟨hp, none, none, none, none, none, none, none, none, none, none, rfl⟩ (fun it σ H1 _ ⟨hp1, x2, x3, x4, x5, x6, x7, x8, x9, x10, x11, hσ⟩ => ?_) fun σ H1 _ => k H1
    subst hσ
    -- the room
    refine ⟨_, rfl, (by show 7 ≤ sizeLine; decide), fun q hq => ?_⟩
    have f0 := fr_same hp1 (same_new1 (o := .lst [V.int 1, .int 2, .int 3, .int 5, .int 8, .int 20, .int 64]) hq)
    refine ⟨p, a, b, q, _, rfl, f0.pot, OutL.new f0 hq upd_same, by decide, by decide, fun x H2 hx f1 => ?_⟩
    obtain ⟨r, rfl, hr1, hr2⟩ := nums7 x hx
    have hp2 := f1.pot
    -- the names
    refine ⟨_, rfl, p, a, b, rfl, hp2, fun qn Nm H3 f2 hqn hNm => ?_⟩
    have hN60 : Nm.length ≤ 60 := by have := hNm.len; omega
    -- the leaves
    refine ⟨_, rfl, (by show 5 ≤ sizeLine; decide), fun q2 hq2 => ?_⟩
    have f3 := fr_same f2.pot (same_new1 (o := .lst [V.int 1, .int 2, .int 5, .int 12, .int 40]) hq2)
    refine ⟨p, a, b, q2, _, rfl, f3.pot, OutL.new f3 hq2 upd_same, by decide, by decide, fun x H4 hx f4 => ?_⟩
    obtain ⟨n, rfl, hn1, hn2⟩ := nums5b x hx
    have hqn4 := (hqn.mono f3).mono f4
    have hp4 := f4.pot
    -- two trees
    refine ⟨_, rfl, by decide, by decide, fun d hd => ?_⟩
    refine lc_range (lo := 0) (n := 2) (fun i H' => Fr p a b H4 H' ∧ ∃ (vs : List V) (ts : List PT), H' d = some (.lst vs) ∧ Paired (fun v x => TsAt Nm H' v x ∧ x.2.leaves ≤ 40) vs ts ∧ ts.length = i)
      ⟨(Fr.refl hp4).new hd, [], [], upd_same, .nil, rfl⟩ (fun i H5 hi ⟨f5, vs, ts, h5, hv, hts⟩ => ?_) fun H5 ⟨f5, vs, ts, h5, hv, hts⟩ => ?_
    · refine ⟨rfl, _, rfl, _, rfl, _, rfl, _, rfl, (by show 2 ≤ sizeLine; decide), fun q3 hq3 => ?_⟩
      have f6 := f5.same (same_new1 (o := .lst [V.int 6, .int 30]) hq3)
      refine ⟨p, a, b, q3, _, rfl, f6.pot, OutL.new f6 (f5.free hq3) upd_same, by decide, by decide, fun x H7 hx f7 => ?_⟩
      obtain ⟨m, rfl, hm⟩ := nums2 x hx
      have f67 := f6.trans f7
      have hd7 := ((OutL.new f5 hd h5).mono (fr_same f5.pot (same_new1 (o := .lst [V.int 6, .int 30]) hq3))).mono f7
      refine ⟨p, a, b, qn, Nm, n, m, rfl, f67.pot, hqn4.mono f67, hNm, hn1, hn2, hm, fun v t T' H8 f8 ht hT => ?_⟩
      have f68 := f67.trans f8
      have hd8 := hd7.mono f8
      have hvl := paired_len hv
      refine ⟨_, hd8.at', small64 (by omega), f68.new hd, vs ++ [v], ts ++ [(t, T')], upd_same, ?_, by rw [List.length_append, hts]; rfl⟩
      have tk8 : TK H8 (upd H8 d (.lst (vs ++ [v]))) := TK.lst hd8.at'
      have tk5 := (((tk_of (same_new1 (o := .lst [V.int 6, .int 30]) hq3)).trans f7.tk).trans f8.tk).trans tk8
      exact paired_snoc (R := fun v (x : PT) => TsAt Nm (upd H8 d (.lst (vs ++ [_]))) v x ∧ x.2.leaves ≤ 40) ⟨⟨ht.mono tk8, hT.builds, hT.all.imp (fun _ q => ⟨q.1, Nat.le_trans q.2 hm⟩), by have := hT.leaves; show T'.leaves ≤ 80; omega⟩, by have := hT.leaves; show T'.leaves ≤ 40; omega⟩
        (paired_imp (fun _ _ q => ⟨q.1.mono tk5, q.2⟩) hv)
    obtain ⟨v0, v1, y0, y1, rfl, rfl, ⟨t0, l0⟩, ⟨t1, l1⟩⟩ := two_of hv hts
    obtain ⟨⟨a0, us0, rfl, ha0, hu0⟩, ok0⟩ := id t0
    obtain ⟨⟨a1, us1, rfl, ha1, hu1⟩, ok1⟩ := id t1
    have ne0 : us0 ≠ [] := paired_ne hu0 ok0.some
    have ne1 : us1 ≠ [] := paired_ne hu1 ok1.some
    have len0 : us0.length ≤ 5000 := by rw [paired_len hu0]; exact ok0.len
    have len1 : us1.length ≤ 5000 := by rw [paired_len hu1]; exact ok1.len
    have ne01 : us0 ++ us1 ≠ [] := fun e => ne0 (List.append_eq_nil_iff.mp e).1
    -- the third
    refine ⟨_, rfl, .inl ⟨rfl, _, SqL.of h5⟩, _, rfl, d, _, 0, .ref a0, rfl, rfl, SqL.of h5, rfl, _, rfl, d, _, 1, .ref a1, rfl, rfl, SqL.of h5, rfl, a0, a1, us0, us1, rfl, rfl, SqT.of ha0, SqT.of ha1, ?_, fun e => absurd e ne0, fun _ e => absurd e ne1, fun _ _ z1 hz1 => ?_⟩
    · have := sizeLine_eq; omega
    have s6 : Same H5 (upd H5 z1 (.tup (us0 ++ us1))) := same_new1 hz1
    have h6 : (upd H5 z1 (.tup (us0 ++ us1))) z1 = some (.tup (us0 ++ us1)) := upd_same
    generalize upd H5 z1 (.tup (us0 ++ us1)) = H6 at s6 h6 ⊢
    refine ⟨(by show 1 ≤ sizeLine; decide), fun tp htp => ⟨(by show 1 ≤ sizeLine; decide), fun lp hlp => ?_⟩⟩
    have s7 : Same H6 (upd H6 tp (.tup [.str "pour"])) := same_new1 htp
    have h7 : (upd H6 tp (.tup [.str "pour"])) tp = some (.tup [.str "pour"]) := upd_same
    generalize upd H6 tp (.tup [.str "pour"]) = H7 at s7 h7 hlp ⊢
    have s8 : Same H7 (upd H7 lp (.tup [.ref tp])) := same_new1 hlp
    have h8 : (upd H7 lp (.tup [.ref tp])) lp = some (.tup [.ref tp]) := upd_same
    generalize upd H7 lp (.tup [.ref tp]) = H8 at s8 h8 ⊢
    refine ⟨z1, lp, us0 ++ us1, [.ref tp], rfl, rfl, SqT.of (s8 _ _ (s7 _ _ h6)), SqT.of h8, ?_, fun e => absurd e ne01, fun _ e => (by cases e), fun _ _ z2 hz2 => ?_⟩
    · rw [List.length_append]; show us0.length + us1.length + 1 ≤ sizeLine; have := sizeLine_eq; omega
    have s9 : Same H8 (upd H8 z2 (.tup (us0 ++ us1 ++ [.ref tp]))) := same_new1 hz2
    have h9 : (upd H8 z2 (.tup (us0 ++ us1 ++ [.ref tp]))) z2 = some (.tup (us0 ++ us1 ++ [.ref tp])) := upd_same
    generalize upd H8 z2 (.tup (us0 ++ us1 ++ [.ref tp])) = H9 at s9 h9 ⊢
    have s59 := ((s6.trans s7).trans s8).trans s9
    have f9 := f5.same s59
    refine ⟨d, _, .ref z2, rfl, rfl, s59 _ _ h5, small64 (by show 2 ≤ 100000; decide), ?_⟩
    have tk10 : TK H9 (upd H9 d (.lst ([V.ref a0, .ref a1] ++ [.ref z2]))) := TK.lst (s59 _ _ h5)
    have tk5 := (tk_of s59).trans tk10
    have f10 := f9.new (o := .lst ([V.ref a0, .ref a1] ++ [.ref z2])) hd
    have h10 : (upd H9 d (.lst ([V.ref a0, .ref a1] ++ [.ref z2]))) d = some (.lst ([V.ref a0, .ref a1] ++ [.ref z2])) := upd_same
    have P3 : Paired (TsAt Nm (upd H9 d (.lst ([V.ref a0, .ref a1] ++ [.ref z2])))) ([V.ref a0, .ref a1] ++ [.ref z2]) [y0, y1, (y0.1 ++ y1.1 ++ [.pour], .pour y0.2 y1.2)] := by
      refine .cons (t0.mono tk5) (.cons (t1.mono tk5) (.cons ⟨⟨z2, _, rfl, tk10.1 _ _ h9, ?_⟩, ok0.builds.both ok1.builds, ⟨ok0.all, ok1.all⟩, ?_⟩ .nil))
      · have tk7 := (tk_of (s8.trans s9)).trans tk10
        exact paired_snoc (R := StepAt _) (b := Stp.pour) ⟨tp, rfl, tk7.1 _ _ h7⟩ (paired_app (paired_imp (fun _ _ => StepAt.mono tk5) hu1) (paired_imp (fun _ _ => StepAt.mono tk5) hu0))
      · show y0.2.leaves + y1.2.leaves ≤ 80
        omega
    generalize upd H9 d (.lst ([V.ref a0, .ref a1] ++ [.ref z2])) = H10 at f10 h10 P3 ⊢
    generalize ([V.ref a0, .ref a1] ++ [.ref z2]) = vs3 at h10 P3 ⊢
    have hvs3 : vs3.length = 3 := paired_len P3
    -- told
    refine ⟨_, rfl, d, rfl, ⟨_, SqL.of h10⟩, fun e he => ?_⟩
    refine lc_y (y_lst vs3) (fun i H' => Same H10 H' ∧ ∃ ws : List V, H' e = some (.lst ws) ∧ Paired (fun w (x : PT) => TrAt r H' w x.2) ws (([y0, y1, (y0.1 ++ y1.1 ++ [.pour], .pour y0.2 y1.2)] : List PT).take i)) (fun i H' _ q => SqL.of (q.1 _ _ h10))
      ⟨same_new1 he, [], upd_same, .nil⟩ (fun i H11 hi ⟨s11, ws, h11, hw⟩ => ?_) fun H11 ⟨s11, ws, h11, hw⟩ => ?_
    · have ev : vs3[i]? = some vs3[i] := List.getElem?_eq_getElem hi
      obtain ⟨y, ey, hy1, hy2⟩ := paired_at P3 ev
      rw [getD_of ev]
      refine ⟨rfl, _, rfl, _, rfl, r, vs3[i], y.1, y.2, Nm, rfl, hy1.mono (tk_of s11), hy2.run, hy2.leaf, hy2.len, hy2.items, hr1, hr2, hN60, fun w' H12 s12 q12 => ?_⟩
      have hwl := paired_len hw
      rw [List.length_take] at hwl
      refine ⟨_, s12 _ _ h11, small64 (by omega), same_new (s11.trans s12) he, ws ++ [w'], upd_same, ?_⟩
      have tk13 : TK H12 (upd H12 e (.lst (ws ++ [w']))) := TK.lst (s12 _ _ h11)
      rw [List.take_add_one, ey]
      exact paired_snoc (R := fun w (x : PT) => TrAt r _ w x.2) (q12.mono tk13) (paired_imp (fun _ _ q => q.mono ((tk_of s12).trans tk13)) hw)
    have f11 := f10.same s11
    have hd11 := s11 _ _ h10
    have P11 := paired_imp (fun _ _ q => TsAt.mono (tk_of s11) q) P3
    rw [hvs3] at hw
    have hw : Paired (fun w (x : PT) => TrAt r H11 w x.2) ws [y0, y1, (y0.1 ++ y1.1 ++ [.pour], .pour y0.2 y1.2)] := hw
    obtain ⟨w0, w1, w2, rfl, ⟨k0, qk0, tr0⟩, ⟨k1, qk1, tr1⟩, ⟨k2, qk2, tr2⟩⟩ := three_of hw
    -- each of the three
    refine ⟨_, rfl, by decide, by decide, ?_⟩
    refine for_range (lo := 0) (n := 3) (fun _ σ H' => Same H11 H' ∧ ∃ (x8 x9 x10 x11 : Option V), σ = [some (.ref l), some (.ref p), some (.int (0 + (it : Int))), some (.int r), some (.ref qn), some (.int n), some (.ref d), some (.ref e), x8, x9, x10, x11, none, none, none])
      ⟨Same.refl H11, _, _, _, _, rfl⟩ (fun i σ H12 hi ⟨s12, x8, x9, x10, x11, hσ⟩ => ?_) fun σ H12 ⟨s12, x8, x9, x10, x11, hσ⟩ => ?_
    · subst hσ
      have hd12 := s12 _ _ hd11
      have h12 := s12 _ _ h11
      have hil : i < vs3.length := by omega
      have ev : vs3[i]? = some vs3[i] := List.getElem?_eq_getElem hil
      obtain ⟨y, ey, hy1, hy2⟩ := paired_at P11 ev
      have hwi : i < ([w0, w1, w2] : List V).length := by simp only [List.length_cons, List.length_nil]; omega
      have ew : ([w0, w1, w2] : List V)[i]? = some ([w0, w1, w2] : List V)[i] := List.getElem?_eq_getElem hwi
      obtain ⟨y', ey', sk, qsk, trk⟩ := paired_at hw ew
      have eyy : y' = y := by rw [ey] at ey'; exact (Option.some.inj ey').symm
      subst eyy
      generalize ([w0, w1, w2] : List V)[i] = wi at ew qsk
      generalize vs3[i] = vi at ev hy1
      have good := Tr.good hr1 y'.2
      have kl := trk.len hr1
      -- counts, state
      refine ⟨_, rfl, _, rfl, d, vs3, _, vi, rfl, rfl, SqL.of hd12, at_of (j := i) (by omega) ev, vi, y'.1, y'.2, rfl, hy1.mono (tk_of s12), hy2.run, hy2.items, fun dc H13 s13 hdc => ?_⟩
      refine ⟨_, rfl, _, rfl, _, rfl, d, vs3, _, vi, rfl, rfl, SqL.of (s13 _ _ hd12), at_of (j := i) (by omega) ev, r, vi, y'.1, y'.2, Nm, rfl, hy1.mono (tk_of (s12.trans s13)), hy2.run, hy2.leaf, hy2.len, hr1, hN60, fun sv H14 s14 hst => ⟨(by show 2 ≤ sizeLine; decide), fun q5 hq5 => ?_⟩⟩
      have s15 : Same H14 (upd H14 q5 (.tup [.ref dc, sv])) := same_new1 hq5
      have h15 : (upd H14 q5 (.tup [.ref dc, sv])) q5 = some (.tup [.ref dc, sv]) := upd_same
      generalize upd H14 q5 (.tup [.ref dc, sv]) = H15 at s15 h15 ⊢
      refine ⟨q5, _, rfl, SqT.of h15, rfl, _, _, rfl, _, _, rfl, rfl, ?_⟩
      have hdc15 := s15 _ _ (s14 _ _ hdc)
      have hst15 : StAt H15 sv (y'.2.st r) := StAt.mono s15 hst
      have s1115 : Same H11 H15 := ((s12.trans s13).trans s14).trans s15
      obtain ⟨C, hC⟩ : ∃ C, C = countsA y'.2.items := ⟨_, rfl⟩
      rw [← hC] at hdc15
      have hcn : (keysA C).Nodup := by rw [hC]; exact counts_nd _
      have hcf : C.length ≤ Nm.length := by rw [hC]; exact counts_few hy2.leaf
      have hcs : (valsA C).sum = (y'.2.items.length : Int) := by rw [hC]; exact counts_sum _
      -- how many
      refine ⟨dc, _, hdc15, trivial, fun od => ?_⟩
      have hl1 : (upd H15 dc (.frz od (.dK (enc C)))) dc = some (.frz od (.dK (enc C))) := upd_same
      have sU : ∀ H', Same (upd H15 dc (.frz od (.dK (enc C)))) H' → Same H15 (upd H' dc (.dK (enc C))) := fun H' q => same_unlock hdc15 q
      generalize upd H15 dc (.frz od (.dK (enc C))) = HL at hl1 sU ⊢
      refine ⟨_, rfl, dc, od, rfl, .inl ⟨_, hl1, fun D hD => ?_⟩⟩
      refine lc_y (y_keys C) (fun j H' => Same HL H' ∧ H' D = some (.lst (((valsA C).take j).map V.int))) (fun j H' _ q => q.1 _ _ hl1) ⟨same_new1 hD, upd_same⟩ (fun j H16 hj ⟨s16, h16⟩ => ?_) fun H16 ⟨s16, h16⟩ => ?_
      · have ep : C[j]? = some C[j] := List.getElem?_eq_getElem hj
        have hdg : DGet H16 dc (.str C[j].1) (some (.int C[j].2)) := dget_some (.inr ⟨od, s16 _ _ hl1⟩) (look_at hcn ep)
        rw [key_at ep]
        refine ⟨rfl, _, rfl, _, rfl, dc, _, rfl, hdg, _, h16, ?_, same_new s16 hD, ?_⟩
        · rw [List.length_map, List.length_take]; exact small64 (by omega)
        · have ek : (valsA C)[j]? = some C[j].2 := by unfold valsA; rw [List.getElem?_map, ep]; rfl
          rw [upd_same, List.take_add_one, ek, List.map_append]
          rfl
      have evl : (valsA C).take C.length = valsA C := List.take_of_length_le (by unfold valsA; rw [List.length_map]; exact Nat.le_refl _)
      rw [evl] at h16
      refine ⟨s16 _ _ hl1, ?_⟩
      have nDc : D ≠ dc := fun z => by rw [z, hl1] at hD; cases hD
      have s17 := sU _ s16
      have h17 : (upd H16 dc (.dK (enc C))) D = some (.lst ((valsA C).map V.int)) := by rw [upd_ne nDc]; exact h16
      generalize upd H16 dc (.dK (enc C)) = H17 at s17 h17 ⊢
      refine ⟨D, _, rfl, SqL.of h17, ?_⟩
      rw [hcs]
      have s1117 := s1115.trans s17
      -- the sketch
      refine ⟨_, rfl, _, rfl, e, _, _, wi, rfl, rfl, SqL.of (s1117 _ _ h11), at_of (j := i) (by omega) ew, _, rfl, _, rfl, _, rfl, r, _, sv, y'.2.st r, rfl, StAt.mono s17 hst15, good.nd, by have := good.len; omega, fun dv H18 s18 hdue => ?_⟩
      have s1118 := s1117.trans s18
      have esk := sk_uniq trk (sk_due hr1 y'.2)
      rw [← esk] at hdue
      refine ⟨wi, dv, rfl, alike_due (by omega) (qsk.mono (tk_of s1118)) hdue, fun H19 s19 => ⟨true, rfl, iteF ?_⟩⟩
      have s1119 := s1118.trans s19
      refine ⟨_, rfl, _, rfl, e, _, _, wi, rfl, rfl, SqL.of (s1119 _ _ h11), at_of (j := i) (by omega) ew, wi, sk, rfl, qsk.mono (tk_of s1119), trk.ok hr1 hr2 hy2.leaf, fun H20 s20 => ⟨true, true, rfl, rfl, _, rfl, iteF ?_⟩⟩
      have s1120 := s1119.trans s20
      -- the counts
      refine ⟨_, rfl, _, rfl, d, vs3, _, vi, rfl, rfl, SqL.of (s1120 _ _ hd11), at_of (j := i) (by omega) ev, vi, y'.1, y'.2, rfl, hy1.mono (tk_of s1120), hy2.run, hy2.leaf.imp (fun _ q => q.1), hy2.len, hy2.items, by rw [← hC]; omega, fun kv mm H21 s21 hk hasc heqv => ?_⟩
      have s1121 := s1120.trans s21
      have emm : mm = srtA C := Asc.uniq ltS_irr ltS_tr hasc (srt_asc hcn) (by rw [← hC] at heqv; exact heqv.trans (srt_eqv hcn).symm)
      subst emm
      have s1521 := (((s17.trans s18).trans s19).trans s20).trans s21
      have hdc21 := s1521 _ _ hdc15
      refine ⟨dc, _, hdc21, trivial, fun od2 => ?_⟩
      have hm1 : (upd H21 dc (.frz od2 (.dK (enc C)))) dc = some (.frz od2 (.dK (enc C))) := upd_same
      have sV : ∀ H', Same (upd H21 dc (.frz od2 (.dK (enc C)))) H' → Same H21 (upd H' dc (.dK (enc C))) := fun H' q => same_unlock hdc21 q
      generalize upd H21 dc (.frz od2 (.dK (enc C))) = HM at hm1 sV ⊢
      refine ⟨_, rfl, dc, od2, rfl, .inl ⟨_, hm1, fun D2 hD2 => ?_⟩⟩
      refine lc_y (y_keys C) (fun j H' => Same HM H' ∧ ∃ xs : List V, H' D2 = some (.lst xs) ∧ Paired (PairAt H') xs (C.take j)) (fun j H' _ q => q.1 _ _ hm1) ⟨same_new1 hD2, [], upd_same, .nil⟩ (fun j H22 hj ⟨s22, xs, h22, hxs⟩ => ?_) fun H22 ⟨s22, xs, h22, hxs⟩ => ?_
      · have ep : C[j]? = some C[j] := List.getElem?_eq_getElem hj
        have hdg : DGet H22 dc (.str C[j].1) (some (.int C[j].2)) := dget_some (.inr ⟨od2, s22 _ _ hm1⟩) (look_at hcn ep)
        rw [key_at ep]
        refine ⟨rfl, _, rfl, _, rfl, _, rfl, dc, _, rfl, hdg, (by show 2 ≤ sizeLine; decide), fun tq htq => ?_⟩
        have s23 : Same H22 (upd H22 tq (.tup [.str C[j].1, .int C[j].2])) := same_new1 htq
        have h23 : (upd H22 tq (.tup [.str C[j].1, .int C[j].2])) tq = some (.tup [.str C[j].1, .int C[j].2]) := upd_same
        generalize upd H22 tq (.tup [.str C[j].1, .int C[j].2]) = H23 at s23 h23 ⊢
        have tk24 : TK H23 (upd H23 D2 (.lst (xs ++ [.ref tq]))) := TK.lst (s23 _ _ h22)
        refine ⟨_, s23 _ _ h22, ?_, same_new (s22.trans s23) hD2, xs ++ [.ref tq], upd_same, ?_⟩
        · have z1 := paired_len hxs
          rw [List.length_take] at z1
          exact small64 (by omega)
        · rw [take_key ep]
          exact paired_snoc ⟨tq, rfl, tk24.1 _ _ h23⟩ (paired_imp (fun _ _ => PairAt.mono ((tk_of s23).trans tk24)) hxs)
      rw [List.take_length] at hxs
      refine ⟨s22 _ _ hm1, ?_⟩
      have nD2 : D2 ≠ dc := fun z => by rw [z, hm1] at hD2; cases hD2
      have s24 := sV _ s22
      have h24 : (upd H22 dc (.dK (enc C))) D2 = some (.lst xs) := by rw [upd_ne nD2]; exact h22
      have p24 : Paired (PairAt (upd H22 dc (.dK (enc C)))) xs C := paired_imp (fun x pp ⟨c, ee, q⟩ => ⟨c, ee, by
        rw [upd_ne (fun z => by rw [z, s22 _ _ hm1] at q; cases q)]; exact q⟩) hxs
      generalize upd H22 dc (.dK (enc C)) = H24 at s24 h24 p24 ⊢
      refine ⟨D2, xs, C, rfl, SqL.of h24, p24, fun ys q6 py hq6 => ?_⟩
      have s25 : Same H24 (upd H24 q6 (.lst ys)) := same_new1 hq6
      have h25 : (upd H24 q6 (.lst ys)) q6 = some (.lst ys) := upd_same
      generalize upd H24 q6 (.lst ys) = H25 at s25 h25 ⊢
      refine ⟨q6, ys, rfl, .inl ⟨SqL.of h25, fun tz htz => ?_⟩⟩
      have s26 : Same H25 (upd H25 tz (.tup ys)) := same_new1 htz
      have h26 : (upd H25 tz (.tup ys)) tz = some (.tup ys) := upd_same
      generalize upd H25 tz (.tup ys) = H26 at s26 h26 ⊢
      have s2126 := (s24.trans s25).trans s26
      have hsl : (srtA C).length ≤ 1000 := by rw [(srt_perm C).length_eq]; omega
      refine ⟨kv, .ref tz, rfl, alike_tv hsl (kept_tupv (hk.mono (tk_of s2126))) ⟨tz, ys, rfl, .inl h26, paired_imp (fun _ _ => PairAt.mono (tk_of (s25.trans s26))) py⟩, fun H27 s27 => ⟨true, rfl, iteF ?_⟩⟩
      have s1527 := (s1521.trans s2126).trans s27
      -- the bounds
      refine ⟨_, rfl, _, rfl, _, rfl, _, rfl, r, sv, y'.2, dc, rfl, hr1, hr2, StAt.mono s1527 hst15, by rw [← hC]; exact s1527 _ _ hdc15, hy2.items, fun H28 s28 => ⟨true, rfl, iteF ?_⟩⟩
      exact ⟨(s1115.trans s1527).trans s28, _, _, _, _, rfl⟩
    · subst hσ
      have h12 := s12 _ _ h11
      have sqe : SqL K H12 e [w0, w1, w2] := SqL.of h12
      refine ⟨_, rfl, e, _, 0, w0, rfl, rfl, sqe, rfl, _, rfl, e, _, 1, w1, rfl, rfl, sqe, rfl, w0, w1, k0, k1, r, y0.2, y1.2, Nm, rfl, qk0.mono (tk_of s12), qk1.mono (tk_of s12), tr0, tr1, hr1, hr2, ok0.leaf, ok1.leaf, hN60, fun v' sk' H13 s13 q13 tr13 => ?_⟩
      have e2 : sk' = k2 := sk_uniq tr13 tr2
      subst e2
      have kl := tr13.len hr1
      refine ⟨_, rfl, e, _, 2, w2, rfl, rfl, SqL.of (s13 _ _ h12), rfl, v', w2, rfl, alike_sk (by omega) q13 (qk2.mono (tk_of (s12.trans s13))), fun H14 s14 => ⟨true, rfl, iteF ?_⟩⟩
      exact ⟨(f11.same ((s12.trans s13).trans s14)).pot, _, _, _, _, _, _, _, _, _, _, rfl⟩
end
end KN
/-! The end: all defs joined. -/
namespace KN
open PySem PySem.Spec PyProof.Rows L2

theorem cst_int {K : PySem.W.Frag} {h : Heap} {mg : Str → Option Value} {x : Str} {i : Int} {t : Tok} (X : K.In h) (G : h.Ns mainGlobals mg) (a : PySem.W.nsIn K mainGlobals x = some (some (.int i t))) : ∃ u, mg x = some u ∧ RelV (.int i) u := ⟨_, PySem.W.mg_of X G a, t, rfl⟩
theorem cst_str {K : PySem.W.Frag} {h : Heap} {mg : Str → Option Value} {x : Str} {i : Str} {t : Tok} (X : K.In h) (G : h.Ns mainGlobals mg) (a : PySem.W.nsIn K mainGlobals x = some (some (.str i t))) : ∃ u, mg x = some u ∧ RelV (.str i) u := ⟨_, PySem.W.mg_of X G a, t, rfl⟩
theorem txt_mk {K : PySem.W.Frag} {h : Heap} {mg : Str → Option Value} (X : K.In h) (G : h.Ns mainGlobals mg)
    (z_isinstance : PySem.W.nsIn K mainGlobals "isinstance" = some none)
    (z_int : PySem.W.nsIn K mainGlobals "int" = some none)
    (z_bool : PySem.W.nsIn K mainGlobals "bool" = some none)
    (z_tuple : PySem.W.nsIn K mainGlobals "tuple" = some none)
    (z_list : PySem.W.nsIn K mainGlobals "list" = some none)
    (z_len : PySem.W.nsIn K mainGlobals "len" = some none)
    (z_str : PySem.W.nsIn K mainGlobals "str" = some none)
    (z_all : PySem.W.nsIn K mainGlobals "all" = some none)
    (z_range : PySem.W.nsIn K mainGlobals "range" = some none)
    (z_sorted : PySem.W.nsIn K mainGlobals "sorted" = some none)
    (z_dict : PySem.W.nsIn K mainGlobals "dict" = some none)
    (z_min : PySem.W.nsIn K mainGlobals "min" = some none)
    (z_sum : PySem.W.nsIn K mainGlobals "sum" = some none)
    (z_set : PySem.W.nsIn K mainGlobals "set" = some none)
    (z_abs : PySem.W.nsIn K mainGlobals "abs" = some none)
    {t_c_name : Tok} {t_c_steps : Tok} {t_c_items : Tok} {t_c_letters : Tok} {t_c_stream : Tok} {t_c_pour : Tok} {t_c_mroom : Tok} {t_c_room : Tok} {t_c_many : Tok} {t_c_off : Tok} {t_c_kept : Tok}
    (c_name : PySem.W.nsIn K mainGlobals "MOST_IN_NAME" = some (some (.int 8 t_c_name)))
    (c_steps : PySem.W.nsIn K mainGlobals "MOST_STEPS" = some (some (.int 5000 t_c_steps)))
    (c_items : PySem.W.nsIn K mainGlobals "MOST_ITEMS" = some (some (.int 50000 t_c_items)))
    (c_letters : PySem.W.nsIn K mainGlobals "LETTERS" = some (some (.str "abcdefghijklmnopqrstuvwxyz" t_c_letters)))
    (c_stream : PySem.W.nsIn K mainGlobals "STREAM" = some (some (.str "stream" t_c_stream)))
    (c_pour : PySem.W.nsIn K mainGlobals "POUR" = some (some (.str "pour" t_c_pour)))
    (c_mroom : PySem.W.nsIn K mainGlobals "MOST_ROOM" = some (some (.int 64 t_c_mroom)))
    (c_room : PySem.W.nsIn K mainGlobals "ROOM" = some (some (.int 0 t_c_room)))
    (c_many : PySem.W.nsIn K mainGlobals "MANY" = some (some (.int 1 t_c_many)))
    (c_off : PySem.W.nsIn K mainGlobals "OFF" = some (some (.int 2 t_c_off)))
    (c_kept : PySem.W.nsIn K mainGlobals "KEPT" = some (some (.int 3 t_c_kept)))
    : Txt mg := ⟨PySem.W.mg_none_of X G z_isinstance, PySem.W.mg_none_of X G z_int, PySem.W.mg_none_of X G z_bool, PySem.W.mg_none_of X G z_tuple, PySem.W.mg_none_of X G z_list, PySem.W.mg_none_of X G z_len, PySem.W.mg_none_of X G z_str, PySem.W.mg_none_of X G z_all, PySem.W.mg_none_of X G z_range, PySem.W.mg_none_of X G z_sorted, PySem.W.mg_none_of X G z_dict, PySem.W.mg_none_of X G z_min, PySem.W.mg_none_of X G z_sum, PySem.W.mg_none_of X G z_set, PySem.W.mg_none_of X G z_abs, cst_int X G c_name, cst_int X G c_steps, cst_int X G c_items, cst_str X G c_letters, cst_str X G c_stream, cst_str X G c_pour, cst_int X G c_mroom, cst_int X G c_room, cst_int X G c_many, cst_int X G c_off, cst_int X G c_kept⟩
theorem end_ok {l : PySem.W.OpenLaw} {w : World} {K : PySem.W.Frag} {mg : Str → Option Value} {fa : Addr} (hfa : mg "law" = some (.ref fa)) (T : Txt mg)
    (D7 : DefE K mg "is_integer" (top 7))
    (D8 : DefE K mg "is_between" (top 8))
    (D9 : DefE K mg "is_count" (top 9))
    (D10 : DefE K mg "is_tuple_of" (top 10))
    (D11 : DefE K mg "are_ascending" (top 11))
    (D19 : DefE K mg "is_name" (top 19))
    (D20 : DefE K mg "is_stream" (top 20))
    (D21 : DefE K mg "is_pour" (top 21))
    (D22 : DefE K mg "is_leaf" (top 22))
    (D23 : DefE K mg "are_steps" (top 23))
    (D24 : DefE K mg "is_tree" (top 24))
    (D25 : DefE K mg "check_tree" (top 25))
    (D26 : DefE K mg "are_counts" (top 26))
    (D27 : DefE K mg "as_counts" (top 27))
    (D28 : DefE K mg "counts_of" (top 28))
    (D35 : DefE K mg "check_room" (top 35))
    (D36 : DefE K mg "lost_of" (top 36))
    (D37 : DefE K mg "is_sketch" (top 37))
    (D38 : DefE K mg "check_sketch" (top 38))
    (D39 : DefE K mg "raw_bare" (top 39))
    (D40 : DefE K mg "raw_fed_many" (top 40))
    (D41 : DefE K mg "raw_poured" (top 41))
    (D42 : DefE K mg "poured" (top 42))
    (D43 : DefE K mg "raw_of_stream" (top 43))
    (D44 : DefE K mg "raw_sketch_of" (top 44))
    (D45 : DefE K mg "sketch_of" (top 45))
    (D47 : DefE K mg "_law_pot" (top 47))
    (D48 : DefE K mg "_law_draw" (top 48))
    (D49 : DefE K mg "_law_any" (top 49))
    (D50 : DefE K mg "_law_names" (top 50))
    (D51 : DefE K mg "_law_stream" (top 51))
    (D52 : DefE K mg "_law_tree" (top 52))
    (D53 : DefE K mg "_law_counted" (top 53))
    (D54 : DefE K mg "_law_fed" (top 54))
    (D55 : DefE K mg "_law_poured" (top 55))
    (D56 : DefE K mg "_law_led" (top 56))
    (D57 : DefE K mg "_law_sketch" (top 57))
    (D58 : DefE K mg "_law_is" (top 58))
    (D59 : DefE K mg "_law_bounds_right" (top 59))
    (D60 : DefE K mg "law" (top 60))
    : ∃ fd : FuncData, (∀ (s : Shared) (u : Value), BindsTo s fd ⟨[u], []⟩ [("_law_script", u)]) ∧ ∀ base : Heap, K.In base → base.Ns mainGlobals mg → FnOk l.prog w K mg base C8.CX0 8 fa fd ["_law_script"] (spLaw K) := by
  obtain ⟨f, fd, F, df⟩ := D60
  have e : some (Value.ref f) = some (Value.ref fa) := F.mgf.symm.trans hfa
  cases e
  refine ⟨fd, fun s u => ?_, fun base _ _ => ?_⟩
  · obtain ⟨oc, od, dV, kV, doc, pm, an, cdv, ct, osl, rfl, lk, hcd⟩ := F.fn.ex
    have e : dV = .none := df
    subst e
    exact .of_eq rfl
  · have c7 := c_is_integer (P := l.prog) (w := w) (base := base) T D7
    have c8 := c_is_between T c7 D8
    have c9 := c_is_count T c7 D9
    have c10 := c_is_tuple_of (P := l.prog) (w := w) (base := base) T D10
    have c11 := c_are_ascending (P := l.prog) (w := w) (base := base) T D11
    have c19 := c_is_name (P := l.prog) (w := w) (base := base) T D19
    have c20 := c_is_stream T c19 D20
    have c21 := c_is_pour T c10 D21
    obtain ⟨fS, fdS, psS, dsS, hF, hm, hk, hb, hd⟩ := c20.ex
    cases hd
    have cS : C8.CalAt l.prog w K mg base 2 fS spIsStream := ⟨⟨fdS, psS, hF, hk, hb⟩⟩
    have c22 := c_is_leaf T c10 cS D22
    have c23 := c_are_steps T c21 c22 D23
    have c24 := c_is_tree T hm c23 D24
    have c25 := c_check_tree T c24 D25
    have c26 := c_are_counts T c10 c19 c7 c11 D26
    have c27 := c_as_counts (P := l.prog) (w := w) (base := base) T D27
    have c28 := c_counts_of T c25 c21 c27 D28
    have c35 := c_check_room T c8 D35
    have c36 := c_lost_of (P := l.prog) (w := w) (base := base) T D36
    have c37 := c_is_sketch T c10 c8 c9 c26 c36 D37
    have c38 := c_check_sketch T c37 D38
    have c39 := c_raw_bare (P := l.prog) (w := w) (base := base) T D39
    have c40 := c_raw_fed_many T c27 D40
    have c41 := c_raw_poured T c27 D41
    have c42 := c_poured T c38 c41 D42
    have c43 := c_raw_of_stream T c39 c40 D43
    have c44 := c_raw_sketch_of T c21 c41 c43 D44
    have c45 := c_sketch_of T c35 c25 c44 D45
    have c47 := c_law_pot (P := l.prog) (w := w) (base := base) T D47
    have c48 := c_law_draw (P := l.prog) (w := w) (base := base) T D48
    have c49 := c_law_any T c48 D49
    have c50 := c_law_names T c48 c49 D50
    have c51 := c_law_stream T c48 c49 D51
    have c52 := c_law_tree T c48 c51 D52
    have c53 := c_law_counted (P := l.prog) (w := w) (base := base) T D53
    have c54 := c_law_fed (P := l.prog) (w := w) (base := base) T D54
    have c55 := c_law_poured (P := l.prog) (w := w) (base := base) T D55
    have c56 := c_law_led T c55 c54 D56
    have c57 := c_law_sketch (P := l.prog) (w := w) (base := base) T D57
    have c58 := c_law_is (P := l.prog) (w := w) (base := base) T D58
    have c59 := c_law_bounds (P := l.prog) (w := w) (base := base) T D59
    exact law_ok T F c47 c49 c50 c52 c45 c53 c56 c57 c58 c37 c28 c59 c42
theorem walk {l : PySem.W.OpenLaw} {q : Program} {loose : List Str} {XP : (Str → Option Value) → Heap → Prop} {YP : World → Heap → Prop} {d : DefRec} {K : Params → PySem.W.Frag} (hn : l.most = some 63) (hdf : d.params.defaults = [])
    (hY : ∀ (w : World) (h : Heap), YP w h → (K w.params).In h)
    (F : ∀ (w : World) (mg : Str → Option Value) (fa : Addr) (h : Heap), (K w.params).In h → h.Ns mainGlobals mg → mg d.name = some (.ref fa) →
      ∃ fd : FuncData, (∀ (s : Shared) (u : Value), BindsTo s fd ⟨[u], []⟩ [("_law_script", u)]) ∧ ∀ base : Heap, (K w.params).In base → base.Ns mainGlobals mg → FnOk l.prog w (K w.params) mg base C8.CX0 8 fa fd ["_law_script"] (spLaw (K w.params))) :
    PySem.W.WalkO q loose XP YP l.row.toRowW d [] (fun f vs => PySem.call f vs) :=
  L2.walk_of (n := 63) (k := 8) (x := "_law_script") (CX := fun _ => C8.CX0) (sp := fun w => spLaw (K w.params)) hn (by decide) hdf ⟨rfl, by decide, by decide⟩ hY F (fun _ _ a ns hl _ hS => ⟨a, ns, rfl, hS, hl, fun _ => rfl⟩) fun _ _ _ _ _ z => z
end KN
open PySem PySem.W PyProof.Rows
set_option maxRecDepth 100000 in
set_option maxHeartbeats 0 in
theorem PySem.Challenge.cw_knownends_k11_whole_sketches_poured_by_a_holds : PySem.Challenge.rw_knownends_k11_whole_sketches_poured_by_a.Holds := by
  w_on; o_law; k_head; (case hw => w_witness2)
  k_fill
  refine KN.walk (l := PySem.Challenge.rw_knownends_k11_whole_sketches_poured_by_a) rfl rfl (fun w h Y => PySem.W.kIn_of Y) ?F
  case F =>
    intro w mg fa h KX G hmg
    refine' KN.end_ok hmg (KN.txt_mk KX G ?z_isinstance ?z_int ?z_bool ?z_tuple ?z_list ?z_len ?z_str ?z_all ?z_range ?z_sorted ?z_dict ?z_min ?z_sum ?z_set ?z_abs ?c_name ?c_steps ?c_items ?c_letters ?c_stream ?c_pour ?c_mroom ?c_room ?c_many ?c_off ?c_kept)
      (KN.def_mk KX G ?a7 ?l7 ?c7 ?k7)
      (KN.def_mk KX G ?a8 ?l8 ?c8 ?k8)
      (KN.def_mk KX G ?a9 ?l9 ?c9 ?k9)
      (KN.def_mk KX G ?a10 ?l10 ?c10 ?k10)
      (KN.def_mk KX G ?a11 ?l11 ?c11 ?k11)
      (KN.def_mk KX G ?a19 ?l19 ?c19 ?k19)
      (KN.def_mk KX G ?a20 ?l20 ?c20 ?k20)
      (KN.def_mk KX G ?a21 ?l21 ?c21 ?k21)
      (KN.def_mk KX G ?a22 ?l22 ?c22 ?k22)
      (KN.def_mk KX G ?a23 ?l23 ?c23 ?k23)
      (KN.def_mk KX G ?a24 ?l24 ?c24 ?k24)
      (KN.def_mk KX G ?a25 ?l25 ?c25 ?k25)
      (KN.def_mk KX G ?a26 ?l26 ?c26 ?k26)
      (KN.def_mk KX G ?a27 ?l27 ?c27 ?k27)
      (KN.def_mk KX G ?a28 ?l28 ?c28 ?k28)
      (KN.def_mk KX G ?a35 ?l35 ?c35 ?k35)
      (KN.def_mk KX G ?a36 ?l36 ?c36 ?k36)
      (KN.def_mk KX G ?a37 ?l37 ?c37 ?k37)
      (KN.def_mk KX G ?a38 ?l38 ?c38 ?k38)
      (KN.def_mk KX G ?a39 ?l39 ?c39 ?k39)
      (KN.def_mk KX G ?a40 ?l40 ?c40 ?k40)
      (KN.def_mk KX G ?a41 ?l41 ?c41 ?k41)
      (KN.def_mk KX G ?a42 ?l42 ?c42 ?k42)
      (KN.def_mk KX G ?a43 ?l43 ?c43 ?k43)
      (KN.def_mk KX G ?a44 ?l44 ?c44 ?k44)
      (KN.def_mk KX G ?a45 ?l45 ?c45 ?k45)
      (KN.def_mk KX G ?a47 ?l47 ?c47 ?k47)
      (KN.def_mk KX G ?a48 ?l48 ?c48 ?k48)
      (KN.def_mk KX G ?a49 ?l49 ?c49 ?k49)
      (KN.def_mk KX G ?a50 ?l50 ?c50 ?k50)
      (KN.def_mk KX G ?a51 ?l51 ?c51 ?k51)
      (KN.def_mk KX G ?a52 ?l52 ?c52 ?k52)
      (KN.def_mk KX G ?a53 ?l53 ?c53 ?k53)
      (KN.def_mk KX G ?a54 ?l54 ?c54 ?k54)
      (KN.def_mk KX G ?a55 ?l55 ?c55 ?k55)
      (KN.def_mk KX G ?a56 ?l56 ?c56 ?k56)
      (KN.def_mk KX G ?a57 ?l57 ?c57 ?k57)
      (KN.def_mk KX G ?a58 ?l58 ?c58 ?k58)
      (KN.def_mk KX G ?a59 ?l59 ?c59 ?k59)
      (KN.def_mk KX G ?a60 ?l60 ?c60 ?k60)
    (case z_isinstance => k_is)
    (case z_int => k_is)
    (case z_bool => k_is)
    (case z_tuple => k_is)
    (case z_list => k_is)
    (case z_len => k_is)
    (case z_str => k_is)
    (case z_all => k_is)
    (case z_range => k_is)
    (case z_sorted => k_is)
    (case z_dict => k_is)
    (case z_min => k_is)
    (case z_sum => k_is)
    (case z_set => k_is)
    (case z_abs => k_is)
    (case c_name => k_is)
    (case c_steps => k_is)
    (case c_items => k_is)
    (case c_letters => k_is)
    (case c_stream => k_is)
    (case c_pour => k_is)
    (case c_mroom => k_is)
    (case c_room => k_is)
    (case c_many => k_is)
    (case c_off => k_is)
    (case c_kept => k_is)
    (case a7 => k_is); (case l7 => k_is); (case c7 => k_is); (case k7 => k_is)
    (case a8 => k_is); (case l8 => k_is); (case c8 => k_is); (case k8 => k_is)
    (case a9 => k_is); (case l9 => k_is); (case c9 => k_is); (case k9 => k_is)
    (case a10 => k_is); (case l10 => k_is); (case c10 => k_is); (case k10 => k_is)
    (case a11 => k_is); (case l11 => k_is); (case c11 => k_is); (case k11 => k_is)
    (case a19 => k_is); (case l19 => k_is); (case c19 => k_is); (case k19 => k_is)
    (case a20 => k_is); (case l20 => k_is); (case c20 => k_is); (case k20 => k_is)
    (case a21 => k_is); (case l21 => k_is); (case c21 => k_is); (case k21 => k_is)
    (case a22 => k_is); (case l22 => k_is); (case c22 => k_is); (case k22 => k_is)
    (case a23 => k_is); (case l23 => k_is); (case c23 => k_is); (case k23 => k_is)
    (case a24 => k_is); (case l24 => k_is); (case c24 => k_is); (case k24 => k_is)
    (case a25 => k_is); (case l25 => k_is); (case c25 => k_is); (case k25 => k_is)
    (case a26 => k_is); (case l26 => k_is); (case c26 => k_is); (case k26 => k_is)
    (case a27 => k_is); (case l27 => k_is); (case c27 => k_is); (case k27 => k_is)
    (case a28 => k_is); (case l28 => k_is); (case c28 => k_is); (case k28 => k_is)
    (case a35 => k_is); (case l35 => k_is); (case c35 => k_is); (case k35 => k_is)
    (case a36 => k_is); (case l36 => k_is); (case c36 => k_is); (case k36 => k_is)
    (case a37 => k_is); (case l37 => k_is); (case c37 => k_is); (case k37 => k_is)
    (case a38 => k_is); (case l38 => k_is); (case c38 => k_is); (case k38 => k_is)
    (case a39 => k_is); (case l39 => k_is); (case c39 => k_is); (case k39 => k_is)
    (case a40 => k_is); (case l40 => k_is); (case c40 => k_is); (case k40 => k_is)
    (case a41 => k_is); (case l41 => k_is); (case c41 => k_is); (case k41 => k_is)
    (case a42 => k_is); (case l42 => k_is); (case c42 => k_is); (case k42 => k_is)
    (case a43 => k_is); (case l43 => k_is); (case c43 => k_is); (case k43 => k_is)
    (case a44 => k_is); (case l44 => k_is); (case c44 => k_is); (case k44 => k_is)
    (case a45 => k_is); (case l45 => k_is); (case c45 => k_is); (case k45 => k_is)
    (case a47 => k_is); (case l47 => k_is); (case c47 => k_is); (case k47 => k_is)
    (case a48 => k_is); (case l48 => k_is); (case c48 => k_is); (case k48 => k_is)
    (case a49 => k_is); (case l49 => k_is); (case c49 => k_is); (case k49 => k_is)
    (case a50 => k_is); (case l50 => k_is); (case c50 => k_is); (case k50 => k_is)
    (case a51 => k_is); (case l51 => k_is); (case c51 => k_is); (case k51 => k_is)
    (case a52 => k_is); (case l52 => k_is); (case c52 => k_is); (case k52 => k_is)
    (case a53 => k_is); (case l53 => k_is); (case c53 => k_is); (case k53 => k_is)
    (case a54 => k_is); (case l54 => k_is); (case c54 => k_is); (case k54 => k_is)
    (case a55 => k_is); (case l55 => k_is); (case c55 => k_is); (case k55 => k_is)
    (case a56 => k_is); (case l56 => k_is); (case c56 => k_is); (case k56 => k_is)
    (case a57 => k_is); (case l57 => k_is); (case c57 => k_is); (case k57 => k_is)
    (case a58 => k_is); (case l58 => k_is); (case c58 => k_is); (case k58 => k_is)
    (case a59 => k_is); (case l59 => k_is); (case c59 => k_is); (case k59 => k_is)
    (case a60 => k_is); (case l60 => k_is); (case c60 => k_is); (case k60 => k_is)
