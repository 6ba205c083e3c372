import PyProof.Rows.All
import PySem.Str
import Wide.All
import OpenK.AllK
import Wide.FinOn
import HandS.ForExc
import HandS.ForMost
import HandS.IsInst
import HandS.Property
import HandS.ClsMeth
import HandS.FStr
import HandS.Flow
import HandS.Style
import HandS.Star
import HandS.SetKeys
import HandS.DictComp
import HandS.Defaults
import HandS.Wide
import HandS.OwnEq
import HandS.Zip
import HandS.Strs
import HandS.Sort
import HandS.RaiseMore
import HandS.Conv
import HandS.TupAny
import HandS.DeepEq
import HandS.Walk
import KE.KUnpackStar
import KE.SortData
import KE.KDictKeyed
import PySem.Challenge.RW_strongbit_k56_whole_counted_sendings
import KE.GoesMore
import KE.GoesEnum
import HandS.SortKw
import KE.DatumOrd
import KE.SortUse
import KE.KCallOwn
import OpenK.KOps
import PyProof.DictMoreH
import PyProof.DictUpdate
import KE.KTupTabMore
import HandS.Codes
import HandS.Text
import HandS.TupLen
import HandS.MakeKwOnly
import HandS.TryOnly
import HandS.Deep
set_option Elab.async false
set_option linter.all false
section
set_option autoImplicit false
/-! Plain mathematics 1: machines, what they show, kinds of rows. -/
namespace KX
open PySem

inductive Pl where
  | ix (n : Nat)
  | wd (w : Str)
  deriving DecidableEq

structure Rw where
  put : Nat
  s : Pl
  w : Pl
  deriving DecidableEq

abbrev Mc := List Rw
abbrev Ky := Sum Int Str

def Pl.ok (n : Nat) : Pl → Prop
  | .ix i => i < n
  | .wd _ => True
def Wf (M : Mc) : Prop := ∀ r ∈ M, r.s.ok M.length ∧ r.w.ok M.length

def row0 : Rw := ⟨0, .wd Str.empty, .wd Str.empty⟩
def rowAt (M : Mc) (i : Nat) : Rw := M.getD i row0
def Rw.go (r : Rw) (b : Bool) : Pl := if b then r.w else r.s

/-- what is shown behind some heard bits -/
def beh (M : Mc) : List Bool → Pl → Sum Nat Str
  | _, .wd w => .inr w
  | [], .ix i => .inl (rowAt M i).put
  | b :: bs, .ix i => beh M bs ((rowAt M i).go b)

theorem beh_wd (M : Mc) (bs : List Bool) (w : Str) : beh M bs (.wd w) = .inr w := by cases bs <;> rfl
theorem beh_nil (M : Mc) (i : Nat) : beh M [] (.ix i) = .inl (rowAt M i).put := rfl
theorem beh_cons (M : Mc) (b : Bool) (bs : List Bool) (i : Nat) : beh M (b :: bs) (.ix i) = beh M bs ((rowAt M i).go b) := rfl

theorem rowAt_mem {M : Mc} {i : Nat} (h : i < M.length) : rowAt M i ∈ M := by
  unfold rowAt
  rw [List.getD_eq_getElem?_getD, List.getElem?_eq_getElem h]
  exact List.getElem_mem h
theorem rowAt_get {M : Mc} {i : Nat} (h : i < M.length) : M[i]? = some (rowAt M i) := by
  unfold rowAt
  rw [List.getD_eq_getElem?_getD, List.getElem?_eq_getElem h]
  rfl
theorem rowAt_of {M : Mc} {i : Nat} {r : Rw} (h : M[i]? = some r) : rowAt M i = r := by
  unfold rowAt
  rw [List.getD_eq_getElem?_getD, h]
  rfl
theorem Wf.go {M : Mc} (h : Wf M) {i : Nat} (hi : i < M.length) (b : Bool) : ((rowAt M i).go b).ok M.length := by
  have := h _ (rowAt_mem hi)
  unfold Rw.go
  cases b
  · exact this.1
  · exact this.2

/-! ### firsts: a list without what came before -/
def firstsFrom {α : Type} [DecidableEq α] (acc : List α) : List α → List α
  | [] => acc
  | x :: xs => firstsFrom (if x ∈ acc then acc else acc ++ [x]) xs
def firsts {α : Type} [DecidableEq α] (xs : List α) : List α := firstsFrom [] xs
section
variable {α : Type} [DecidableEq α]
theorem firstsFrom_append (acc xs ys : List α) : firstsFrom acc (xs ++ ys) = firstsFrom (firstsFrom acc xs) ys := by
  induction xs generalizing acc with
  | nil => rfl
  | cons x xs ih => exact ih _
theorem firsts_snoc (xs : List α) (x : α) : firsts (xs ++ [x]) = if x ∈ firsts xs then firsts xs else firsts xs ++ [x] := by
  unfold firsts
  rw [firstsFrom_append]
  rfl
theorem mem_firstsFrom (acc xs : List α) (x : α) : x ∈ firstsFrom acc xs ↔ x ∈ acc ∨ x ∈ xs := by
  induction xs generalizing acc with
  | nil => simp [firstsFrom]
  | cons y xs ih =>
    unfold firstsFrom
    rw [ih]
    by_cases h : y ∈ acc
    · rw [if_pos h]
      constructor
      · rintro (h1 | h1)
        · exact .inl h1
        · exact .inr (List.mem_cons_of_mem _ h1)
      · rintro (h1 | h1)
        · exact .inl h1
        · rcases List.mem_cons.mp h1 with e | h1
          · exact .inl (e ▸ h)
          · exact .inr h1
    · rw [if_neg h]
      rw [List.mem_append, List.mem_singleton, List.mem_cons]
      constructor
      · rintro ((h1 | h1) | h1)
        · exact .inl h1
        · exact .inr (.inl h1)
        · exact .inr (.inr h1)
      · rintro (h1 | h1 | h1)
        · exact .inl (.inl h1)
        · exact .inl (.inr h1)
        · exact .inr h1
theorem mem_firsts (xs : List α) (x : α) : x ∈ firsts xs ↔ x ∈ xs := by
  unfold firsts
  rw [mem_firstsFrom]
  simp
theorem nodup_snoc {acc : List α} {x : α} (h : acc.Nodup) (hx : x ∉ acc) : (acc ++ [x]).Nodup := by
  rw [List.nodup_append]
  refine ⟨h, by simp, fun a ha b hb => ?_⟩
  rw [List.mem_singleton.mp hb]
  intro e
  exact hx (e ▸ ha)
theorem firstsFrom_nodup (acc xs : List α) (h : acc.Nodup) : (firstsFrom acc xs).Nodup := by
  induction xs generalizing acc with
  | nil => exact h
  | cons x xs ih =>
    unfold firstsFrom
    apply ih
    by_cases hx : x ∈ acc
    · rw [if_pos hx]
      exact h
    · rw [if_neg hx]
      exact nodup_snoc h hx
theorem firsts_nodup (xs : List α) : (firsts xs).Nodup := firstsFrom_nodup [] xs List.nodup_nil
theorem firstsFrom_len (acc xs : List α) : (firstsFrom acc xs).length ≤ acc.length + xs.length := by
  induction xs generalizing acc with
  | nil => simp [firstsFrom]
  | cons x xs ih =>
    unfold firstsFrom
    refine Nat.le_trans (ih _) ?_
    by_cases hx : x ∈ acc
    · rw [if_pos hx, List.length_cons]
      omega
    · rw [if_neg hx, List.length_append, List.length_cons]
      simp only [List.length_cons, List.length_nil]
      omega
theorem firsts_len (xs : List α) : (firsts xs).length ≤ xs.length := by
  have := firstsFrom_len [] xs
  simpa [firsts] using this
theorem firsts_of_nodup {xs : List α} (h : xs.Nodup) : firsts xs = xs := by
  have : ∀ (acc ys : List α), (acc ++ ys).Nodup → firstsFrom acc ys = acc ++ ys := by
    intro acc ys
    induction ys generalizing acc with
    | nil => intro _; simp [firstsFrom]
    | cons y ys ih =>
      intro hn
      unfold firstsFrom
      have hy : y ∉ acc := by
        intro hy
        rw [List.nodup_append] at hn
        exact hn.2.2 y hy y List.mem_cons_self rfl
      rw [if_neg hy, ih]
      · simp
      · simpa using hn
  exact this [] xs (by simpa using h)

/-- the first place of an item (the length, where it is not in) -/
def ixOf : List α → α → Nat
  | [], _ => 0
  | y :: ys, x => if y = x then 0 else ixOf ys x + 1
theorem ixOf_lt {xs : List α} {x : α} (h : x ∈ xs) : ixOf xs x < xs.length := by
  induction xs with
  | nil => cases h
  | cons y ys ih =>
    unfold ixOf
    by_cases e : y = x
    · rw [if_pos e, List.length_cons]
      omega
    · rw [if_neg e, List.length_cons]
      have : x ∈ ys := by
        rcases List.mem_cons.mp h with e' | h'
        · exact absurd e'.symm e
        · exact h'
      have := ih this
      omega
theorem ixOf_get {xs : List α} {x : α} (h : x ∈ xs) : xs[ixOf xs x]? = some x := by
  induction xs with
  | nil => cases h
  | cons y ys ih =>
    unfold ixOf
    by_cases e : y = x
    · rw [if_pos e, e]
      rfl
    · rw [if_neg e, List.getElem?_cons_succ]
      refine ih ?_
      rcases List.mem_cons.mp h with e' | h'
      · exact absurd e'.symm e
      · exact h'
theorem ixOf_inj {xs : List α} {x y : α} (hx : x ∈ xs) (hy : y ∈ xs) (h : ixOf xs x = ixOf xs y) : x = y := by
  have h1 := ixOf_get hx
  have h2 := ixOf_get hy
  rw [h] at h1
  exact Option.some.inj (h1.symm.trans h2)
theorem ixOf_of_take {xs : List α} {x : α} {m : Nat} (h : x ∈ xs.take m) : ixOf xs x < m := by
  induction xs generalizing m with
  | nil => simp at h
  | cons y ys ih =>
    cases m with
    | zero => simp at h
    | succ m =>
      unfold ixOf
      by_cases e : y = x
      · rw [if_pos e]
        omega
      · rw [if_neg e]
        rw [List.take_succ_cons] at h
        have : x ∈ ys.take m := by
          rcases List.mem_cons.mp h with e' | h'
          · exact absurd e'.symm e
          · exact h'
        have := ih this
        omega
theorem ixOf_eq_of {xs : List α} {x : α} {m : Nat} (h : xs[m]? = some x) (h' : x ∉ xs.take m) : ixOf xs x = m := by
  induction xs generalizing m with
  | nil => simp at h
  | cons y ys ih =>
    cases m with
    | zero =>
      have e : y = x := by simpa using h
      unfold ixOf
      rw [if_pos e]
    | succ m =>
      rw [List.take_succ_cons, List.mem_cons, not_or] at h'
      unfold ixOf
      rw [if_neg (fun e => h'.1 e.symm), ih (by simpa using h) h'.2]
theorem ixOf_not_before {xs : List α} {x : α} : x ∉ xs.take (ixOf xs x) := by
  induction xs with
  | nil => simp
  | cons y ys ih =>
    unfold ixOf
    by_cases e : y = x
    · rw [if_pos e]
      simp
    · rw [if_neg e, List.take_succ_cons, List.mem_cons, not_or]
      exact ⟨fun h => e h.symm, ih⟩
theorem ixOf_append_left {xs ys : List α} {x : α} (h : x ∈ xs) : ixOf (xs ++ ys) x = ixOf xs x := by
  induction xs with
  | nil => cases h
  | cons y zs ih =>
    rw [List.cons_append]
    unfold ixOf
    by_cases e : y = x
    · rw [if_pos e, if_pos e]
    · rw [if_neg e, if_neg e, ih]
      rcases List.mem_cons.mp h with e' | h'
      · exact absurd e'.symm e
      · exact h'

/-- a list without doubles, all in another that is no longer: the other has no doubles, and the same items -/
theorem sub_of_len {β : Type} [DecidableEq β] : ∀ {xs ys : List β}, xs.Nodup → (∀ x ∈ xs, x ∈ ys) → xs.length ≤ ys.length
  | [], _, _, _ => Nat.zero_le _
  | x :: xs, ys, hn, hs => by
    have hn' := List.nodup_cons.mp hn
    have hx : x ∈ ys := hs x List.mem_cons_self
    have := sub_of_len (xs := xs) (ys := ys.erase x) hn'.2 (fun z hz => by
      have hzx : z ≠ x := fun e => hn'.1 (e ▸ hz)
      exact (List.mem_erase_of_ne hzx).mpr (hs z (List.mem_cons_of_mem _ hz)))
    rw [List.length_erase_of_mem hx] at this
    have hp : 0 < ys.length := List.length_pos_of_mem hx
    rw [List.length_cons]
    omega
theorem nodup_of_cover {β : Type} [DecidableEq β] : ∀ {xs ys : List β}, xs.Nodup → (∀ x ∈ xs, x ∈ ys) → ys.length ≤ xs.length → ys.Nodup
  | [], ys, _, _, hl => by
    have : ys = [] := List.length_eq_zero_iff.mp (by simpa using hl)
    rw [this]
    exact List.nodup_nil
  | x :: xs, ys, hn, hs, hl => by
    have hn' := List.nodup_cons.mp hn
    have hx : x ∈ ys := hs x List.mem_cons_self
    have hsub : ∀ z ∈ xs, z ∈ ys.erase x := fun z hz => by
      have hzx : z ≠ x := fun e => hn'.1 (e ▸ hz)
      exact (List.mem_erase_of_ne hzx).mpr (hs z (List.mem_cons_of_mem _ hz))
    have hlen := List.length_erase_of_mem hx
    have hp : 0 < ys.length := List.length_pos_of_mem hx
    have hnd := nodup_of_cover (xs := xs) (ys := ys.erase x) hn'.2 hsub (by rw [hlen]; rw [List.length_cons] at hl; omega)
    have hxe : x ∉ ys.erase x := by
      intro hm
      have h2 := sub_of_len (xs := x :: xs) (ys := ys.erase x) hn (fun z hz => by
        rcases List.mem_cons.mp hz with e | e
        · exact e ▸ hm
        · exact hsub z e)
      rw [hlen, List.length_cons] at h2
      rw [List.length_cons] at hl
      omega
    exact (List.perm_cons_erase hx).nodup_iff.mpr (List.nodup_cons.mpr ⟨hxe, hnd⟩)
end

/-! ### kinds -/
def kAt (K : List Nat) (i : Nat) : Nat := K.getD i 0
def kindAt (K : List Nat) : Pl → Ky
  | .ix i => .inl ((kAt K i : Nat) : Int)
  | .wd w => .inr w
def mark (M : Mc) (K : List Nat) (i : Nat) : List Ky :=
  let r := rowAt M i
  [.inl ((r.put : Nat) : Int), .inl ((kAt K i : Nat) : Int), kindAt K r.s, kindAt K r.w]
def marks (M : Mc) (K : List Nat) : List (List Ky) := (List.range M.length).map (mark M K)
def nextK (M : Mc) (K : List Nat) : List Nat := (marks M K).map fun m => ixOf (firsts (marks M K)) m
def puts (M : Mc) : List Nat := M.map (·.put)
def kloop (M : Mc) : Nat → List Nat → Nat → List Nat
  | 0, K, _ => K
  | f + 1, K, many => if many < (firsts K).length then kloop M f (nextK M K) (firsts K).length else K
def kindsOf (M : Mc) : List Nat := kloop M (M.length + 1) (puts M) 0

theorem marks_len (M : Mc) (K : List Nat) : (marks M K).length = M.length := by simp [marks]
theorem nextK_len (M : Mc) (K : List Nat) : (nextK M K).length = M.length := by simp [nextK, marks_len]
theorem puts_len (M : Mc) : (puts M).length = M.length := by simp [puts]
theorem kloop_len (M : Mc) : ∀ (f : Nat) (K : List Nat) (m : Nat), K.length = M.length → (kloop M f K m).length = M.length
  | 0, K, _, h => h
  | f + 1, K, m, h => by
    unfold kloop
    split
    · exact kloop_len M f _ _ (nextK_len M K)
    · exact h
theorem kindsOf_len (M : Mc) : (kindsOf M).length = M.length := kloop_len M _ _ _ (puts_len M)

theorem marks_get {M : Mc} {K : List Nat} {i : Nat} (h : i < M.length) : (marks M K)[i]? = some (mark M K i) := by
  unfold marks
  rw [List.getElem?_map, List.getElem?_range h]
  rfl
theorem mark_mem {M : Mc} {K : List Nat} {i : Nat} (h : i < M.length) : mark M K i ∈ marks M K := List.mem_of_getElem? (marks_get h)
theorem kAt_next {M : Mc} {K : List Nat} {i : Nat} (h : i < M.length) : kAt (nextK M K) i = ixOf (firsts (marks M K)) (mark M K i) := by
  unfold kAt nextK
  rw [List.getD_eq_getElem?_getD, List.getElem?_map, marks_get h]
  rfl
theorem kAt_puts {M : Mc} {i : Nat} (h : i < M.length) : kAt (puts M) i = (rowAt M i).put := by
  unfold kAt puts
  rw [List.getD_eq_getElem?_getD, List.getElem?_map, rowAt_get h]
  rfl
theorem next_eq_iff {M : Mc} {K : List Nat} {i j : Nat} (hi : i < M.length) (hj : j < M.length) : kAt (nextK M K) i = kAt (nextK M K) j ↔ mark M K i = mark M K j := by
  rw [kAt_next hi, kAt_next hj]
  constructor
  · intro h
    exact ixOf_inj ((mem_firsts _ _).mpr (mark_mem hi)) ((mem_firsts _ _).mpr (mark_mem hj)) h
  · intro h
    rw [h]
theorem mark_eq_iff {M : Mc} {K : List Nat} {i j : Nat} : mark M K i = mark M K j ↔ (rowAt M i).put = (rowAt M j).put ∧ kAt K i = kAt K j ∧ ∀ b, kindAt K ((rowAt M i).go b) = kindAt K ((rowAt M j).go b) := by
  unfold mark
  simp only [List.cons.injEq, Sum.inl.injEq, Int.natCast_inj, and_true]
  constructor
  · rintro ⟨h1, h2, h3, h4⟩
    refine ⟨h1, h2, fun b => ?_⟩
    cases b
    · exact h3
    · exact h4
  · rintro ⟨h1, h2, h3⟩
    exact ⟨h1, h2, h3 false, h3 true⟩

/-- the two partitions are one, where the finer has no more classes -/
theorem same_part {n : Nat} {K K' : List Nat} (hK : K.length = n) (hK' : K'.length = n) (fine : ∀ i j, i < n → j < n → kAt K i = kAt K j → kAt K' i = kAt K' j)
    (hl : (firsts K).length ≤ (firsts K').length) : ∀ i j, i < n → j < n → kAt K' i = kAt K' j → kAt K i = kAt K j := by
  intro i j hi hj h
  -- a map from the classes of K to those of K'
  let f : Nat → Nat := fun k => kAt K' (K.idxOf k)
  have hf : ∀ m, m < n → f (kAt K m) = kAt K' m := by
    intro m hm
    have e : kAt K m = K[m]'(by omega) := by
      unfold kAt
      rw [List.getD_eq_getElem?_getD, List.getElem?_eq_getElem (by omega)]
      rfl
    have hlt : K.idxOf (kAt K m) < K.length := List.idxOf_lt_length_iff.mpr (by rw [e]; exact List.getElem_mem _)
    refine fine _ _ (by omega) hm ?_
    generalize kAt K m = k at hlt
    unfold kAt
    rw [List.getD_eq_getElem?_getD, List.getElem?_eq_getElem hlt, List.getElem_idxOf]
    rfl
  have cover : ∀ x ∈ firsts K', x ∈ (firsts K).map f := by
    intro x hx
    rw [mem_firsts] at hx
    obtain ⟨m, hm, e⟩ := List.getElem_of_mem hx
    have hm' : m < n := by omega
    have ex : kAt K' m = x := by
      unfold kAt
      rw [List.getD_eq_getElem?_getD, List.getElem?_eq_getElem hm]
      exact e
    refine List.mem_map.mpr ⟨kAt K m, ?_, (hf m hm').trans ex⟩
    rw [mem_firsts]
    unfold kAt
    rw [List.getD_eq_getElem?_getD, List.getElem?_eq_getElem (by omega)]
    exact List.getElem_mem _
  have nd : ((firsts K).map f).Nodup := nodup_of_cover (firsts_nodup K') cover (by rw [List.length_map]; exact hl)
  have inj : ∀ (l : List Nat) (a b : Nat), (l.map f).Nodup → a ∈ l → b ∈ l → f a = f b → a = b := by
    intro l
    induction l with
    | nil => intro a b _ ha; cases ha
    | cons x l ih =>
      intro a b hn ha hb hab
      rw [List.map_cons, List.nodup_cons] at hn
      rcases List.mem_cons.mp ha with e1 | ha
      · rcases List.mem_cons.mp hb with e2 | hb
        · rw [e1, e2]
        · exfalso
          apply hn.1
          rw [← e1, hab]
          exact List.mem_map_of_mem hb
      · rcases List.mem_cons.mp hb with e2 | hb
        · exfalso
          apply hn.1
          rw [← e2, ← hab]
          exact List.mem_map_of_mem ha
        · exact ih a b hn.2 ha hb hab
  have mem : ∀ m, m < n → kAt K m ∈ firsts K := by
    intro m hm
    rw [mem_firsts]
    unfold kAt
    rw [List.getD_eq_getElem?_getD, List.getElem?_eq_getElem (by omega)]
    exact List.getElem_mem _
  refine inj (firsts K) _ _ nd (mem i hi) (mem j hj) ?_
  rw [hf i hi, hf j hj]
  exact h

/-- K goes together with the machine: equal kinds put the same and go on to equal kinds -/
def Stable (M : Mc) (K : List Nat) : Prop := ∀ i j, i < M.length → j < M.length → kAt K i = kAt K j →
  (rowAt M i).put = (rowAt M j).put ∧ ∀ b, kindAt K ((rowAt M i).go b) = kindAt K ((rowAt M j).go b)

theorem kindAt_map {M : Mc} {K K' : List Nat} (h : ∀ i j, i < M.length → j < M.length → kAt K' i = kAt K' j → kAt K i = kAt K j) {p q : Pl} (hp : p.ok M.length) (hq : q.ok M.length)
    (e : kindAt K' p = kindAt K' q) : kindAt K p = kindAt K q := by
  cases p with
  | ix i =>
    cases q with
    | ix j =>
      simp only [kindAt, Sum.inl.injEq, Int.natCast_inj] at e ⊢
      exact h i j hp hq e
    | wd w => simp [kindAt] at e
  | wd w =>
    cases q with
    | ix j => simp [kindAt] at e
    | wd v => exact e

/-- where the loop stands -/
def KInv (M : Mc) (K : List Nat) (many : Nat) : Prop :=
  K.length = M.length ∧ ((many = 0 ∧ K = puts M) ∨ ∃ K', K'.length = M.length ∧ K = nextK M K' ∧ many = (firsts K').length)
theorem kinv_start (M : Mc) : KInv M (puts M) 0 := ⟨puts_len M, .inl ⟨rfl, rfl⟩⟩
theorem kinv_next {M : Mc} {K : List Nat} {many : Nat} (h : KInv M K many) : KInv M (nextK M K) (firsts K).length :=
  ⟨nextK_len M K, .inr ⟨K, h.1, rfl, rfl⟩⟩
theorem kinv_end {M : Mc} (hM : Wf M) {K : List Nat} {many : Nat} (h : KInv M K many) (he : (firsts K).length ≤ many) : Stable M K := by
  obtain ⟨hl, ⟨h0, _⟩ | ⟨K', hl', e, em⟩⟩ := h
  · intro i j hi
    have : firsts K = [] := List.length_eq_zero_iff.mp (by omega)
    have hk : kAt K i ∈ firsts K := by
      rw [mem_firsts]
      unfold kAt
      rw [List.getD_eq_getElem?_getD, List.getElem?_eq_getElem (by omega)]
      exact List.getElem_mem _
    rw [this] at hk
    cases hk
  · intro i j hi hj hk
    have fine : ∀ i j, i < M.length → j < M.length → kAt K i = kAt K j → kAt K' i = kAt K' j := by
      intro i j hi hj h
      rw [e] at h
      exact (mark_eq_iff.mp ((next_eq_iff hi hj).mp h)).2.1
    have back := same_part hl hl' fine (by omega)
    rw [e] at hk
    obtain ⟨h1, _, h3⟩ := mark_eq_iff.mp ((next_eq_iff hi hj).mp hk)
    exact ⟨h1, fun b => kindAt_map back (hM.go hi b) (hM.go hj b) (h3 b)⟩
theorem kloop_stable {M : Mc} (hM : Wf M) : ∀ (f : Nat) (K : List Nat) (many : Nat), KInv M K many → M.length < f + many → Stable M (kloop M f K many)
  | 0, K, many, h, hf => by
    show Stable M K
    exact kinv_end hM h (by have := firsts_len K; have := h.1; omega)
  | f + 1, K, many, h, hf => by
    unfold kloop
    split
    · exact kloop_stable hM f _ _ (kinv_next h) (by omega)
    · exact kinv_end hM h (by omega)
theorem kindsOf_stable {M : Mc} (hM : Wf M) : Stable M (kindsOf M) := kloop_stable hM _ _ _ (kinv_start M) (by omega)

/-- rows that show the same have equal kinds at every turn -/
def Coarse (M : Mc) (K : List Nat) : Prop := ∀ i j, i < M.length → j < M.length → (∀ bs, beh M bs (.ix i) = beh M bs (.ix j)) → kAt K i = kAt K j
theorem coarse_puts (M : Mc) : Coarse M (puts M) := fun i j hi hj h => by
  rw [kAt_puts hi, kAt_puts hj]
  have := h []
  rw [beh_nil, beh_nil] at this
  exact Sum.inl.inj this
theorem coarse_next {M : Mc} (hM : Wf M) {K : List Nat} (h : Coarse M K) : Coarse M (nextK M K) := fun i j hi hj hb => by
  refine (next_eq_iff hi hj).mpr (mark_eq_iff.mpr ⟨?_, h i j hi hj hb, fun b => ?_⟩)
  · have := hb []
    rw [beh_nil, beh_nil] at this
    exact Sum.inl.inj this
  · have hgo : ∀ bs, beh M bs ((rowAt M i).go b) = beh M bs ((rowAt M j).go b) := fun bs => hb (b :: bs)
    have o1 := hM.go hi b
    have o2 := hM.go hj b
    cases e1 : (rowAt M i).go b with
    | ix p =>
      rw [e1] at hgo o1
      cases e2 : (rowAt M j).go b with
      | ix q =>
        rw [e2] at hgo o2
        simp only [kindAt, Sum.inl.injEq, Int.natCast_inj]
        exact h p q o1 o2 hgo
      | wd w =>
        rw [e2] at hgo
        have := hgo []
        rw [beh_nil, beh_wd] at this
        cases this
    | wd w =>
      rw [e1] at hgo
      cases e2 : (rowAt M j).go b with
      | ix q =>
        rw [e2] at hgo
        have := hgo []
        rw [beh_nil, beh_wd] at this
        cases this
      | wd v =>
        rw [e2] at hgo
        have := hgo []
        rw [beh_wd, beh_wd] at this
        exact congrArg Sum.inr (Sum.inr.inj this)
theorem kloop_coarse {M : Mc} (hM : Wf M) : ∀ (f : Nat) (K : List Nat) (many : Nat), Coarse M K → Coarse M (kloop M f K many)
  | 0, _, _, h => h
  | f + 1, K, many, h => by
    unfold kloop
    split
    · exact kloop_coarse hM f _ _ (coarse_next hM h)
    · exact h
theorem stable_beh {M : Mc} (hM : Wf M) {K : List Nat} (h : Stable M K) : ∀ (bs : List Bool) (i j : Nat), i < M.length → j < M.length → kAt K i = kAt K j → beh M bs (.ix i) = beh M bs (.ix j)
  | [], i, j, hi, hj, e => by
    rw [beh_nil, beh_nil, (h i j hi hj e).1]
  | b :: bs, i, j, hi, hj, e => by
    rw [beh_cons, beh_cons]
    have h2 := (h i j hi hj e).2 b
    have o1 := hM.go hi b
    have o2 := hM.go hj b
    cases e1 : (rowAt M i).go b with
    | ix p =>
      rw [e1] at h2 o1
      cases e2 : (rowAt M j).go b with
      | ix q =>
        rw [e2] at h2 o2
        simp only [kindAt, Sum.inl.injEq, Int.natCast_inj] at h2
        exact stable_beh hM h bs p q o1 o2 h2
      | wd w =>
        rw [e2] at h2
        simp [kindAt] at h2
    | wd w =>
      rw [e1] at h2
      cases e2 : (rowAt M j).go b with
      | ix q =>
        rw [e2] at h2
        simp [kindAt] at h2
      | wd v =>
        rw [e2] at h2
        simp only [kindAt, Sum.inr.injEq] at h2
        rw [h2]
/-- equal kinds: rows that show the same -/
theorem kinds_iff {M : Mc} (hM : Wf M) {i j : Nat} (hi : i < M.length) (hj : j < M.length) : kAt (kindsOf M) i = kAt (kindsOf M) j ↔ ∀ bs, beh M bs (.ix i) = beh M bs (.ix j) :=
  ⟨fun h bs => stable_beh hM (kindsOf_stable hM) bs i j hi hj h, kloop_coarse hM _ _ _ (coarse_puts M) i j hi hj⟩
end KX
end
section
set_option autoImplicit false
/-! Plain mathematics 2: the least form; made again it is itself. -/
namespace KX
open PySem

def addP (K : List Nat) (kept : List Nat) : Pl → List Nat
  | .wd _ => kept
  | .ix q => if kAt K q ∈ kept.map (kAt K) then kept else kept ++ [q]
theorem addP_wd (K : List Nat) (kept : List Nat) (w : Str) : addP K kept (.wd w) = kept := rfl
theorem addP_ix (K : List Nat) (kept : List Nat) (q : Nat) : addP K kept (.ix q) = if kAt K q ∈ kept.map (kAt K) then kept else kept ++ [q] := rfl
def visit (M : Mc) (K : List Nat) (kept : List Nat) (at_ : Nat) : List Nat :=
  let r := rowAt M (kept.getD at_ 0)
  addP K (addP K kept r.s) r.w
def bfs (M : Mc) (K : List Nat) : Nat → List Nat → Nat → List Nat
  | 0, kept, _ => kept
  | f + 1, kept, at_ => if at_ < kept.length then bfs M K f (visit M K kept at_) (at_ + 1) else kept
def ren (K : List Nat) (kept : List Nat) : Pl → Pl
  | .wd w => .wd w
  | .ix q => .ix (ixOf (kept.map (kAt K)) (kAt K q))
theorem ren_wd (K : List Nat) (kept : List Nat) (w : Str) : ren K kept (.wd w) = .wd w := rfl
theorem ren_ix (K : List Nat) (kept : List Nat) (q : Nat) : ren K kept (.ix q) = .ix (ixOf (kept.map (kAt K)) (kAt K q)) := rfl
def foundR (M : Mc) (K : List Nat) (kept : List Nat) : Mc := kept.map fun old => ⟨(rowAt M old).put, ren K kept (rowAt M old).s, ren K kept (rowAt M old).w⟩
def keptOf (M : Mc) (n0 : Nat) : List Nat := bfs M (kindsOf M) (M.length + 1) (List.range n0) 0
def leastRows (M : Mc) (n0 : Nat) : Mc := foundR M (kindsOf M) (keptOf M n0)

/-- the rows that are kept so far -/
structure KeptOk (M : Mc) (K : List Nat) (n0 : Nat) (kept : List Nat) : Prop where
  lt : ∀ q ∈ kept, q < M.length
  pre : kept.take n0 = List.range n0
  len : n0 ≤ kept.length
  new : ∀ p, n0 ≤ p → ∀ q, kept[p]? = some q → kAt K q ∉ (kept.take p).map (kAt K)
theorem KeptOk.start {M : Mc} {K : List Nat} {n0 : Nat} (h : n0 ≤ M.length) : KeptOk M K n0 (List.range n0) where
  lt := fun q hq => by have := List.mem_range.mp hq; omega
  pre := by rw [List.take_of_length_le]; simp
  len := by simp
  new := fun p hp q hq => by
    have : p < (List.range n0).length := (List.getElem?_eq_some_iff.mp hq).1
    rw [List.length_range] at this
    omega
theorem KeptOk.add {M : Mc} {K : List Nat} {n0 : Nat} {kept : List Nat} (h : KeptOk M K n0 kept) {p : Pl} (hp : p.ok M.length) : KeptOk M K n0 (addP K kept p) := by
  cases p with
  | wd w => exact h
  | ix q =>
    rw [addP_ix]
    by_cases hm : kAt K q ∈ kept.map (kAt K)
    · rw [if_pos hm]
      exact h
    · rw [if_neg hm]
      refine ⟨fun x hx => ?_, ?_, ?_, fun i hi x hx => ?_⟩
      · rcases List.mem_append.mp hx with hx | hx
        · exact h.lt x hx
        · rw [List.mem_singleton.mp hx]
          exact hp
      · rw [List.take_append_of_le_length h.len]
        exact h.pre
      · rw [List.length_append]
        have := h.len
        omega
      · by_cases e : i < kept.length
        · rw [List.getElem?_append_left e] at hx
          rw [List.take_append_of_le_length (by omega)]
          exact h.new i hi x hx
        · have hlt := (List.getElem?_eq_some_iff.mp hx).1
          rw [List.length_append, List.length_singleton] at hlt
          have ei : i = kept.length := by omega
          rw [ei, List.getElem?_append_right (Nat.le_refl _), Nat.sub_self] at hx
          have ex : q = x := by simpa using hx
          rw [ei, List.take_append_of_le_length (Nat.le_refl _), List.take_of_length_le (Nat.le_refl _), ← ex]
          exact hm
theorem KeptOk.visit {M : Mc} (hM : Wf M) {K : List Nat} {n0 : Nat} {kept : List Nat} (h : KeptOk M K n0 kept) {a : Nat} (ha : a < kept.length) : KeptOk M K n0 (visit M K kept a) := by
  unfold KX.visit
  have hq : kept.getD a 0 < M.length := by
    rw [List.getD_eq_getElem?_getD, List.getElem?_eq_getElem ha]
    exact h.lt _ (List.getElem_mem ha)
  exact (h.add (hM.go hq false)).add (hM.go hq true)
theorem KeptOk.bfs {M : Mc} (hM : Wf M) {K : List Nat} {n0 : Nat} : ∀ (f : Nat) (kept : List Nat) (a : Nat), KeptOk M K n0 kept → KeptOk M K n0 (bfs M K f kept a)
  | 0, _, _, h => h
  | f + 1, kept, a, h => by
    unfold KX.bfs
    split
    · rename_i ha
      exact KeptOk.bfs hM f _ _ (h.visit hM ha)
    · exact h
theorem KeptOk.nodup {M : Mc} {K : List Nat} {n0 : Nat} {kept : List Nat} (h : KeptOk M K n0 kept) : kept.Nodup := by
  refine List.pairwise_iff_getElem.mpr ?_
  intro i j hi' hj hij e0
  have e : kept[i]? = kept[j]? := by rw [List.getElem?_eq_getElem hi', List.getElem?_eq_getElem hj, e0]
  by_cases hn : n0 ≤ j
  · have hx := List.getElem?_eq_getElem hj
    apply h.new j hn _ hx
    have hi : kept[i]? = some kept[j] := e.trans hx
    refine List.mem_map.mpr ⟨kept[j], ?_, rfl⟩
    refine List.mem_of_getElem? (i := i) ?_
    rw [List.getElem?_take, if_pos hij]
    exact hi
  · have e1 : kept[i]? = (List.range n0)[i]? := by
      rw [← h.pre, List.getElem?_take, if_pos (by omega)]
    have e2 : kept[j]? = (List.range n0)[j]? := by
      rw [← h.pre, List.getElem?_take, if_pos (by omega)]
    rw [e1, e2, List.getElem?_range (by omega), List.getElem?_range (by omega)] at e
    have := Option.some.inj e
    omega
theorem KeptOk.length_le {M : Mc} {K : List Nat} {n0 : Nat} {kept : List Nat} (h : KeptOk M K n0 kept) : kept.length ≤ M.length := by
  have := sub_of_len (xs := kept) (ys := List.range M.length) h.nodup fun q hq => List.mem_range.mpr (h.lt q hq)
  simpa using this

/-! prefixes -/
theorem addP_prefix (K : List Nat) (kept : List Nat) (p : Pl) : kept <+: addP K kept p := by
  cases p with
  | wd w => exact List.prefix_refl _
  | ix q =>
    rw [addP_ix]
    split
    · exact List.prefix_refl _
    · exact List.prefix_append _ _
theorem visit_prefix (M : Mc) (K : List Nat) (kept : List Nat) (a : Nat) : kept <+: visit M K kept a :=
  (addP_prefix K kept _).trans (addP_prefix K _ _)
theorem bfs_prefix (M : Mc) (K : List Nat) : ∀ (f : Nat) (kept : List Nat) (a : Nat), kept <+: bfs M K f kept a
  | 0, _, _ => List.prefix_refl _
  | f + 1, kept, a => by
    unfold bfs
    split
    · exact (visit_prefix M K kept a).trans (bfs_prefix M K f _ _)
    · exact List.prefix_refl _
theorem mem_addP (K : List Nat) (kept : List Nat) (q : Nat) : kAt K q ∈ (addP K kept (.ix q)).map (kAt K) := by
  rw [addP_ix]
  split
  · assumption
  · rw [List.map_append]
    exact List.mem_append_right _ (by simp)
theorem mem_of_prefix {K : List Nat} {a b : List Nat} (h : a <+: b) {x : Nat} (hx : x ∈ a.map (kAt K)) : x ∈ b.map (kAt K) := by
  obtain ⟨t, e⟩ := h
  rw [← e, List.map_append]
  exact List.mem_append_left _ hx
theorem getD_prefix {a b : List Nat} (h : a <+: b) {i : Nat} (hi : i < a.length) : b.getD i 0 = a.getD i 0 := by
  obtain ⟨t, e⟩ := h
  rw [← e, List.getD_eq_getElem?_getD, List.getD_eq_getElem?_getD, List.getElem?_append_left hi]

/-- every row that follows a kept one has a kind that is kept -/
def Closed (M : Mc) (K : List Nat) (kept : List Nat) (a : Nat) : Prop :=
  ∀ p, p < a → p < kept.length → ∀ b q, (rowAt M (kept.getD p 0)).go b = .ix q → kAt K q ∈ kept.map (kAt K)
theorem closed_visit {M : Mc} {K : List Nat} {kept : List Nat} {a : Nat} (h : Closed M K kept a) (ha : a < kept.length) : Closed M K (visit M K kept a) (a + 1) := by
  intro p hp _ b q hq
  have hpre := visit_prefix M K kept a
  have hpl : p < kept.length := by omega
  rw [getD_prefix hpre hpl] at hq
  by_cases e : p < a
  · exact mem_of_prefix hpre (h p e hpl b q hq)
  · have ea : p = a := by omega
    subst ea
    unfold visit
    cases b with
    | false =>
      have hq' : (rowAt M (kept.getD p 0)).s = .ix q := hq
      refine mem_of_prefix (addP_prefix K _ _) ?_
      rw [hq']
      exact mem_addP K kept q
    | true =>
      have hq' : (rowAt M (kept.getD p 0)).w = .ix q := hq
      show kAt K q ∈ (addP K (addP K kept (rowAt M (kept.getD p 0)).s) (rowAt M (kept.getD p 0)).w).map (kAt K)
      rw [hq']
      exact mem_addP K _ q
theorem closed_bfs {M : Mc} (hM : Wf M) {K : List Nat} {n0 : Nat} : ∀ (f : Nat) (kept : List Nat) (a : Nat), KeptOk M K n0 kept → Closed M K kept a → a ≤ kept.length → M.length < f + a →
    Closed M K (bfs M K f kept a) (bfs M K f kept a).length
  | 0, kept, a, ho, h, hl, hf => by
    have := ho.length_le
    omega
  | f + 1, kept, a, ho, h, hl, hf => by
    unfold bfs
    split
    · rename_i ha
      refine closed_bfs hM f _ _ (ho.visit hM ha) (closed_visit h ha) ?_ (by omega)
      have := (visit_prefix M K kept a).length_le
      omega
    · intro p hp
      exact h p (by omega)
theorem bfs_fuel {M : Mc} (hM : Wf M) {K : List Nat} {n0 : Nat} : ∀ (f g : Nat) (kept : List Nat) (a : Nat), KeptOk M K n0 kept → M.length ≤ f + a → M.length ≤ g + a → bfs M K f kept a = bfs M K g kept a
  | 0, 0, _, _, _, _, _ => rfl
  | 0, g + 1, kept, a, ho, h1, h2 => by
    have := ho.length_le
    unfold bfs
    rw [if_neg (by omega)]
  | f + 1, 0, kept, a, ho, h1, h2 => by
    have := ho.length_le
    unfold bfs
    rw [if_neg (by omega)]
  | f + 1, g + 1, kept, a, ho, h1, h2 => by
    unfold bfs
    by_cases ha : a < kept.length
    · rw [if_pos ha, if_pos ha]
      exact bfs_fuel hM f g _ _ (ho.visit hM ha) (by omega) (by omega)
    · rw [if_neg ha, if_neg ha]

/-! the least form of a machine -/
section
variable {M : Mc} {n0 : Nat}
theorem keptOf_ok (hM : Wf M) (hn : n0 ≤ M.length) : KeptOk M (kindsOf M) n0 (keptOf M n0) := KeptOk.bfs hM _ _ _ (KeptOk.start hn)
theorem keptOf_closed (hM : Wf M) (hn : n0 ≤ M.length) : Closed M (kindsOf M) (keptOf M n0) (keptOf M n0).length :=
  closed_bfs hM _ _ _ (KeptOk.start hn) (fun p hp => by omega) (Nat.zero_le _) (by omega)
theorem leastRows_len : (leastRows M n0).length = (keptOf M n0).length := by simp [leastRows, foundR]
theorem leastRows_row {p : Nat} (h : p < (keptOf M n0).length) : rowAt (leastRows M n0) p =
    ⟨(rowAt M ((keptOf M n0).getD p 0)).put, ren (kindsOf M) (keptOf M n0) (rowAt M ((keptOf M n0).getD p 0)).s, ren (kindsOf M) (keptOf M n0) (rowAt M ((keptOf M n0).getD p 0)).w⟩ := by
  refine rowAt_of ?_
  unfold leastRows foundR
  rw [List.getElem?_map, List.getD_eq_getElem?_getD, List.getElem?_eq_getElem h]
  rfl
theorem leastRows_go {p : Nat} (h : p < (keptOf M n0).length) (b : Bool) : (rowAt (leastRows M n0) p).go b = ren (kindsOf M) (keptOf M n0) ((rowAt M ((keptOf M n0).getD p 0)).go b) := by
  rw [leastRows_row h]
  cases b <;> rfl
theorem kept_mem {kept : List Nat} {p : Nat} (h : p < kept.length) : kept.getD p 0 ∈ kept := by
  rw [List.getD_eq_getElem?_getD, List.getElem?_eq_getElem h]
  exact List.getElem_mem h
theorem kept_get {kept : List Nat} {p : Nat} (h : p < kept.length) : kept[p]? = some (kept.getD p 0) := by
  rw [List.getD_eq_getElem?_getD, List.getElem?_eq_getElem h]
  rfl
/-- the place of a kept kind -/
theorem ren_place {K kept : List Nat} {q : Nat} (h : kAt K q ∈ kept.map (kAt K)) : ixOf (kept.map (kAt K)) (kAt K q) < kept.length ∧ kAt K (kept.getD (ixOf (kept.map (kAt K)) (kAt K q)) 0) = kAt K q := by
  have h1 := ixOf_lt h
  rw [List.length_map] at h1
  refine ⟨h1, ?_⟩
  have h2 := ixOf_get h
  rw [List.getElem?_map, kept_get h1] at h2
  exact Option.some.inj h2
theorem leastRows_wf (hM : Wf M) (hn : n0 ≤ M.length) : Wf (leastRows M n0) := by
  intro r hr
  obtain ⟨p, hp, e⟩ := List.getElem_of_mem hr
  have hp' : p < (keptOf M n0).length := by rw [← leastRows_len (M := M)]; exact hp
  have er : rowAt (leastRows M n0) p = r := rowAt_of (by rw [List.getElem?_eq_getElem hp, e])
  have key : ∀ b, (r.go b).ok (leastRows M n0).length := by
    intro b
    rw [← er, leastRows_go hp', leastRows_len]
    cases e2 : (rowAt M ((keptOf M n0).getD p 0)).go b with
    | wd w => exact True.intro
    | ix q => exact (ren_place (keptOf_closed hM hn p hp' hp' b q e2)).1
  exact ⟨key false, key true⟩
/-- it shows the same -/
theorem leastRows_beh (hM : Wf M) (hn : n0 ≤ M.length) : ∀ (bs : List Bool) (p : Nat), p < (keptOf M n0).length → beh (leastRows M n0) bs (.ix p) = beh M bs (.ix ((keptOf M n0).getD p 0))
  | [], p, hp => by
    rw [beh_nil, beh_nil, leastRows_row hp]
  | b :: bs, p, hp => by
    rw [beh_cons, beh_cons, leastRows_go hp]
    have hok := keptOf_ok hM hn
    have hq := hok.lt _ (kept_mem hp)
    cases e2 : (rowAt M ((keptOf M n0).getD p 0)).go b with
    | wd w => rw [ren, beh_wd, beh_wd]
    | ix q =>
      have hr := ren_place (keptOf_closed hM hn p hp hp b q e2)
      rw [ren, leastRows_beh hM hn bs _ hr.1]
      have hq2 : q < M.length := by
        have := hM.go hq b
        rw [e2] at this
        exact this
      exact (kinds_iff hM (hok.lt _ (kept_mem hr.1)) hq2).mp hr.2 bs
theorem leastRows_first (hM : Wf M) (hn : n0 ≤ M.length) {p : Nat} (hp : p < n0) : (keptOf M n0).getD p 0 = p ∧ p < (keptOf M n0).length := by
  have hok := keptOf_ok hM hn
  have hl := hok.len
  refine ⟨?_, by omega⟩
  have h1 : (keptOf M n0)[p]? = (List.range n0)[p]? := by
    rw [← hok.pre, List.getElem?_take, if_pos hp]
  rw [List.getD_eq_getElem?_getD, h1, List.getElem?_range hp]
  rfl
theorem leastRows_beh0 (hM : Wf M) (hn : n0 ≤ M.length) {p : Nat} (hp : p < n0) (bs : List Bool) : beh (leastRows M n0) bs (.ix p) = beh M bs (.ix p) := by
  have h := leastRows_first hM hn hp
  rw [leastRows_beh hM hn bs p h.2, h.1]
theorem leastRows_le (hM : Wf M) (hn : n0 ≤ M.length) : (leastRows M n0).length ≤ M.length ∧ n0 ≤ (leastRows M n0).length := by
  rw [leastRows_len]
  exact ⟨(keptOf_ok hM hn).length_le, (keptOf_ok hM hn).len⟩

/-- made again -/
theorem kinds_least (hM : Wf M) (hn : n0 ≤ M.length) {p p' : Nat} (hp : p < (keptOf M n0).length) (hp' : p' < (keptOf M n0).length) :
    kAt (kindsOf (leastRows M n0)) p = kAt (kindsOf (leastRows M n0)) p' ↔ kAt (kindsOf M) ((keptOf M n0).getD p 0) = kAt (kindsOf M) ((keptOf M n0).getD p' 0) := by
  have hok := keptOf_ok hM hn
  rw [kinds_iff (leastRows_wf hM hn) (by rw [leastRows_len]; exact hp) (by rw [leastRows_len]; exact hp'), kinds_iff hM (hok.lt _ (kept_mem hp)) (hok.lt _ (kept_mem hp'))]
  constructor
  · intro h bs
    rw [← leastRows_beh hM hn bs p hp, ← leastRows_beh hM hn bs p' hp']
    exact h bs
  · intro h bs
    rw [leastRows_beh hM hn bs p hp, leastRows_beh hM hn bs p' hp']
    exact h bs

theorem take_range {a b : Nat} (h : a ≤ b) : (List.range b).take a = List.range a := by
  rw [List.take_range, Nat.min_eq_left h]
theorem take_snoc {l : List Nat} {m q : Nat} (h : l[m]? = some q) : l.take (m + 1) = l.take m ++ [q] := by
  rw [List.take_succ, h]
  rfl
/-- adding a place on both sides -/
theorem addP_step (hM : Wf M) (hn : n0 ≤ M.length) {m : Nat} (hm0 : n0 ≤ m) (hm : m ≤ (keptOf M n0).length) {p : Pl}
    (hpre : addP (kindsOf M) ((keptOf M n0).take m) p <+: keptOf M n0) :
    ∃ m', n0 ≤ m' ∧ m ≤ m' ∧ m' ≤ (keptOf M n0).length ∧ addP (kindsOf M) ((keptOf M n0).take m) p = (keptOf M n0).take m' ∧
      addP (kindsOf (leastRows M n0)) (List.range m) (ren (kindsOf M) (keptOf M n0) p) = List.range m' := by
  cases p with
  | wd w => exact ⟨m, hm0, Nat.le_refl _, hm, rfl, rfl⟩
  | ix q =>
    have hok := keptOf_ok hM hn
    by_cases hk : kAt (kindsOf M) q ∈ ((keptOf M n0).take m).map (kAt (kindsOf M))
    · refine ⟨m, hm0, Nat.le_refl _, hm, ?_, ?_⟩
      · rw [addP_ix, if_pos hk]
      · have hlt : ixOf ((keptOf M n0).map (kAt (kindsOf M))) (kAt (kindsOf M) q) < m := by
          refine ixOf_of_take ?_
          rw [← List.map_take]
          exact hk
        rw [ren_ix, addP_ix, if_pos (List.mem_map.mpr ⟨_, List.mem_range.mpr hlt, rfl⟩)]
    · have e1 : addP (kindsOf M) ((keptOf M n0).take m) (.ix q) = (keptOf M n0).take m ++ [q] := by
        rw [addP_ix]
        rw [if_neg hk]
      rw [e1] at hpre
      obtain ⟨t, ht⟩ := hpre
      have hlen : ((keptOf M n0).take m).length = m := by rw [List.length_take]; omega
      have hget : (keptOf M n0)[m]? = some q := by
        rw [← ht, List.append_assoc, List.getElem?_append_right (by omega), hlen, Nat.sub_self]
        rfl
      have hml : m < (keptOf M n0).length := (List.getElem?_eq_some_iff.mp hget).1
      have hgd : (keptOf M n0).getD m 0 = q := by rw [List.getD_eq_getElem?_getD, hget]; rfl
      refine ⟨m + 1, by omega, by omega, by omega, e1.trans (take_snoc hget).symm, ?_⟩
      have hix : ixOf ((keptOf M n0).map (kAt (kindsOf M))) (kAt (kindsOf M) q) = m := by
        refine ixOf_eq_of ?_ ?_
        · rw [List.getElem?_map, hget]
          rfl
        · rw [← List.map_take]
          exact hk
      rw [ren_ix, addP_ix, hix, if_neg, List.range_succ]
      intro hmem
      obtain ⟨p', hp', e⟩ := List.mem_map.mp hmem
      have hp'' := List.mem_range.mp hp'
      have := (kinds_least hM hn (p := p') (p' := m) (by omega) hml).mp e
      rw [hgd] at this
      refine hk (List.mem_map.mpr ⟨(keptOf M n0).getD p' 0, ?_, this⟩)
      refine List.mem_of_getElem? (i := p') ?_
      rw [List.getElem?_take, if_pos hp'']
      exact kept_get (by omega)
theorem bfs_again (hM : Wf M) (hn : n0 ≤ M.length) : ∀ (f m a : Nat), n0 ≤ m → m ≤ (keptOf M n0).length → bfs M (kindsOf M) f ((keptOf M n0).take m) a = keptOf M n0 →
    bfs (leastRows M n0) (kindsOf (leastRows M n0)) f (List.range m) a = List.range (keptOf M n0).length
  | 0, m, a, h0, hm, h => by
    have h' : (keptOf M n0).take m = keptOf M n0 := h
    have : m = (keptOf M n0).length := by
      have := congrArg List.length h'
      rw [List.length_take] at this
      omega
    show List.range m = _
    rw [this]
  | f + 1, m, a, h0, hm, h => by
    have hlen : ((keptOf M n0).take m).length = m := by rw [List.length_take]; omega
    unfold bfs at h ⊢
    rw [hlen] at h
    rw [List.length_range]
    by_cases ha : a < m
    · rw [if_pos ha] at h ⊢
      have ek : ((keptOf M n0).take m).getD a 0 = (keptOf M n0).getD a 0 := (getD_prefix (List.take_prefix m _) (by omega)).symm
      have er : (List.range m).getD a 0 = a := by rw [List.getD_eq_getElem?_getD, List.getElem?_range ha]; rfl
      have hpre := bfs_prefix M (kindsOf M) f (visit M (kindsOf M) ((keptOf M n0).take m) a) (a + 1)
      rw [h] at hpre
      unfold visit at hpre h ⊢
      rw [ek] at hpre h
      rw [er, leastRows_row (by omega)]
      simp only at hpre h ⊢
      obtain ⟨m1, g0, g1, g2, e1, e2⟩ := addP_step hM hn h0 hm ((addP_prefix _ _ _).trans hpre)
      rw [e1] at hpre h
      rw [e2]
      obtain ⟨m2, k0, k1, k2, e3, e4⟩ := addP_step hM hn g0 g2 hpre
      rw [e3] at h
      rw [e4]
      exact bfs_again hM hn f m2 (a + 1) k0 k2 h
    · rw [if_neg ha] at h ⊢
      have : m = (keptOf M n0).length := by
        have := congrArg List.length h
        omega
      rw [this]
theorem keptOf_least (hM : Wf M) (hn : n0 ≤ M.length) : keptOf (leastRows M n0) n0 = List.range (keptOf M n0).length := by
  have hok := keptOf_ok hM hn
  have hle := leastRows_le hM hn
  have h1 := bfs_again hM hn (M.length + 1) n0 0 (Nat.le_refl _) hok.len (by rw [hok.pre]; rfl)
  rw [← h1]
  unfold keptOf
  exact bfs_fuel (leastRows_wf hM hn) _ _ _ _ (KeptOk.start hle.2) (by omega) (by omega)
/-- THE LEAST FORM IS ITS OWN LEAST FORM -/
theorem leastRows_again (hM : Wf M) (hn : n0 ≤ M.length) : leastRows (leastRows M n0) n0 = leastRows M n0 := by
  have hk := keptOf_least hM hn
  have hwf := leastRows_wf hM hn
  apply List.ext_getElem?
  intro p
  by_cases hp : p < (keptOf M n0).length
  · have hp2 : p < (keptOf (leastRows M n0) n0).length := by rw [hk, List.length_range]; exact hp
    have hg : (keptOf (leastRows M n0) n0).getD p 0 = p := by rw [hk, List.getD_eq_getElem?_getD, List.getElem?_range hp]; rfl
    rw [rowAt_get (by rw [leastRows_len]; exact hp2), rowAt_get (by rw [leastRows_len]; exact hp)]
    congr 1
    rw [leastRows_row hp2, hg]
    have key : ∀ b, ren (kindsOf (leastRows M n0)) (keptOf (leastRows M n0) n0) ((rowAt (leastRows M n0) p).go b) = (rowAt (leastRows M n0) p).go b := by
      intro b
      rw [leastRows_go hp]
      cases e2 : (rowAt M ((keptOf M n0).getD p 0)).go b with
      | wd w => rfl
      | ix q =>
        have hc := keptOf_closed hM hn p hp hp b q e2
        have hr := ren_place hc
        rw [ren_ix, ren_ix, hk]
        congr 1
        generalize hi : ixOf ((keptOf M n0).map (kAt (kindsOf M))) (kAt (kindsOf M) q) = i at hr
        refine ixOf_eq_of ?_ ?_
        · rw [List.getElem?_map, List.getElem?_range hr.1]
          rfl
        · intro hmem
          rw [← List.map_take, take_range (by omega)] at hmem
          obtain ⟨j, hj, e⟩ := List.mem_map.mp hmem
          have hj' := List.mem_range.mp hj
          have e' := (kinds_least hM hn (p := j) (p' := i) (by omega) hr.1).mp e
          rw [hr.2] at e'
          have : kAt (kindsOf M) q ∉ ((keptOf M n0).map (kAt (kindsOf M))).take i := by rw [← hi]; exact ixOf_not_before
          refine this (List.mem_of_getElem? (i := j) ?_)
          rw [List.getElem?_take, if_pos hj', List.getElem?_map, kept_get (by omega)]
          exact congrArg some e'
    have e1 := key false
    have e2 := key true
    unfold Rw.go at e1 e2
    simp only [Bool.false_eq_true, if_false, if_true] at e1 e2
    rw [e1, e2]
  · rw [List.getElem?_eq_none (by rw [leastRows_len, hk, List.length_range]; omega), List.getElem?_eq_none (by rw [leastRows_len]; omega)]
end
end KX
end
section
set_option autoImplicit false
/-! Plain mathematics 3: rows with names, machines of them; the counted ends' stations. -/
namespace KX
open PySem

/-! ### rows by names -/
structure Rn where
  put : Nat
  s : Str
  w : Str
abbrev Rs := List (Str × Rn)
def putA (rs : Rs) (n : Str) (r : Rn) : Rs := if (rs.any fun x => decide (x.1 = n)) = true then rs.map (fun x => if x.1 = n then (x.1, r) else x) else rs ++ [(n, r)]
def putAll (rs more : Rs) : Rs := more.foldl (fun a x => putA a x.1 x.2) rs
def keysR (rs : Rs) : List Str := rs.map (·.1)
def getR (rs : Rs) (n : Str) : Option Rn := (rs.find? fun x => decide (x.1 = n)).map (·.2)

theorem any_key (rs : Rs) (n : Str) : (rs.any fun x => decide (x.1 = n)) = true ↔ n ∈ keysR rs := by
  unfold keysR
  rw [List.any_eq_true, List.mem_map]
  constructor
  · rintro ⟨x, hx, e⟩
    exact ⟨x, hx, of_decide_eq_true e⟩
  · rintro ⟨x, hx, e⟩
    exact ⟨x, hx, decide_eq_true e⟩
theorem putA_old {rs : Rs} {n : Str} (h : n ∈ keysR rs) (r : Rn) : putA rs n r = rs.map (fun x => if x.1 = n then (x.1, r) else x) := by
  unfold putA
  rw [if_pos ((any_key rs n).mpr h)]
theorem putA_new {rs : Rs} {n : Str} (h : n ∉ keysR rs) (r : Rn) : putA rs n r = rs ++ [(n, r)] := by
  unfold putA
  rw [if_neg (fun e => h ((any_key rs n).mp e))]
theorem keys_putA_old {rs : Rs} {n : Str} (h : n ∈ keysR rs) (r : Rn) : keysR (putA rs n r) = keysR rs := by
  rw [putA_old h]
  unfold keysR
  rw [List.map_map]
  apply List.map_congr_left
  intro x _
  show (if x.1 = n then (x.1, r) else x).1 = x.1
  split <;> rfl
theorem keys_putA_new {rs : Rs} {n : Str} (h : n ∉ keysR rs) (r : Rn) : keysR (putA rs n r) = keysR rs ++ [n] := by
  rw [putA_new h]
  unfold keysR
  rw [List.map_append]
  rfl
theorem mem_keys_putA (rs : Rs) (n m : Str) (r : Rn) : m ∈ keysR (putA rs n r) ↔ m ∈ keysR rs ∨ m = n := by
  by_cases h : n ∈ keysR rs
  · rw [keys_putA_old h]
    exact ⟨.inl, fun q => q.elim id fun e => e ▸ h⟩
  · rw [keys_putA_new h, List.mem_append, List.mem_singleton]
theorem nodup_putA {rs : Rs} (h : (keysR rs).Nodup) (n : Str) (r : Rn) : (keysR (putA rs n r)).Nodup := by
  by_cases hn : n ∈ keysR rs
  · rw [keys_putA_old hn]
    exact h
  · rw [keys_putA_new hn]
    exact nodup_snoc h hn
theorem mem_putA {rs : Rs} {n : Str} {r : Rn} {x : Str × Rn} (h : x ∈ putA rs n r) : x ∈ rs ∨ x = (n, r) := by
  by_cases hn : n ∈ keysR rs
  · rw [putA_old hn] at h
    obtain ⟨y, hy, e⟩ := List.mem_map.mp h
    by_cases hyn : y.1 = n
    · rw [if_pos hyn] at e
      exact .inr (by rw [← e, hyn])
    · rw [if_neg hyn] at e
      exact .inl (e ▸ hy)
  · rw [putA_new hn] at h
    rcases List.mem_append.mp h with h | h
    · exact .inl h
    · exact .inr (List.mem_singleton.mp h)
theorem len_putA (rs : Rs) (n : Str) (r : Rn) : (putA rs n r).length ≤ rs.length + 1 := by
  by_cases hn : n ∈ keysR rs
  · rw [putA_old hn, List.length_map]
    omega
  · rw [putA_new hn, List.length_append]
    exact Nat.le_refl _
theorem putAll_cons (rs : Rs) (x : Str × Rn) (more : Rs) : putAll rs (x :: more) = putAll (putA rs x.1 x.2) more := rfl
theorem putAll_snoc (rs more : Rs) (x : Str × Rn) : putAll rs (more ++ [x]) = putA (putAll rs more) x.1 x.2 := by
  unfold putAll
  rw [List.foldl_append]
  rfl
theorem mem_keys_putAll (rs more : Rs) (m : Str) : m ∈ keysR (putAll rs more) ↔ m ∈ keysR rs ∨ m ∈ keysR more := by
  induction more generalizing rs with
  | nil =>
    show m ∈ keysR rs ↔ m ∈ keysR rs ∨ m ∈ []
    simp
  | cons x more ih =>
    rw [putAll_cons, ih, mem_keys_putA]
    show (m ∈ keysR rs ∨ m = x.1) ∨ m ∈ keysR more ↔ m ∈ keysR rs ∨ m ∈ x.1 :: keysR more
    rw [List.mem_cons, or_assoc]
theorem nodup_putAll {rs : Rs} (h : (keysR rs).Nodup) (more : Rs) : (keysR (putAll rs more)).Nodup := by
  induction more generalizing rs with
  | nil => exact h
  | cons x more ih => exact ih (nodup_putA h _ _)
theorem mem_putAll {rs more : Rs} {x : Str × Rn} (h : x ∈ putAll rs more) : x ∈ rs ∨ x ∈ more := by
  induction more generalizing rs with
  | nil => exact .inl h
  | cons y more ih =>
    rcases ih h with h | h
    · rcases mem_putA h with h | h
      · exact .inl h
      · exact .inr (h ▸ List.mem_cons_self)
    · exact .inr (List.mem_cons_of_mem _ h)
theorem len_putAll (rs more : Rs) : (putAll rs more).length ≤ rs.length + more.length := by
  induction more generalizing rs with
  | nil => exact Nat.le_refl _
  | cons y more ih =>
    rw [putAll_cons, List.length_cons]
    have := ih (putA rs y.1 y.2)
    have := len_putA rs y.1 y.2
    omega
theorem keysR_append (a b : Rs) : keysR (a ++ b) = keysR a ++ keysR b := List.map_append
theorem putAll_append {rs more : Rs} (h : (keysR (rs ++ more)).Nodup) : putAll rs more = rs ++ more := by
  induction more generalizing rs with
  | nil => simp [putAll]
  | cons y more ih =>
    have hy : y.1 ∉ keysR rs := by
      intro hm
      rw [keysR_append, List.nodup_append] at h
      exact h.2.2 _ hm y.1 (show y.1 ∈ y.1 :: keysR more from List.mem_cons_self) rfl
    rw [putAll_cons, putA_new hy, ih]
    · simp
    · simpa using h
theorem getR_mem {rs : Rs} (h : (keysR rs).Nodup) {n : Str} {r : Rn} (hm : (n, r) ∈ rs) : getR rs n = some r := by
  induction rs with
  | nil => cases hm
  | cons x rs ih =>
    have h' : x.1 ∉ keysR rs ∧ (keysR rs).Nodup := List.nodup_cons.mp h
    unfold getR
    rw [List.find?_cons]
    by_cases e : x.1 = n
    · rw [decide_eq_true e]
      rcases List.mem_cons.mp hm with q | q
      · rw [← q]
        rfl
      · exfalso
        apply h'.1
        rw [e]
        exact List.mem_map.mpr ⟨(n, r), q, rfl⟩
    · rw [decide_eq_false e]
      rcases List.mem_cons.mp hm with q | q
      · exact absurd (by rw [← q]) e
      · exact ih h'.2 q
theorem getR_some {rs : Rs} {n : Str} {r : Rn} (h : getR rs n = some r) : (n, r) ∈ rs := by
  unfold getR at h
  cases e : rs.find? fun x => decide (x.1 = n) with
  | none => rw [e] at h; cases h
  | some x =>
    rw [e] at h
    have h1 := List.mem_of_find?_eq_some e
    have h2 := List.find?_some e
    have h3 : x.1 = n := of_decide_eq_true h2
    have h4 : x.2 = r := Option.some.inj h
    rw [← h3, ← h4]
    exact h1
theorem getR_key {rs : Rs} {n : Str} (h : n ∈ keysR rs) : ∃ r, getR rs n = some r := by
  cases e : getR rs n with
  | some r => exact ⟨r, rfl⟩
  | none =>
    exfalso
    unfold getR at e
    rw [Option.map_eq_none_iff, List.find?_eq_none] at e
    obtain ⟨x, hx, hn⟩ := List.mem_map.mp h
    exact e x hx (decide_eq_true hn)

/-! ### the machine of rows with names -/
def namesOf (rs : Rs) (fs : List Str) : List Str := fs ++ (keysR rs).filter fun n => decide (n ∉ fs)
def plN (names : List Str) (x : Str) : Pl := if x ∈ names then .ix (ixOf names x) else .wd x
def rowN (rs : Rs) (names : List Str) (n : Str) : Rw :=
  match getR rs n with
  | some r => ⟨r.put, plN names r.s, plN names r.w⟩
  | none => row0
def numberedR (rs : Rs) (fs : List Str) : Mc := (namesOf rs fs).map (rowN rs (namesOf rs fs))

structure FsOk (rs : Rs) (fs : List Str) : Prop where
  nd : (keysR rs).Nodup
  fn : fs.Nodup
  sub : ∀ n ∈ fs, n ∈ keysR rs
section
variable {rs : Rs} {fs : List Str}
theorem mem_names (h : FsOk rs fs) (n : Str) : n ∈ namesOf rs fs ↔ n ∈ keysR rs := by
  unfold namesOf
  rw [List.mem_append, List.mem_filter, decide_eq_true_iff]
  constructor
  · rintro (h1 | h1)
    · exact h.sub n h1
    · exact h1.1
  · intro h1
    by_cases hf : n ∈ fs
    · exact .inl hf
    · exact .inr ⟨h1, hf⟩
theorem names_nodup (h : FsOk rs fs) : (namesOf rs fs).Nodup := by
  unfold namesOf
  rw [List.nodup_append]
  refine ⟨h.fn, h.nd.filter _, fun a ha b hb e => ?_⟩
  rw [List.mem_filter, decide_eq_true_iff] at hb
  exact hb.2 (e ▸ ha)
theorem names_len (h : FsOk rs fs) : (namesOf rs fs).length = rs.length := by
  have h1 := sub_of_len (names_nodup h) fun n hn => (mem_names h n).mp hn
  have h2 := sub_of_len h.nd fun n hn => (mem_names h n).mpr hn
  have h3 : (keysR rs).length = rs.length := List.length_map _
  omega
theorem numberedR_len : (numberedR rs fs).length = (namesOf rs fs).length := by simp [numberedR]
theorem numberedR_row (h : FsOk rs fs) {n : Str} {r : Rn} (hr : getR rs n = some r) :
    rowAt (numberedR rs fs) (ixOf (namesOf rs fs) n) = ⟨r.put, plN (namesOf rs fs) r.s, plN (namesOf rs fs) r.w⟩ := by
  have hn : n ∈ namesOf rs fs := (mem_names h n).mpr (List.mem_map.mpr ⟨_, getR_some hr, rfl⟩)
  refine rowAt_of ?_
  unfold numberedR
  rw [List.getElem?_map, ixOf_get hn]
  show some (rowN rs (namesOf rs fs) n) = _
  unfold rowN
  rw [hr]
/-- each of its rows is that of a name -/
theorem numberedR_mem (h : FsOk rs fs) {x : Rw} (hx : x ∈ numberedR rs fs) : ∃ n r, getR rs n = some r ∧ x = ⟨r.put, plN (namesOf rs fs) r.s, plN (namesOf rs fs) r.w⟩ := by
  unfold numberedR at hx
  obtain ⟨n, hn, e⟩ := List.mem_map.mp hx
  obtain ⟨r, hr⟩ := getR_key ((mem_names h n).mp hn)
  refine ⟨n, r, hr, ?_⟩
  rw [← e]
  unfold rowN
  rw [hr]
theorem plN_ok (h : FsOk rs fs) (x : Str) : (plN (namesOf rs fs) x).ok (numberedR rs fs).length := by
  unfold plN
  split
  · rename_i hx
    rw [numberedR_len]
    exact ixOf_lt hx
  · exact True.intro
end

/-! ### what an end asks of its machines -/
structure VM (words : List Str) (M : Mc) : Prop where
  wf : Wf M
  put : ∀ r ∈ M, r.put ≤ 1
  wds : ∀ r ∈ M, ∀ b w, r.go b = .wd w → w ∈ words
  len : M.length ≤ 100
def lostS : Str := "lost"
def takenS : Str := "taken"
def againS : Str := "again"
def doneS : Str := "done"
structure VE (Mh Ms : Mc) : Prop where
  h : VM [takenS, lostS] Mh
  s : VM [doneS, againS] Ms
  h2 : 2 ≤ Mh.length
  s1 : 1 ≤ Ms.length
  nt : ∀ bs, beh Mh bs (.ix 1) ≠ .inr takenS

theorem ren_wd_inv {K kept : List Nat} {p : Pl} {w : Str} (h : ren K kept p = .wd w) : p = .wd w := by
  cases p with
  | ix q => rw [ren_ix] at h; cases h
  | wd v => exact h
theorem VM.least {words : List Str} {M : Mc} (h : VM words M) {n0 : Nat} (hn : n0 ≤ M.length) : VM words (leastRows M n0) := by
  have hok := keptOf_ok h.wf hn
  have each : ∀ r ∈ leastRows M n0, ∃ q, q < M.length ∧ r.put = (rowAt M q).put ∧ ∀ b, r.go b = ren (kindsOf M) (keptOf M n0) ((rowAt M q).go b) := by
    intro r hr
    obtain ⟨p, hp, e⟩ := List.getElem_of_mem hr
    have hp' : p < (keptOf M n0).length := by rw [← leastRows_len (M := M)]; exact hp
    have er : rowAt (leastRows M n0) p = r := rowAt_of (by rw [List.getElem?_eq_getElem hp, e])
    refine ⟨(keptOf M n0).getD p 0, hok.lt _ (kept_mem hp'), ?_, fun b => ?_⟩
    · rw [← er, leastRows_row hp']
    · rw [← er, leastRows_go hp']
  refine ⟨leastRows_wf h.wf hn, fun r hr => ?_, fun r hr b w e => ?_, Nat.le_trans (leastRows_le h.wf hn).1 h.len⟩
  · obtain ⟨q, hq, e, _⟩ := each r hr
    rw [e]
    exact h.put _ (rowAt_mem hq)
  · obtain ⟨q, hq, _, e2⟩ := each r hr
    rw [e2 b] at e
    exact h.wds _ (rowAt_mem hq) b w (ren_wd_inv e)
theorem VE.least {Mh Ms : Mc} (h : VE Mh Ms) : VE (leastRows Mh 2) (leastRows Ms 1) where
  h := h.h.least h.h2
  s := h.s.least h.s1
  h2 := (leastRows_le h.h.wf h.h2).2
  s1 := (leastRows_le h.s.wf h.s1).2
  nt := fun bs => by
    rw [leastRows_beh0 h.h.wf h.h2 (by omega)]
    exact h.nt bs

/-- rows by names that make a machine -/
structure RsOk (words : List Str) (rs : Rs) : Prop where
  put : ∀ n r, (n, r) ∈ rs → r.put ≤ 1
  s : ∀ n r, (n, r) ∈ rs → r.s ∈ keysR rs ∨ r.s ∈ words
  w : ∀ n r, (n, r) ∈ rs → r.w ∈ keysR rs ∨ r.w ∈ words
  len : rs.length ≤ 100
theorem vm_numbered {words : List Str} {rs : Rs} {fs : List Str} (h : FsOk rs fs) (k : RsOk words rs) : VM words (numberedR rs fs) where
  wf := fun x hx => by
    obtain ⟨n, r, _, e⟩ := numberedR_mem h hx
    rw [e]
    exact ⟨plN_ok h _, plN_ok h _⟩
  put := fun x hx => by
    obtain ⟨n, r, hr, e⟩ := numberedR_mem h hx
    rw [e]
    exact k.put n r (getR_some hr)
  wds := fun x hx b w hb => by
    obtain ⟨n, r, hr, e⟩ := numberedR_mem h hx
    rw [e] at hb
    have key : ∀ y, (y ∈ keysR rs ∨ y ∈ words) → plN (namesOf rs fs) y = .wd w → w ∈ words := by
      intro y hy hp
      unfold plN at hp
      split at hp
      · cases hp
      · rename_i hn
        have ey : y = w := Pl.wd.inj hp
        rcases hy with hy | hy
        · exact absurd ((mem_names h y).mpr hy) hn
        · exact ey ▸ hy
    cases b with
    | false => exact key r.s (k.s n r (getR_some hr)) hb
    | true => exact key r.w (k.w n r (getR_some hr)) hb
  len := by
    rw [numberedR_len, names_len h]
    exact k.len
/-- a closed family of names from which a word is never met -/
theorem never_word {rs : Rs} {fs : List Str} (h : FsOk rs fs) {P : Str → Prop} {bad : Str} (hc : ∀ n r, (n, r) ∈ rs → P n → P r.s ∧ P r.w) (hb : ∀ n, P n → n ∉ keysR rs → n ≠ bad) :
    ∀ (bs : List Bool) (n : Str), P n → beh (numberedR rs fs) bs (plN (namesOf rs fs) n) ≠ .inr bad
  | bs, n, hn => by
    by_cases hk : n ∈ keysR rs
    · have hm := (mem_names h n).mpr hk
      obtain ⟨r, hr⟩ := getR_key hk
      have hp : plN (namesOf rs fs) n = .ix (ixOf (namesOf rs fs) n) := by unfold plN; rw [if_pos hm]
      rw [hp]
      cases bs with
      | nil =>
        rw [beh_nil]
        intro e
        cases e
      | cons b bs =>
        rw [beh_cons, numberedR_row h hr]
        have hh := hc n r (getR_some hr) hn
        cases b with
        | false => exact never_word h hc hb bs r.s hh.1
        | true => exact never_word h hc hb bs r.w hh.2
    · have hm : n ∉ namesOf rs fs := fun q => hk ((mem_names h n).mp q)
      have hp : plN (namesOf rs fs) n = .wd n := by unfold plN; rw [if_neg hm]
      rw [hp, beh_wd]
      intro e
      exact hb n hn hk (Sum.inr.inj e)
termination_by bs => bs.length
theorem plN_first {rs : Rs} {fs : List Str} {i : Nat} {n : Str} (h : FsOk rs fs) (hi : fs[i]? = some n) : plN (namesOf rs fs) n = .ix i := by
  have hm : n ∈ fs := List.mem_of_getElem? hi
  have hil : i < fs.length := (List.getElem?_eq_some_iff.mp hi).1
  unfold plN
  rw [if_pos (show n ∈ namesOf rs fs from List.mem_append_left _ hm)]
  congr 1
  unfold namesOf
  rw [ixOf_append_left hm]
  refine ixOf_eq_of hi fun hq => ?_
  obtain ⟨j, hj, e⟩ := List.getElem_of_mem hq
  rw [List.length_take] at hj
  rw [List.getElem_take] at e
  have e2 : fs[i] = n := (List.getElem?_eq_some_iff.mp hi).2
  have := (List.getElem_inj h.fn).mp (e.trans e2.symm)
  omega
end KX
end
section
set_option autoImplicit false
set_option maxRecDepth 100000
/-! Plain mathematics 4: counted ends: the rows by names, the stations, what both show. -/
namespace KX
open PySem

/-! ### names -/
def nmE (i : Nat) : Str := (Str.empty ++ ("end " : Str)) ++ ((toString (i : Int) : String) : Str)
def nmF (w : Str) (i : Nat) : Str := ((Str.empty ++ w) ++ (" flag " : Str)) ++ ((toString (i : Int) : String) : Str)
def nmG (w : Str) (i : Nat) : Str := ((Str.empty ++ w) ++ (" gap " : Str)) ++ ((toString (i : Int) : String) : Str)
/-- a word of ours -/
def W4 (w : Str) : Prop := w ∈ [lostS, takenS, againS, doneS]
inductive Nm | e (i : Nat) | f (w : Nat) (i : Nat) | g (w : Nat) (i : Nat)
  deriving DecidableEq
def wdN : Nat → Str | 0 => lostS | 1 => takenS | 2 => againS | _ => doneS
def Nm.str : Nm → Str
  | .e i => nmE i
  | .f w i => nmF (wdN w) i
  | .g w i => nmG (wdN w) i
def allNm : List Nm := (List.range 11).map Nm.e ++ (List.range 4).flatMap fun w => (List.range 10).map (Nm.f w) ++ (List.range 10).map (Nm.g w)
theorem allNm_nodup : (allNm.map Nm.str).Nodup := by decide +kernel
theorem words_no : ∀ w, w < 4 → wdN w ∉ (allNm.map Nm.str) := by decide +kernel
theorem wd_inj : ∀ v, v < 4 → ∀ w, w < 4 → wdN v = wdN w → v = w := by decide +kernel
theorem str_inj {a b : Nm} (ha : a ∈ allNm) (hb : b ∈ allNm) (e : a.str = b.str) : a = b := by
  have key : ∀ l : List Nm, (l.map Nm.str).Nodup → a ∈ l → b ∈ l → a = b := by
    intro l
    induction l with
    | nil => intro _ h; cases h
    | cons x l ih =>
      intro hn ha hb
      rw [List.map_cons, List.nodup_cons] at hn
      rcases List.mem_cons.mp ha with e1 | ha
      · rcases List.mem_cons.mp hb with e2 | hb
        · rw [e1, e2]
        · exfalso
          apply hn.1
          rw [← e1, e]
          exact List.mem_map_of_mem hb
      · rcases List.mem_cons.mp hb with e2 | hb
        · exfalso
          apply hn.1
          rw [← e2, ← e]
          exact List.mem_map_of_mem ha
        · exact ih hn.2 ha hb
  exact key allNm allNm_nodup ha hb
theorem mem_e {i : Nat} (h : i < 11) : Nm.e i ∈ allNm := List.mem_append_left _ (List.mem_map.mpr ⟨i, List.mem_range.mpr h, rfl⟩)
theorem mem_f {w i : Nat} (hw : w < 4) (h : i < 10) : Nm.f w i ∈ allNm :=
  List.mem_append_right _ (List.mem_flatMap.mpr ⟨w, List.mem_range.mpr hw, List.mem_append_left _ (List.mem_map.mpr ⟨i, List.mem_range.mpr h, rfl⟩)⟩)
theorem mem_g {w i : Nat} (hw : w < 4) (h : i < 10) : Nm.g w i ∈ allNm :=
  List.mem_append_right _ (List.mem_flatMap.mpr ⟨w, List.mem_range.mpr hw, List.mem_append_right _ (List.mem_map.mpr ⟨i, List.mem_range.mpr h, rfl⟩)⟩)
theorem nodup_strs {l : List Nm} (h : l.Nodup) (hs : ∀ x ∈ l, x ∈ allNm) : (l.map Nm.str).Nodup := by
  induction l with
  | nil => exact List.nodup_nil
  | cons x l ih =>
    rw [List.nodup_cons] at h
    rw [List.map_cons, List.nodup_cons]
    refine ⟨fun hm => ?_, ih h.2 fun y hy => hs y (List.mem_cons_of_mem _ hy)⟩
    obtain ⟨y, hy, e⟩ := List.mem_map.mp hm
    have := str_inj (hs y (List.mem_cons_of_mem _ hy)) (hs x List.mem_cons_self) e
    exact h.1 (this ▸ hy)

/-! ### the rows of a counted end -/
def endRn (bits limit : Nat) (early late : Str) (i : Nat) : Str × Rn := (nmE (i + 1), ⟨1, nmF (if i + 1 ≤ limit then early else late) 1, if i + 1 < bits then nmE (i + 1 + 1) else late⟩)
def flagRn (w : Str) (flag : Nat) (i : Nat) : Str × Rn := (nmF w (i + 1), ⟨0, if i + 1 < flag then nmF w (i + 1 + 1) else nmG w 1, if i + 1 < flag then nmF w (i + 1 + 1) else nmG w 1⟩)
def gapRn (w : Str) (gap : Nat) (i : Nat) : Str × Rn := (nmG w (i + 1), ⟨1, if i + 1 = 1 then nmG w 1 else nmF w 1, if i + 1 < gap then nmG w (i + 1 + 1) else w⟩)
def endRows (bits limit : Nat) (early late : Str) : Rs := putAll [] ((List.range bits).map (endRn bits limit early late))
def flagRows (w : Str) (flag gap : Nat) : Rs := putAll (putAll [] ((List.range flag).map (flagRn w flag))) ((List.range gap).map (gapRn w gap))
def countRows (bits limit flag gap : Nat) (early late : Str) : Rs := putAll (putAll (endRows bits limit early late) (flagRows early flag gap)) (flagRows late flag gap)
def countN (bits limit flag gap : Nat) (early late : Str) (fs : List Str) : Mc := numberedR (countRows bits limit flag gap early late) fs

def rowsFlat (bits limit flag gap : Nat) (early late : Str) : Rs :=
  (List.range bits).map (endRn bits limit early late) ++ ((List.range flag).map (flagRn early flag) ++ (List.range gap).map (gapRn early gap)) ++ ((List.range flag).map (flagRn late flag) ++ (List.range gap).map (gapRn late gap))

theorem nodup_map_succ {β : Type} (f : Nat → β) (hf : ∀ i j, f i = f j → i = j) (n : Nat) : ((List.range n).map f).Nodup := by
  show List.Pairwise (· ≠ ·) _
  refine List.Pairwise.map (R := (· ≠ ·)) f (fun a b hab e => hab (hf a b e)) ?_
  exact List.nodup_range
theorem nmList_nodup (bits flag gap v w : Nat) (hvw : v ≠ w) :
    ((List.range bits).map (fun i => Nm.e (i + 1)) ++ ((List.range flag).map (fun i => Nm.f v (i + 1)) ++ (List.range gap).map (fun i => Nm.g v (i + 1))) ++ ((List.range flag).map (fun i => Nm.f w (i + 1)) ++ (List.range gap).map (fun i => Nm.g w (i + 1)))).Nodup := by
  have h1 : ∀ v n, ((List.range n).map (fun i => Nm.f v (i + 1))).Nodup := fun v n => nodup_map_succ _ (fun i j e => by injection e with _ e; omega) n
  have h2 : ∀ v n, ((List.range n).map (fun i => Nm.g v (i + 1))).Nodup := fun v n => nodup_map_succ _ (fun i j e => by injection e with _ e; omega) n
  have h3 : ∀ n, ((List.range n).map (fun i => Nm.e (i + 1))).Nodup := fun n => nodup_map_succ _ (fun i j e => by injection e with e; omega) n
  have h4 : ∀ v, ((List.range flag).map (fun i => Nm.f v (i + 1)) ++ (List.range gap).map (fun i => Nm.g v (i + 1))).Nodup := fun v => by
    rw [List.nodup_append]
    refine ⟨h1 v _, h2 v _, fun a ha b hb e => ?_⟩
    obtain ⟨i, _, e1⟩ := List.mem_map.mp ha
    obtain ⟨j, _, e2⟩ := List.mem_map.mp hb
    rw [← e1, ← e2] at e
    cases e
  rw [List.nodup_append]
  refine ⟨?_, h4 w, fun a ha b hb e => ?_⟩
  · rw [List.nodup_append]
    refine ⟨h3 _, h4 v, fun a ha b hb e => ?_⟩
    obtain ⟨i, _, e1⟩ := List.mem_map.mp ha
    rcases List.mem_append.mp hb with hb | hb
    · obtain ⟨j, _, e2⟩ := List.mem_map.mp hb
      rw [← e1, ← e2] at e
      cases e
    · obtain ⟨j, _, e2⟩ := List.mem_map.mp hb
      rw [← e1, ← e2] at e
      cases e
  · rcases List.mem_append.mp ha with ha | ha
    · obtain ⟨i, _, e1⟩ := List.mem_map.mp ha
      rcases List.mem_append.mp hb with hb | hb
      · obtain ⟨j, _, e2⟩ := List.mem_map.mp hb
        rw [← e1, ← e2] at e
        cases e
      · obtain ⟨j, _, e2⟩ := List.mem_map.mp hb
        rw [← e1, ← e2] at e
        cases e
    · rcases List.mem_append.mp ha with ha | ha
      · obtain ⟨i, _, e1⟩ := List.mem_map.mp ha
        rcases List.mem_append.mp hb with hb | hb
        · obtain ⟨j, _, e2⟩ := List.mem_map.mp hb
          rw [← e1, ← e2] at e
          injection e with e _
          exact hvw e
        · obtain ⟨j, _, e2⟩ := List.mem_map.mp hb
          rw [← e1, ← e2] at e
          cases e
      · obtain ⟨i, _, e1⟩ := List.mem_map.mp ha
        rcases List.mem_append.mp hb with hb | hb
        · obtain ⟨j, _, e2⟩ := List.mem_map.mp hb
          rw [← e1, ← e2] at e
          cases e
        · obtain ⟨j, _, e2⟩ := List.mem_map.mp hb
          rw [← e1, ← e2] at e
          injection e with e _
          exact hvw e

/-- numbers of a counted end, its two words by their places -/
structure CP where
  bits : Nat
  limit : Nat
  flag : Nat
  gap : Nat
  v : Nat
  w : Nat
structure CP.Ok (c : CP) : Prop where
  b1 : 1 ≤ c.bits
  b2 : c.bits ≤ 10
  f1 : 1 ≤ c.flag
  f2 : c.flag ≤ 8
  g1 : 1 ≤ c.gap
  g2 : c.gap ≤ 8
  hv : c.v < 4
  hw : c.w < 4
  ne : c.v ≠ c.w
abbrev CP.early (c : CP) : Str := wdN c.v
abbrev CP.late (c : CP) : Str := wdN c.w
abbrev CP.rows (c : CP) : Rs := countRows c.bits c.limit c.flag c.gap c.early c.late
section
variable {c : CP}
theorem keys_flat (c : CP) : keysR (rowsFlat c.bits c.limit c.flag c.gap c.early c.late) =
    ((List.range c.bits).map (fun i => Nm.e (i + 1)) ++ ((List.range c.flag).map (fun i => Nm.f c.v (i + 1)) ++ (List.range c.gap).map (fun i => Nm.g c.v (i + 1))) ++ ((List.range c.flag).map (fun i => Nm.f c.w (i + 1)) ++ (List.range c.gap).map (fun i => Nm.g c.w (i + 1)))).map Nm.str := by
  unfold rowsFlat keysR
  simp only [List.map_append, List.map_map]
  rfl
theorem nm_sub (h : c.Ok) : ∀ x ∈ ((List.range c.bits).map (fun i => Nm.e (i + 1)) ++ ((List.range c.flag).map (fun i => Nm.f c.v (i + 1)) ++ (List.range c.gap).map (fun i => Nm.g c.v (i + 1))) ++ ((List.range c.flag).map (fun i => Nm.f c.w (i + 1)) ++ (List.range c.gap).map (fun i => Nm.g c.w (i + 1)))), x ∈ allNm := by
  have := h.b2
  have := h.f2
  have := h.g2
  have := h.hv
  have := h.hw
  intro x hx
  rw [List.mem_append, List.mem_append, List.mem_append, List.mem_append] at hx
  rcases hx with (hx | hx | hx) | hx | hx
  · obtain ⟨i, hi, e⟩ := List.mem_map.mp hx
    have := List.mem_range.mp hi
    exact e ▸ mem_e (by omega)
  · obtain ⟨i, hi, e⟩ := List.mem_map.mp hx
    have := List.mem_range.mp hi
    exact e ▸ mem_f (by omega) (by omega)
  · obtain ⟨i, hi, e⟩ := List.mem_map.mp hx
    have := List.mem_range.mp hi
    exact e ▸ mem_g (by omega) (by omega)
  · obtain ⟨i, hi, e⟩ := List.mem_map.mp hx
    have := List.mem_range.mp hi
    exact e ▸ mem_f (by omega) (by omega)
  · obtain ⟨i, hi, e⟩ := List.mem_map.mp hx
    have := List.mem_range.mp hi
    exact e ▸ mem_g (by omega) (by omega)
theorem flat_nodup (h : c.Ok) : (keysR (rowsFlat c.bits c.limit c.flag c.gap c.early c.late)).Nodup := by
  rw [keys_flat]
  exact nodup_strs (nmList_nodup _ _ _ _ _ h.ne) (nm_sub h)
theorem nodup_left {a b : List Str} (h : (a ++ b).Nodup) : a.Nodup := (List.nodup_append.mp h).1
theorem nodup_right {a b : List Str} (h : (a ++ b).Nodup) : b.Nodup := (List.nodup_append.mp h).2.1
theorem flagRows_eq {w : Str} {flag gap : Nat} (h : (keysR ((List.range flag).map (flagRn w flag) ++ (List.range gap).map (gapRn w gap))).Nodup) :
    flagRows w flag gap = (List.range flag).map (flagRn w flag) ++ (List.range gap).map (gapRn w gap) := by
  unfold flagRows
  have h1 : putAll [] ((List.range flag).map (flagRn w flag)) = (List.range flag).map (flagRn w flag) := by
    rw [putAll_append]
    · rfl
    · rw [keysR_append] at h
      exact nodup_left h
  rw [h1, putAll_append h]
theorem rows_eq (h : c.Ok) : c.rows = rowsFlat c.bits c.limit c.flag c.gap c.early c.late := by
  have hn := flat_nodup h
  unfold CP.rows countRows endRows
  unfold rowsFlat at hn ⊢
  rw [keysR_append] at hn
  have hA := nodup_left hn
  have hB := nodup_right hn
  rw [flagRows_eq hB]
  rw [keysR_append] at hA
  rw [flagRows_eq (nodup_right hA)]
  have h1 : putAll [] ((List.range c.bits).map (endRn c.bits c.limit c.early c.late)) = (List.range c.bits).map (endRn c.bits c.limit c.early c.late) := by
    rw [putAll_append]
    · rfl
    · exact nodup_left hA
  have hA' : (keysR ((List.range c.bits).map (endRn c.bits c.limit c.early c.late) ++ ((List.range c.flag).map (flagRn c.early c.flag) ++ (List.range c.gap).map (gapRn c.early c.gap)))).Nodup := by
    rw [keysR_append]
    exact hA
  rw [h1, putAll_append hA', putAll_append]
  rw [keysR_append]
  exact hn
theorem rows_nodup (h : c.Ok) : (keysR c.rows).Nodup := by
  rw [rows_eq h]
  exact flat_nodup h
theorem mem_rows_e (h : c.Ok) {i : Nat} (hi : i < c.bits) : endRn c.bits c.limit c.early c.late i ∈ c.rows := by
  rw [rows_eq h]
  exact List.mem_append_left _ (List.mem_append_left _ (List.mem_map.mpr ⟨i, List.mem_range.mpr hi, rfl⟩))
theorem mem_rows_f (h : c.Ok) {i : Nat} {x : Str} (hx : x = c.early ∨ x = c.late) (hi : i < c.flag) : flagRn x c.flag i ∈ c.rows := by
  rw [rows_eq h]
  rcases hx with e | e
  · rw [e]
    exact List.mem_append_left _ (List.mem_append_right _ (List.mem_append_left _ (List.mem_map.mpr ⟨i, List.mem_range.mpr hi, rfl⟩)))
  · rw [e]
    exact List.mem_append_right _ (List.mem_append_left _ (List.mem_map.mpr ⟨i, List.mem_range.mpr hi, rfl⟩))
theorem mem_rows_g (h : c.Ok) {i : Nat} {x : Str} (hx : x = c.early ∨ x = c.late) (hi : i < c.gap) : gapRn x c.gap i ∈ c.rows := by
  rw [rows_eq h]
  rcases hx with e | e
  · rw [e]
    exact List.mem_append_left _ (List.mem_append_right _ (List.mem_append_right _ (List.mem_map.mpr ⟨i, List.mem_range.mpr hi, rfl⟩)))
  · rw [e]
    exact List.mem_append_right _ (List.mem_append_right _ (List.mem_map.mpr ⟨i, List.mem_range.mpr hi, rfl⟩))
theorem rows_cases (h : c.Ok) {x : Str × Rn} (hx : x ∈ c.rows) : (∃ i, i < c.bits ∧ x = endRn c.bits c.limit c.early c.late i) ∨
    ∃ y, (y = c.early ∨ y = c.late) ∧ ((∃ i, i < c.flag ∧ x = flagRn y c.flag i) ∨ ∃ i, i < c.gap ∧ x = gapRn y c.gap i) := by
  rw [rows_eq h] at hx
  unfold rowsFlat at hx
  rw [List.mem_append, List.mem_append, List.mem_append, List.mem_append] at hx
  rcases hx with (hx | hx | hx) | hx | hx
  · obtain ⟨i, hi, e⟩ := List.mem_map.mp hx
    exact .inl ⟨i, List.mem_range.mp hi, e.symm⟩
  · obtain ⟨i, hi, e⟩ := List.mem_map.mp hx
    exact .inr ⟨_, .inl rfl, .inl ⟨i, List.mem_range.mp hi, e.symm⟩⟩
  · obtain ⟨i, hi, e⟩ := List.mem_map.mp hx
    exact .inr ⟨_, .inl rfl, .inr ⟨i, List.mem_range.mp hi, e.symm⟩⟩
  · obtain ⟨i, hi, e⟩ := List.mem_map.mp hx
    exact .inr ⟨_, .inr rfl, .inl ⟨i, List.mem_range.mp hi, e.symm⟩⟩
  · obtain ⟨i, hi, e⟩ := List.mem_map.mp hx
    exact .inr ⟨_, .inr rfl, .inr ⟨i, List.mem_range.mp hi, e.symm⟩⟩
theorem key_of {x : Str × Rn} {rs : Rs} (h : x ∈ rs) : x.1 ∈ keysR rs := List.mem_map.mpr ⟨x, h, rfl⟩
theorem key_f1 (h : c.Ok) {x : Str} (hx : x = c.early ∨ x = c.late) : nmF x 1 ∈ keysR c.rows := key_of (mem_rows_f h hx (i := 0) h.f1)
theorem key_g1 (h : c.Ok) {x : Str} (hx : x = c.early ∨ x = c.late) : nmG x 1 ∈ keysR c.rows := key_of (mem_rows_g h hx (i := 0) h.g1)
theorem rows_ok (h : c.Ok) : RsOk [c.late, c.early] c.rows := by
  have lt : ∀ (P : Prop) [Decidable P] , (if P then c.early else c.late) = c.early ∨ (if P then c.early else c.late) = c.late := by
    intro P _
    split
    · exact .inl rfl
    · exact .inr rfl
  refine ⟨fun n r hm => ?_, fun n r hm => ?_, fun n r hm => ?_, ?_⟩
  · rcases rows_cases h hm with ⟨i, hi, e⟩ | ⟨y, hy, ⟨i, hi, e⟩ | ⟨i, hi, e⟩⟩
    · have e2 : r = _ := (Prod.mk.inj e).2
      rw [e2]
      exact Nat.le_refl 1
    · have e2 : r = _ := (Prod.mk.inj e).2
      rw [e2]
      exact Nat.zero_le 1
    · have e2 : r = _ := (Prod.mk.inj e).2
      rw [e2]
      exact Nat.le_refl 1
  · rcases rows_cases h hm with ⟨i, hi, e⟩ | ⟨y, hy, ⟨i, hi, e⟩ | ⟨i, hi, e⟩⟩
    · have e2 : r = _ := (Prod.mk.inj e).2
      rw [e2]
      exact .inl (key_f1 h (lt _))
    · have e2 : r = _ := (Prod.mk.inj e).2
      rw [e2]
      show (if i + 1 < c.flag then nmF y (i + 1 + 1) else nmG y 1) ∈ _ ∨ _
      by_cases hl : i + 1 < c.flag
      · rw [if_pos hl]
        exact .inl (key_of (mem_rows_f h hy hl))
      · rw [if_neg hl]
        exact .inl (key_g1 h hy)
    · have e2 : r = _ := (Prod.mk.inj e).2
      rw [e2]
      show (if i + 1 = 1 then nmG y 1 else nmF y 1) ∈ _ ∨ _
      by_cases hl : i + 1 = 1
      · rw [if_pos hl]
        exact .inl (key_g1 h hy)
      · rw [if_neg hl]
        exact .inl (key_f1 h hy)
  · rcases rows_cases h hm with ⟨i, hi, e⟩ | ⟨y, hy, ⟨i, hi, e⟩ | ⟨i, hi, e⟩⟩
    · have e2 : r = _ := (Prod.mk.inj e).2
      rw [e2]
      show (if i + 1 < c.bits then nmE (i + 1 + 1) else c.late) ∈ _ ∨ (if i + 1 < c.bits then nmE (i + 1 + 1) else c.late) ∈ _
      by_cases hl : i + 1 < c.bits
      · rw [if_pos hl]
        exact .inl (key_of (mem_rows_e h hl))
      · rw [if_neg hl]
        exact .inr List.mem_cons_self
    · have e2 : r = _ := (Prod.mk.inj e).2
      rw [e2]
      show (if i + 1 < c.flag then nmF y (i + 1 + 1) else nmG y 1) ∈ _ ∨ _
      by_cases hl : i + 1 < c.flag
      · rw [if_pos hl]
        exact .inl (key_of (mem_rows_f h hy hl))
      · rw [if_neg hl]
        exact .inl (key_g1 h hy)
    · have e2 : r = _ := (Prod.mk.inj e).2
      rw [e2]
      show (if i + 1 < c.gap then nmG y (i + 1 + 1) else y) ∈ _ ∨ (if i + 1 < c.gap then nmG y (i + 1 + 1) else y) ∈ _
      by_cases hl : i + 1 < c.gap
      · rw [if_pos hl]
        exact .inl (key_of (mem_rows_g h hy hl))
      · rw [if_neg hl]
        rcases hy with e | e
        · rw [e]
          exact .inr (by simp)
        · rw [e]
          exact .inr (by simp)
  · rw [rows_eq h]
    have := h.b2
    have := h.f2
    have := h.g2
    unfold rowsFlat
    simp only [List.length_append, List.length_map, List.length_range]
    omega
theorem word_no_key (h : c.Ok) {i : Nat} (hi : i < 4) : wdN i ∉ keysR c.rows := by
  intro hm
  rw [rows_eq h, keys_flat] at hm
  obtain ⟨x, hx, e⟩ := List.mem_map.mp hm
  exact words_no i hi (List.mem_map.mpr ⟨x, nm_sub h x hx, e⟩)
end

/-! ### the law's stations -/
inductive LS where
  | sil
  | wd (w : Str)
  | en (n : Nat)
  | fl (n : Nat) (w : Str)
  | gp (n : Nat) (w : Str)
  deriving DecidableEq
/-- what follows; 1 (weak) is true -/
def CP.next (c : CP) : LS → Bool → LS
  | .en n, false => .fl c.flag (if n ≤ c.limit then c.early else c.late)
  | .en n, true => if n = c.bits then .wd c.late else .en (n + 1)
  | .fl n w, _ => if 1 < n then .fl (n - 1) w else .gp 0 w
  | .gp n w, true => if n + 1 = c.gap then .wd w else .gp (n + 1) w
  | .gp n w, false => if 0 < n then .fl c.flag w else .gp n w
  | st, _ => st
def LS.put : LS → Nat
  | .fl _ _ => 0
  | _ => 1
def LS.live : LS → Bool
  | .sil => false
  | .wd _ => false
  | _ => true
def behL (c : CP) : List Bool → LS → Sum Nat Str
  | _, .wd w => .inr w
  | _, .sil => .inl 2
  | [], st => .inl st.put
  | b :: bs, st => behL c bs (c.next st b)
structure CP.Wd (c : CP) (w : Str) : Prop where
  h : w = c.early ∨ w = c.late
def CP.St (c : CP) : LS → Prop
  | .sil => False
  | .wd w => c.Wd w
  | .en n => 1 ≤ n ∧ n ≤ c.bits
  | .fl n w => 1 ≤ n ∧ n ≤ c.flag ∧ c.Wd w
  | .gp n w => n < c.gap ∧ c.Wd w
def CP.nm (c : CP) : LS → Str
  | .sil => Str.empty
  | .wd w => w
  | .en n => nmE n
  | .fl n w => nmF w (c.flag + 1 - n)
  | .gp n w => nmG w (n + 1)
section
variable {c : CP}
theorem CP.wdIf (c : CP) (P : Prop) [Decidable P] : c.Wd (if P then c.early else c.late) := by
  split
  · exact ⟨.inl rfl⟩
  · exact ⟨.inr rfl⟩
theorem next_st (h : c.Ok) {st : LS} (hs : c.St st) (b : Bool) : c.St (c.next st b) := by
  cases st with
  | sil => exact hs.elim
  | wd w => exact hs
  | en n =>
    cases b with
    | false => exact ⟨h.f1, Nat.le_refl _, c.wdIf _⟩
    | true =>
      show c.St (if n = c.bits then LS.wd c.late else LS.en (n + 1))
      have h1 : 1 ≤ n ∧ n ≤ c.bits := hs
      split
      · exact ⟨.inr rfl⟩
      · exact ⟨by omega, by omega⟩
  | fl n w =>
    have h1 : 1 ≤ n ∧ n ≤ c.flag ∧ c.Wd w := hs
    have : c.St (if 1 < n then LS.fl (n - 1) w else LS.gp 0 w) := by
      split
      · exact ⟨by omega, by omega, h1.2.2⟩
      · exact ⟨h.g1, h1.2.2⟩
    cases b <;> exact this
  | gp n w =>
    have h1 : n < c.gap ∧ c.Wd w := hs
    cases b with
    | false =>
      show c.St (if 0 < n then LS.fl c.flag w else LS.gp n w)
      split
      · exact ⟨h.f1, Nat.le_refl _, h1.2⟩
      · exact h1
    | true =>
      show c.St (if n + 1 = c.gap then LS.wd w else LS.gp (n + 1) w)
      split
      · exact h1.2
      · exact ⟨by omega, h1.2⟩
/-- the row of a station on its way -/
theorem row_st (h : c.Ok) {st : LS} (hs : c.St st) (hl : st.live = true) : (c.nm st, (⟨st.put, c.nm (c.next st false), c.nm (c.next st true)⟩ : Rn)) ∈ c.rows := by
  cases st with
  | sil => cases hl
  | wd w => cases hl
  | en n =>
    have h1 : 1 ≤ n ∧ n ≤ c.bits := hs
    have hm := mem_rows_e h (i := n - 1) (by omega)
    unfold endRn at hm
    rw [show n - 1 + 1 = n by omega] at hm
    have e1 : c.nm (c.next (.en n) false) = nmF (if n ≤ c.limit then c.early else c.late) 1 := by
      show nmF _ (c.flag + 1 - c.flag) = _
      rw [show c.flag + 1 - c.flag = 1 by omega]
    have e2 : c.nm (c.next (.en n) true) = if n < c.bits then nmE (n + 1) else c.late := by
      show c.nm (if n = c.bits then LS.wd c.late else LS.en (n + 1)) = _
      by_cases e : n = c.bits
      · rw [if_pos e, if_neg (by omega)]
        rfl
      · rw [if_neg e, if_pos (by omega)]
        rfl
    rw [e1, e2]
    exact hm
  | fl n w =>
    have h1 : 1 ≤ n ∧ n ≤ c.flag ∧ c.Wd w := hs
    have hm := mem_rows_f h h1.2.2.h (i := c.flag - n) (by omega)
    unfold flagRn at hm
    rw [show c.flag - n + 1 = c.flag + 1 - n by omega] at hm
    have e1 : ∀ b, c.nm (c.next (.fl n w) b) = if c.flag + 1 - n < c.flag then nmF w (c.flag + 1 - n + 1) else nmG w 1 := by
      intro b
      have : c.next (.fl n w) b = if 1 < n then LS.fl (n - 1) w else LS.gp 0 w := by cases b <;> rfl
      rw [this]
      by_cases e : 1 < n
      · rw [if_pos e, if_pos (by omega)]
        show nmF w (c.flag + 1 - (n - 1)) = _
        rw [show c.flag + 1 - (n - 1) = c.flag + 1 - n + 1 by omega]
      · rw [if_neg e, if_neg (by omega)]
        rfl
    rw [e1, e1]
    exact hm
  | gp n w =>
    have h1 : n < c.gap ∧ c.Wd w := hs
    have hm := mem_rows_g h h1.2.h (i := n) h1.1
    unfold gapRn at hm
    have e1 : c.nm (c.next (.gp n w) false) = if n + 1 = 1 then nmG w 1 else nmF w 1 := by
      show c.nm (if 0 < n then LS.fl c.flag w else LS.gp n w) = _
      by_cases e : 0 < n
      · rw [if_pos e, if_neg (by omega)]
        show nmF w (c.flag + 1 - c.flag) = _
        rw [show c.flag + 1 - c.flag = 1 by omega]
      · rw [if_neg e, if_pos (by omega)]
        show nmG w (n + 1) = _
        rw [show n = 0 by omega]
    have e2 : c.nm (c.next (.gp n w) true) = if n + 1 < c.gap then nmG w (n + 1 + 1) else w := by
      show c.nm (if n + 1 = c.gap then LS.wd w else LS.gp (n + 1) w) = _
      by_cases e : n + 1 = c.gap
      · rw [if_pos e, if_neg (by omega)]
        rfl
      · rw [if_neg e, if_pos (by omega)]
        rfl
    rw [e1, e2]
    exact hm
theorem behL_wd (c : CP) (bs : List Bool) (w : Str) : behL c bs (.wd w) = .inr w := by cases bs <;> rfl
theorem behL_nil (c : CP) {st : LS} (h : st.live = true) : behL c [] st = .inl st.put := by
  cases st <;> first | rfl | cases h
theorem behL_cons (c : CP) {st : LS} (h : st.live = true) (b : Bool) (bs : List Bool) : behL c (b :: bs) st = behL c bs (c.next st b) := by
  cases st <;> first | rfl | cases h
/-- the machine shows what the station does -/
theorem count_beh (h : c.Ok) {fs : List Str} (hf : FsOk c.rows fs) : ∀ (bs : List Bool) (st : LS), c.St st → beh (numberedR c.rows fs) bs (plN (namesOf c.rows fs) (c.nm st)) = behL c bs st
  | bs, st, hs => by
    by_cases hl : st.live = true
    · have hr := getR_mem (rows_nodup h) (row_st h hs hl)
      have hm : c.nm st ∈ namesOf c.rows fs := (mem_names hf _).mpr (key_of (row_st h hs hl))
      have hp : plN (namesOf c.rows fs) (c.nm st) = .ix (ixOf (namesOf c.rows fs) (c.nm st)) := by unfold plN; rw [if_pos hm]
      rw [hp]
      cases bs with
      | nil => rw [beh_nil, numberedR_row hf hr, behL_nil c hl]
      | cons b bs =>
        rw [beh_cons, numberedR_row hf hr, behL_cons c hl]
        cases b with
        | false => exact count_beh h hf bs _ (next_st h hs false)
        | true => exact count_beh h hf bs _ (next_st h hs true)
    · cases st with
      | sil => exact hs.elim
      | wd w =>
        have hw : ∃ i, i < 4 ∧ w = wdN i := by
          rcases (show c.Wd w from hs).h with e | e
          · exact ⟨c.v, h.hv, e⟩
          · exact ⟨c.w, h.hw, e⟩
        obtain ⟨i, hi, e⟩ := hw
        have hm : c.nm (.wd w) ∉ namesOf c.rows fs := fun q => word_no_key h hi (by rw [← e]; exact (mem_names hf _).mp q)
        have hp : plN (namesOf c.rows fs) (c.nm (.wd w)) = .wd w := by unfold plN; rw [if_neg hm]; rfl
        rw [hp, beh_wd, behL_wd]
      | en n => exact absurd rfl hl
      | fl n w => exact absurd rfl hl
      | gp n w => exact absurd rfl hl
termination_by bs => bs.length

/-! the two machines -/
theorem fs_h (h : c.Ok) : FsOk c.rows [nmE 1, nmF c.early 1] where
  nd := rows_nodup h
  fn := by
    have hb := h.b1
    rw [List.nodup_cons]
    refine ⟨fun hm => ?_, by simp⟩
    rw [List.mem_singleton] at hm
    have := str_inj (a := .e 1) (b := .f c.v 1) (mem_e (by omega)) (mem_f h.hv (by omega)) hm
    cases this
  sub := fun n hn => by
    rcases List.mem_cons.mp hn with e | hn
    · rw [e]
      exact key_of (mem_rows_e h (i := 0) h.b1)
    · rw [List.mem_singleton.mp hn]
      exact key_f1 h (.inl rfl)
theorem fs_s (h : c.Ok) : FsOk c.rows [nmE 1] where
  nd := rows_nodup h
  fn := by simp
  sub := fun n hn => by
    rw [List.mem_singleton.mp hn]
    exact key_of (mem_rows_e h (i := 0) h.b1)
abbrev CP.hm (c : CP) : Mc := numberedR c.rows [nmE 1, nmF c.early 1]
abbrev CP.sm (c : CP) : Mc := numberedR c.rows [nmE 1]
theorem hm_len (h : c.Ok) : 2 ≤ c.hm.length := by
  rw [numberedR_len]
  unfold namesOf
  rw [List.length_append]
  show 2 ≤ 2 + _
  omega
theorem sm_len (h : c.Ok) : 1 ≤ c.sm.length := by
  rw [numberedR_len]
  unfold namesOf
  rw [List.length_append]
  show 1 ≤ 1 + _
  omega
theorem hm_beh0 (h : c.Ok) (bs : List Bool) : beh c.hm bs (.ix 0) = behL c bs (.en 1) := by
  rw [← count_beh h (fs_h h) bs (.en 1) ⟨Nat.le_refl _, h.b1⟩, show plN (namesOf c.rows [nmE 1, nmF c.early 1]) (c.nm (.en 1)) = .ix 0 from plN_first (fs_h h) rfl]
theorem hm_beh1 (h : c.Ok) (bs : List Bool) : beh c.hm bs (.ix 1) = behL c bs (.fl c.flag c.early) := by
  have e : c.nm (.fl c.flag c.early) = nmF c.early 1 := by
    show nmF c.early (c.flag + 1 - c.flag) = _
    rw [show c.flag + 1 - c.flag = 1 by omega]
  rw [← count_beh h (fs_h h) bs (.fl c.flag c.early) ⟨h.f1, Nat.le_refl _, ⟨.inl rfl⟩⟩, e, show plN (namesOf c.rows [nmE 1, nmF c.early 1]) (nmF c.early 1) = .ix 1 from plN_first (fs_h h) rfl]
theorem sm_beh0 (h : c.Ok) (bs : List Bool) : beh c.sm bs (.ix 0) = behL c bs (.en 1) := by
  rw [← count_beh h (fs_s h) bs (.en 1) ⟨Nat.le_refl _, h.b1⟩, show plN (namesOf c.rows [nmE 1]) (c.nm (.en 1)) = .ix 0 from plN_first (fs_s h) rfl]
/-- a station with an early word keeps it -/
def LS.has (w : Str) : LS → Prop
  | .wd v => v = w
  | .fl _ v => v = w
  | .gp _ v => v = w
  | _ => False
theorem has_next {w : Str} {st : LS} (h : st.has w) (b : Bool) : (c.next st b).has w := by
  cases st with
  | sil => exact h.elim
  | wd v => exact h
  | en n => exact h.elim
  | fl n v =>
    have : c.next (.fl n v) b = if 1 < n then LS.fl (n - 1) v else LS.gp 0 v := by cases b <;> rfl
    rw [this]
    split <;> exact h
  | gp n v =>
    cases b with
    | false =>
      show (if 0 < n then LS.fl c.flag v else LS.gp n v).has w
      split <;> exact h
    | true =>
      show (if n + 1 = c.gap then LS.wd v else LS.gp (n + 1) v).has w
      split <;> exact h
theorem has_beh {w bad : Str} (hw : w ≠ bad) : ∀ (bs : List Bool) (st : LS), st.has w → behL c bs st ≠ .inr bad
  | bs, .sil, h => h.elim
  | bs, .en n, h => h.elim
  | bs, .wd v, h => by
    rw [behL_wd]
    intro e
    have h' : v = w := h
    exact hw (h' ▸ Sum.inr.inj e)
  | [], .fl n v, h => fun e => by cases e
  | [], .gp n v, h => fun e => by cases e
  | b :: bs, .fl n v, h => has_beh hw bs _ (has_next h b)
  | b :: bs, .gp n v, h => has_beh hw bs _ (has_next h b)
end
/-- the counted end's two machines as numbers give them -/
def cpH (bits limit flag gap : Nat) : CP := ⟨bits, limit, flag, gap, 0, 1⟩
def cpS (bits limit flag gap : Nat) : CP := ⟨bits, limit, flag, gap, 2, 3⟩
theorem cpH_ok {bits limit flag gap : Nat} (b1 : 1 ≤ bits) (b2 : bits ≤ 10) (f1 : 1 ≤ flag) (f2 : flag ≤ 8) (g1 : 1 ≤ gap) (g2 : gap ≤ 8) : (cpH bits limit flag gap).Ok := ⟨b1, b2, f1, f2, g1, g2, (by decide : 0 < 4), (by decide : 1 < 4), (by decide : 0 ≠ 1)⟩
theorem cpS_ok {bits limit flag gap : Nat} (b1 : 1 ≤ bits) (b2 : bits ≤ 10) (f1 : 1 ≤ flag) (f2 : flag ≤ 8) (g1 : 1 ≤ gap) (g2 : gap ≤ 8) : (cpS bits limit flag gap).Ok := ⟨b1, b2, f1, f2, g1, g2, (by decide : 2 < 4), (by decide : 3 < 4), (by decide : 2 ≠ 3)⟩
theorem count_ve {c d : CP} (hc : c.Ok) (hd : d.Ok) (c0 : c.v = 0) (c1 : c.w = 1) (d2 : d.v = 2) (d3 : d.w = 3) : VE c.hm d.sm where
  h := by
    have e1 : c.late = takenS := by rw [CP.late, c1]; rfl
    have e2 : c.early = lostS := by rw [CP.early, c0]; rfl
    rw [← e1, ← e2]
    exact vm_numbered (fs_h hc) (rows_ok hc)
  s := by
    have e1 : d.late = doneS := by rw [CP.late, d3]; rfl
    have e2 : d.early = againS := by rw [CP.early, d2]; rfl
    rw [← e1, ← e2]
    exact vm_numbered (fs_s hd) (rows_ok hd)
  h2 := hm_len hc
  s1 := sm_len hd
  nt := fun bs => by
    rw [hm_beh1 hc]
    refine has_beh (w := c.early) ?_ bs _ rfl
    rw [CP.early, c0]
    show lostS ≠ takenS
    decide +kernel
end KX
end
section
set_option autoImplicit false
set_option maxRecDepth 100000
/-! Plain mathematics 5: voting ends. -/
namespace KX
open PySem

def nmW (t s : Nat) : Str := (((Str.empty ++ ("warned " : Str)) ++ ((toString (t : Int) : String) : Str)) ++ (" " : Str)) ++ ((toString (s : Int) : String) : Str)
def nmC (t s k : Nat) : Str := (((((Str.empty ++ ("calm " : Str)) ++ ((toString (t : Int) : String) : Str)) ++ (" " : Str)) ++ ((toString (s : Int) : String) : Str)) ++ (" " : Str)) ++ ((toString (k : Int) : String) : Str)
structure VP where
  votes : Nat
  needed : Nat
  rounds : Nat
  low : Str
  high : Str
def VP.warned (v : VP) (t : Nat) : Str := if t + 1 = v.rounds then v.low else nmW (t + 1) 0
def VP.calm (v : VP) (t : Nat) : Str := if t + 1 = v.rounds then v.high else nmC (t + 1) 0 0
def VP.later (v : VP) (t s : Nat) : Str := if s + 1 < v.votes then nmW t (s + 1) else v.warned t
def VP.wRn (v : VP) (t s : Nat) : Str × Rn := (nmW t s, ⟨0, v.later t s, v.later t s⟩)
def VP.f0 (v : VP) (t s k : Nat) : Str := if s + 1 < v.votes then nmC t (s + 1) (min (k + 1) v.needed) else if min (k + 1) v.needed = v.needed then v.warned t else v.calm t
def VP.f1 (v : VP) (t s k : Nat) : Str := if s + 1 < v.votes then nmC t (s + 1) k else if k = v.needed then v.warned t else v.calm t
def VP.cRn (v : VP) (t s k : Nat) : Str × Rn := (nmC t s k, ⟨1, v.f0 t s k, v.f1 t s k⟩)
def VP.spotL (v : VP) (t s : Nat) : Rs := v.wRn t s :: (List.range (min s v.needed + 1)).map (v.cRn t s)
def VP.turnL (v : VP) (t : Nat) : Rs := (List.range v.votes).flatMap (v.spotL t)
def VP.all (v : VP) : Rs := (List.range v.rounds).flatMap v.turnL
def VP.rows (v : VP) : Rs := putAll [] v.all
def VP.hm (v : VP) : Mc := numberedR v.rows [("calm 0 0 0" : Str), ("warned 0 0" : Str)]
def VP.sm (v : VP) : Mc := numberedR v.rows [("calm 0 0 0" : Str)]
structure VP.Ok (v : VP) : Prop where
  v1 : 1 ≤ v.votes
  v2 : v.votes ≤ 6
  n1 : 1 ≤ v.needed
  n2 : v.needed ≤ v.votes
  r1 : 1 ≤ v.rounds
  r2 : v.rounds ≤ 3

def hd (x : Str) : Option Nat := x.cps.toList.head?
theorem hd_append {a b : Str} {k : Nat} (h : hd a = some k) : hd (a ++ b) = some k := by
  unfold hd at h ⊢
  show ((a.cps ++ b.cps).toList).head? = some k
  rw [Array.toList_append, List.head?_append, h]
  rfl
theorem hd_w (t s : Nat) : hd (nmW t s) = some 119 := hd_append (hd_append (hd_append (by decide +kernel)))
theorem hd_c (t s k : Nat) : hd (nmC t s k) = some 99 := hd_append (hd_append (hd_append (hd_append (hd_append (by decide +kernel)))))

section
variable {v : VP}
theorem mem_all {x : Str × Rn} : x ∈ v.all ↔ ∃ t s, t < v.rounds ∧ s < v.votes ∧ (x = v.wRn t s ∨ ∃ k, k ≤ min s v.needed ∧ x = v.cRn t s k) := by
  unfold VP.all VP.turnL VP.spotL
  simp only [List.mem_flatMap, List.mem_range, List.mem_cons, List.mem_map]
  constructor
  · rintro ⟨t, ht, s, hs, h | ⟨k, hk, e⟩⟩
    · exact ⟨t, s, ht, hs, .inl h⟩
    · exact ⟨t, s, ht, hs, .inr ⟨k, by omega, e.symm⟩⟩
  · rintro ⟨t, s, ht, hs, h | ⟨k, hk, e⟩⟩
    · exact ⟨t, ht, s, hs, .inl h⟩
    · exact ⟨t, ht, s, hs, .inr ⟨k, by omega, e.symm⟩⟩
theorem key_all {n : Str} : n ∈ keysR v.rows ↔ n ∈ keysR v.all := by
  unfold VP.rows
  rw [mem_keys_putAll]
  exact ⟨fun h => h.elim (fun h => nomatch h) id, .inr⟩
theorem key_w {t s : Nat} (ht : t < v.rounds) (hs : s < v.votes) : nmW t s ∈ keysR v.rows := key_all.mpr (key_of (x := v.wRn t s) (mem_all.mpr ⟨t, s, ht, hs, .inl rfl⟩))
theorem key_c {t s k : Nat} (ht : t < v.rounds) (hs : s < v.votes) (hk : k ≤ min s v.needed) : nmC t s k ∈ keysR v.rows := key_all.mpr (key_of (x := v.cRn t s k) (mem_all.mpr ⟨t, s, ht, hs, .inr ⟨k, hk, rfl⟩⟩))
theorem ok_warned (h : v.Ok) {t : Nat} (ht : t < v.rounds) : v.warned t ∈ keysR v.rows ∨ v.warned t ∈ [v.high, v.low] := by
  unfold VP.warned
  have := h.v1
  by_cases e : t + 1 = v.rounds
  · rw [if_pos e]
    exact .inr (by simp)
  · rw [if_neg e]
    exact .inl (key_w (by omega) (by omega))
theorem ok_calm (h : v.Ok) {t : Nat} (ht : t < v.rounds) : v.calm t ∈ keysR v.rows ∨ v.calm t ∈ [v.high, v.low] := by
  unfold VP.calm
  have := h.v1
  by_cases e : t + 1 = v.rounds
  · rw [if_pos e]
    exact .inr (by simp)
  · rw [if_neg e]
    exact .inl (key_c (by omega) (by omega) (Nat.zero_le _))
theorem spot_len (v : VP) (t s : Nat) : (v.spotL t s).length = 2 + min s v.needed := by
  unfold VP.spotL
  rw [List.length_cons, List.length_map, List.length_range]
  omega
theorem turn_len (h : v.Ok) (t : Nat) : (v.turnL t).length ≤ 27 := by
  unfold VP.turnL
  rw [List.length_flatMap]
  simp only [spot_len]
  have h2 := h.v2
  generalize v.votes = n at h2
  generalize v.needed = m
  have key : ∀ n, n ≤ 6 → ((List.range n).map fun s => 2 + min s m).sum ≤ 27 := by
    intro n hn
    have : n = 0 ∨ n = 1 ∨ n = 2 ∨ n = 3 ∨ n = 4 ∨ n = 5 ∨ n = 6 := by omega
    rcases this with rfl | rfl | rfl | rfl | rfl | rfl | rfl <;> simp [List.range_succ] <;> omega
  exact key n h2
theorem rows_len (h : v.Ok) : v.rows.length ≤ 81 := by
  have h1 := len_putAll [] v.all
  have h2 : v.all.length ≤ v.rounds * 27 := by
    unfold VP.all
    rw [List.length_flatMap]
    have key : ∀ n, ((List.range n).map fun t => (v.turnL t).length).sum ≤ n * 27 := by
      intro n
      induction n with
      | zero => simp
      | succ n ih =>
        rw [List.range_succ, List.map_append, List.sum_append]
        have := turn_len h n
        simp only [List.map_cons, List.map_nil, List.sum_cons, List.sum_nil]
        omega
    exact key _
  have h3 := h.r2
  unfold VP.rows
  have : v.rounds * 27 ≤ 81 := by omega
  simp only [List.length_nil] at h1
  omega
theorem vote_ok (h : v.Ok) : RsOk [v.high, v.low] v.rows := by
  have each : ∀ n r, (n, r) ∈ v.rows → ∃ t s, t < v.rounds ∧ s < v.votes ∧ ((n, r) = v.wRn t s ∨ ∃ k, k ≤ min s v.needed ∧ (n, r) = v.cRn t s k) := fun n r hm => by
    rcases mem_putAll hm with hm | hm
    · cases hm
    · exact mem_all.mp hm
  have hlater : ∀ t s, t < v.rounds → s < v.votes → v.later t s ∈ keysR v.rows ∨ v.later t s ∈ [v.high, v.low] := fun t s ht hs => by
    unfold VP.later
    by_cases e : s + 1 < v.votes
    · rw [if_pos e]
      exact .inl (key_w ht e)
    · rw [if_neg e]
      exact ok_warned h ht
  refine ⟨fun n r hm => ?_, fun n r hm => ?_, fun n r hm => ?_, Nat.le_trans (rows_len h) (by decide)⟩
  · obtain ⟨t, s, ht, hs, e | ⟨k, hk, e⟩⟩ := each n r hm
    · rw [show r = _ from (Prod.mk.inj e).2]
      exact Nat.zero_le 1
    · rw [show r = _ from (Prod.mk.inj e).2]
      exact Nat.le_refl 1
  · obtain ⟨t, s, ht, hs, e | ⟨k, hk, e⟩⟩ := each n r hm
    · rw [show r = _ from (Prod.mk.inj e).2]
      exact hlater t s ht hs
    · rw [show r = _ from (Prod.mk.inj e).2]
      show v.f0 t s k ∈ _ ∨ v.f0 t s k ∈ _
      unfold VP.f0
      by_cases e1 : s + 1 < v.votes
      · rw [if_pos e1]
        exact .inl (key_c ht e1 (by omega))
      · rw [if_neg e1]
        by_cases e2 : min (k + 1) v.needed = v.needed
        · rw [if_pos e2]
          exact ok_warned h ht
        · rw [if_neg e2]
          exact ok_calm h ht
  · obtain ⟨t, s, ht, hs, e | ⟨k, hk, e⟩⟩ := each n r hm
    · rw [show r = _ from (Prod.mk.inj e).2]
      exact hlater t s ht hs
    · rw [show r = _ from (Prod.mk.inj e).2]
      show v.f1 t s k ∈ _ ∨ v.f1 t s k ∈ _
      unfold VP.f1
      by_cases e1 : s + 1 < v.votes
      · rw [if_pos e1]
        exact .inl (key_c ht e1 (by omega))
      · rw [if_neg e1]
        by_cases e2 : k = v.needed
        · rw [if_pos e2]
          exact ok_warned h ht
        · rw [if_neg e2]
          exact ok_calm h ht
theorem calm000 : ("calm 0 0 0" : Str) = nmC 0 0 0 := by decide +kernel
theorem warned00 : ("warned 0 0" : Str) = nmW 0 0 := by decide +kernel
theorem vote_fs (h : v.Ok) : FsOk v.rows [("calm 0 0 0" : Str), ("warned 0 0" : Str)] where
  nd := nodup_putAll (rs := []) List.nodup_nil _
  fn := by decide +kernel
  sub := fun n hn => by
    have := h.r1
    have := h.v1
    rcases List.mem_cons.mp hn with e | hn
    · rw [e, calm000]
      exact key_c (by omega) (by omega) (Nat.zero_le _)
    · rw [List.mem_singleton.mp hn, warned00]
      exact key_w (by omega) (by omega)
theorem vote_fs1 (h : v.Ok) : FsOk v.rows [("calm 0 0 0" : Str)] where
  nd := nodup_putAll (rs := []) List.nodup_nil _
  fn := by decide +kernel
  sub := fun n hn => (vote_fs h).sub n (by rw [List.mem_singleton.mp hn]; exact List.mem_cons_self)
theorem vote_ve {u : VP} (h : v.Ok) (k : u.Ok) (e1 : v.low = lostS) (e2 : v.high = takenS) (e3 : u.low = againS) (e4 : u.high = doneS) : VE v.hm u.sm where
  h := by
    rw [← e1, ← e2]
    exact vm_numbered (vote_fs h) (vote_ok h)
  s := by
    rw [← e3, ← e4]
    exact vm_numbered (vote_fs1 k) (vote_ok k)
  h2 := by
    unfold VP.hm
    rw [numberedR_len]
    unfold namesOf
    rw [List.length_append]
    show 2 ≤ 2 + _
    omega
  s1 := by
    unfold VP.sm
    rw [numberedR_len]
    unfold namesOf
    rw [List.length_append]
    show 1 ≤ 1 + _
    omega
  nt := fun bs => by
    have hp : plN (namesOf v.rows [("calm 0 0 0" : Str), ("warned 0 0" : Str)]) ("warned 0 0" : Str) = .ix 1 := plN_first (vote_fs h) rfl
    unfold VP.hm
    rw [← hp]
    refine never_word (vote_fs h) (P := fun n => hd n = some 119 ∨ n = lostS) (fun n r hm hn => ?_) (fun n hn _ => ?_) bs _ (.inl (by decide +kernel))
    · rcases mem_putAll hm with hm | hm
      · cases hm
      · obtain ⟨t, s, ht, hs, e | ⟨j, hj, e⟩⟩ := mem_all.mp hm
        · have hl : hd (v.later t s) = some 119 ∨ v.later t s = lostS := by
            unfold VP.later VP.warned
            split
            · exact .inl (hd_w _ _)
            · split
              · exact .inr e1
              · exact .inl (hd_w _ _)
          rw [show r = _ from (Prod.mk.inj e).2]
          exact ⟨hl, hl⟩
        · exfalso
          have en : n = nmC t s j := (Prod.mk.inj e).1
          rcases hn with hn | hn
          · rw [en, hd_c] at hn
            simp at hn
          · have : hd n = some 108 := by rw [hn]; decide +kernel
            rw [en, hd_c] at this
            simp at this
    · rintro rfl
      rcases hn with hn | hn
      · have : hd takenS = some 116 := by decide +kernel
        rw [this] at hn
        simp at hn
      · exact absurd hn (by decide +kernel)
end

/-- the two ends that are told by their texts -/
def vp1 (a b : Str) : VP := ⟨1, 1, 1, a, b⟩
def vp2 (a b : Str) : VP := ⟨2, 2, 1, a, b⟩
theorem vp1_h : leastRows (vp1 lostS takenS).hm 2 = [⟨1, .wd lostS, .wd takenS⟩, ⟨0, .wd lostS, .wd lostS⟩] := by decide +kernel
theorem vp1_s : leastRows (vp1 againS doneS).sm 1 = [⟨1, .wd againS, .wd doneS⟩] := by decide +kernel
theorem vp2_h : leastRows (vp2 lostS takenS).hm 2 = [⟨1, .ix 2, .ix 3⟩, ⟨0, .ix 4, .ix 4⟩, ⟨1, .wd lostS, .wd takenS⟩, ⟨1, .wd takenS, .wd takenS⟩, ⟨0, .wd lostS, .wd lostS⟩] := by decide +kernel
theorem vp2_s : leastRows (vp2 againS doneS).sm 1 = [⟨1, .ix 1, .ix 2⟩, ⟨1, .wd againS, .wd doneS⟩, ⟨1, .wd doneS, .wd doneS⟩] := by decide +kernel
end KX
end
section
set_option autoImplicit false
set_option maxRecDepth 100000
/-! Plain mathematics 6: sendings, over any kind of places; the law's sending ends. -/
namespace KX
open PySem

structure Sys (α : Type) where
  live : α → Bool
  put : Nat → α → Nat
  go : Nat → α → Bool → α
  sil : α
abbrev Ft := Nat × Nat
section
variable {α : Type} (G : Sys α) (m : Nat)
/-- some fall silent -/
def hush (q : Nat → Bool) (P : Nat → α) : Nat → α := fun k => if q k then G.sil else P k
/-- the bit of the line; 1 is true -/
def lineB (P : Nat → α) : Bool := !((List.range m).any fun k => G.live (P k) && G.put k (P k) == 0)
def earB (b : Bool) (d : Nat → Bool) (k : Nat) : Bool := if d k then !b else b
def moveP (b : Bool) (d : Nat → Bool) (P : Nat → α) : Nat → α := fun k => if G.live (P k) then G.go k (P k) (earB b d k) else P k
def stepP (q d : Nat → Bool) (P : Nat → α) : Nat → α := moveP G (lineB G m (hush G q P)) d (hush G q P)
structure Run (α : Type) where
  P : Nat → α
  bits : List Bool
  ears : Nat → List Bool
def stepR (q d : Nat → Bool) (r : Run α) : Run α where
  P := stepP G m q d r.P
  bits := r.bits ++ [lineB G m (hush G q r.P)]
  ears := fun k => if G.live (hush G q r.P k) then r.ears k ++ [earB (lineB G m (hush G q r.P)) d k] else r.ears k
def atB (F : List Ft) (t : Nat) : Nat → Bool := fun k => decide ((t, k) ∈ F)
def runR (D Q : List Ft) (P0 : Nat → α) : Nat → Run α
  | 0 => ⟨P0, [], fun _ => []⟩
  | t + 1 => stepR G m (atB Q (t + 1)) (atB D (t + 1)) (runR D Q P0 t)
/-- somebody is on the way -/
def anyL (P : Nat → α) : Bool := (List.range m).any fun k => G.live (P k)
variable {G m}
theorem anyL_iff {P : Nat → α} : anyL G m P = true ↔ ∃ k, k < m ∧ G.live (P k) = true := by
  unfold anyL
  rw [List.any_eq_true]
  exact ⟨fun ⟨k, h, e⟩ => ⟨k, List.mem_range.mp h, e⟩, fun ⟨k, h, e⟩ => ⟨k, List.mem_range.mpr h, e⟩⟩
theorem lineB_false {P : Nat → α} : lineB G m P = false ↔ ∃ k, k < m ∧ G.live (P k) = true ∧ G.put k (P k) = 0 := by
  unfold lineB
  rw [Bool.not_eq_false', List.any_eq_true]
  constructor
  · rintro ⟨k, h, e⟩
    rw [Bool.and_eq_true, beq_iff_eq] at e
    exact ⟨k, List.mem_range.mp h, e.1, e.2⟩
  · rintro ⟨k, h, e1, e2⟩
    exact ⟨k, List.mem_range.mpr h, by rw [Bool.and_eq_true, beq_iff_eq]; exact ⟨e1, e2⟩⟩
theorem runR_len (D Q : List Ft) (P0 : Nat → α) (t : Nat) : (runR G m D Q P0 t).bits.length = t := by
  induction t with
  | zero => rfl
  | succ t ih =>
    show ((runR G m D Q P0 t).bits ++ [_]).length = t + 1
    rw [List.length_append, ih]
    rfl
/-- faults of other bits don't matter -/
theorem runR_congr {D D' Q Q' : List Ft} {P0 : Nat → α} : ∀ {t : Nat}, (∀ s, 1 ≤ s → s ≤ t → ∀ k, ((s, k) ∈ D ↔ (s, k) ∈ D') ∧ ((s, k) ∈ Q ↔ (s, k) ∈ Q')) → runR G m D Q P0 t = runR G m D' Q' P0 t
  | 0, _ => rfl
  | t + 1, h => by
    show stepR G m (atB Q (t + 1)) (atB D (t + 1)) (runR G m D Q P0 t) = stepR G m (atB Q' (t + 1)) (atB D' (t + 1)) (runR G m D' Q' P0 t)
    rw [runR_congr (t := t) fun s h1 h2 => h s h1 (by omega)]
    have e1 : atB Q (t + 1) = atB Q' (t + 1) := by
      funext k
      exact decide_eq_decide.mpr (h (t + 1) (by omega) (by omega) k).2
    have e2 : atB D (t + 1) = atB D' (t + 1) := by
      funext k
      exact decide_eq_decide.mpr (h (t + 1) (by omega) (by omega) k).1
    rw [e1, e2]
end

/-! ### places alike: one step, from the same places, gives the same -/
section
variable {α : Type} {G : Sys α} {m : Nat}
theorem lineB_congr {P P' : Nat → α} (h : ∀ k, k < m → P k = P' k) : lineB G m P = lineB G m P' := by
  have key : ∀ b, lineB G m P = b → lineB G m P' = b := by
    intro b
    cases b with
    | false =>
      rw [lineB_false, lineB_false]
      rintro ⟨k, hk, e⟩
      exact ⟨k, hk, by rw [← h k hk]; exact e⟩
    | true =>
      intro e
      cases e' : lineB G m P' with
      | true => rfl
      | false =>
        rw [lineB_false] at e'
        obtain ⟨k, hk, e1⟩ := e'
        have : lineB G m P = false := lineB_false.mpr ⟨k, hk, by rw [h k hk]; exact e1⟩
        rw [e] at this
        cases this
  exact (key _ rfl).symm
theorem stepP_congr {q d : Nat → Bool} {P P' : Nat → α} (h : ∀ k, k < m → P k = P' k) : ∀ k, k < m → stepP G m q d P k = stepP G m q d P' k := by
  intro k hk
  have hh : ∀ k, k < m → hush G q P k = hush G q P' k := fun k hk => by unfold hush; rw [h k hk]
  unfold stepP moveP
  rw [lineB_congr hh, hh k hk]
/-- with no fault behind t1, the same places at two times come again for ever -/
theorem periodic {D Q : List Ft} {P0 : Nat → α} {t1 t2 : Nat} (h12 : t1 ≤ t2) (hn : ∀ f ∈ D ++ Q, f.1 ≤ t1) (h : ∀ k, k < m → (runR G m D Q P0 t1).P k = (runR G m D Q P0 t2).P k) :
    ∀ j, ∀ k, k < m → (runR G m D Q P0 (t1 + j)).P k = (runR G m D Q P0 (t2 + j)).P k
  | 0 => h
  | j + 1 => by
    have none : ∀ (F : List Ft) (t : Nat), (∀ f ∈ F, f.1 ≤ t1) → t1 < t → atB F t = fun _ => false := fun F t hF ht => by
      funext k
      refine decide_eq_false fun hm => ?_
      have := hF _ hm
      omega
    have hD : ∀ f ∈ D, f.1 ≤ t1 := fun f hf => hn f (List.mem_append_left _ hf)
    have hQ : ∀ f ∈ Q, f.1 ≤ t1 := fun f hf => hn f (List.mem_append_right _ hf)
    have ih := periodic h12 hn h j
    intro k hk
    show stepP G m (atB Q (t1 + j + 1)) (atB D (t1 + j + 1)) (runR G m D Q P0 (t1 + j)).P k = stepP G m (atB Q (t2 + j + 1)) (atB D (t2 + j + 1)) (runR G m D Q P0 (t2 + j)).P k
    rw [none Q _ hQ (by omega), none D _ hD (by omega), none Q _ hQ (by omega), none D _ hD (by omega)]
    exact stepP_congr ih k hk
/-- so they are never the same while the sending has an end ahead -/
theorem never_again {D Q : List Ft} {P0 : Nat → α} {T t1 t2 : Nat} (h12 : t1 < t2) (h2 : t2 ≤ T) (hn : ∀ f ∈ D ++ Q, f.1 ≤ t1) (hT : anyL G m (runR G m D Q P0 T).P = false) (hl : ∀ t, t < T → anyL G m (runR G m D Q P0 t).P = true) :
    ¬ ∀ k, k < m → (runR G m D Q P0 t1).P k = (runR G m D Q P0 t2).P k := by
  intro h
  have hp := periodic (Nat.le_of_lt h12) hn h (T - t2)
  rw [show t2 + (T - t2) = T by omega] at hp
  have := hl (t1 + (T - t2)) (by omega)
  rw [anyL_iff] at this
  obtain ⟨k, hk, e⟩ := this
  rw [hp k hk] at e
  have : anyL G m (runR G m D Q P0 T).P = true := anyL_iff.mpr ⟨k, hk, e⟩
  rw [hT] at this
  cases this
end

/-! ### two kinds of places that go along -/
section
variable {α β : Type} (G : Sys α) (J : Sys β) (R : Nat → α → β → Prop)
structure Along : Prop where
  live : ∀ k a b, R k a b → G.live a = J.live b
  put : ∀ k a b, R k a b → G.live a = true → G.put k a = J.put k b
  go : ∀ k a b, R k a b → G.live a = true → ∀ e, R k (G.go k a e) (J.go k b e)
  sil : ∀ k, R k G.sil J.sil
variable {G J R}
theorem along_line (h : Along G J R) {m : Nat} {P : Nat → α} {S : Nat → β} (hp : ∀ k, k < m → R k (P k) (S k)) : lineB G m P = lineB J m S := by
  unfold lineB
  congr 1
  have : ∀ l : List Nat, (∀ k ∈ l, k < m) → (l.any fun k => G.live (P k) && G.put k (P k) == 0) = (l.any fun k => J.live (S k) && J.put k (S k) == 0) := by
    intro l
    induction l with
    | nil => intro _; rfl
    | cons k l ih =>
      intro hl
      rw [List.any_cons, List.any_cons, ih fun j hj => hl j (List.mem_cons_of_mem _ hj)]
      have r := hp k (hl k List.mem_cons_self)
      rw [← h.live k _ _ r]
      cases e : G.live (P k) with
      | false => rfl
      | true => rw [h.put k _ _ r e]
  exact this _ fun k hk => List.mem_range.mp hk
theorem along_run (h : Along G J R) {m : Nat} {D Q : List Ft} {P0 : Nat → α} {S0 : Nat → β} (h0 : ∀ k, k < m → R k (P0 k) (S0 k)) :
    ∀ t, (∀ k, k < m → R k ((runR G m D Q P0 t).P k) ((runR J m D Q S0 t).P k)) ∧ (runR G m D Q P0 t).bits = (runR J m D Q S0 t).bits ∧ ∀ k, k < m → (runR G m D Q P0 t).ears k = (runR J m D Q S0 t).ears k
  | 0 => ⟨h0, rfl, fun _ _ => rfl⟩
  | t + 1 => by
    obtain ⟨h1, h2, h3⟩ := along_run h h0 t
    have hh : ∀ k, k < m → R k (hush G (atB Q (t + 1)) (runR G m D Q P0 t).P k) (hush J (atB Q (t + 1)) (runR J m D Q S0 t).P k) := fun k hk => by
      unfold hush
      split
      · exact h.sil k
      · exact h1 k hk
    have hl := along_line h hh
    refine ⟨fun k hk => ?_, ?_, fun k hk => ?_⟩
    · show R k (stepP G m _ _ _ k) (stepP J m _ _ _ k)
      unfold stepP moveP
      rw [← hl, ← h.live k _ _ (hh k hk)]
      by_cases e : G.live (hush G (atB Q (t + 1)) (runR G m D Q P0 t).P k) = true
      · rw [if_pos e, if_pos e]
        exact h.go k _ _ (hh k hk) e _
      · rw [if_neg e, if_neg e]
        exact hh k hk
    · show (runR G m D Q P0 t).bits ++ [_] = (runR J m D Q S0 t).bits ++ [_]
      rw [h2, hl]
    · show (if G.live _ then _ else _) = (if J.live _ then _ else _)
      rw [← hl, ← h.live k _ _ (hh k hk), h3 k hk]
end

/-! ### the law's stations -/
structure LP where
  bits : Nat
  flag : Nat
  gap : Nat
  lh : Nat
  ls : Nat
  m : Nat
structure LP.Ok (l : LP) : Prop where
  b1 : 1 ≤ l.bits
  b2 : l.bits ≤ 10
  f1 : 1 ≤ l.flag
  f2 : l.flag ≤ 8
  g1 : 1 ≤ l.gap
  g2 : l.gap ≤ 8
  m2 : l.m ≤ 5
  m1 : 1 ≤ l.m
def LP.ch (l : LP) : CP := ⟨l.bits, l.lh, l.flag, l.gap, 0, 1⟩
def LP.cs (l : LP) : CP := ⟨l.bits, l.ls, l.flag, l.gap, 2, 3⟩
def LP.c (l : LP) (k : Nat) : CP := if k = 0 then l.cs else l.ch
def LP.sys (l : LP) : Sys LS where
  live := LS.live
  put := fun _ s => s.put
  go := fun k s b => (l.c k).next s b
  sil := .sil
section
variable {l : LP}
theorem LP.Ok.h (h : l.Ok) : l.ch.Ok := ⟨h.b1, h.b2, h.f1, h.f2, h.g1, h.g2, (by decide : 0 < 4), (by decide : 1 < 4), (by decide : 0 ≠ 1)⟩
theorem LP.Ok.s (h : l.Ok) : l.cs.Ok := ⟨h.b1, h.b2, h.f1, h.f2, h.g1, h.g2, (by decide : 2 < 4), (by decide : 3 < 4), (by decide : 2 ≠ 3)⟩
theorem LP.Ok.c (h : l.Ok) (k : Nat) : (l.c k).Ok := by
  unfold LP.c
  split
  · exact h.s
  · exact h.h
theorem c_bits (l : LP) (k : Nat) : (l.c k).bits = l.bits := by unfold LP.c; split <;> rfl
theorem c_flag (l : LP) (k : Nat) : (l.c k).flag = l.flag := by unfold LP.c; split <;> rfl
theorem c_gap (l : LP) (k : Nat) : (l.c k).gap = l.gap := by unfold LP.c; split <;> rfl
/-- a station as it may be -/
def LP.okS (l : LP) (k : Nat) (s : LS) : Prop := s = .sil ∨ (l.c k).St s
theorem okS_go (h : l.Ok) {k : Nat} {s : LS} (hs : l.okS k s) (b : Bool) : l.okS k ((l.c k).next s b) := by
  rcases hs with e | hs
  · rw [e]
    exact .inl (by cases b <;> rfl)
  · exact .inr (next_st (h.c k) hs b)

/-- lists of small numbers -/
def cnt (m : Nat) (f : Nat → Nat) : Nat := ((List.range m).map f).sum
theorem cnt_succ (m : Nat) (f : Nat → Nat) : cnt (m + 1) f = cnt m f + f m := by
  unfold cnt
  rw [List.range_succ, List.map_append, List.sum_append]
  simp
theorem cnt_le {m : Nat} {f g : Nat → Nat} (h : ∀ k, k < m → f k ≤ g k) : cnt m f ≤ cnt m g := by
  induction m with
  | zero => exact Nat.le_refl _
  | succ m ih =>
    rw [cnt_succ, cnt_succ]
    have := ih fun k hk => h k (by omega)
    have := h m (by omega)
    omega
theorem cnt_lt {m : Nat} {f g : Nat → Nat} (h : ∀ k, k < m → f k ≤ g k) {j : Nat} (hj : j < m) (hs : f j < g j) : cnt m f < cnt m g := by
  induction m with
  | zero => omega
  | succ m ih =>
    rw [cnt_succ, cnt_succ]
    have h1 := h m (by omega)
    by_cases e : j = m
    · subst e
      have := cnt_le (m := j) fun k hk => h k (by omega)
      omega
    · have := ih (fun k hk => h k (by omega)) (by omega)
      omega
theorem cnt_const {m : Nat} {f : Nat → Nat} {b : Nat} (h : ∀ k, k < m → f k ≤ b) : cnt m f ≤ m * b := by
  induction m with
  | zero => exact Nat.zero_le _
  | succ m ih =>
    rw [cnt_succ, Nat.succ_mul]
    have := ih fun k hk => h k (by omega)
    have := h m (by omega)
    omega
/-- the greatest of them -/
def top (m : Nat) (f : Nat → Nat) : Nat := match m with
  | 0 => 0
  | m + 1 => max (top m f) (f m)
theorem le_top {m : Nat} {f : Nat → Nat} {k : Nat} (h : k < m) : f k ≤ top m f := by
  induction m with
  | zero => omega
  | succ m ih =>
    show f k ≤ max (top m f) (f m)
    by_cases e : k = m
    · rw [e]
      omega
    · have := ih (by omega)
      omega
theorem top_le {m : Nat} {f : Nat → Nat} {b : Nat} (h : ∀ k, k < m → f k ≤ b) : top m f ≤ b := by
  induction m with
  | zero => exact Nat.zero_le _
  | succ m ih =>
    show max (top m f) (f m) ≤ b
    have := ih fun k hk => h k (by omega)
    have := h m (by omega)
    omega

def lv (s : LS) : Nat := if s.live then 1 else 0
def fln : LS → Nat | .fl n _ => n | _ => 0
def isF (s : LS) : Nat := match s with | .fl _ _ => 1 | _ => 0
def dirt : LS → Nat | .en _ => 1 | .gp n _ => n | _ => 0
def LP.rem (l : LP) : LS → Nat | .en n => l.bits + 1 - n | .gp n _ => l.gap - n | _ => 0
def LP.nu (l : LP) (P : Nat → LS) : Nat :=
  if 0 < top l.m (fun k => isF (P k)) then (if 0 < top l.m (fun k => dirt (P k)) then 200 else 100 + top l.m (fun k => fln (P k))) else cnt l.m fun k => l.rem (P k)
/-- what falls at every bit; left: how many wrong bits may still be drawn -/
def LP.mu (l : LP) (left : Nat) (P : Nat → LS) : Nat := (left + cnt l.m fun k => lv (P k)) * 201 + l.nu P

theorem rem_le (h : l.Ok) {P : Nat → LS} (hs : ∀ k, k < l.m → l.okS k (P k)) : cnt l.m (fun k => l.rem (P k)) ≤ 50 := by
  have h1 : cnt l.m (fun k => l.rem (P k)) ≤ l.m * 10 := cnt_const fun k hk => by
    have := h.b2
    have := h.g2
    rcases hs k hk with e | e
    · rw [e]
      exact Nat.zero_le _
    · cases ep : P k with
      | en n =>
        rw [ep] at e
        have e' : 1 ≤ n ∧ n ≤ (l.c k).bits := e
        show l.bits + 1 - n ≤ 10
        omega
      | gp n w =>
        show l.gap - n ≤ 10
        omega
      | sil => exact Nat.zero_le _
      | wd w => exact Nat.zero_le _
      | fl n w => exact Nat.zero_le _
  have := h.m2
  omega
theorem fln_le (h : l.Ok) {P : Nat → LS} (hs : ∀ k, k < l.m → l.okS k (P k)) : top l.m (fun k => fln (P k)) ≤ 8 := by
  exact top_le fun k hk => by
    rcases hs k hk with e | e
    · rw [e]
      exact Nat.zero_le _
    · cases ep : P k with
      | fl n w =>
        rw [ep] at e
        have e' : 1 ≤ n ∧ n ≤ (l.c k).flag ∧ (l.c k).Wd w := e
        rw [c_flag] at e'
        have := h.f2
        show n ≤ 8
        omega
      | en n => exact Nat.zero_le _
      | gp n w => exact Nat.zero_le _
      | sil => exact Nat.zero_le _
      | wd w => exact Nat.zero_le _
theorem nu_le (h : l.Ok) {P : Nat → LS} (hs : ∀ k, k < l.m → l.okS k (P k)) : l.nu P ≤ 200 := by
  have h1 := rem_le h hs
  have h2 := fln_le h hs
  unfold LP.nu
  split
  · split <;> omega
  · omega
theorem mu_le (h : l.Ok) {P : Nat → LS} (hs : ∀ k, k < l.m → l.okS k (P k)) {left : Nat} (hl : left ≤ 3) : l.mu left P ≤ 1808 := by
  have h1 := nu_le h hs
  have h2 : cnt l.m (fun k => lv (P k)) ≤ l.m * 1 := cnt_const fun k hk => by unfold lv; split <;> omega
  have := h.m2
  unfold LP.mu
  have h3 : left + cnt l.m (fun k => lv (P k)) ≤ 8 := by omega
  have := Nat.mul_le_mul_right 201 h3
  omega
theorem live_next {c : CP} {s : LS} (h : s.live = false) (b : Bool) : c.next s b = s := by
  cases s <;> first | (cases b <;> rfl) | cases h

/-- one bit of the law's sending: the measure falls -/
theorem mu_step (h : l.Ok) {P : Nat → LS} (hs : ∀ k, k < l.m → l.okS k (P k)) (hl : anyL l.sys l.m P = true) {q d : Nat → Bool} {L L' : Nat}
    (hq : ∀ k, k < l.m → q k = true → (P k).live = true) (hL : L' < L ∨ (L' = L ∧ ∀ k, k < l.m → LS.live (hush l.sys q P k) = true → d k = false)) :
    l.mu L' (stepP l.sys l.m q d P) < l.mu L P ∧ ∀ k, k < l.m → l.okS k (stepP l.sys l.m q d P k) := by
  have ok1 : ∀ k, k < l.m → l.okS k (hush l.sys q P k) := fun k hk => by
    unfold hush
    split
    · exact .inl rfl
    · exact hs k hk
  have ok2 : ∀ k, k < l.m → l.okS k (stepP l.sys l.m q d P k) := fun k hk => by
    unfold stepP moveP
    split
    · exact okS_go h (ok1 k hk) _
    · exact ok1 k hk
  refine ⟨?_, ok2⟩
  have hnu := nu_le h ok2
  -- who is on the way
  have lv1 : ∀ k, lv (stepP l.sys l.m q d P k) ≤ lv (hush l.sys q P k) := fun k => by
    unfold stepP moveP
    split
    · rename_i e
      have : lv (hush l.sys q P k) = 1 := by unfold lv; rw [if_pos (show LS.live (hush l.sys q P k) = true from e)]
      rw [this]
      unfold lv
      split <;> omega
    · exact Nat.le_refl _
  have lv2 : ∀ k, lv (hush l.sys q P k) ≤ lv (P k) := fun k => by
    unfold hush
    split
    · exact Nat.zero_le _
    · exact Nat.le_refl _
  have lv3 : ∀ k, k < l.m → lv (stepP l.sys l.m q d P k) ≤ lv (P k) := fun k _ => Nat.le_trans (lv1 k) (lv2 k)
  have drop : L' + cnt l.m (fun k => lv (stepP l.sys l.m q d P k)) < L + cnt l.m (fun k => lv (P k)) → l.mu L' (stepP l.sys l.m q d P) < l.mu L P := fun hlt => by
    unfold LP.mu
    have := Nat.mul_le_mul_right 201 (Nat.succ_le_of_lt hlt)
    rw [Nat.succ_mul] at this
    omega
  have hcle := cnt_le lv3
  rcases hL with hL | ⟨hL, hd⟩
  · exact drop (by omega)
  subst hL
  by_cases hsame : ∀ k, k < l.m → lv (stepP l.sys l.m q d P k) = lv (P k)
  case neg =>
    obtain ⟨k, hk⟩ := Classical.not_forall.mp hsame
    obtain ⟨hk1, hk2⟩ := Classical.not_imp.mp hk
    have h3 := lv3 k hk1
    exact drop (by have := cnt_lt lv3 hk1 (by omega); omega)
  -- nobody falls silent, hears wrongly or gets a word
  have noq : ∀ k, k < l.m → hush l.sys q P k = P k := fun k hk => by
    by_cases e : q k = true
    · exfalso
      have h1 := hsame k hk
      have h2 := lv1 k
      have h3 : lv (hush l.sys q P k) = 0 := by unfold hush; rw [if_pos e]; rfl
      have h4 : lv (P k) = 1 := by unfold lv; rw [if_pos (hq k hk e)]
      omega
    · unfold hush
      rw [if_neg e]
  have hline : lineB l.sys l.m (hush l.sys q P) = lineB l.sys l.m P := lineB_congr noq
  have hst : ∀ k, k < l.m → stepP l.sys l.m q d P k = (l.c k).next (P k) (lineB l.sys l.m P) := fun k hk => by
    unfold stepP moveP
    rw [hline, noq k hk]
    by_cases e : LS.live (P k) = true
    · rw [if_pos (show l.sys.live (P k) = true from e)]
      have hdk := hd k hk (by rw [noq k hk]; exact e)
      unfold earB
      rw [hdk]
      rfl
    · rw [if_neg (show ¬ l.sys.live (P k) = true from e), live_next (by simpa using e)]
  generalize hP' : stepP l.sys l.m q d P = P' at hst hsame ok2 hnu hcle ⊢
  have hnulast : l.nu P' < l.nu P → l.mu L' P' < l.mu L' P := fun hlt => by
    unfold LP.mu
    have := Nat.mul_le_mul_right 201 hcle
    omega
  apply hnulast
  have isF_pos : ∀ {P : Nat → LS}, 0 < top l.m (fun k => isF (P k)) → ∃ k, k < l.m ∧ ∃ n w, P k = .fl n w := by
    intro P hp
    apply Classical.byContradiction
    intro hno
    have : top l.m (fun k => isF (P k)) ≤ 0 := top_le fun k hk => by
      cases e : P k with
      | fl n w => exact absurd ⟨k, hk, n, w, e⟩ hno
      | sil => exact Nat.le_refl _
      | wd w => exact Nat.le_refl _
      | en n => exact Nat.le_refl _
      | gp n w => exact Nat.le_refl _
    omega
  cases hb : lineB l.sys l.m P with
  | true =>
    rw [hb] at hst
    have noF : ∀ k, k < l.m → ∀ n w, P k ≠ .fl n w := fun k hk n w e => by
      have : lineB l.sys l.m P = false := lineB_false.mpr ⟨k, hk, by rw [e]; rfl, by rw [e]; rfl⟩
      rw [hb] at this
      cases this
    have n1 : l.nu P = cnt l.m fun k => l.rem (P k) := by
      unfold LP.nu
      rw [if_neg]
      intro hp
      obtain ⟨k, hk, n, w, e⟩ := isF_pos hp
      exact noF k hk n w e
    -- each station on its way goes on by one
    have each : ∀ k, k < l.m → (∀ n w, P' k ≠ .fl n w) ∧ (l.rem (P' k) ≤ l.rem (P k)) ∧ ((P k).live = true → l.rem (P' k) < l.rem (P k)) := fun k hk => by
      have hsk := hsame k hk
      have hok := hs k hk
      rw [hst k hk] at hsk ⊢
      cases e : P k with
      | sil => exact ⟨fun _ _ => LS.noConfusion, Nat.le_refl _, fun hc => by cases hc⟩
      | wd w => exact ⟨fun _ _ => LS.noConfusion, Nat.le_refl _, fun hc => by cases hc⟩
      | fl n w => exact absurd e (noF k hk n w)
      | en n =>
        rw [e] at hsk hok
        have hr : 1 ≤ n ∧ n ≤ (l.c k).bits := hok.elim (fun z => by cases z) id
        rw [c_bits] at hr
        have e1 : (l.c k).next (.en n) true = if n = l.bits then .wd (l.c k).late else .en (n + 1) := by
          show (if n = (l.c k).bits then LS.wd (l.c k).late else LS.en (n + 1)) = _
          rw [c_bits]
        rw [e1] at hsk ⊢
        by_cases en : n = l.bits
        · rw [if_pos en] at hsk
          cases hsk
        · rw [if_neg en]
          have : l.rem (.en (n + 1)) < l.rem (.en n) := by
            show l.bits + 1 - (n + 1) < l.bits + 1 - n
            omega
          exact ⟨fun _ _ => LS.noConfusion, Nat.le_of_lt this, fun _ => this⟩
      | gp n w =>
        rw [e] at hsk hok
        have hr : n < (l.c k).gap ∧ (l.c k).Wd w := hok.elim (fun z => by cases z) id
        rw [c_gap] at hr
        have e1 : (l.c k).next (.gp n w) true = if n + 1 = l.gap then .wd w else .gp (n + 1) w := by
          show (if n + 1 = (l.c k).gap then LS.wd w else LS.gp (n + 1) w) = _
          rw [c_gap]
        rw [e1] at hsk ⊢
        by_cases en : n + 1 = l.gap
        · rw [if_pos en] at hsk
          cases hsk
        · rw [if_neg en]
          have : l.rem (.gp (n + 1) w) < l.rem (.gp n w) := by
            show l.gap - (n + 1) < l.gap - n
            omega
          exact ⟨fun _ _ => LS.noConfusion, Nat.le_of_lt this, fun _ => this⟩
    have n2 : l.nu P' = cnt l.m fun k => l.rem (P' k) := by
      unfold LP.nu
      rw [if_neg]
      intro hp
      obtain ⟨k, hk, n, w, e⟩ := isF_pos hp
      exact (each k hk).1 n w e
    obtain ⟨j, hj, hjl⟩ := anyL_iff.mp hl
    rw [n1, n2]
    exact cnt_lt (fun k hk => (each k hk).2.1) hj ((each j hj).2.2 hjl)
  | false =>
    rw [hb] at hst
    obtain ⟨j, hj, hjl, hjp⟩ := lineB_false.mp hb
    obtain ⟨fn, fw, ej⟩ : ∃ n w, P j = .fl n w := by
      cases e : P j with
      | fl n w => exact ⟨n, w, rfl⟩
      | sil => rw [e] at hjl; cases hjl
      | wd w => rw [e] at hjl; cases hjl
      | en n => rw [e] at hjp; cases hjp
      | gp n w => rw [e] at hjp; cases hjp
    have hF : 0 < top l.m (fun k => isF (P k)) := by
      have := le_top (f := fun k => isF (P k)) hj
      rw [ej] at this
      exact this
    have clean : ¬ 0 < top l.m (fun k => dirt (P' k)) := by
      have : top l.m (fun k => dirt (P' k)) ≤ 0 := top_le fun k hk => by
        show dirt (P' k) ≤ 0
        rw [hst k hk]
        cases e : P k with
        | sil => exact Nat.le_refl _
        | wd w => exact Nat.le_refl _
        | en n => exact Nat.le_refl _
        | fl n w =>
          show dirt (if 1 < n then LS.fl (n - 1) w else LS.gp 0 w) ≤ 0
          split <;> exact Nat.le_refl _
        | gp n w =>
          show dirt (if 0 < n then LS.fl (l.c k).flag w else LS.gp n w) ≤ 0
          split
          · exact Nat.le_refl _
          · show n ≤ 0
            omega
      omega
    have hrem := rem_le h ok2
    have hfl := fln_le h ok2
    have e1 : l.nu P' ≤ 108 := by
      unfold LP.nu
      rw [if_neg clean]
      split <;> omega
    by_cases hdirt : 0 < top l.m (fun k => dirt (P k))
    · have e2 : l.nu P = 200 := by
        unfold LP.nu
        rw [if_pos hF, if_pos hdirt]
      omega
    · have e2 : l.nu P = 100 + top l.m (fun k => fln (P k)) := by
        unfold LP.nu
        rw [if_pos hF, if_neg hdirt]
      have nod : ∀ k, k < l.m → dirt (P k) = 0 := fun k hk => by
        have := le_top (f := fun k => dirt (P k)) hk
        have this' : dirt (P k) ≤ top l.m (fun k => dirt (P k)) := this
        omega
      have tpos : 0 < top l.m (fun k => fln (P k)) := by
        have := le_top (f := fun k => fln (P k)) hj
        have this' : fln (P j) ≤ top l.m (fun k => fln (P k)) := this
        rw [ej] at this'
        have hok := hs j hj
        rw [ej] at hok
        have hr : 1 ≤ fn ∧ fn ≤ (l.c j).flag ∧ (l.c j).Wd fw := hok.elim (fun z => by cases z) id
        have : fn ≤ top l.m (fun k => fln (P k)) := this'
        omega
      have tle : top l.m (fun k => fln (P' k)) ≤ top l.m (fun k => fln (P k)) - 1 := top_le fun k hk => by
        have hle : fln (P k) ≤ top l.m (fun k => fln (P k)) := le_top (f := fun k => fln (P k)) hk
        have hd0 := nod k hk
        show fln (P' k) ≤ _
        rw [hst k hk]
        cases e : P k with
        | sil => exact Nat.zero_le _
        | wd w => exact Nat.zero_le _
        | en n => rw [e] at hd0; cases hd0
        | fl n w =>
          rw [e] at hle
          have hle' : n ≤ top l.m (fun k => fln (P k)) := hle
          show fln (if 1 < n then LS.fl (n - 1) w else LS.gp 0 w) ≤ _
          split
          · show n - 1 ≤ _
            omega
          · exact Nat.zero_le _
        | gp n w =>
          rw [e] at hd0
          have hn0 : n = 0 := hd0
          show fln (if 0 < n then LS.fl (l.c k).flag w else LS.gp n w) ≤ _
          rw [if_neg (by omega)]
          exact Nat.zero_le _
      have e3 : l.nu P' ≤ 100 + (top l.m (fun k => fln (P k)) - 1) := by
        unfold LP.nu
        rw [if_neg clean]
        split
        · omega
        · omega
      omega
end
end KX
end
section
set_option autoImplicit false
set_option maxRecDepth 100000
/-! Plain mathematics 7: a sending with all its faults, by the law and by an end's machines. -/
namespace KX
open PySem

/-- how far a sending has come; T where it ends -/
structure Part {α : Type} (G : Sys α) (m : Nat) (P0 : Nat → α) (D Q : List Ft) (t : Nat) : Prop where
  dN : D.Nodup
  qN : Q.Nodup
  d0 : ∀ k, (0, k) ∈ D → 1 ≤ k ∧ k < m
  d1 : ∀ b k, (b + 1, k) ∈ D → b + 1 ≤ t ∧ k < m ∧ G.live (hush G (atB Q (b + 1)) (runR G m D Q P0 b).P k) = true
  q0 : ∀ k, (0, k) ∉ Q
  q1 : ∀ b k, (b + 1, k) ∈ Q → b + 1 ≤ t ∧ k < m ∧ G.live ((runR G m D Q P0 b).P k) = true
  on : ∀ s, s < t → anyL G m (runR G m D Q P0 s).P = true
structure Fair {α : Type} (G : Sys α) (m : Nat) (P0 : Nat → α) (D Q : List Ft) (T : Nat) : Prop extends Part G m P0 D Q T where
  fin : anyL G m (runR G m D Q P0 T).P = false
  small : T ≤ 4000

section
variable {α : Type} {G : Sys α} {m : Nat} {P0 : Nat → α} {D Q : List Ft} {t : Nat}
theorem atB_append (F : List Ft) (l : List Nat) (t s : Nat) (h : s ≠ t) : atB (F ++ l.map fun k => (t, k)) s = atB F s := by
  funext k
  refine decide_eq_decide.mpr ⟨fun hm => ?_, fun hm => List.mem_append_left _ hm⟩
  rcases List.mem_append.mp hm with hm | hm
  · exact hm
  · obtain ⟨j, _, e⟩ := List.mem_map.mp hm
    exact absurd (Prod.mk.inj e).1.symm h
theorem mem_new {F : List Ft} {l : List Nat} {t b k : Nat} : (b, k) ∈ F ++ l.map (fun k => (t, k)) ↔ (b, k) ∈ F ∨ (b = t ∧ k ∈ l) := by
  rw [List.mem_append, List.mem_map]
  constructor
  · rintro (h | ⟨j, hj, e⟩)
    · exact .inl h
    · exact .inr ⟨(Prod.mk.inj e).1.symm, (Prod.mk.inj e).2 ▸ hj⟩
  · rintro (h | ⟨e, hk⟩)
    · exact .inl h
    · exact .inr ⟨k, hk, by rw [e]⟩
theorem run_new (D Q : List Ft) (dn qn : List Nat) {s : Nat} (hs : s ≤ t) : runR G m (D ++ dn.map fun k => (t + 1, k)) (Q ++ qn.map fun k => (t + 1, k)) P0 s = runR G m D Q P0 s := by
  refine runR_congr fun u h1 h2 k => ?_
  rw [mem_new, mem_new]
  constructor
  · exact ⟨fun h => h.elim id fun z => by omega, .inl⟩
  · exact ⟨fun h => h.elim id fun z => by omega, .inl⟩
theorem Part.nextBit (h : Part G m P0 D Q t) (hl : anyL G m (runR G m D Q P0 t).P = true) {dn qn : List Nat} (dnN : dn.Nodup) (qnN : qn.Nodup)
    (hq : ∀ k ∈ qn, k < m ∧ G.live ((runR G m D Q P0 t).P k) = true) (hd : ∀ k ∈ dn, k < m ∧ G.live (hush G (fun k => decide (k ∈ qn)) (runR G m D Q P0 t).P k) = true) :
    Part G m P0 (D ++ dn.map fun k => (t + 1, k)) (Q ++ qn.map fun k => (t + 1, k)) (t + 1) ∧
      runR G m (D ++ dn.map fun k => (t + 1, k)) (Q ++ qn.map fun k => (t + 1, k)) P0 (t + 1) = stepR G m (fun k => decide (k ∈ qn)) (fun k => decide (k ∈ dn)) (runR G m D Q P0 t) := by
  have nomem : ∀ {F : List Ft}, (∀ b k, (b + 1, k) ∈ F → b + 1 ≤ t) → ∀ k, (t + 1, k) ∉ F := fun hF k hm => by
    have := hF t k hm
    omega
  have hDn := nomem fun b k hm => (h.d1 b k hm).1
  have hQn := nomem fun b k hm => (h.q1 b k hm).1
  have atq : atB (Q ++ qn.map fun k => (t + 1, k)) (t + 1) = fun k => decide (k ∈ qn) := by
    funext k
    refine decide_eq_decide.mpr (mem_new.trans ⟨fun z => z.elim (fun z => absurd z (hQn k)) (·.2), fun z => .inr ⟨rfl, z⟩⟩)
  have atd : atB (D ++ dn.map fun k => (t + 1, k)) (t + 1) = fun k => decide (k ∈ dn) := by
    funext k
    refine decide_eq_decide.mpr (mem_new.trans ⟨fun z => z.elim (fun z => absurd z (hDn k)) (·.2), fun z => .inr ⟨rfl, z⟩⟩)
  have nd : ∀ {F : List Ft} {l : List Nat}, F.Nodup → l.Nodup → (∀ k, (t + 1, k) ∉ F) → (F ++ l.map fun k => (t + 1, k)).Nodup := fun {F l} hF hl hn => by
    rw [List.nodup_append]
    refine ⟨hF, ?_, fun a ha b hb e => ?_⟩
    · refine List.Pairwise.map (R := (· ≠ ·)) _ (fun a b hab e => hab (Prod.mk.inj e).2) hl
    · obtain ⟨k, _, e2⟩ := List.mem_map.mp hb
      rw [← e, ] at e2
      exact hn k (e2 ▸ ha)
  have hrun := run_new (G := G) (m := m) (P0 := P0) (t := t) D Q dn qn (Nat.le_refl t)
  refine ⟨⟨nd h.dN dnN hDn, nd h.qN qnN hQn, fun k hm => ?_, fun b k hm => ?_, fun k hm => ?_, fun b k hm => ?_, fun s hs => ?_⟩, ?_⟩
  · exact (mem_new.mp hm).elim (h.d0 k) fun z => by omega
  · rcases mem_new.mp hm with hm | ⟨e, hmk⟩
    · have h1 := h.d1 b k hm
      refine ⟨by omega, h1.2.1, ?_⟩
      rw [run_new D Q dn qn (by omega), atB_append _ _ _ _ (by omega)]
      exact h1.2.2
    · have e' : b = t := by omega
      subst e'
      refine ⟨Nat.le_refl _, (hd k hmk).1, ?_⟩
      rw [hrun, atq]
      exact (hd k hmk).2
  · exact (mem_new.mp hm).elim (h.q0 k) fun z => by omega
  · rcases mem_new.mp hm with hm | ⟨e, hmk⟩
    · have h1 := h.q1 b k hm
      refine ⟨by omega, h1.2.1, ?_⟩
      rw [run_new D Q dn qn (by omega)]
      exact h1.2.2
    · have e' : b = t := by omega
      subst e'
      refine ⟨Nat.le_refl _, (hq k hmk).1, ?_⟩
      rw [hrun]
      exact (hq k hmk).2
  · rw [run_new D Q dn qn (by omega)]
    by_cases e : s < t
    · exact h.on s e
    · have : s = t := by omega
      rw [this]
      exact hl
  · show stepR G m _ _ _ = _
    rw [hrun, atq, atd]
end

/-! the law's stations at the start -/
def LP.P0 (l : LP) (D : List Ft) (k : Nat) : LS := if (0, k) ∈ D then .fl l.flag lostS else .en 1
theorem P0_new (l : LP) (D : List Ft) (dn : List Nat) (t : Nat) : l.P0 (D ++ dn.map fun k => (t + 1, k)) = l.P0 D := by
  funext k
  unfold LP.P0
  have : ((0, k) ∈ D ++ dn.map fun k => (t + 1, k)) ↔ (0, k) ∈ D := mem_new.trans ⟨fun z => z.elim id fun z => by omega, .inl⟩
  simp only [this]
theorem P0_ok {l : LP} (h : l.Ok) {D : List Ft} (hd : ∀ k, (0, k) ∈ D → 1 ≤ k ∧ k < l.m) (k : Nat) : l.okS k (l.P0 D k) := by
  unfold LP.P0
  split
  · rename_i hm
    refine .inr ⟨h.f1, by rw [c_flag]; exact Nat.le_refl _, ⟨.inl ?_⟩⟩
    have := (hd k hm).1
    unfold LP.c
    rw [if_neg (by omega)]
    rfl
  · exact .inr ⟨Nat.le_refl _, by rw [c_bits]; exact h.b1⟩
theorem run_ok {l : LP} (h : l.Ok) {D Q : List Ft} {P0 : Nat → LS} (h0 : ∀ k, l.okS k (P0 k)) : ∀ t k, l.okS k ((runR l.sys l.m D Q P0 t).P k)
  | 0, k => h0 k
  | t + 1, k => by
    have ih := run_ok (D := D) (Q := Q) h h0 t
    show l.okS k (stepP l.sys l.m _ _ _ k)
    have hh : l.okS k (hush l.sys (atB Q (t + 1)) (runR l.sys l.m D Q P0 t).P k) := by
      unfold hush
      split
      · exact .inl rfl
      · exact ih k
    unfold stepP moveP
    split
    · exact okS_go h hh _
    · exact hh

/-! ### an end's machines -/
def sysB (M : Nat → Mc) : Sys (Option Pl) where
  live := fun p => match p with | some (.ix _) => true | _ => false
  put := fun k p => match p with | some (.ix i) => (rowAt (M k) i).put | _ => 1
  go := fun k p b => match p with | some (.ix i) => some ((rowAt (M k) i).go b) | _ => p
  sil := none
def mcs (Mh Ms : Mc) (k : Nat) : Mc := if k = 0 then Ms else Mh
def P0B (D : List Ft) (k : Nat) : Option Pl := some (.ix (if (0, k) ∈ D then 1 else 0))
def RelP (l : LP) (M : Nat → Mc) (k : Nat) (st : LS) (p : Option Pl) : Prop :=
  (st = .sil ∧ p = none) ∨ ∃ pl, p = some pl ∧ (l.c k).St st ∧ pl.ok (M k).length ∧ ∀ bs, beh (M k) bs pl = behL (l.c k) bs st
theorem rel_live {c : CP} {st : LS} (hs : c.St st) {M : Mc} {pl : Pl} (hb : ∀ bs, beh M bs pl = behL c bs st) : (st.live = true → ∃ i, pl = .ix i) ∧ (st.live = false → ∃ w, pl = .wd w ∧ st = .wd w) := by
  constructor
  · intro hl
    cases pl with
    | ix i => exact ⟨i, rfl⟩
    | wd w =>
      have := hb []
      rw [beh_wd, behL_nil c hl] at this
      cases this
  · intro hl
    cases st with
    | sil => exact hs.elim
    | wd w =>
      cases pl with
      | ix i =>
        have := hb []
        rw [beh_nil, behL_wd] at this
        cases this
      | wd v =>
        have := hb []
        rw [beh_wd, behL_wd] at this
        exact ⟨v, rfl, by rw [Sum.inr.inj this]⟩
    | en n => cases hl
    | fl n w => cases hl
    | gp n w => cases hl
theorem along_B {l : LP} (h : l.Ok) {M : Nat → Mc} (hM : ∀ k, Wf (M k)) : Along l.sys (sysB M) (RelP l M) where
  live := fun k a b r => by
    rcases r with ⟨e1, e2⟩ | ⟨pl, e, hs, ho, hb⟩
    · rw [e1, e2]
      rfl
    · rw [e]
      have hr := rel_live hs hb
      cases hl : a.live with
      | true =>
        obtain ⟨i, ei⟩ := hr.1 hl
        rw [ei]
        exact hl
      | false =>
        obtain ⟨w, ew, _⟩ := hr.2 hl
        rw [ew]
        exact hl
  put := fun k a b r hl => by
    rcases r with ⟨e1, e2⟩ | ⟨pl, e, hs, ho, hb⟩
    · rw [e1] at hl
      cases hl
    · obtain ⟨i, ei⟩ := (rel_live hs hb).1 hl
      have := hb []
      rw [ei, beh_nil, behL_nil _ hl] at this
      rw [e, ei]
      exact (Sum.inl.inj this).symm
  go := fun k a b r hl e => by
    rcases r with ⟨e1, e2⟩ | ⟨pl, ep, hs, ho, hb⟩
    · rw [e1] at hl
      cases hl
    · obtain ⟨i, ei⟩ := (rel_live hs hb).1 hl
      rw [ei] at ho hb
      refine .inr ⟨(rowAt (M k) i).go e, by rw [ep, ei]; rfl, next_st (h.c k) hs e, (hM k).go ho e, fun bs => ?_⟩
      have := hb (e :: bs)
      rw [beh_cons, behL_cons _ hl] at this
      exact this
  sil := fun k => .inl ⟨rfl, rfl⟩
/-- machines that show what the law's stations do -/
structure Shows (l : LP) (Mh Ms : Mc) : Prop where
  h0 : ∀ bs, beh Mh bs (.ix 0) = behL l.ch bs (.en 1)
  h1 : ∀ bs, beh Mh bs (.ix 1) = behL l.ch bs (.fl l.flag lostS)
  s0 : ∀ bs, beh Ms bs (.ix 0) = behL l.cs bs (.en 1)
theorem rel_start {l : LP} (h : l.Ok) {Mh Ms : Mc} (v : VE Mh Ms) (w : Shows l Mh Ms) {D : List Ft} (hd : ∀ k, (0, k) ∈ D → 1 ≤ k ∧ k < l.m) (k : Nat) : RelP l (mcs Mh Ms) k (l.P0 D k) (P0B D k) := by
  have hst : (l.c k).St (l.P0 D k) := (P0_ok h hd k).elim (fun z => by unfold LP.P0 at z; split at z <;> cases z) id
  refine .inr ⟨_, rfl, hst, ?_, fun bs => ?_⟩
  · have := v.h2
    have := v.s1
    show (if (0, k) ∈ D then 1 else 0) < (mcs Mh Ms k).length
    unfold mcs
    by_cases e : k = 0
    · subst e
      rw [if_pos rfl, if_neg (fun hm => by have := (hd 0 hm).1; omega)]
      omega
    · rw [if_neg e]
      split <;> omega
  · unfold mcs LP.c LP.P0
    by_cases e : k = 0
    · subst e
      have : (0, 0) ∉ D := fun hm => by have := (hd 0 hm).1; omega
      rw [if_pos rfl, if_pos rfl, if_neg this, if_neg this]
      exact w.s0 bs
    · rw [if_neg e, if_neg e]
      split
      · exact w.h1 bs
      · exact w.h0 bs
theorem mcs_wf {Mh Ms : Mc} (v : VE Mh Ms) (k : Nat) : Wf (mcs Mh Ms k) := by
  unfold mcs
  split
  · exact v.s.wf
  · exact v.h.wf
/-- what the law has drawn is a sending of the end -/
theorem fair_B {l : LP} (h : l.Ok) {Mh Ms : Mc} (v : VE Mh Ms) (w : Shows l Mh Ms) {D Q : List Ft} {T : Nat} (f : Fair l.sys l.m (l.P0 D) D Q T) : Fair (sysB (mcs Mh Ms)) l.m (P0B D) D Q T := by
  have A := along_B h (mcs_wf v)
  have R := along_run (m := l.m) (D := D) (Q := Q) A fun k _ => rel_start h v w f.d0 k
  have hl : ∀ t k, k < l.m → l.sys.live ((runR l.sys l.m D Q (l.P0 D) t).P k) = (sysB (mcs Mh Ms)).live ((runR (sysB (mcs Mh Ms)) l.m D Q (P0B D) t).P k) := fun t k hk => A.live k _ _ ((R t).1 k hk)
  have ha : ∀ t, anyL l.sys l.m (runR l.sys l.m D Q (l.P0 D) t).P = anyL (sysB (mcs Mh Ms)) l.m (runR (sysB (mcs Mh Ms)) l.m D Q (P0B D) t).P := fun t => by
    have key : ∀ b, anyL l.sys l.m (runR l.sys l.m D Q (l.P0 D) t).P = b → anyL (sysB (mcs Mh Ms)) l.m (runR (sysB (mcs Mh Ms)) l.m D Q (P0B D) t).P = b := by
      intro b
      cases b with
      | true =>
        rw [anyL_iff, anyL_iff]
        rintro ⟨k, hk, e⟩
        exact ⟨k, hk, (hl t k hk) ▸ e⟩
      | false =>
        intro e
        cases e' : anyL (sysB (mcs Mh Ms)) l.m (runR (sysB (mcs Mh Ms)) l.m D Q (P0B D) t).P with
        | false => rfl
        | true =>
          rw [anyL_iff] at e'
          obtain ⟨k, hk, e2⟩ := e'
          have : anyL l.sys l.m (runR l.sys l.m D Q (l.P0 D) t).P = true := anyL_iff.mpr ⟨k, hk, (hl t k hk).trans e2⟩
          rw [e] at this
          cases this
    exact (key _ rfl).symm
  refine ⟨⟨f.dN, f.qN, f.d0, fun b k hm => ?_, f.q0, fun b k hm => ?_, fun s hs => ?_⟩, ?_, f.small⟩
  · have h1 := f.d1 b k hm
    refine ⟨h1.1, h1.2.1, ?_⟩
    have r : RelP l (mcs Mh Ms) k (hush l.sys (atB Q (b + 1)) (runR l.sys l.m D Q (l.P0 D) b).P k) (hush (sysB (mcs Mh Ms)) (atB Q (b + 1)) (runR (sysB (mcs Mh Ms)) l.m D Q (P0B D) b).P k) := by
      unfold hush
      split
      · exact A.sil k
      · exact (R b).1 k h1.2.1
    rw [← A.live k _ _ r]
    exact h1.2.2
  · have h1 := f.q1 b k hm
    refine ⟨h1.1, h1.2.1, ?_⟩
    rw [← hl b k h1.2.1]
    exact h1.2.2
  · rw [← ha]
    exact f.on s hs
  · rw [← ha]
    exact f.fin
/-- and both end alike: the line, what is heard, the words -/
def wordL : LS → Option Str
  | .wd w => some w
  | _ => none
def wordB : Option Pl → Option Str
  | some (.wd w) => some w
  | _ => none
theorem same_end {l : LP} (h : l.Ok) {Mh Ms : Mc} (v : VE Mh Ms) (w : Shows l Mh Ms) {D Q : List Ft} {T : Nat} (f : Fair l.sys l.m (l.P0 D) D Q T) :
    (runR l.sys l.m D Q (l.P0 D) T).bits = (runR (sysB (mcs Mh Ms)) l.m D Q (P0B D) T).bits ∧
    ∀ k, k < l.m → (runR l.sys l.m D Q (l.P0 D) T).ears k = (runR (sysB (mcs Mh Ms)) l.m D Q (P0B D) T).ears k ∧
      wordL ((runR l.sys l.m D Q (l.P0 D) T).P k) = wordB ((runR (sysB (mcs Mh Ms)) l.m D Q (P0B D) T).P k) ∧
      LS.live ((runR l.sys l.m D Q (l.P0 D) T).P k) = false ∧ (sysB (mcs Mh Ms)).live ((runR (sysB (mcs Mh Ms)) l.m D Q (P0B D) T).P k) = false := by
  have A := along_B h (mcs_wf v)
  have R := along_run (m := l.m) (D := D) (Q := Q) A fun k _ => rel_start h v w f.d0 k
  refine ⟨(R T).2.1, fun k hk => ⟨(R T).2.2 k hk, ?_⟩⟩
  have r := (R T).1 k hk
  have hnl : LS.live ((runR l.sys l.m D Q (l.P0 D) T).P k) = false := by
    cases e : LS.live ((runR l.sys l.m D Q (l.P0 D) T).P k) with
    | false => rfl
    | true =>
      have : anyL l.sys l.m (runR l.sys l.m D Q (l.P0 D) T).P = true := anyL_iff.mpr ⟨k, hk, e⟩
      rw [f.fin] at this
      cases this
  refine ⟨?_, hnl, by rw [← A.live k _ _ r]; exact hnl⟩
  rcases r with ⟨e1, e2⟩ | ⟨pl, e, hs, ho, hb⟩
  · rw [e1, e2]
    rfl
  · obtain ⟨x, e1, e2⟩ := (rel_live hs hb).2 hnl
    rw [e2, e, e1]
    rfl
/-- the counted end shows them -/
theorem shows_count {l : LP} (h : l.Ok) : Shows l (leastRows l.ch.hm 2) (leastRows l.cs.sm 1) where
  h0 := fun bs => by
    have v := count_ve h.h h.s rfl rfl rfl rfl
    rw [leastRows_beh0 v.h.wf v.h2 (by omega)]
    exact hm_beh0 h.h bs
  h1 := fun bs => by
    have v := count_ve h.h h.s rfl rfl rfl rfl
    rw [leastRows_beh0 v.h.wf v.h2 (by omega)]
    exact hm_beh1 h.h bs
  s0 := fun bs => by
    have v := count_ve h.h h.s rfl rfl rfl rfl
    rw [leastRows_beh0 v.s.wf v.s1 (by omega)]
    exact sm_beh0 h.s bs
theorem ve_count {l : LP} (h : l.Ok) : VE (leastRows l.ch.hm 2) (leastRows l.cs.sm 1) := (count_ve h.h h.s rfl rfl rfl rfl).least
end KX
end
section
set_option maxRecDepth 100000
set_option maxHeartbeats 4000000
/-! Walks 0: the text by places, the built-ins, small rules. -/
namespace SB
open PySem PySem.Spec PyProof.Rows L2

def top (i : Nat) : Stmt := PySem.Challenge.pw_strongbit_k56_whole_counted_sendings.main.body.getD i (.Pass ⟨0, 0, 0, 0⟩)

/-- the built-in names are the built-ins -/
structure Gb (mg : Str → Option Value) : Prop where
  isinstance : mg "isinstance" = none
  int : mg "int" = none
  bool : mg "bool" = none
  str : mg "str" = none
  tuple : mg "tuple" = none
  list : mg "list" = none
  len : mg "len" = none
  set : mg "set" = none
  enumerate : mg "enumerate" = none
  range : mg "range" = none
  min : mg "min" = none
  max : mg "max" = none
  sorted : mg "sorted" = none
  abs : mg "abs" = none

section
variable {K : PySem.W.Frag} {H : Hp}
theorem tx_int (i : Int) : TyX K H (.int i) (.type "int") := .base (.int i)
theorem tx_str (x : Str) : TyX K H (.str x) (.type "str") := .base (.str x)
theorem tx_bl (x : Bool) : TyX K H (.bl x) (.type "bool") := .base (.bl x)
theorem tx_non : TyX K H .non (.type "NoneType") := .base .non
theorem tx_lst {a : Addr} {xs : List V} (e : H a = some (.lst xs)) : TyX K H (.ref a) (.type "list") := .base (.lst e)
theorem tx_tup {a : Addr} {xs : List V} (e : H a = some (.tup xs)) : TyX K H (.ref a) (.type "tuple") := .base (.tup e)
theorem k_ii : PySem.W.kitOne K (.type "int") (.type "int") = some true := kit_ty (by decide +kernel)
theorem k_ib : PySem.W.kitOne K (.type "int") (.type "bool") = some false := kit_ty (by decide +kernel)
theorem k_is : PySem.W.kitOne K (.type "int") (.type "str") = some false := kit_ty (by decide +kernel)
theorem k_ss : PySem.W.kitOne K (.type "str") (.type "str") = some true := kit_ty (by decide +kernel)
theorem k_si : PySem.W.kitOne K (.type "str") (.type "int") = some false := kit_ty (by decide +kernel)
theorem k_ni : PySem.W.kitOne K (.type "NoneType") (.type "int") = some false := kit_ty (by decide +kernel)
theorem k_tt : PySem.W.kitOne K (.type "tuple") (.type "tuple") = some true := kit_ty (by decide +kernel)
theorem k_ll : PySem.W.kitOne K (.type "list") (.type "list") = some true := kit_ty (by decide +kernel)
theorem k_nl : PySem.W.kitOne K (.type "NoneType") (.type "list") = some false := kit_ty (by decide +kernel)
theorem k_sl : PySem.W.kitOne K (.type "str") (.type "list") = some false := kit_ty (by decide +kernel)
theorem k_anyLT : PySem.W.kitAny K (.type "list") [.type "list", .type "tuple"] = some true := kitAny_cons k_ll (fun h => nomatch h) (fun _ => rfl)
end
/-- an int, or a text -/
inductive IntOr : V → Bool → Prop where
  | int (i : Int) : IntOr (.int i) true
  | str (x : Str) : IntOr (.str x) false
end SB
end
section
set_option maxRecDepth 100000
set_option maxHeartbeats 4000000
/-! Walks: own rules. -/
namespace SB
open PySem PySem.Spec PyProof.Rows L2

section
variable {prog : Program} {w : World} {A : Around} {E : Value → Shared → Prop} {s : Shared}
/-- a, *b = a tuple: what stood stands, the rest is laid at the end as a new list -/
theorem unpack_star {l : Addr} {u0 : Value} {us : List Value} {Q : List Value → Shared → Prop} (hl : IsTup s.heap l (u0 :: us).toArray) (hh : A.handled = none) (hz : us.length ≤ 1000)
    (h : ∀ (h' : Heap) (tk : Nat), (∀ b o, s.heap.get? b = some o → h'.get? b = some o) → Q [u0, .ref h'.objs.size] { s with heap := h'.push { cls := .type "list", data := .seq us.toArray }, toks := tk }) :
    wpAny (model prog w) A (unpackItems (.ref l) 2 (some 1)) Q E s := by
  have hlt : l ≠ s.heap.objs.size := by obtain ⟨o, ho, _⟩ := hl; exact Nat.ne_of_lt (Heap.lt_size ho)
  have hll : l < s.heap.objs.size := by obtain ⟨o, ho, _⟩ := hl; exact Heap.lt_size ho
  have hsz : (u0 :: us).toArray.size = us.length + 1 := by simp
  unfold unpackItems
  refine wpAny_bind ?_
  unfold notIterableAtAll
  refine wpAny_bind (wpAny_specialOf hl.typeIs PySem.F.slot_tuple_iter.lookup ?_)
  refine wpAny_pure ?_
  simp only [Bool.false_eq_true, if_false]
  refine wpAny_bind (wpAny_holding (PyProof.Rows.iter_tuple hl ?_))
  refine wpAny_bind (wpAny_holding (PyProof.Rows.draw_tuple hlt 1 0 _ _ ⟨_, Heap.get?_push_size _ rfl, rfl, rfl⟩ (hl.push _) (by omega) fun h₁ hit₁ hs₁ => ?_))
  have hl₁ : IsTup h₁ l (u0 :: us).toArray := (hl.push _).extBut hs₁.extBut hlt
  rw [Nat.zero_add] at hit₁
  have hit₁' := hit₁
  obtain ⟨oi, hoi, _⟩ := hit₁'
  have hl₁' := hl₁
  obtain ⟨ol, hol, _⟩ := hl₁'
  rw [List.drop_zero]
  have hfl : ((u0 :: us).toArray.toList.take 1).length = 1 := by simp
  rw [if_neg (show ¬ (((u0 :: us).toArray.toList.take 1).length < 1) by rw [hfl]; omega)]
  refine wpAny_bind (wpAny_holding (PySem.W.kun_collect (s := { s with heap := h₁ }) (T := "tuple_iterator") (.inr (.inr (.inr rfl))) (Walks.tuple (A := A.in1) hh s.heap.objs.size l hlt (u0 :: us).toArray) (fun j u st => st.1.typeIs) (k := 1) (by omega) ⟨hit₁, hl₁⟩ (Heap.lt_size hoi) (Heap.lt_size hol) (fun h₂ tk hk => ?_) (by rw [sizeLine_eq]; omega)))
  have he : ∀ b o, s.heap.get? b = some o → h₂.get? b = some o := fun b o e => by
    have hb : b ≠ s.heap.objs.size := Nat.ne_of_lt (Heap.lt_size e)
    exact hk b o hb (hs₁.extBut b o hb (Heap.get?_push_of_some _ e))
  have e1 : (u0 :: us).toArray.toList.drop 1 = us := by simp
  have e0 : (u0 :: us).toArray.toList.take 1 = [u0] := by simp
  rw [e1, e0]
  show wpAny _ _ (newList (us.take us.length) >>= fun d => pure ([u0] ++ [d] ++ us.drop us.length)) _ _ _
  rw [List.take_length, List.drop_length]
  refine wpAny_bind (wpAny_newList ?_ (by rw [sizeLine_eq]; omega))
  refine wpAny_pure ?_
  exact h h₂ tk he
end
section
variable {X : Cx}
/-- (a, *b) = a tuple: the rest is a new list -/
def gStar (K : PySem.W.Frag) (t : TGs) : TG := fun v σ H Q => ∃ a x xs, v = .ref a ∧ SqT K H a (x :: xs) ∧ xs.length ≤ 1000 ∧ ∀ D, H D = none → t [x, .ref D] σ (upd H D (.lst xs)) Q
theorem pg_star {e1 e2 : Expr} {p2 pos : Pos} {k : Nat} {t : TGs} (hc : X.calm = true) (h : PGs X [e1, .Starred e2 p2] t) (hn : (assignEach [e1, .Starred e2 p2] X.env).length = 2 := by rfl)
    (hst : (assignEach [e1, .Starred e2 p2] X.env).findIdx? (·.1) = some 1 := by rfl) : PG X (.Tuple [e1, .Starred e2 p2] k pos) (gStar X.K t) := by
  refine ⟨fun pins s σ H v u Q I r hw => ?_⟩
  obtain ⟨a, x, xs, e1', hq, hl, hw⟩ := hw
  subst e1'
  cases r
  obtain ⟨its, rv, ht, hz⟩ := I.tuple hq
  obtain ⟨u0, us, rfl, r0, rs⟩ : ∃ u0 us, its = u0 :: us ∧ RelV x u0 ∧ Vals xs us := by
    cases rv with
    | cons r0 rs => exact ⟨_, _, rfl, r0, rs⟩
  rw [assign_Tuple]
  refine wpAny_bind (wpAny_standAt ?_)
  unfold unpack
  rw [hn, hst]
  refine wpAny_bind (wpAny_holding (unpack_star ht (I.ok.hd hc) (by rw [← rs.length]; exact hl) fun h' tk hk => ?_))
  have I1 : Inv X pins σ H { s with heap := h', toks := tk } := I.kept hk
  have hf : H h'.objs.size = none := I1.hok.fresh (Nat.le_refl _)
  have I2 : Inv X pins σ (upd H h'.objs.size (.lst xs)) { s with heap := h'.push { cls := .type "list", data := .seq us.toArray }, toks := tk } :=
    I1.laid (t' := tk) (fun b u e => Heap.get?_push_of_some _ e) (Nat.le_refl _) ⟨Nat.le_trans hl (by decide), us, 0, rs, Heap.get?_push_size _ rfl⟩
  exact h.run pins _ σ _ [x, .ref h'.objs.size] [u0, .ref h'.objs.size] Q I2 (.cons r0 (.cons rfl .nil)) (hw _ hf)
end
end SB
end
section
set_option maxRecDepth 100000
set_option maxHeartbeats 4000000
/-! Walks: enumerate over a tuple. -/
namespace SB
open PySem PySem.Spec PyProof.Rows L2

theorem meets_enumerate_new1 {v : Value} {o : Obj} {H : Heap → Prop} (B : Begins v o H) :
    Meets (Builtin.«enumerate.__new__» ⟨[.type "enumerate", v], []⟩) (fun _ R s => H s.heap ∧
      R (.ok (.ret (.ref (s.heap.push o).objs.size))) { s with heap := (s.heap.push o).push { cls := .type "enumerate", data := .fields #[.none, .bool false, .ref s.heap.objs.size, rawInt 0, .none, .none] } }) :=
  .of_wp fun prog w A R s h => by
    obtain ⟨hp, g, d, tk, os⟩ := s; obtain ⟨h1, h⟩ := h
    have hsub := sub_enumerate
    have q1 : ∀ {A' : Around} {E : Value → Shared → Prop} {Q : Value → Shared → Prop}, Q (.ref hp.objs.size) ⟨hp.push o, g, d, tk, os⟩ → wpAny (model prog w) A' (pyIter v) Q E ⟨hp, g, d, tk, os⟩ :=
      fun q => B.iter prog w _ _ ⟨hp, g, d, tk, os⟩ _ h1 q
    wp_walk using q1
    refine wpAny_stack_any fun st => wpAny_pure ?_
    split
    · rename_i c _ _ _ _ _
      cases (c == Value.type "enumerate")
      · wp_walk using q1
        exact ⟨_, rfl, h⟩
      · wp_walk using q1
        exact ⟨_, rfl, h⟩
    · wp_walk using q1
      exact ⟨_, rfl, h⟩
section
variable {prog : Program} {w : World} {A : Around} {E : Value → Shared → Prop} {s : Shared}
theorem call_enumerate_tuple {l : Addr} {items : Array Value} {Q : Value → Shared → Prop} (hL : s.heap.IsTuple l items)
    (h : ∀ h', IsEnum h' (s.heap.objs.size + 1) s.heap.objs.size 0 .none → h'.IsTupleIter s.heap.objs.size l 0 → h'.objs.size = s.heap.objs.size + 2 →
      (∀ b o, s.heap.get? b = some o → h'.get? b = some o) → Q (.ref (s.heap.objs.size + 1)) { s with heap := h' }) :
    wpAny (model prog w) A (call (.type "enumerate") [.ref l]) Q E s := by
  refine callType_new F.called_enumerate (by decide) (F.typeCall_enumerate_1 _) (F.newCall_enumerate_1 _) (fun obj => F.args_object_init_2 obj _) F.entry_enumerate_new
    (meets_enumerate_new1 (begins_tuple l items)) ⟨hL, ?_⟩
  have hz : (s.heap.push { cls := .type "tuple_iterator", data := .fields #[.ref l, .int 0 0] }).objs.size = s.heap.objs.size + 1 := Heap.size_push ..
  show _ ∧ _
  rw [hz]
  have he : IsEnum ((s.heap.push { cls := .type "tuple_iterator", data := .fields #[.ref l, .int 0 0] }).push
      { cls := .type "enumerate", data := .fields #[.none, .bool false, .ref s.heap.objs.size, rawInt 0, .none, .none] }) (s.heap.objs.size + 1) s.heap.objs.size 0 .none := by
    have := Heap.get?_push_size (s.heap.push { cls := .type "tuple_iterator", data := .fields #[.ref l, .int 0 0] })
      (o := { cls := .type "enumerate", data := .fields #[.none, .bool false, .ref s.heap.objs.size, rawInt 0, .none, .none] }) rfl
    rw [hz] at this; exact this
  refine ⟨⟨_, he, rfl⟩, h _ he ⟨_, Heap.get?_push_of_some _ (Heap.get?_push_size _ rfl), rfl, rfl⟩ (by rw [Heap.size_push, hz]) fun b o x => Heap.get?_push_of_some _ (Heap.get?_push_of_some _ x)⟩
end

/-- the tuple at a as it stands at each turn, each item in a new pair -/
def IteT (K : PySem.W.Frag) (a : Addr) : It :=
  ⟨fun i H => ∃ (xs : List V) (x : V), SqT K H a xs ∧ xs[i]? = some x, fun i H v H' => ∃ T x, v = .ref T ∧ H T = none ∧ H' = upd H T (.tup [.int (i : Nat), x]) ∧ ∀ xs, SqT K H a xs → xs[i]? = some x, fun i H => ∃ xs : List V, SqT K H a xs ∧ xs.length = i⟩
theorem turn_enumT {P : Program} {w : World} {K : PySem.W.Frag} {elts : List Expr} {kk : Nat} {tpos : Pos} (a e it : Addr) (hai : a ≠ it) (hae : a ≠ e) :
    Turn P w K (.Tuple elts kk tpos) (IteT K a) [e, it] e (fun i h => (∃ old, IsEnum h e it ((i : Nat) : Int) old) ∧ h.IsTupleIter it a i ∧ e ≠ it) where
  mem := by simp
  obj := fun i h st b hb => by
    obtain ⟨⟨old, he⟩, ⟨o, ho, hc, hd⟩, _⟩ := st
    have e' : b = e ∨ b = it := by simpa using hb
    rcases e' with z | z
    · rw [z]; exact ⟨_, he, fun v q => nomatch q⟩
    · rw [z]; exact ⟨o, ho, fun v q => by rw [hd] at q; cases q⟩
  keep := fun i h h' st k => let ⟨⟨old, he⟩, hi, hne⟩ := st; ⟨⟨old, k e (by simp) _ he⟩, hi.at fun o q => k it (by simp) o q, hne⟩
  item := by
    intro X hP hw hK hc i pins s σ H E I hf st hg
    subst hP hw hK
    obtain ⟨⟨old, he⟩, hit, hne⟩ := st
    obtain ⟨xs, x, hq, hx⟩ := hg
    obtain ⟨its, rv, p, hz⟩ := I.tuple hq
    obtain ⟨u, hu, ru⟩ := rv.get hx
    have hel : e < s.heap.objs.size := Heap.lt_size he
    have hil : it < s.heap.objs.size := by obtain ⟨_, q, _⟩ := hit; exact Heap.lt_size q
    have hlt : i < its.toArray.size := by
      have := (List.getElem?_eq_some_iff.mp hu).1
      simpa using this
    refine wpAny_pyNext_enum_itemD (Draws.tuple (A := X.A.in1) (I.ok.hd hc) it a hai its.toArray) he ⟨hit, p⟩ hlt hne (by simp [hne, Ne.symm hae]) fun x' h' tk hP ho hst' hT hsz hk => ?_
    have ex : x' = u := by
      have h1 : its.toArray[i]? = some x' := hP
      have h2 : its.toArray[i]? = some u := by simpa using hu
      exact Option.some.inj (h1.symm.trans h2)
    subst ex
    refine ⟨_, rfl, wpAny_letOwnedTupleGo_enum (s := { s with heap := h', toks := tk + 1 }) ho fun h'' he' sb => ?_⟩
    have hT2 : h''.get? s.heap.objs.size = some { cls := .type "tuple", data := .seq #[.int i tk, x'] } := (sb.2 _ (Nat.ne_of_gt hel)).trans hT
    have new : ObjOk X.prog X.w (upd H s.heap.objs.size (.tup [.int (i : Nat), x])) h'' s.heap.objs.size (.tup [.int (i : Nat), x]) :=
      ⟨by show 2 ≤ sizeLine; decide, [.int i tk, x'], .cons ⟨_, rfl⟩ (.cons ru .nil), ⟨_, hT2, rfl, _, rfl⟩⟩
    have I1 : Inv X pins σ (upd H s.heap.objs.size (.tup [.int (i : Nat), x])) { s with heap := h'', toks := tk + 1 } :=
      I.turnedNew (ch := [e, it]) (fun b ob hb q => (sb.2 b (fun z => hb (by simp [z]))).trans (hk b ob (fun z => hb (by simp [z])) (fun z => hb (by simp [z])) q)) hf (Nat.le_refl _) new
    refine ⟨.ref s.heap.objs.size, _, I1, rfl, ⟨_, x, rfl, I.hok.fresh (Nat.le_refl _), rfl, fun ys hy => by rw [I.tuple_inj hy hq]; exact hx⟩, ⟨⟨x', ?_⟩, hst'.1.at fun o q => (sb.2 it (Ne.symm hne)).trans q, hne⟩, fun b hb => ?_⟩
    · have e1 : ((i + 1 : Nat) : Int) = (i : Int) + 1 := by omega
      rw [e1]; exact he'
    · have hb' : b < s.heap.objs.size := by
        have e' : b = e ∨ b = it := by simpa using hb
        rcases e' with z | z
        · rw [z]; exact hel
        · rw [z]; exact hil
      rw [upd_ne (Nat.ne_of_lt hb')]
      exact (hf b hb).1
  done := by
    intro X hP hw hK hc i pins s σ H E I hf st hg
    subst hP hw hK
    obtain ⟨⟨old, he⟩, hit, hne⟩ := st
    obtain ⟨xs, hq, hx⟩ := hg
    obtain ⟨its, rv, p, hz⟩ := I.tuple hq
    obtain ⟨f0, f1, f2, f3, f4, f5⟩ := hf it (by simp)
    have hl := rv.length
    have hn : its.toArray.size = i := by simp; omega
    refine wpAny_pyNext_enum_endD (Draws.tuple (A := X.A.in1) (I.ok.hd hc) it a hai its.toArray) he ⟨by rw [hn]; exact hit, p⟩ fun h' eb => ⟨rfl, I.turned (t' := s.toks) (fun b o hb q => eb b o hb q) f0 f1 f3 f4 f5⟩
  self := fun A i s Q E st h => let ⟨⟨_, he⟩, _⟩ := st; wpAny_pyIter_enum he h
def iEnumT (K : PySem.W.Frag) (ta : TA) : TI := fun σ H R => ta σ H fun vs H1 => ∃ a xs, vs = [.ref a] ∧ SqT K H1 a xs ∧ R (IteT K a) H1
theorem pi_enumT {X : Cx} {e : Expr} {ta : TA} {p pos tpos : Pos} {elts : List Expr} {kk : Nat} (hg : Gl X "enumerate") (hm : X.mg "enumerate" = none) (ha : PA X [e] ta) (hs : starEach [e] X.env = [(false, eval e X.env)] := by rfl) :
    PI X (.Tuple elts kk tpos) (.Call (.Name "enumerate" p) [e] [] pos) (iEnumT X.K ta) := by
  refine ⟨fun pins s σ H R I h => ?_⟩
  refine Call_ (ld_blt I hg hm boot_enumerate (PyProof.Rows.callWith_type1 (thn (ha.run pos pins s σ H _ I h) fun us s1 ⟨vs, H1, I1, r1, q1⟩ => ?_) hs rfl))
  obtain ⟨a, xs, ex, hq, q⟩ := q1
  subst ex
  cases r1 with
  | cons r rr =>
    cases rr
    cases r
    obtain ⟨its, rv, p', hz⟩ := I1.tuple hq
    have hal : a < s1.heap.objs.size := by obtain ⟨o, ho, _⟩ := p'; exact Heap.lt_size ho
    refine call_enumerate_tuple (show s1.heap.IsTuple a its.toArray from p') fun h' he hit hsz hk => wpAny_pyIter_enum he ?_
    have I2 : Inv X pins σ H1 { s1 with heap := h' } := I1.kept (t' := s1.toks) hk
    refine ⟨s1.heap.objs.size + 1, [s1.heap.objs.size + 1, s1.heap.objs.size], _, _, H1, rfl, I2, turn_enumT a (s1.heap.objs.size + 1) s1.heap.objs.size (Nat.ne_of_lt hal) (Nat.ne_of_lt (Nat.lt_succ_of_lt hal)), ⟨⟨.none, he⟩, hit, Nat.succ_ne_self _⟩, fun b hb => ?_, q⟩
    have e' : b = s1.heap.objs.size + 1 ∨ b = s1.heap.objs.size := by simpa using hb
    have hle : s1.heap.objs.size ≤ b := by
      rcases e' with z | z
      · rw [z]; exact Nat.le_add_right _ _
      · rw [z]; exact Nat.le_refl _
    exact I1.fpOk hle (I1.hok.fresh hle)
theorem walk_enumT {K : PySem.W.Frag} {a : Addr} {xs : List V} : Walk (IteT K a) xs.length (fun H => SqT K H a xs) (YPair (fun i => some (.int (i : Nat))) (fun i => xs[i]?)) := by
  refine ⟨fun i _ hi q => ⟨xs, xs[i], q, by simp [hi]⟩, fun _ q => ⟨xs, q, rfl⟩, fun i H v H' _ q y => ?_⟩
  obtain ⟨T, x, h1, h2, h3, h4⟩ := y
  exact ⟨T, .int (i : Nat), x, h1, h2, h3, rfl, h4 xs q⟩
end SB
end
section
set_option maxRecDepth 100000
set_option maxHeartbeats 4000000
/-! Walks: min(xs, default = d). -/
namespace SB
open PySem PySem.Spec PyProof.Rows L2

def minDef (d : Int) : List Int → Int
  | [] => d
  | y :: ys => ys.foldl (fun a z => if z < a then z else a) y
def rMinD (K : PySem.W.Frag) : List V → List V → Hp → VK → Prop := fun vs zs H Q => ∃ (a : Addr) (ns : List Int) (d : Int), vs = [V.ref a] ∧ zs = [V.int d] ∧ SqL K H a (ns.map V.int) ∧ Q (.int (minDef d ns)) H
theorem minOf_int (y : Int) (ys : List Int) : PySem.W.minOf y ys = minDef 0 (y :: ys) := by
  unfold PySem.W.minOf minDef
  congr 1
  funext a z
  by_cases h : z < a
  · rw [if_pos h, if_pos]
    show decide (z < a) = true
    exact decide_eq_true h
  · rw [if_neg h, if_neg]
    show ¬ decide (z < a) = true
    rw [decide_eq_false h]
    exact Bool.false_ne_true
theorem cr_minD {X : Cx} (hc : X.calm = true) (hu : X.A.units + 1 < cLine) : CallRK X (.builtin "min") [("default" : Str)] (rMinD X.K) := by
  intro pins s σ H xs zs us ws Q I rx rz h
  obtain ⟨a, ns, d, rfl, rfl, hs, q⟩ := h
  obtain ⟨its, rv, hl, _⟩ := I.list hs
  rw [Vals.ref1 rx]
  obtain ⟨w0, rfl, r0⟩ : ∃ w0, ws = [w0] ∧ RelV (.int d) w0 := by
    cases rz with
    | cons r t => cases t; exact ⟨_, rfl, r⟩
  obtain ⟨t, rfl⟩ := r0
  refine PySem.W.min_list_datum_default (α := Int) (xs := ns) (I.ok.hd hc) hl.isList (PySem.W.HoldAll.of_ints (by simpa using rv.ints)) (by show X.A.units + 1 + 0 < cLine; exact hu) (fun e h' tk hk => ?_) fun y ys i v h' tk e hi hh hk => ?_
  · subst e
    exact ⟨.int d, H, I.kept hk, ⟨_, rfl⟩, q⟩
  · obtain ⟨as, hr⟩ := hh
    have hv : ∃ t, v = .int (PySem.W.minOf y ys) t := by
      cases hr
      exact ⟨_, rfl⟩
    obtain ⟨t', rfl⟩ := hv
    refine ⟨.int (PySem.W.minOf y ys), H, I.kept hk, ⟨_, rfl⟩, ?_⟩
    rw [minOf_int]
    rw [e] at q
    exact q
end SB
end
section
set_option maxRecDepth 100000
set_option maxHeartbeats 4000000
/-! Walks: sorted of triples. -/
namespace SB
open PySem PySem.Spec PyProof.Rows L2

abbrev Tri := Int × Int × Bool
def triD (b : Tri) : PyData := .tuple [.int b.1, .int b.2.1, .bool b.2.2]
/-- x is a triple that stands -/
def IsTri (H : Hp) (x : V) (b : Tri) : Prop := ∃ t, x = .ref t ∧ H t = some (.tup [.int b.1, .int b.2.1, .bl b.2.2])
def rSortTri (K : PySem.W.Frag) : List V → Hp → VK → Prop := fun vs H Q => ∃ (a : Addr) (xs : List V) (bs : List Tri), vs = [V.ref a] ∧ SqL K H a xs ∧ Paired (IsTri H) xs bs ∧ bs.length ≤ 20000 ∧
  ∀ ys bs' p, bs'.Perm bs → Paired (IsTri H) ys bs' → H p = none → Q (.ref p) (upd H p (.lst ys))
theorem paired_each {α β : Type} {R : α → β → Prop} : ∀ {xs : List α} {ys : List β}, Paired R xs ys → PySem.W.EachIs R xs ys
  | _, _, .nil => .nil
  | _, _, .cons h t => .cons h (paired_each t)
theorem each_paired {α β : Type} {R : α → β → Prop} : ∀ {xs : List α} {ys : List β}, PySem.W.EachIs R xs ys → Paired R xs ys
  | _, _, .nil => .nil
  | _, _, .cons h t => .cons h (each_paired t)
theorem paired_trans {α β γ : Type} {R : α → β → Prop} {S : α → γ → Prop} {T : γ → β → Prop} : ∀ {xs : List α} {ys : List β} {zs : List γ}, Paired R xs ys → Paired S xs zs → (∀ a b c, R a b → S a c → T c b) → Paired T zs ys
  | _, _, _, .nil, .nil, _ => .nil
  | _, _, _, .cons h t, .cons h' t', f => .cons (f _ _ _ h h') (paired_trans t t' f)
theorem cr_sortTri {X : Cx} (hu : X.A.units + 64 < cLine) : CallR X (.builtin "sorted") (rSortTri X.K) := by
  intro pins s σ H vs us Q I r h
  obtain ⟨a, xs, bs, rfl, hs, hb, hlen, q⟩ := h
  obtain ⟨its, rv, hl, _⟩ := I.list hs
  rw [Vals.ref1 r]
  have e0 : Paired (fun (v : Value) (b : Tri) => ∃ t, v = .ref t ∧ H t = some (.tup [.int b.1, .int b.2.1, .bl b.2.2])) its bs := paired_trans hb rv fun x b v h1 h2 => by
    obtain ⟨t, rfl, ht⟩ := h1
    cases h2
    exact ⟨t, rfl, ht⟩
  have e1 := paired_each e0
  have reads : ∀ (v : Value) (b : Tri), (∃ t, v = .ref t ∧ H t = some (.tup [.int b.1, .int b.2.1, .bl b.2.2])) → ∃ as, Reads s.heap v (triD b) as := fun v b ⟨t, ev, ht⟩ => by
    subst ev
    obtain ⟨_, items, rvt, p⟩ := (show ObjOk X.prog X.w H s.heap t (.tup [.int b.1, .int b.2.1, .bl b.2.2]) from I.hok t _ ht)
    obtain ⟨b1, b2, b3⟩ := b
    cases rvt with
    | cons r1 rt =>
      cases rt with
      | cons r2 rt =>
        cases rt with
        | cons r3 rt =>
          cases rt
          obtain ⟨t1, rfl⟩ := r1
          obtain ⟨t2, rfl⟩ := r2
          cases r3
          obtain ⟨o, ho, hc, n, hd⟩ := p
          exact ⟨_, .tuple ho hc hd (.cons (.int b1 t1) (.cons (.int b2 t2) (.cons (.bool b3) .nil)))⟩
  refine PySem.W.sorted_data (enc := triD) (bs := bs) hl.isList e1 (e1.mono reads) (PySem.W.AllAlike.of fun _ _ => by simp [PySem.W.alike, PySem.W.alikeAll, triD]) (PySem.W.Sortable.tuples fun _ => ⟨_, _, rfl⟩) (by rw [sizeLine_eq]; omega) (fun b _ => ?_) fun out ho eo => ?_
  · have hd : (triD b).depth = 1 := by simp [triD, PyData.depth, PyData.depthAll]
    omega
  · have e2 := each_paired eo
    obtain ⟨ep, he'⟩ := PyProof.Rows.sortedAll_at s.heap its out.toArray
    have hperm := List.mergeSort_perm bs (PySem.W.dataLe false triD)
    have rel : ∃ ys, Vals ys out ∧ Paired (IsTri H) ys (bs.mergeSort (PySem.W.dataLe false triD)) := by
      clear he' ho eo
      generalize bs.mergeSort (PySem.W.dataLe false triD) = zs at e2 ⊢
      induction e2 with
      | nil => exact ⟨[], .nil, .nil⟩
      | cons h _ ih =>
        obtain ⟨ys, h1, h2⟩ := ih
        obtain ⟨t, rfl, ht⟩ := h
        exact ⟨.ref t :: ys, .cons rfl h1, .cons ⟨t, rfl, ht⟩ h2⟩
    obtain ⟨ys, rys, pys⟩ := rel
    have hlen2 : ys.length ≤ sizeLine := by
      rw [Paired.length pys, hperm.length_eq, sizeLine_eq]
      omega
    exact ⟨.ref _, upd H (s.heap.objs.size + 1) (.lst ys), I.laid (t' := s.toks) (fun _ _ => PyProof.Rows.sortedAll_old) (Nat.le_succ _) ⟨hlen2, out, ep, rys, by simpa using he'⟩, rfl, q ys _ _ hperm pys (I.hok.fresh (Nat.le_succ _))⟩
end SB
end
section
set_option maxRecDepth 100000
set_option maxHeartbeats 4000000
/-! Walks: len(set(xs)) of ints that may be doubled. -/
namespace SB
open PySem PySem.Spec PyProof.Rows L2

theorem met_firsts (ns : List Nat) : ∀ i, i ≤ ns.length → firstMet (fun i => (ns.map fun n : Nat => (n : Int)).getD i 0) i = (KX.firsts (ns.take i)).map fun n : Nat => (n : Int)
  | 0, _ => rfl
  | i + 1, hi => by
    have hlt : i < ns.length := hi
    have e1 : (ns.map fun n : Nat => (n : Int)).getD i 0 = (ns[i] : Int) := by
      rw [List.getD_eq_getElem?_getD, List.getElem?_map, List.getElem?_eq_getElem hlt]
      rfl
    have e2 : ns.take (i + 1) = ns.take i ++ [ns[i]] := by
      rw [List.take_add_one, List.getElem?_eq_getElem hlt]
      rfl
    rw [firstMet_succ, met_firsts ns i (Nat.le_of_lt hlt), e2, KX.firsts_snoc]
    unfold step_dedup
    simp only [e1]
    by_cases hm : ns[i] ∈ KX.firsts (ns.take i)
    · rw [if_pos hm, if_pos]
      rw [List.any_eq_true]
      exact ⟨_, List.mem_map.mpr ⟨_, hm, rfl⟩, beq_self_eq_true _⟩
    · rw [if_neg hm, if_neg]
      · rw [List.map_append]
        rfl
      · rw [List.any_eq_true]
        rintro ⟨x, hx, e⟩
        obtain ⟨y, hy, ey⟩ := List.mem_map.mp hx
        have : (y : Int) = (ns[i] : Int) := ey.trans (eq_of_beq e)
        exact hm (Int.ofNat.inj this ▸ hy)
def tLenSet' (K : PySem.W.Frag) (ta : TE) : TE := fun σ H Q => ta σ H fun x H1 => ∃ (l : Addr) (ns : List Nat), x = .ref l ∧ SqL K H1 l (ns.map fun n : Nat => V.int (n : Int)) ∧ ns.length ≤ 1000 ∧ Q (.int ((KX.firsts ns).length : Nat)) H1
theorem pe_lenSet' {X : Cx} {a : Expr} {ta : TE} {p p2 q pos : Pos} (hg : Gl X "len") (hm : X.mg "len" = none) (hg2 : Gl X "set") (hm2 : X.mg "set" = none) (ha : PE X a ta) (hc : X.calm = true := by rfl)
    (na : starEach [a] X.env = (false, eval a X.env) :: starEach [] X.env := by rfl) : PE X (.Call (.Name "len" p) [.Call (.Name "set" p2) [a] [] q] [] pos) (tLenSet' X.K ta) := by
  refine ⟨fun pins s σ H Q I h => Call_ (ld_blt I hg hm boot_len (callWith_builtin1 (args_cons (Call_ (ld_blt I hg2 hm2 boot_set ?_)) rfl) rfl rfl))⟩
  refine callWith_type1 (args_cons (thn (ha.run pins s σ H _ I h) fun v s1 hv => args_nil ?_) na) na rfl
  obtain ⟨x, H1, I1, r1, l, ns, rfl, hq, hl, q1⟩ := hv
  cases r1
  obtain ⟨its, r, pl, hz⟩ := I1.list hq
  have e0 : (ns.map fun n : Nat => V.int (n : Int)) = (ns.map fun n : Nat => (n : Int)).map V.int := by rw [List.map_map]; rfl
  rw [e0] at r
  have hlen : its.toArray.size = ns.length := by rw [List.size_toArray, ← r.length, List.length_map, List.length_map]
  refine call_set_list (I1.ok.hd hc) pl.isList (by simpa using RZ.intsAre_vals r) (by rw [hlen]; unfold scanBound; omega) fun h' tk hS hk => args_nil ?_
  rw [hlen, met_firsts ns ns.length (Nat.le_refl _), List.take_length] at hS
  obtain ⟨o, es, ep, t, ho, hex, hd, _, _, _, hf, hn⟩ := hS
  have hle : (KX.firsts ns).length ≤ ns.length := KX.firsts_len ns
  rw [List.length_map] at hn
  have I2 : Inv X pins σ H1 { s1 with heap := h', toks := tk } := I1.kept fun b o e => hk b o (Heap.lt_size e) e
  exact call_len_set ho hex hd hf (by rw [hn]; omega) ⟨.int ((KX.firsts ns).length : Nat), H1, I2.tok _, ⟨_, by rw [hn]⟩, q1⟩
end SB
end
section
set_option maxRecDepth 100000
set_option maxHeartbeats 4000000
/-! Walks: !=, len and str of own instances. -/
namespace SB
open PySem PySem.Spec PyProof.Rows L2

section
variable {X : Cx} {k : Nat} {f : Addr} {fd : FuncData} {ps : List Str} {sp : Sp}
/-- an own def is called by the machine, somewhere below the body -/
theorem run_at {A : Around} {pins : List (Addr × Obj)} {σ : L2.St} {H : Hp} {s : Shared} {us : List Value} {vs : List V} {Q : VK} (F : FnOk X.prog X.w X.K X.mg X.base CX0 k f fd ps sp) (hb : Binds X.K fd ps []) (hr : Room k A) (hf : A.frames = X.A.frames)
    (I : L2.Inv X pins σ H s) (r : Vals vs us) (h : sp vs H Q E0) : wpAny (model X.prog X.w) A (call (.ref f) us) (EP X pins σ Q) X.xe s := by
  have e := I.env0
  have e0 : Env0 X.prog X.w X.K X.mg X.base A X.stack s H := ⟨hf.trans e.frames, e.mod, e.bs, e.bsz, e.funs, e.frf, e.hok, e.bare⟩
  have hl : us.length = ps.length := by rw [← F.len _ _ _ _ h, r.length]
  have hbs := hb s us I.kIn (by simpa using hl)
  rw [List.append_nil] at hbs
  refine wpAny_call (codeAny_mono (F.run A X.stack s H ⟨us, []⟩ us vs Q E0 hr e0 hbs r h) fun rs s' hq => ?_)
  cases rs with
  | error er => exact pass0 pins σ H s er s' I hq
  | ok fl =>
    cases fl with
    | ret u => exact I.after hq
    | next => exact False.elim hq
    | brk => exact False.elim hq
    | cont => exact False.elim hq
/-- len(o) by the class's own __len__ -/
def rLenOwn (C : Addr) (sp : Sp) : List V → Hp → VK → Prop := fun xs H Q => ∃ a dx fs, xs = [.ref a] ∧ H a = some (.ins C dx fs) ∧ sp [.ref a] H (fun v H' => ∃ n : Nat, v = .int n ∧ n ≤ 1000000 ∧ Q (.int n) H') E0
theorem cr_lenOwn {C : Addr} (F : FnOk X.prog X.w X.K X.mg X.base CX0 k f fd ps sp) (hb : Binds X.K fd ps []) (hr : Room (k + 1) X.A) (hs : PySem.W.findIn X.K (.ref C) "__len__" = some (some (.ref f))) (hf : PySem.W.isFn X.K (.ref f) = true) :
    CallR X (.builtin "len") (rLenOwn C sp) := by
  intro pins s σ H xs us Q I r h
  obtain ⟨a, dx, fs, rfl, ha, h⟩ := h
  rw [Vals.ref1 r]
  obtain ⟨mA, O, _⟩ := ins_get I.hok ha
  obtain ⟨od, J, _⟩ := O.look
  obtain ⟨m, hF⟩ := I.fr
  refine PySem.W.len_K hF I.ok.mod.kin J hs hf (wpAny_mono (run_at F hb hr.in1 rfl I (show Vals [V.ref a] [Value.ref a] from .cons rfl .nil) h) (fun u s' hu => ?_) fun _ _ x => x)
  obtain ⟨v, H', I', rv, n, rfl, hn, q⟩ := hu
  obtain ⟨t, rfl⟩ := rv
  exact ⟨⟨by omega, by omega⟩, .int n, H', I'.tok _, ⟨_, rfl⟩, q⟩
/-- str(o) by the class's own __str__ -/
def rStrOwn (C : Addr) (sp : Sp) : List V → Hp → VK → Prop := fun xs H Q => ∃ a dx fs, xs = [.ref a] ∧ H a = some (.ins C dx fs) ∧ sp [.ref a] H (fun v H' => ∃ x : Str, v = .str x ∧ Q (.str x) H') E0
theorem cr_strOwn {C : Addr} (F : FnOk X.prog X.w X.K X.mg X.base CX0 k f fd ps sp) (hb : Binds X.K fd ps []) (hr : Room (k + 2) X.A) (hs : PySem.W.findIn X.K (.ref C) "__str__" = some (some (.ref f))) (hf : PySem.W.isFn X.K (.ref f) = true) :
    CallR X (.type "str") (rStrOwn C sp) := by
  intro pins s σ H xs us Q I r h
  obtain ⟨a, dx, fs, rfl, ha, h⟩ := h
  rw [Vals.ref1 r]
  obtain ⟨mA, O, _⟩ := ins_get I.hok ha
  obtain ⟨od, J, _⟩ := O.look
  have hr2 : Room k X.A.in1.in1 := hr.in1.in1
  refine PySem.W.kso_call hr2.units0 I.kIn J hs hf (wpAny_mono (run_at F hb hr2 rfl I (show Vals [V.ref a] [Value.ref a] from .cons rfl .nil) h) (fun u s' hu => ?_) fun _ _ x => x)
  obtain ⟨v, H', I', rv, x, rfl, q⟩ := hu
  obtain ⟨t, rfl⟩ := rv
  exact ⟨.str x, H', I', ⟨_, rfl⟩, q⟩
end

/-! ### != by the class's own == -/
section
variable {prog : Program} {w : World} {A : Around} {E : Value → Shared → Prop} {s : Shared} {K : PySem.W.Frag} {x y C f : Addr} {ox oy : Obj} {od od' : Option Obj}
theorem ifBound_ne {M : Model} {args : List Value} {Q : Option Value → Shared → Prop} (X : K.In s.heap) (I : PySem.W.InstAt s.heap x ox C od) (hs : PySem.W.findIn K (.ref C) "__ne__" = some (some (.builtin "object.__ne__")))
    (h : wpAny M A (call (.builtin "object.__ne__") (.ref x :: args)) (fun v => Q (some v)) E s) : wpAny M A (callSpecialIfBound? (.ref x) "__ne__" args) Q E s := by
  have bd : ∀ self, bindSpecial (.builtin "object.__ne__") self = pure (.builtin "object.__ne__", [self]) := PySem.F.cmp_object.ne.bind
  simp only [callSpecialIfBound?, bindSpecialIfBound?, bd]
  refine wpAny_holding (wpAny_bind (wpAny_bind (wpAny_bind (I.type.here ((PySem.W.looks_findIn X hs).here ?_)))))
  simp only [bd]
  refine wpAny_bind (wpAny_askSetting (wpAny_ite ?_))
  have fin : wpAny M A (call (.builtin "object.__ne__") ([.ref x] ++ args) >>= fun v => pure (some v)) Q E s := wpAny_bind (wpAny_mono h (fun v s' h' => wpAny_pure h') fun _ _ h' => h')
  split
  · exact wpAny_bind (wpAny_pure (wpAny_pure fin))
  · exact wpAny_tryCatch (wpAny_bind (wpAny_pure (wpAny_pure fin)))
theorem objNe_K {Q : PySem.Fin → Shared → Prop} (hu : A.units < cLine) (X : K.In s.heap) (I : PySem.W.InstAt s.heap x ox C od) (hs : PySem.W.findIn K (.ref C) "__eq__" = some (some (.ref f))) (hf : PySem.W.isFn K (.ref f) = true)
    (h : wpAny (model prog w) A (call (.ref f) [.ref x, .ref y]) (fun v s' => ∃ b, v = .bool b ∧ Q (.done (.ret (.bool (!b)))) s') E s) : wpAny (model prog w) A (Builtin.«object.__ne__» ⟨[.ref x, .ref y], []⟩) Q E s := by
  unfold Builtin.«object.__ne__»
  repeat (first
    | with_reducible refine wpAny_cRoomFor hu ?_
    | (refine wpAny_bind (m := callSpecialIfBound? (.ref x) (Str.ofString "__eq__") [.ref y])
        (PySem.W.ifBound_K X I hs hf (wpAny_mono h (fun r s' hr => by
          obtain ⟨b, rfl, hq⟩ := hr
          repeat (first | exact hq | exact wpAny_pure hq | exact wpAny_truthy_bool hq | (refine wpAny_bind (m := truthy (.bool _)) (wpAny_truthy_bool ?_)) | wp_step)) fun _ _ e => e)))
    | wp_step)
theorem ne_K {Q : Value → Shared → Prop} (hu : A.units + 1 < cLine) (X : K.In s.heap) (I : PySem.W.InstAt s.heap x ox C od) (J : PySem.W.InstAt s.heap y oy C od') (hp : PySem.W.plainOver K C = true)
    (hn : PySem.W.findIn K (.ref C) "__ne__" = some (some (.builtin "object.__ne__"))) (hs : PySem.W.findIn K (.ref C) "__eq__" = some (some (.ref f))) (hf : PySem.W.isFn K (.ref f) = true)
    (h : wpAny (model prog w) A.in1 (call (.ref f) [.ref x, .ref y]) (fun v s' => ∃ b, v = .bool b ∧ Q (.bool (!b)) s') E s) : wpAny (model prog w) A (richCompare .NotEq (.ref x) (.ref y)) Q E s := by
  obtain ⟨cd, hc, ho⟩ := PySem.W.any_some hp
  have ne : cd.mro.isEmpty = false := by cases q : cd.mro with | nil => rw [q] at ho; cases ho | cons _ _ => rfl
  have sub : PySem.W.Looks (model prog w) s.heap (isInstance (.ref x) (.type "object")) true := I.type.andThen (PySem.W.looks_mroIn X (by unfold PySem.W.mroIn; rw [hc, Option.bind_some, if_neg (by rw [ne]; decide), PySem.W.only_has ho]))
  have one : wpAny (model prog w) A (tryCompare (.ref x) "__ne__" (.ref y)) (fun r s' => ∃ v, r = some v ∧ Q v s') E s := by
    unfold tryCompare
    refine wpAny_bind (ifBound_ne X I hn ?_)
    refine wpAny_call (codeAny_call_builtin PySem.F.cmp_object.ne.plain PySem.F.cmpEntry_ne (PySem.W.check_slot PySem.F.cmpKind_ne PySem.F.cmpSplit_ne sub (PySem.F.cmpArgs_ne _ _) ?_))
    refine objNe_K (by show A.units + 1 < cLine; exact hu) X I hs hf (wpAny_mono h (fun v s' hv => ?_) fun _ _ e => e)
    obtain ⟨b, rfl, hq⟩ := hv
    exact ⟨b, rfl, wpAny_pure ⟨_, rfl, hq⟩⟩
  unfold richCompare
  simp only [oneThing_ref]
  refine wpAny_holding (wpAny_bind (wpAny_cRoomFor (Nat.lt_of_succ_lt hu) ?_))
  rw [cmpInfo_NotEq]
  dsimp only
  refine wpAny_bind (I.type.here (wpAny_bind (J.type.here ?_)))
  rw [show (Value.ref C != Value.ref C) = false from by simp]
  simp only [Bool.false_eq_true, if_false]
  refine wpAny_bind (wpAny_pure ?_)
  simp only [Bool.false_eq_true, if_false]
  refine wpAny_bind (wpAny_mono one (fun r s' z => ?_) fun _ _ e => e)
  obtain ⟨v, rfl, hq⟩ := z
  exact wpAny_pure hq
end
section
variable {X : Cx} {k : Nat} {f : Addr} {fd : FuncData} {ps : List Str}
/-- what the own == promises of two instances that are told alike -/
def spEqv (R : Addr → Addr → Hp → Prop) : Sp := fun vs H Q _ => ∃ a b, vs = [.ref a, .ref b] ∧ R a b H ∧ ∀ H', Ext H H' → Q (.bl true) H'
def rEqOwn (C : Addr) (R : Addr → Addr → Hp → Prop) (res : Bool) : R2 := fun x y H Q => ∃ a b dx dy fs gs, x = .ref a ∧ y = .ref b ∧ H a = some (.ins C dx fs) ∧ H b = some (.ins C dy gs) ∧ R a b H ∧ ∀ H', Ext H H' → Q (.bl res) H'
theorem op_neOwn {C : Addr} {R : Addr → Addr → Hp → Prop} (F : FnOk X.prog X.w X.K X.mg X.base CX0 k f fd ps (spEqv R)) (hb : Binds X.K fd ps []) (hr : Room (k + 2) X.A) (hp : PySem.W.plainOver X.K C = true)
    (hn : PySem.W.findIn X.K (.ref C) "__ne__" = some (some (.builtin "object.__ne__"))) (hs : PySem.W.findIn X.K (.ref C) "__eq__" = some (some (.ref f))) (hf : PySem.W.isFn X.K (.ref f) = true) : OpR X (compareOp .NotEq) (rEqOwn C R false) := by
  intro pins s σ H x y v u Q I rx ry hq
  obtain ⟨a, b, dx, dy, fs, gs, rfl, rfl, ha, hb', hR, q⟩ := hq
  cases rx
  cases ry
  obtain ⟨mA, O, _⟩ := ins_get I.hok ha
  obtain ⟨mB, O', _⟩ := ins_get I.hok hb'
  obtain ⟨od, J, _⟩ := O.look
  obtain ⟨od', J', _⟩ := O'.look
  have hr1 : Room k X.A.in1 := (hr.mono (Nat.le_succ _)).in1
  refine ne_K (hu_of hr) I.kIn J J' hp hn hs hf (wpAny_mono (run_at (Q := fun v H' => v = .bl true ∧ Ext H H') F hb hr1 rfl I (show Vals [V.ref a, V.ref b] [Value.ref a, Value.ref b] from .cons rfl (.cons rfl .nil)) ⟨a, b, rfl, hR, fun H' e => ⟨rfl, e⟩⟩) (fun w s' hw => ?_) fun _ _ x => x)
  obtain ⟨z, H', I', rz, rfl, e⟩ := hw
  cases rz
  exact ⟨true, rfl, .bl false, H', I', rfl, q H' e⟩
theorem op_eqOwn {C : Addr} {R : Addr → Addr → Hp → Prop} (F : FnOk X.prog X.w X.K X.mg X.base CX0 k f fd ps (spEqv R)) (hb : Binds X.K fd ps []) (hr : Room (k + 1) X.A)
    (hs : PySem.W.findIn X.K (.ref C) "__eq__" = some (some (.ref f))) (hf : PySem.W.isFn X.K (.ref f) = true) : OpR X (compareOp .Eq) (rEqOwn C R true) := by
  intro pins s σ H x y v u Q I rx ry hq
  obtain ⟨a, b, dx, dy, fs, gs, rfl, rfl, ha, hb', hR, q⟩ := hq
  exact op_eqG (D := DIns C R) (rcG_ins (E := E0) (F.imp fun vs H Q E h => by obtain ⟨a, b, e1, e2, e3⟩ := h; exact ⟨a, b, e1, e2, e3⟩) hs hf hb pass0) (hr.mono (Nat.le_succ _)) pins s σ H _ _ v u Q I rx ry ⟨⟨a, b, dx, dy, fs, gs, rfl, rfl, ha, hb', hR⟩, q⟩
end
end SB
end
section
set_option maxRecDepth 100000
set_option maxHeartbeats 4000000
/-! Walks: d.update(e), d.setdefault(t, x) by tuple keys. -/
namespace SB
open PySem PySem.Spec PyProof.Rows L2

section
variable {X : Cx} {pins : List (Addr × Obj)} {σ : L2.St} {H : Hp} {s : Shared} {a b : Addr} {E : Value → Shared → Prop}
theorem d_setT {kvs : List (List Key × V)} {k : List Key} {r : Value} {d : V} {Q : Value → Shared → Prop} (hu : X.A.units + 1 < cLine) (I : L2.Inv X pins σ H s) (e : H a = some (.dT kvs)) (eb : H b = some (.tup (k.map kV))) (rd : L2.RelV d r) (hl : kvs.length < sizeLine)
    (h1 : ∀ v, valV kvs k = some v → ∀ (w' : Value) (s' : Shared), L2.Inv X pins σ H s' → L2.RelV v w' → Q w' s') (h2 : valV kvs k = none → ∀ (s' : Shared), L2.Inv X pins σ (upd H a (.dT (putK kvs k d))) s' → Q r s') :
    wpAny (model X.prog X.w) X.A (call (.builtin "dict.setdefault") [.ref a, .ref b, r]) Q E s := by
  obtain ⟨z, hd, xs, rel, dd⟩ := dt_of I.hok e
  have hz : xs.length ≤ sizeLine := by
    rw [← Paired.length rel]
    exact z
  have hat := rel.val k
  refine call_setdefault_heap (hsz := hz) (tupleKind_room_in1 hu) (L2.key_of I.hok eb) hd dd (fun p hp => ?_) fun hn h' dd' hs => ?_
  · rw [hp] at hat
    cases q0 : valV kvs k with
    | none =>
      rw [q0] at hat
      exact (show False from hat).elim
    | some v0 =>
      rw [q0] at hat
      exact h1 v0 q0 _ _ (I.tok _) hat
  · rw [hn] at hat
    cases q0 : valV kvs k with
    | some v0 =>
      rw [q0] at hat
      exact (show False from hat).elim
    | none =>
      have hl2 : (putK kvs k d).length ≤ sizeLine := by
        have := length_putK kvs k d
        omega
      refine h2 q0 _ ?_
      obtain ⟨q, es, ep, hq, g2, g3, g4, _, g5⟩ := dd'
      refine d_write I (by rw [e]; exact True.intro) hs ⟨q, hq⟩ ⟨hl2, hd, _, (rel.put k eb rd).keeps fun c ys ec => ?_, q, es, ep, hq, g2, g3, g4, g5⟩
      rw [upd_ne (ne_of ec e (fun z => nomatch z))]
      exact ec
theorem d_update {kvs more : List (Key × V)} {Q : Value → Shared → Prop} (I : L2.Inv X pins σ H s) (hab : a ≠ b) (ea : H a = some (.dK kvs)) (eb : H b = some (.dK more)) (hl : kvs.length + more.length ≤ sizeLine)
    (h : ∀ s', L2.Inv X pins σ (upd H a (.dK (mergeK kvs more))) s' → Q .none s') : wpAny (model X.prog X.w) X.A (call (.builtin "dict.update") [.ref a, .ref b]) Q E s := by
  obtain ⟨z, hd, vs, rel, dd⟩ := dk_of I.hok ea
  obtain ⟨z2, hd2, vs2, rel2, dd2⟩ := dk_of I.hok eb
  refine call_meetsIn PySem.F.slot_dict_update dd.typeIs PySem.F.entry_dict_update (PySem.F.args_dict_update_2 _ _) (meets_dict_update (mixKind X.prog X.w) a b hab hd2) ⟨vs, vs2, dd, dd2, by rw [← rel.length, ← rel2.length]; exact hl, fun h' m1 m2 hs => h _ ?_⟩
  have he : ∃ q, h'.get? a = some q := let ⟨q, _, _, hq, _⟩ := m1; ⟨q, hq⟩
  exact d_write (t' := s.toks) I (by rw [ea]; exact True.intro) hs he (dk_new (Nat.le_trans (length_mergeK more kvs) hl) hd (KV.merge rel2 rel) m1)
end
/-- d.setdefault(t, x) -/
def tDSetT (td ty tx : TE) : TE := fun σ H Q => td σ H fun x H1 => ∃ a, x = .ref a ∧ IsD H1 a ∧ ty σ H1 fun y H2 => tx σ H2 fun z H3 => ∃ (kvs : List (List Key × V)) (k : List Key) (b : Addr), H3 a = some (.dT kvs) ∧ y = .ref b ∧ H3 b = some (.tup (k.map kV)) ∧ kvs.length < sizeLine ∧
  (∀ v, valV kvs k = some v → Q v H3) ∧ (valV kvs k = none → Q z (upd H3 a (.dT (putK kvs k z))))
/-- d.update(e) -/
def tDUpd (td ty : TE) : TE := fun σ H Q => td σ H fun x H1 => ∃ a, x = .ref a ∧ IsD H1 a ∧ ty σ H1 fun y H2 => ∃ (b : Addr) (kvs more : List (Key × V)), y = .ref b ∧ a ≠ b ∧ H2 a = some (.dK kvs) ∧ H2 b = some (.dK more) ∧ kvs.length + more.length ≤ sizeLine ∧
  Q .non (upd H2 a (.dK (mergeK kvs more)))
section
variable {X : Cx} {o e f : Expr} {td ty tx : TE} {apos cpos : Pos}
theorem pe_dsetT (hu : X.A.units + 1 < cLine) (ho : PE X o td) (he : PE X e ty) (hf : PE X f tx) (m : M2 X o "setdefault" apos e f cpos) : PE X (.Call (.Attribute o "setdefault" apos) [e, f] [] cpos) (tDSetT td ty tx) := by
  refine ⟨fun pins s σ H Q I h => ?_⟩
  refine wpAny_Call_method m.base m.few m.line PySem.F.plainAttrs_dict PySem.F.slot_dict_setdefault PySem.F.type_dict_setdefault (thn (ho.run pins s σ H _ I h) fun u s1 hx => ?_)
  obtain ⟨x, H1, I1, rx, a, ex, d, q1⟩ := hx
  subst ex
  obtain rfl : u = Value.ref a := rx
  obtain ⟨t1, t2, _⟩ := isD_at I1 d
  refine ⟨t1, t2, ?_⟩
  rw [m.trees]
  refine Calls.callWith_builtin rfl (Calls.evalArgs_plain (Calls.spliced_cons (thn (he.run pins s1 σ H1 _ I1 q1) fun iv s2 hy => Calls.spliced_cons ?_)))
  obtain ⟨y, H2, I2, ry, q2⟩ := hy
  refine thn (hf.run pins s2 σ H2 _ I2 q2) fun fv s3 hz => Calls.spliced_nil ?_
  obtain ⟨z, H3, I3, rz, kvs, k, b, ea, ey, eb, hl, q3, q4⟩ := hz
  subst ey
  obtain rfl : iv = Value.ref b := ry
  exact d_setT hu I3 ea eb rz hl (fun v hv w' s4 I4 rw' => ⟨v, _, I4, rw', q3 v hv⟩) fun hn s4 I4 => ⟨z, _, I4, rz, q4 hn⟩
theorem pe_dupd (ho : PE X o td) (he : PE X e ty) (m : M1 X o "update" apos e cpos) : PE X (.Call (.Attribute o "update" apos) [e] [] cpos) (tDUpd td ty) := by
  refine ⟨fun pins s σ H Q I h => ?_⟩
  refine wpAny_Call_method m.base m.few m.line PySem.F.plainAttrs_dict PySem.F.slot_dict_update PySem.F.type_dict_update (thn (ho.run pins s σ H _ I h) fun u s1 hx => ?_)
  obtain ⟨x, H1, I1, rx, a, ex, d, q1⟩ := hx
  subst ex
  obtain rfl : u = Value.ref a := rx
  obtain ⟨t1, t2, _⟩ := isD_at I1 d
  refine ⟨t1, t2, ?_⟩
  rw [m.trees]
  refine Calls.callWith_builtin rfl (Calls.evalArgs_plain (Calls.spliced_cons (thn (he.run pins s1 σ H1 _ I1 q1) fun iv s2 hy => Calls.spliced_nil ?_)))
  obtain ⟨y, H2, I2, ry, b, kvs, more, ey, hab, ea, eb, hl, q2⟩ := hy
  subst ey
  obtain rfl : iv = Value.ref b := ry
  exact d_update I2 hab ea eb hl fun s3 I3 => ⟨.non, _, I3, rfl, q2⟩
end
end SB
end
section
set_option maxRecDepth 100000
set_option maxHeartbeats 4000000
/-! Walks: a dict whose keys are tuples of ints, texts and None (as much as `in` and d[t] = v ask). -/
namespace SB
open PySem PySem.Spec PyProof.Rows L2

def leafV : Leaf → V
  | .none => .non
  | .num i => .int i
  | .text x => .str x
abbrev SeenX := List (List Leaf × Addr × Value)
def SeenAt (P : Program) (w : World) (d : Addr) (xs : SeenX) (h : Heap) : Prop :=
  ∃ o es ep, h.get? d = some o ∧ o.ExactDict ∧ o.data = .dict es ep ∧ es.toList = xs.map (entryOfKey (tupleKind (leafKind P w))) ∧ (xs.map (·.1)).Nodup ∧ (d == sysModules) = false
def SeenO (P : Program) (w : World) (d : Addr) (xs : SeenX) : HO := .ext (SeenAt P w d xs)
/-- the keys' own tuples stand -/
def SeenK (H : Hp) (xs : SeenX) : Prop := ∀ x ∈ xs, H x.2.1 = some (.tup (x.1.map leafV))
theorem seen_obj {P : Program} {w : World} {H : Hp} {d : Addr} {xs : SeenX} {h : Heap} (hs : SeenAt P w d xs h) : ObjOk P w H h d (SeenO P w d xs) := by
  refine ⟨hs, ?_, fun h1 h2 a k => ?_⟩
  · obtain ⟨o, _, _, ho, _⟩ := hs
    exact ⟨o, ho⟩
  · obtain ⟨o, es, ep, ho, r⟩ := a
    exact ⟨o, es, ep, k o ho, r⟩
theorem leaf_is {P : Program} {w : World} {k : Leaf} {u : Value} (r : L2.RelV (leafV k) u) : (leafKind P w).is k u = true := by
  cases k with
  | none => cases (show u = Value.none from r); exact PyProof.Rows.leaf_none
  | num i => obtain ⟨t, e⟩ := (show ∃ t, u = Value.int i t from r); rw [e]; exact PyProof.Rows.leaf_int i t
  | text x => obtain ⟨t, e⟩ := (show ∃ t, u = Value.str x t from r); rw [e]; exact PyProof.Rows.leaf_str x t
theorem leaves_are {P : Program} {w : World} : ∀ {ks : List Leaf} {us : List Value}, Vals (ks.map leafV) us → ItemsAre (leafKind P w) ks us
  | [], _, r => by rw [List.map_nil] at r; cases r; exact .nil
  | k :: ks, _, r => by
    rw [List.map_cons] at r
    cases r with
    | cons h t => exact .cons (leaf_is h) (leaves_are t)
section
variable {P : Program} {w : World} {H : Hp} {h : Heap}
theorem leaf_key {ks : List Leaf} {b : Addr} (ok : HOk P w H h) (e : H b = some (.tup (ks.map leafV))) : (tupleKind (leafKind P w)).is h ks b := by
  obtain ⟨_, its, r, o, h1, h2, n, h3⟩ := (show ObjOk P w H h b (.tup (ks.map leafV)) from ok b _ e)
  exact ⟨o, its.toArray, n, h1, h2, h3, by simpa using leaves_are r⟩
theorem seen_of {d : Addr} {xs : SeenX} (ok : HOk P w H h) (e : H d = some (SeenO P w d xs)) (ek : SeenK H xs) : h.DictOfH (tupleKind (leafKind P w)) d xs ∧ (d == sysModules) = false := by
  obtain ⟨⟨o, es, ep, h1, h2, h3, h4, h5, h6⟩, _, _⟩ := (show ObjOk P w H h d (SeenO P w d xs) from ok d _ e)
  exact ⟨⟨o, es, ep, h1, h2, h3, h4, fun x hx => leaf_key ok (ek x hx), h5⟩, h6⟩
end
theorem atKey_none {xs : SeenX} {k : List Leaf} (h : k ∉ xs.map (·.1)) : atKey xs k = none := by
  unfold atKey
  rw [Option.map_eq_none_iff, List.find?_eq_none]
  intro x hx e
  exact h (List.mem_map.mpr ⟨x, hx, of_decide_eq_true e⟩)
section
variable {X : Cx} {o i value : Expr} {pos pos' : Pos} {td ty tv : TE}
/-- {}, to be such a dict -/
def tDNewS (P : Program) (w : World) : TE := fun _ H Q => ∀ p, H p = none → Q (.ref p) (upd H p (SeenO P w p []))
theorem pe_dnewS : PE X (.Dict [] [] pos) (tDNewS X.prog X.w) := ⟨fun pins s σ H Q I h =>
  wpAny_Dict_empty ⟨.ref s.heap.objs.size, _, I.laid (a := s.heap.objs.size) (o := SeenO X.prog X.w s.heap.objs.size []) (t' := s.toks) (fun _ _ q => Heap.get?_push_of_some _ q) (Nat.le_refl _)
    (seen_obj ⟨_, #[], 0, Heap.get?_push_size _ rfl, ⟨rfl, rfl, rfl⟩, rfl, rfl, List.nodup_nil, beq_eq_false_iff_ne.mpr (Ne.symm (Nat.ne_of_lt I.big))⟩), rfl, h _ (I.hok.fresh (Nat.le_refl _))⟩⟩
/-- t in d: it is not -/
def tSIn (P : Program) (w : World) (ty td : TE) : TE := fun σ H Q => ty σ H fun y H1 => td σ H1 fun x H2 => ∃ (d b : Addr) (xs : SeenX) (k : List Leaf), x = .ref d ∧ y = .ref b ∧ H2 d = some (SeenO P w d xs) ∧ SeenK H2 xs ∧ H2 b = some (.tup (k.map leafV)) ∧ k ∉ xs.map (·.1) ∧ Q (.bl false) H2
theorem pc_sin (hu : X.A.units + 1 < cLine) (hi : PE X i ty) (ho : PE X o td) : PC X .In i o (tSIn X.prog X.w ty td) := by
  refine ⟨fun pins s σ H Q I h => ?_⟩
  refine thn (hi.run pins s σ H _ I h) fun iv s1 hy => ?_
  obtain ⟨y, H1, I1, ry, q1⟩ := hy
  refine thn (ho.run pins s1 σ H1 _ I1 q1) fun u s2 hx => ?_
  obtain ⟨x, H2, I2, rx, d, b, xs, k, rfl, rfl, hd, hk, hb, hn, q2⟩ := hx
  obtain rfl : u = Value.ref d := rx
  obtain rfl : iv = Value.ref b := ry
  obtain ⟨dd, hm⟩ := seen_of I2.hok hd hk
  refine wpAny_in_heap (tupleKind_room_in1 hu) (leaf_key I2.hok hb) hm dd ?_
  rw [atKey_none hn]
  exact ⟨.bl false, H2, I2.tok _, rfl, q2⟩
/-- d[t] = v, t not yet a key -/
def sSPut (P : Program) (w : World) (td ty tv : TE) : TS := fun D σ H => tv σ H fun v H1 => td σ H1 fun x H2 => ty σ H2 fun y H3 => ∃ (d b : Addr) (xs : SeenX) (k : List Leaf), x = .ref d ∧ y = .ref b ∧ H3 d = some (SeenO P w d xs) ∧ SeenK H3 xs ∧ H3 b = some (.tup (k.map leafV)) ∧ k ∉ xs.map (·.1) ∧
  xs.length ≤ 10000 ∧ ∀ u : Value, D.nx σ (upd H3 d (SeenO P w d (xs ++ [(k, b, u)])))
theorem ps_sput (hu : X.A.units + 1 < cLine) (ho : PE X o td) (hi : PE X i ty) (hv : PE X value tv) (hs : swapsWith value (some (.Subscript o i pos')) pos.line X.env = pure false) :
    PS X (.Assign [.Subscript o i pos'] value pos) (sSPut X.prog X.w td ty tv) := by
  refine ⟨fun pins s σ H D I h => ?_⟩
  refine wpAny_Assign_Subscript (thn (hv.run pins s σ H _ I h) fun r s1 h1 => ?_) hs
  obtain ⟨v, H1, I1, rv, q1⟩ := h1
  refine thn (ho.run pins s1 σ H1 _ I1 q1) fun u s2 h2 => ?_
  obtain ⟨x, H2, I2, rx, q2⟩ := h2
  refine thn (hi.run pins s2 σ H2 _ I2 q2) fun iv s3 h3 => ?_
  obtain ⟨y, H3, I3, ry, d, b, xs, k, rfl, rfl, hd, hk, hb, hn, hz, q3⟩ := h3
  obtain rfl : u = Value.ref d := rx
  obtain rfl : iv = Value.ref b := ry
  obtain ⟨dd, hm⟩ := seen_of I3.hok hd hk
  refine wpAny_setItem_heap (hsz := by rw [sizeLine_eq]; omega) (tupleKind_room_in1 hu) (leaf_key I3.hok hb) dd fun h' dd' hs' => ?_
  have est : storedH xs k b r = xs ++ [(k, b, r)] := by
    unfold storedH
    rw [atKey_none hn]
    rfl
  rw [est] at dd'
  obtain ⟨q, es, ep, hq, g2, g3, g4, _, g5⟩ := dd'
  exact ⟨σ, _, d_write (t' := s3.toks + (tupleKind (leafKind X.prog X.w)).draws k) I3 (by rw [hd]; exact True.intro) hs' ⟨q, hq⟩ (seen_obj ⟨q, es, ep, hq, g2, g3, g4, g5, hm⟩), q3 r⟩
end
end SB
end
section
set_option maxRecDepth 100000
set_option maxHeartbeats 4000000
/-! Walks: y = {k: v for ..}; loops of a dict comprehension. -/
namespace SB
open PySem PySem.Spec PyProof.Rows L2
section
variable {X : Cx}
theorem ps_setDc {i : Nat} {y : Str} {py : Pos} {kx vx tg iter : Expr} {ifs : List Expr} {scope : Scope} {own : List (Str × Nat)} {pos spos : Pos} {wi : TI} {g : TG} {tt : TT} {tk tv : TE} (hc : X.calm = true) (hN : X.N.Nodup) (hy : X.N[i]? = some y) (hyl : X.env.scope.names.lookup y = some .local)
    (hsw : swapsWith (.DictComp kx vx [⟨tg, iter, ifs, 0⟩] scope pos) (some (.Name y py)) spos.line X.env = pure true) (hi : PI X tg iter wi) (ok : BlkOk X.N X.env.scope scope own)
    (hg : ∀ (s : Shared) (H : Hp) (C : Addr) (cl : List (Str × Addr)) (fp : List Addr), PG (X.blk s H scope (compEnvC scope cl C X.env) fp) tg g) (ht : ∀ (s : Shared) (H : Hp) (C : Addr) (cl : List (Str × Addr)) (fp : List Addr), PTs (X.blk s H scope (compEnvC scope cl C X.env) fp) ifs tt)
    (hk : ∀ (s : Shared) (H : Hp) (C : Addr) (cl : List (Str × Addr)) (fp : List Addr), PE (X.blk s H scope (compEnvC scope cl C X.env) fp) kx tk)
    (he : ∀ (s : Shared) (H : Hp) (C : Addr) (cl : List (Str × Addr)) (fp : List Addr), PE (X.blk s H scope (compEnvC scope cl C X.env) fp) vx tv) (hs : ∀ x, foldedSetIterable iter X.env x = pure x := by intro _; rfl) :
    PS X (.Assign [.Name y py] (.DictComp kx vx [⟨tg, iter, ifs, 0⟩] scope pos) spos) (tAsg (tDc wi g tt tk tv (own.map (·.2))) (gName i)) := by
  refine ⟨fun pins s σ H D I h => ?_⟩
  rw [exec_Assign_Name_used _ _ _ _ hsw]
  refine wpAny_bind (wpAny_standAt (wpAny_bind ?_))
  show wpAny _ X.A (do let _ ← comprehension (.DictComp kx vx [⟨tg, iter, ifs, 0⟩] scope pos) scope X.env (firstIterPos [⟨tg, iter, ifs, 0⟩] pos) newDict false (eval iter X.env) (some (assign (.Name y py) X.env))) _ _ s
  have h' : tDc wi g tt tk tv (own.map (·.2)) σ H (fun x H1 => gName i x σ H1 D.nx) := h
  refine wpAny_bind (thn (dc_core (Qf := fun _ s' => SP X pins D .next s') hc hN I hi ok hg ht hk he hs h' fun L C s' m H' I' q hn f => ?_) fun _ s' hq => wpAny_pure (wpAny_pure hq))
  show wpAny _ _ (assign (.Name y py) X.env (.ref L)) _ _ _
  refine wpAny_assign_Name (store_ok2 (v := V.ref L) I' hN hy (.inl hyl) rfl (fun s2 I2 hsb => ?_) (.inr hyl))
  obtain ⟨a, sb, ha⟩ := hsb
  obtain ⟨f0, f1, f2, f3, f4, f5⟩ := f
  have haC : C ≠ a := by
    rcases ha with z | z
    · rw [z]
      exact f1
    · exact fun e => f4 y a z e.symm
  exact ⟨m, hn.sameBut sb haC, fun h3 sb3 => ⟨_, H', I2.turned (t' := s2.toks) (fun b o hb e => (sb3.2 b hb).trans e) f0 f1 f3 f4 f5, q⟩⟩
theorem sw_trueD {kx vx : Expr} {gs : List Comprehension} {scope : Scope} {pos py : Pos} {y : Str} {l : Nat} {env : Env} (hk : env.scope.kind = .function) (hy : env.scope.names.lookup y = some .local) (hl : (py.line == pos.line) = true)
    (ha : (scope.names.any fun (n, k) => n == y && (k == .local || k == .cell)) = false) : swapsWith (.DictComp kx vx gs scope pos) (some (.Name y py)) l env = pure true := by
  have ky : env.kindOf y = some .local := hy
  have hb : env.blockKind = .function := by unfold Env.blockKind; rw [hk]; rfl
  unfold swapsWith
  simp only [hb, ky, ha, Expr.pos, hl]
  rfl
end
/-- a dict comprehension over what is walked: Pv by the turn and the heap (the new dict at D within) -/
theorem dc_it {J : It} {n : Nat} {G : Hp → Prop} {Y : Nat → Hp → V → Hp → Prop} (w : Walk J n G Y) {g : TG} {tt : TT} {tk tv : TE} {vs : List Nat} {σ : L2.St} {H1 : Hp} {D : Addr} {Qd : Hp → Prop} (Pv : Nat → Hp → Prop) (h0 : Pv 0 (upd H1 D (.dK []))) (hG : ∀ i H, i ≤ n → Pv i H → G H)
    (hs : ∀ i x H H', i < n → Pv i H → Y i H x H' → g x (wipe σ vs) H' fun σ2 H2 => wipe σ2 vs = wipe σ vs ∧ tt σ2 H2 fun b H3 =>
      if b = true then tk σ2 H3 fun y H4 => tv σ2 H4 fun z H5 => ∃ kvs k, y = kV k ∧ H5 D = some (.dK kvs) ∧ kvs.length < sizeLine ∧ Pv (i + 1) (upd H5 D (.dK (putK kvs k z))) else Pv (i + 1) H3) (hd : ∀ H, Pv n H → Qd H) :
    ∃ W : Nat → Nat → Hp → Prop, (∃ m, W 0 m (upd H1 D (.dK []))) ∧ ∀ i m H, W i m H →
      (J.stop i H ∧ Qd H) ∨ (J.go i H ∧ ∃ Nx : Hp → Prop, (∀ H', Nx H' → ∃ m', m' < m ∧ W (i + 1) m' H') ∧ ∀ x H', J.yld i H x H' → g x (wipe σ vs) H' fun σ2 H2 => wipe σ2 vs = wipe σ vs ∧ tt σ2 H2 fun b H3 =>
        if b = true then tk σ2 H3 fun y H4 => tv σ2 H4 fun z H5 => ∃ kvs k, y = kV k ∧ H5 D = some (.dK kvs) ∧ kvs.length < sizeLine ∧ Nx (upd H5 D (.dK (putK kvs k z))) else Nx H3) := by
  refine ⟨fun i m H => m = n - i ∧ i ≤ n ∧ Pv i H, ⟨n, (Nat.sub_zero n).symm, Nat.zero_le _, h0⟩, ?_⟩
  rintro i m H ⟨em, hi, p⟩
  have hg := hG i H hi p
  by_cases hlt : i < n
  · exact .inr ⟨w.goes i H hlt hg, Pv (i + 1), fun H' p' => ⟨n - (i + 1), by omega, rfl, hlt, p'⟩, fun x H' y => hs i x H H' hlt p (w.yields i H x H' hlt hg y)⟩
  · have e : i = n := by omega
    subst e
    exact .inl ⟨w.stops H hg, hd H p⟩
end SB
end
section
set_option maxRecDepth 100000
set_option maxHeartbeats 4000000
/-! Walks: short forms of the layer's rules. -/
namespace SB
open PySem PySem.Spec PyProof.Rows L2

/-- a def of the text that is called by its name -/
structure Cal (P : Program) (w : World) (K : PySem.W.Frag) (mg : Str → Option Value) (base : Heap) (nm : Str) (k : Nat) (ps : List Str) (sp : Sp) : Prop where
  ex : ∃ f fd, FnOk P w K mg base CX0 k f fd ps sp ∧ mg nm = some (.ref f) ∧ PySem.W.keepIn K (.ref f) = true ∧ Binds K fd ps []
/-- a method of the class at C -/
structure CalM (P : Program) (w : World) (K : PySem.W.Frag) (mg : Str → Option Value) (base : Heap) (C : Addr) (nm : Str) (k : Nat) (ps : List Str) (sp : Sp) : Prop where
  ex : ∃ f fd, FnOk P w K mg base CX0 k f fd ps sp ∧ Meth K C nm f ∧ Binds K fd ps []
/-- a property of the class at C -/
structure CalP (P : Program) (w : World) (K : PySem.W.Frag) (mg : Str → Option Value) (base : Heap) (C : Addr) (nm : Str) (k : Nat) (sp : Sp) : Prop where
  ex : ∃ p f fd, FnOk P w K mg base CX0 k f fd ["self"] sp ∧ PropOf K C nm p f ∧ Binds K fd ["self"] []
/-- the class at C is made by its own __init__ -/
structure CalC (P : Program) (w : World) (K : PySem.W.Frag) (mg : Str → Option Value) (base : Heap) (C : Addr) (nm : Str) (k : Nat) (ps : List Str) (sp : Sp) : Prop where
  ex : ∃ f fd, FnOk P w K mg base CX0 k f fd ps sp ∧ Mk K C f ∧ mg nm = some (.ref C) ∧ Binds K fd ps []
section
variable {X : Cx} {nm m f : Str} {k : Nat} {C : Addr} {ps : List Str} {sp : Sp} {e o a b : Expr} {es : List Expr} {p p2 pos apos : Pos} {t : TA} {ta tb te : TE}
theorem cal (c : Cal X.prog X.w X.K X.mg X.base nm k ps sp) (hr : Room k X.A) (ha : PA X (e :: es) t) (hg : Gl X nm := by rfl) (hdb : (nm == ("__debug__" : Str)) = false := by decide)
    (he : starEach (e :: es) X.env = (false, eval e X.env) :: starEach es X.env := by rfl) (hpl : (backTo pos (starEach es X.env)).any (·.1) = false := by rfl) : PE X (.Call (.Name nm p) (e :: es) [] pos) (tCall sp [] E0 t) := by
  obtain ⟨f, fd, F, hm, hk, hb⟩ := c.ex
  exact pe_call F hr hg hm hk hb .nil pass0 ha hdb he hpl
theorem calM {pl : Sem Bool} (c : CalM X.prog X.w X.K X.mg X.base C m k ps sp) (cl : Cls X.K C) (hr : Room k X.A) (ho : PE X o ta) (ha : PA X (e :: es) t)
    (hst : starEach (e :: es) X.env = (false, eval e X.env) :: starEach es X.env := by rfl) (hpl : (backTo pos (starEach es X.env)).any (·.1) = false := by rfl)
    (ht : eval (.Call (.Attribute o m apos) (e :: es) [] pos) X.env = (do
      let ov ← eval o X.env
      standAt apos.atName
      let (f, first) ← holding [ov] (getMethod ov m pl)
      callWith pos f first (backTo pos (starEach (e :: es) X.env)) (backToKw pos (keywordEach [] X.env))) := by rfl) : PE X (.Call (.Attribute o m apos) (e :: es) [] pos) (tMeth C m sp [] E0 ta t) := by
  obtain ⟨f, fd, F, hm, hb⟩ := c.ex
  exact pe_meth ho cl hm F hr hb .nil pass0 ha hst hpl ht
theorem calM0 {pl : Sem Bool} (c : CalM X.prog X.w X.K X.mg X.base C m k ps sp) (cl : Cls X.K C) (hr : Room k X.A) (ho : PE X o ta)
    (ht : eval (.Call (.Attribute o m apos) [] [] pos) X.env = (do
      let ov ← eval o X.env
      standAt apos.atName
      let (f, first) ← holding [ov] (getMethod ov m pl)
      callWith pos f first (backTo pos (starEach [] X.env)) (backToKw pos (keywordEach [] X.env))) := by rfl) : PE X (.Call (.Attribute o m apos) [] [] pos) (tMeth C m sp [] E0 ta tNil) := by
  obtain ⟨f, fd, F, hm, hb⟩ := c.ex
  exact pe_meth0 ho cl hm F hr hb .nil pass0 ht
theorem calP (c : CalP X.prog X.w X.K X.mg X.base C m k sp) (cl : Cls X.K C) (hr : Room (k + 1) X.A) (ho : PE X o ta) (hab : attributeBase o m X.env (eval o X.env) = eval o X.env := by rfl) : PE X (.Attribute o m pos) (tProp C sp [] E0 ta) := by
  obtain ⟨q, f, fd, F, hp, hb⟩ := c.ex
  exact pe_prop ho cl hp F hr hb .nil pass0 hab
theorem calC (c : CalC X.prog X.w X.K X.mg X.base C nm k ps sp) (hr : Room (k + 1) X.A) (ha : PA X (e :: es) t) (hg : Gl X nm := by rfl) (hdb : (nm == ("__debug__" : Str)) = false := by decide)
    (he : starEach (e :: es) X.env = (false, eval e X.env) :: starEach es X.env := by rfl) (hpl : (backTo pos (starEach es X.env)).any (·.1) = false := by rfl) : PE X (.Call (.Name nm p) (e :: es) [] pos) (tMake C sp [] E0 t) := by
  obtain ⟨f, fd, F, hM, hm, hb⟩ := c.ex
  exact pe_make hM F hr hg hm hb .nil pass0 ha hdb he hpl
/-! built-ins by their names -/
theorem eInt (G : Gb X.mg) (hg : Gl X "int" := by rfl) : PE X (.Name "int" p) (tC (.ty "int")) := pe_bltn hg G.int (by decide +kernel) rfl
theorem eBool (G : Gb X.mg) (hg : Gl X "bool" := by rfl) : PE X (.Name "bool" p) (tC (.ty "bool")) := pe_bltn hg G.bool (by decide +kernel) rfl
theorem eStr (G : Gb X.mg) (hg : Gl X "str" := by rfl) : PE X (.Name "str" p) (tC (.ty "str")) := pe_bltn hg G.str (by decide +kernel) rfl
theorem eTuple (G : Gb X.mg) (hg : Gl X "tuple" := by rfl) : PE X (.Name "tuple" p) (tC (.ty "tuple")) := pe_bltn hg G.tuple (by decide +kernel) rfl
theorem eList (G : Gb X.mg) (hg : Gl X "list" := by rfl) : PE X (.Name "list" p) (tC (.ty "list")) := pe_bltn hg G.list (by decide +kernel) rfl
theorem isi (G : Gb X.mg) (ha : PA X [a, b] t) (hg : Gl X "isinstance" := by rfl) (he : starEach [a, b] X.env = (false, eval a X.env) :: starEach [b] X.env := by rfl) (hpl : (backTo pos (starEach [b] X.env)).any (·.1) = false := by rfl) :
    PE X (.Call (.Name "isinstance" p) [a, b] [] pos) (tCB (rIsi X.K) t) := pe_callB call_isi hg G.isinstance (by decide +kernel) ha (by decide) (by decide) he hpl
theorem isiT (G : Gb X.mg) (ha : PA X [a, b] t) (hg : Gl X "isinstance" := by rfl) (he : starEach [a, b] X.env = (false, eval a X.env) :: starEach [b] X.env := by rfl) (hpl : (backTo pos (starEach [b] X.env)).any (·.1) = false := by rfl) :
    PE X (.Call (.Name "isinstance" p) [a, b] [] pos) (tCB (rIsiT X.K) t) := pe_callB call_isiT hg G.isinstance (by decide +kernel) ha (by decide) (by decide) he hpl
theorem lenS (G : Gb X.mg) (ha : PE X a ta) (hg : Gl X "len" := by rfl) (he : starEach [a] X.env = (false, eval a X.env) :: starEach [] X.env := by rfl) :
    PE X (.Call (.Name "len" p) [a] [] pos) (tCB (fun xs H Q => ∃ p ys, xs = [.ref p] ∧ (SqL X.K H p ys ∨ SqT X.K H p ys) ∧ Q (.int ys.length) H) (tCons ta tNil)) :=
  pe_callB call_len_seq hg G.len PySem.boot_len (pa_cons ha pa_nil he) (by decide) (by decide) he rfl
theorem tupleS (G : Gb X.mg) (ha : PE X a ta) (hg : Gl X "tuple" := by rfl) (he : starEach [a] X.env = (false, eval a X.env) :: starEach [] X.env := by rfl) :
    PE X (.Call (.Name "tuple" p) [a] [] pos) (tCB (fun xs H Q => ∃ p ys, xs = [.ref p] ∧ ((SqL X.K H p ys ∧ ∀ l, H l = none → Q (.ref l) (upd H l (.tup ys))) ∨ (SqT X.K H p ys ∧ Q (.ref p) H))) (tCons ta tNil)) :=
  pe_callTy call_tuple_of hg G.tuple (by decide +kernel) (pa_cons ha pa_nil he) (by decide) (by decide) he rfl
theorem listS (G : Gb X.mg) (ha : PE X a ta) (hg : Gl X "list" := by rfl) (he : starEach [a] X.env = (false, eval a X.env) :: starEach [] X.env := by rfl) :
    PE X (.Call (.Name "list" p) [a] [] pos) (tCB (fun xs H Q => ∃ p ys, xs = [.ref p] ∧ (SqL X.K H p ys ∨ SqT X.K H p ys) ∧ ∀ l, H l = none → Q (.ref l) (upd H l (.lst ys))) (tCons ta tNil)) :=
  pe_callTy call_list_of hg G.list (by decide +kernel) (pa_cons ha pa_nil he) (by decide) (by decide) he rfl
end

/-! ### heaps -/
theorem sameT {K : PySem.W.Frag} {H H' : Hp} {a : Addr} {xs : List V} (e : Same H H') (h : SqT K H a xs) : SqT K H' a xs := SqT.ext h e
theorem sameN {H : Hp} {p : Addr} {o : HO} (h : H p = none) : Same H (upd H p o) := fun b x e => by
  rw [upd_ne (ne_of_none e h)]
  exact e
theorem sameN2 {H H1 : Hp} {p : Addr} {o : HO} (s : Same H H1) (h : H1 p = none) : Same H (upd H1 p o) := s.trans (sameN h)
/-- all that was tracked stands, but for what may be changed -/
def But (S : Addr → Prop) (H H' : Hp) : Prop := ∀ b o, ¬ S b → H b = some o → H' b = some o

/-! ### machines as they stand -/
def plV : KX.Pl → V
  | .ix n => .int n
  | .wd w => .str w
def rowV (r : KX.Rw) : List V := [.int r.put, plV r.s, plV r.w]
def RowAt (H : Hp) (x : V) (r : KX.Rw) : Prop := ∃ p, x = .ref p ∧ H p = some (.tup (rowV r))
abbrev RowsV (H : Hp) (xs : List V) (M : KX.Mc) : Prop := Paired (RowAt H) xs M
def MacT (H : Hp) (a : Addr) (M : KX.Mc) : Prop := ∃ xs, H a = some (.tup xs) ∧ RowsV H xs M
def MacL (H : Hp) (a : Addr) (M : KX.Mc) : Prop := ∃ xs, H a = some (.lst xs) ∧ RowsV H xs M
section
variable {K : PySem.W.Frag} {H H' : Hp} {xs : List V} {M : KX.Mc} {a : Addr}
theorem RowAt.same {x : V} {r : KX.Rw} (h : RowAt H x r) (e : Same H H') : RowAt H' x r := let ⟨p, h1, h2⟩ := h; ⟨p, h1, e _ _ h2⟩
theorem rows_same (h : RowsV H xs M) (e : Same H H') : RowsV H' xs M := Paired.mapP h fun _ _ z => z.same e
theorem MacT.same (h : MacT H a M) (e : Same H H') : MacT H' a M := let ⟨xs, h1, h2⟩ := h; ⟨xs, e _ _ h1, rows_same h2 e⟩
theorem MacL.same (h : MacL H a M) (e : Same H H') : MacL H' a M := let ⟨xs, h1, h2⟩ := h; ⟨xs, e _ _ h1, rows_same h2 e⟩
theorem RowAt.q {x : V} {r : KX.Rw} (h : RowAt H x r) : ∃ p, x = .ref p ∧ SqT K H p (rowV r) := let ⟨p, h1, h2⟩ := h; ⟨p, h1, .inl (.inl h2)⟩
theorem paired_get {α β : Type} {R : α → β → Prop} : ∀ {xs : List α} {ys : List β} {i : Nat} {x : α}, Paired R xs ys → xs[i]? = some x → ∃ y, ys[i]? = some y ∧ R x y
  | _, _, _, _, .nil, e => by simp at e
  | _, _, 0, _, .cons r _, e => by simp at e; subst e; exact ⟨_, rfl, r⟩
  | _, _, i + 1, x, .cons _ t, e => by
    obtain ⟨u, h1, h2⟩ := paired_get (i := i) (x := x) t (by simpa using e)
    exact ⟨u, by simpa using h1, h2⟩
theorem paired_get' {α β : Type} {R : α → β → Prop} : ∀ {xs : List α} {ys : List β} {i : Nat} {y : β}, Paired R xs ys → ys[i]? = some y → ∃ x, xs[i]? = some x ∧ R x y
  | _, _, _, _, .nil, e => by simp at e
  | _, _, 0, _, .cons r _, e => by simp at e; subst e; exact ⟨_, rfl, r⟩
  | _, _, i + 1, x, .cons _ t, e => by
    obtain ⟨u, h1, h2⟩ := paired_get' (i := i) t (by simpa using e)
    exact ⟨u, by simpa using h1, h2⟩
theorem paired_snoc {α β : Type} {R : α → β → Prop} {xs : List α} {ys : List β} {x : α} {y : β} (h : Paired R xs ys) (r : R x y) : Paired R (xs ++ [x]) (ys ++ [y]) := Paired.snoc h r
theorem paired_len {α β : Type} {R : α → β → Prop} {xs : List α} {ys : List β} (h : Paired R xs ys) : xs.length = ys.length := Paired.length h
theorem plV_io (p : KX.Pl) : ∃ b, IntOr (plV p) b := by
  cases p with
  | ix n => exact ⟨true, .int _⟩
  | wd w => exact ⟨false, .str _⟩
end
end SB
end
section
set_option maxRecDepth 100000
set_option maxHeartbeats 4000000
/-! Walks: checks, texts of machines, the class End. -/
namespace SB
open PySem PySem.Spec PyProof.Rows L2
section
variable {P : Program} {w : World} {K : PySem.W.Frag} {mg : Str → Option Value} {base : Heap}

/-! is_integer -/
abbrev s_is_integer : Stmt := top 2
theorem sc_is_integer : FnScope ["thing"] ["thing"] (defScope s_is_integer) := ⟨rfl, rfl, rfl, by decide +kernel, rfl, by decide +kernel, by decide +kernel⟩
def sp_is_integer : Sp := fun vs H Q _ => ∃ x b, vs = [x] ∧ IntOr x b ∧ Q (.bl b) H
theorem ok_is_integer {f : Addr} {fd : FuncData} (F : Fun K "is_integer" "is_integer" s_is_integer f fd) (G : Gb mg) : FnOk P w K mg base CX0 1 f fd ["thing"] sp_is_integer := by
  refine F.ok sc_is_integer (fun vs H Q E h => ?_) (fun cdv A outer s H vs Q E hr h => ?_)
  · obtain ⟨x, b, rfl, _⟩ := h
    rfl
  · obtain ⟨x, b, rfl, hx, q⟩ := h
    refine ⟨_, pss_one (ps_ret (pe_and (isi G (pa_cons (pv 0) (pa_cons (eInt G) pa_nil))) (pe_one (pe_not (isi G (pa_cons (pv 0) (pa_cons (eBool G) pa_nil))))))), ?_⟩
    cases hx with
    | int i => exact ⟨_, rfl, _, _, _, _, _, rfl, .ty _, tx_int i, k_ii, _, rfl, iteT ⟨_, rfl, _, _, _, _, _, rfl, .ty _, tx_int i, k_ib, _, rfl, q⟩⟩
    | str x => exact ⟨_, rfl, _, _, _, _, _, rfl, .ty _, tx_str x, k_si, _, rfl, iteF q⟩
/-! is_bit -/
abbrev s_is_bit : Stmt := top 3
theorem sc_is_bit : FnScope ["thing"] ["thing"] (defScope s_is_bit) := ⟨rfl, rfl, rfl, by decide +kernel, rfl, by decide +kernel, by decide +kernel⟩
def sp_is_bit : Sp := fun vs H Q _ => ∃ n : Nat, vs = [.int n] ∧ n ≤ 1 ∧ ∀ H', Same H H' → Q (.bl true) H'
theorem ok_is_bit {f : Addr} {fd : FuncData} (F : Fun K "is_bit" "is_bit" s_is_bit f fd) (C : Cal P w K mg base "is_integer" 1 ["thing"] sp_is_integer) : FnOk P w K mg base CX0 2 f fd ["thing"] sp_is_bit := by
  refine F.ok sc_is_bit (fun vs H Q E h => ?_) (fun cdv A outer s H vs Q E hr h => ?_)
  · obtain ⟨n, rfl, _⟩ := h
    rfl
  · obtain ⟨n, rfl, hn, q⟩ := h
    refine ⟨_, pss_one (ps_ret (pe_and (cal C hr (pa_cons (pv 0) pa_nil)) (pe_one (pe_cmpR op_in_seq (pv 0) (pe_tup (pa_cons pe_int (pa_cons pe_int pa_nil))) rfl)))), ?_⟩
    refine ⟨_, rfl, _, _, rfl, .int _, _, rfl, iteT ⟨_, rfl, by show 2 ≤ sizeLine; decide, fun p np => ?_⟩⟩
    refine ⟨p, _, rfl, .inr (.inl (.inl upd_same)), rfl, rfl, ?_⟩
    have e : inV (.int n) [.int 0, .int 1] = true := by
      rcases (show n = 0 ∨ n = 1 by omega) with rfl | rfl <;> rfl
    show Q (.bl (inV (.int n) [.int 0, .int 1])) _
    rw [e]
    exact q _ (sameN np)
/-! is_next -/
abbrev s_is_next : Stmt := top 15
theorem sc_is_next : FnScope ["thing", "many", "words"] ["thing", "many", "words"] (defScope s_is_next) := ⟨rfl, rfl, rfl, by decide +kernel, rfl, by decide +kernel, by decide +kernel⟩
/-- an index below, or a word that is among them -/
def sp_is_next (K : PySem.W.Frag) : Sp := fun vs H Q _ => ∃ (t : KX.Pl) (n : Nat) (a : Addr) (ws : List Str), vs = [plV t, .int n, .ref a] ∧ SqT K H a (ws.map V.str) ∧ t.ok n ∧ (∀ x, t = .wd x → x ∈ ws) ∧ Q (.bl true) H
theorem ok_is_next {f : Addr} {fd : FuncData} (F : Fun K "is_next" "is_next" s_is_next f fd) (G : Gb mg) (C : Cal P w K mg base "is_integer" 1 ["thing"] sp_is_integer) : FnOk P w K mg base CX0 2 f fd ["thing", "many", "words"] (sp_is_next K) := by
  refine F.ok sc_is_next (fun vs H Q E h => ?_) (fun cdv A outer s H vs Q E hr h => ?_)
  · obtain ⟨t, n, a, ws, rfl, _⟩ := h
    rfl
  · obtain ⟨t, n, a, ws, rfl, hS, hok, hw, q⟩ := h
    refine ⟨_, pss_cons (ps_if (pt_val (cal C hr (pa_cons (pv 0) pa_nil))) (pss_one (ps_ret (pe_chain op_le op_lt pe_int (pv 0) (pv 1)))) pss_nil)
      (pss_one (ps_ret (pe_and (isi G (pa_cons (pv 0) (pa_cons (eStr G) pa_nil))) (pe_one (pe_cmpR op_in_seq (pv 0) (pv 2) rfl))))), ?_⟩
    cases t with
    | ix i =>
      have hi : i < n := hok
      refine ⟨_, rfl, _, _, rfl, .int _, _, rfl, iteT ⟨_, rfl, _, _, rfl, rfl, _, rfl, ?_⟩⟩
      have e1 : decide ((0 : Int) ≤ (i : Int)) = true := decide_eq_true (by omega)
      have e2 : decide ((i : Int) < (n : Int)) = true := decide_eq_true (by omega)
      rw [e1]
      refine iteT ⟨_, rfl, _, _, rfl, rfl, ?_⟩
      show Q (.bl (decide ((i : Int) < (n : Int)))) H
      rw [e2]
      exact q
    | wd x =>
      refine ⟨_, rfl, _, _, rfl, .str _, _, rfl, iteF ⟨_, rfl, _, _, _, _, _, rfl, .ty _, tx_str x, k_ss, _, rfl, iteT ⟨_, rfl, _, rfl, a, _, rfl, .inr hS, rfl, ?_, ?_⟩⟩⟩
      · rw [List.all_eq_true]
        intro y hy
        obtain ⟨z, _, rfl⟩ := List.mem_map.mp hy
        rfl
      · have e : inV (.str x) (ws.map V.str) = true := by
          unfold inV
          rw [List.any_eq_true]
          exact ⟨.str x, List.mem_map.mpr ⟨x, hw x rfl, rfl⟩, by simp [eqV]⟩
        show Q (.bl (inV (.str x) (ws.map V.str))) H
        rw [e]
        exact q
/-! is_row_of -/
abbrev s_is_row_of : Stmt := top 16
theorem sc_is_row_of : FnScope ["thing", "many", "words", "put", "on_strong", "on_weak"] ["thing", "many", "words"] (defScope s_is_row_of) := ⟨rfl, rfl, rfl, by decide +kernel, rfl, by decide +kernel, by decide +kernel⟩
def sp_is_row_of (K : PySem.W.Frag) : Sp := fun vs H Q _ => ∃ (x : V) (r : KX.Rw) (n : Nat) (a : Addr) (ws : List Str), vs = [x, .int n, .ref a] ∧ RowAt H x r ∧ SqT K H a (ws.map V.str) ∧ r.put ≤ 1 ∧ r.s.ok n ∧ r.w.ok n ∧ (∀ b y, r.go b = .wd y → y ∈ ws) ∧ ∀ H', Same H H' → Q (.bl true) H'
theorem ok_is_row_of {f : Addr} {fd : FuncData} (F : Fun K "is_row_of" "is_row_of" s_is_row_of f fd) (G : Gb mg) (C : Cal P w K mg base "is_bit" 2 ["thing"] sp_is_bit) (D : Cal P w K mg base "is_next" 2 ["thing", "many", "words"] (sp_is_next K)) :
    FnOk P w K mg base CX0 3 f fd ["thing", "many", "words"] (sp_is_row_of K) := by
  refine F.ok sc_is_row_of (fun vs H Q E h => ?_) (fun cdv A outer s H vs Q E hr h => ?_)
  · obtain ⟨x, r, n, a, ws, rfl, _⟩ := h
    rfl
  · obtain ⟨x, r, n, a, ws, rfl, ⟨p, rfl, hp⟩, hS, hput, hs, hw, hws, q⟩ := h
    have nd := sc_is_row_of.nd
    refine ⟨_, pss_cons (ps_if (PW.pt (pw_or (pt_not (pt_val (isi G (pa_cons (pv 0) (pa_cons (eTuple G) pa_nil))))) (pw_or1 (pt_cmpR op_ne (lenS G (pv 0)) pe_int (nomark _))))) (pss_one (ps_ret pe_bl)) pss_nil)
      (pss_cons (ps_asg (pv 0) (pg_tup rfl (pgs_cons (pg_name (i := 3) nd rfl (.inl rfl)) (pgs_cons (pg_name (i := 4) nd rfl (.inl rfl)) (pgs_cons (pg_name (i := 5) nd rfl (.inl rfl)) pgs_nil)))))
      (pss_one (ps_ret (pe_and (cal C hr (pa_cons (pv 3) pa_nil)) (pe_and (cal D hr (pa_cons (pv 4) (pa_cons (pv 1) (pa_cons (pv 2) pa_nil)))) (pe_one (cal D hr (pa_cons (pv 5) (pa_cons (pv 1) (pa_cons (pv 2) pa_nil)))))))))), ?_⟩
    refine ⟨_, rfl, _, _, _, _, _, rfl, .ty _, tx_tup hp, k_tt, _, rfl, iteF ⟨_, rfl, p, _, rfl, .inr (.inl (.inl hp)), rfl, _, rfl, iteF ?_⟩⟩
    refine ⟨_, rfl, p, _, rfl, .inl (.inl hp), rfl, _, _, rfl, _, _, rfl, _, _, rfl, rfl, ?_⟩
    refine ⟨_, rfl, _, rfl, hput, fun H1 s1 => ⟨_, rfl, iteT ⟨_, rfl, _, rfl, _, rfl, r.s, n, a, ws, rfl, sameT s1 hS, hs, fun y e => hws false y e, _, rfl, iteT ?_⟩⟩⟩
    exact ⟨_, rfl, _, rfl, _, rfl, r.w, n, a, ws, rfl, sameT s1 hS, hw, fun y e => hws true y e, q _ s1⟩
/-! checked_rows -/
abbrev s_checked_rows : Stmt := top 17
theorem sc_checked_rows : FnScope ["part", "thing", "least", "most", "words", "index", "row"] ["part", "thing", "least", "most", "words"] (defScope s_checked_rows) := ⟨rfl, rfl, rfl, by decide +kernel, rfl, by decide +kernel, by decide +kernel⟩
def sp_checked_rows (K : PySem.W.Frag) : Sp := fun vs H Q _ => ∃ (pt : Str) (a : Addr) (l m : Nat) (wa : Addr) (ws : List Str) (M : KX.Mc), vs = [.str pt, .ref a, .int l, .int m, .ref wa] ∧ MacL H a M ∧ SqT K H wa (ws.map V.str) ∧ KX.VM ws M ∧ l ≤ M.length ∧ M.length ≤ m ∧
  ∀ H' t, Same H H' → MacT H' t M → Q (.ref t) H'
theorem ok_checked_rows {f : Addr} {fd : FuncData} (F : Fun K "checked_rows" "checked_rows" s_checked_rows f fd) (G : Gb mg) (C : Cal P w K mg base "is_row_of" 3 ["thing", "many", "words"] (sp_is_row_of K)) :
    FnOk P w K mg base CX0 4 f fd ["part", "thing", "least", "most", "words"] (sp_checked_rows K) := by
  refine F.ok sc_checked_rows (fun vs H Q E h => ?_) (fun cdv A outer s H vs Q E hr h => ?_)
  · obtain ⟨pt, a, l, m, wa, ws, M, rfl, _⟩ := h
    rfl
  · obtain ⟨pt, a, l, m, wa, ws, M, rfl, ⟨xs, ha, hx⟩, hS, hV, hl, hm, q⟩ := h
    have nd := sc_checked_rows.nd
    refine ⟨_, pss_cons (ps_if (PW.pt (pw_or (pt_not (pt_val (isiT G (pa_cons (pv 1) (pa_cons (pe_tup (pa_cons (eList G) (pa_cons (eTuple G) pa_nil))) pa_nil))))) (pw_or1 (pt_not (pt_chain op_le op_le (pv 2) (lenS G (pv 1)) (pv 3)))))) (pss_one ps_never) pss_nil)
      (pss_cons (ps_for PassesOwn.never rfl (pi_enum (by rfl) G.enumerate (pa_cons (pv 1) pa_nil)) (pg_tup rfl (pgs_cons (pg_name (i := 5) nd rfl (.inl rfl)) (pgs_cons (pg_name (i := 6) nd rfl (.inl rfl)) pgs_nil)))
        (pss_one (ps_if (pt_not (pt_val (cal C hr (pa_cons (pv 6) (pa_cons (lenS G (pv 1)) (pa_cons (pv 4) pa_nil)))))) (pss_one ps_never) pss_nil)))
      (pss_one (ps_ret (tupleS G (pv 1))))), ?_⟩
    have hlen := paired_len hx
    refine ⟨_, rfl, by show 2 ≤ sizeLine; decide, fun p np => ⟨_, p, _, _, _, _, rfl, upd_same, .cons (.ty _) (.cons (.ty _) .nil), tx_lst (Eq.trans (upd_ne (ne_of_none ha np)) ha), k_anyLT, _, rfl, iteF ?_⟩⟩
    have s1 : Same H (upd H p (.tup [.ty "list", .ty "tuple"])) := sameN np
    refine ⟨_, rfl, _, rfl, a, xs, rfl, .inl (.inl (.inl (s1 _ _ ha))), _, _, rfl, rfl, _, rfl, ?_⟩
    have e1 : decide ((l : Int) ≤ (xs.length : Int)) = true := decide_eq_true (by omega)
    have e2 : decide ((xs.length : Int) ≤ (m : Int)) = true := decide_eq_true (by omega)
    rw [e1]
    refine iteT ⟨_, rfl, _, _, rfl, rfl, _, rfl, ?_⟩
    rw [e2]
    refine iteF ?_
    refine ⟨_, rfl, a, xs, rfl, .inl (.inl (s1 _ _ ha)), ?_⟩
    refine for_it walk_enum (fun _ σ H2 => (∃ x5 x6, σ = [some (.str pt), some (.ref a), some (.int l), some (.int m), some (.ref wa), x5, x6]) ∧ Same H H2) ⟨⟨_, _, rfl⟩, s1⟩ (fun i σ H2 _ hp => .inl (.inl (hp.2 _ _ ha))) ?_ ?_
    · rintro i v σ H2 H3 hi ⟨⟨x5, x6, rfl⟩, s2⟩ ⟨T, x, y, rfl, nT, rfl, e3, e4⟩
      cases e3
      have s3 := sameN2 (o := .tup [.int (i : Nat), y]) s2 nT
      obtain ⟨r, hr1, hr2⟩ := paired_get hx e4
      have hm1 := List.mem_of_getElem? hr1
      obtain ⟨v2, v3⟩ := hV.wf r hm1
      refine ⟨T, _, rfl, .inl (.inl upd_same), rfl, _, _, rfl, _, _, rfl, rfl, ?_⟩
      refine ⟨_, rfl, _, rfl, a, xs, rfl, .inl (.inl (.inl (s3 _ _ ha))), _, rfl, y, r, xs.length, wa, ws, rfl, hr2.same s3, sameT s3 hS, hV.put r hm1, hlen ▸ v2, hlen ▸ v3, hV.wds r hm1, fun H4 s4 => ?_⟩
      exact ⟨_, rfl, iteF ⟨⟨_, _, rfl⟩, s3.trans s4⟩⟩
    · rintro σ H2 ⟨⟨x5, x6, rfl⟩, s2⟩
      exact ⟨_, rfl, a, xs, rfl, .inl ⟨.inl (.inl (s2 _ _ ha)), fun t nt => q _ _ (sameN2 s2 nt) ⟨xs, upd_same, rows_same hx (sameN2 s2 nt)⟩⟩⟩
end
end SB
end
section
set_option maxRecDepth 100000
set_option maxHeartbeats 4000000
/-! Walks: words_from, the class End. -/
namespace SB
open PySem PySem.Spec PyProof.Rows L2

/-! ### small -/
section
variable {X : Cx}
theorem pgs_starN {x : Str} {px p : Pos} {t : TG} (h : PG X (.Name x px) t) : PGs X [.Starred (.Name x px) p] (gCons t gNil) := ⟨(pgs_cons h pgs_nil).run⟩
variable {o e : Expr} {to te : TE} {apos cpos pos : Pos}
theorem apnd (ho : PE X o to) (he : PE X e te) (hbase : attributeBase o "append" X.env (eval o X.env) = eval o X.env := by rfl)
    (hfew : ((backTo cpos (starEach [e] X.env)).all (fun x => !x.1) && (backToKw cpos (keywordEach [] X.env)).all (fun x => x.1.isSome)
      && decide (([e] : List Expr).length + ([] : List Keyword).length + (if ([] : List Keyword).isEmpty then 0 else 1) < 30)) = true := by rfl)
    (hline : (apos.endLine == cpos.line) = true := by rfl) (hs : starEach [e] X.env = (false, eval e X.env) :: starEach [] X.env := by rfl) : PS X (.Expr (.Call (.Attribute o "append" apos) [e] [] cpos) pos) (tDrop (tBM X.K "list" rAppend to (tCons te tNil))) :=
  ps_expr (pe_bm PySem.F.plainAttrs_list PySem.F.slot_list_append PySem.F.type_list_append mt_append ho (pa_cons he pa_nil hs) hbase hfew hline hs rfl)
end
theorem noneOf {H H1 : Hp} {p : Addr} (s : Same H H1) (h : H1 p = none) : H p = none := by
  cases e : H p with
  | none => rfl
  | some o => rw [s _ _ e] at h; cases h
/-- a store at a place that H does not know -/
theorem sameU {H H1 : Hp} {p : Addr} {o : HO} (s : Same H H1) (h : H p = none) : Same H (upd H1 p o) := fun b x e => by
  rw [upd_ne (ne_of_none e h)]
  exact s _ _ e
abbrev iv : Nat → V := fun n => .int n
theorem inv_int {n : Nat} {qs : List Nat} : inV (.int n) (qs.map iv) = decide (n ∈ qs) := by
  unfold inV
  rw [List.any_map, Bool.eq_iff_iff, List.any_eq_true, decide_eq_true_eq]
  constructor
  · rintro ⟨x, hx, e⟩
    have : (x : Int) = n := by simpa [eqV, iv] using e
    have : x = n := by omega
    exact this ▸ hx
  · exact fun h => ⟨n, h, by simp [eqV, iv]⟩
theorem inv_str {x : Str} {ws : List Str} : inV (.str x) (ws.map V.str) = decide (x ∈ ws) := by
  unfold inV
  rw [List.any_map, Bool.eq_iff_iff, List.any_eq_true, decide_eq_true_eq]
  constructor
  · rintro ⟨y, hy, e⟩
    have : y = x := by simpa [eqV] using e
    exact this ▸ hy
  · exact fun h => ⟨x, h, by simp [eqV]⟩
theorem flat_int {qs : List Nat} : (qs.map iv).all flatV = true := by
  rw [List.all_eq_true]
  intro y hy
  obtain ⟨z, _, rfl⟩ := List.mem_map.mp hy
  rfl
theorem flat_str {ws : List Str} : (ws.map V.str).all flatV = true := by
  rw [List.all_eq_true]
  intro y hy
  obtain ⟨z, _, rfl⟩ := List.mem_map.mp hy
  rfl
theorem onT {b : Bool} {A B : Prop} (e : b = true) (h : A) : if b = true then A else B := by rw [if_pos e]; exact h
theorem onF {b : Bool} {A B : Prop} (e : b = false) (h : B) : if b = true then A else B := by rw [if_neg (by rw [e]; decide)]; exact h
/-- the slot of a whole number as a measure -/
def natAt (σ : L2.St) (i : Nat) : Nat := match σ[i]? with
  | some (some (.int k)) => k.toNat
  | _ => 0

section
variable {P : Program} {w : World} {K : PySem.W.Frag} {mg : Str → Option Value} {base : Heap}
/-! words_from -/
abbrev s_words_from : Stmt := top 18
theorem sc_words_from : FnScope ["rows", "first", "found", "waiting", "at", "put", "places", "place"] ["rows", "first"] (defScope s_words_from) := ⟨rfl, rfl, rfl, by decide +kernel, rfl, by decide +kernel, by decide +kernel⟩
def sp_words_from : Sp := fun vs H Q _ => ∃ (a : Addr) (n : Nat) (M : KX.Mc), vs = [.ref a, .int n] ∧ MacT H a M ∧ KX.Wf M ∧ n < M.length ∧ M.length ≤ 100 ∧
  ∀ H' p (ws : List Str), Same H H' → H' p = some (.lst (ws.map V.str)) → (∀ x ∈ ws, ∃ bs, KX.beh M bs (.ix n) = .inr x) → Q (.ref p) H'
structure WF (M : KX.Mc) (n : Nat) (ws : List Str) (qs : List Nat) : Prop where
  w : ∀ x ∈ ws, ∃ bs, KX.beh M bs (.ix n) = .inr x
  nd : qs.Nodup
  q : ∀ q ∈ qs, q < M.length ∧ ∃ bs, ∀ cs, KX.beh M (bs ++ cs) (.ix n) = KX.beh M cs (.ix q)
theorem ok_words_from {f : Addr} {fd : FuncData} (F : Fun K "words_from" "words_from" s_words_from f fd) (G : Gb mg) : FnOk P w K mg base CX0 1 f fd ["rows", "first"] sp_words_from := by
  refine F.ok sc_words_from (fun vs H Q E h => ?_) (fun cdv A outer s H vs Q E hr h => ?_)
  · obtain ⟨a, n, M, rfl, _⟩ := h
    rfl
  · obtain ⟨a, n, M, rfl, ⟨xs, ha, hx⟩, hW, hn, h100, q⟩ := h
    have nd := sc_words_from.nd
    refine ⟨_, pss_cons (ps_par3 (i := 2) (j := 3) (l := 4) rfl nd rfl rfl rfl (by decide) (by decide) (by decide) rfl rfl rfl (pa_cons (pe_lst pa_nil) (pa_cons (pe_lst (pa_cons (pv 1) pa_nil)) (pa_cons pe_int pa_nil))) rfl)
      (pss_cons (ps_while PassesOwn.never (pt_cmpR op_lt (pv 4) (lenS G (pv 3)) (nomark _))
        (pss_cons (ps_asg (pe_ix ix_tup (pv 0) (pe_ix ix_list (pv 3) (pv 4) (fun _ _ => rfl)) (fun _ _ => rfl)) (pg_star rfl (pgs_cons (pg_name (i := 5) nd rfl (.inl rfl)) (pgs_starN (pg_name (i := 6) nd rfl (.inl rfl))))))
        (pss_cons (ps_for PassesOwn.never rfl (pi_list (pv 6)) (pg_name (i := 7) nd rfl (.inl rfl))
          (pss_one (ps_if (pt_val (isi G (pa_cons (pv 7) (pa_cons (eStr G) pa_nil)))) (pss_one (apnd (pv 2) (pv 7)))
            (pss_one (ps_if (pt_cmpR op_notIn_seq (pv 7) (pv 3) rfl) (pss_one (apnd (pv 3) (pv 7))) pss_nil)))))
        (pss_one (ps_aug (i := 4) nd rfl (.inl rfl) pe_int ip_add)))))
      (pss_one (ps_ret (pv 2)))), ?_⟩
    have hlen := paired_len hx
    refine ⟨by show 0 ≤ sizeLine; decide, fun pf nf => ⟨_, rfl, by show 1 ≤ sizeLine; decide, fun pw nw => ⟨_, _, _, rfl, ?_⟩⟩⟩
    have hpf : H pf = none := nf
    have sf : Same H (upd H pf (.lst [])) := sameN nf
    have hpw : H pw = none := noneOf sf nw
    have hne : pf ≠ pw := fun e => by subst e; rw [upd_same] at nw; cases nw
    refine while_by (fun σ H2 => ∃ (x5 x6 x7 : Option V) (ws : List Str) (qs : List Nat) (k : Nat), σ = [some (.ref a), some (.int n), some (.ref pf), some (.ref pw), some (.int k), x5, x6, x7] ∧ Same H H2 ∧
        H2 pf = some (.lst (ws.map V.str)) ∧ H2 pw = some (.lst (qs.map iv)) ∧ k ≤ qs.length ∧ ws.length ≤ 2 * k ∧ WF M n ws qs) (fun σ _ => M.length - natAt σ 4)
      ⟨_, _, _, [], [n], 0, rfl, sameU sf hpw, by rw [upd_ne hne, upd_same]; rfl, upd_same, by simp, by simp, ⟨fun x hx => absurd hx List.not_mem_nil, by simp, fun q hq => by obtain rfl := List.mem_singleton.mp hq; exact ⟨hn, [], fun cs => rfl⟩⟩⟩ ?_ ?_
    · rintro σ H2 ⟨x5, x6, x7, ws, qs, k, rfl, s2, hf, hw, hk, hwk, I⟩
      have hql : qs.length ≤ M.length := by simpa using KX.sub_of_len I.nd fun q hq => List.mem_range.mpr (I.q q hq).1
      refine ⟨_, rfl, _, rfl, pw, _, rfl, .inl (.inl (.inl hw)), _, _, rfl, rfl, _, rfl, ?_⟩
      by_cases hlt : k < qs.length
      · refine onT (decide_eq_true (by rw [List.length_map]; omega)) ?_
        obtain ⟨q0, hq0⟩ : ∃ q0, qs[k]? = some q0 := ⟨qs[k], by simp [hlt]⟩
        obtain ⟨hqM, bs0, hb0⟩ := I.q q0 (List.mem_of_getElem? hq0)
        obtain ⟨xr, hxr, pr, rfl, hpr⟩ := paired_get' hx (KX.rowAt_get hqM)
        refine ⟨_, rfl, _, rfl, _, rfl, pw, _, _, .int q0, rfl, rfl, .inl (.inl hw), atI_nat (by rw [List.getElem?_map, hq0]; rfl), a, _, _, _, rfl, rfl, .inl (.inl (s2 _ _ ha)), atI_nat hxr, ?_⟩
        refine ⟨pr, _, _, rfl, .inl (.inl (s2 _ _ hpr)), by show 2 ≤ 1000; decide, fun pl npl => ⟨_, _, rfl, _, _, rfl, rfl, ?_⟩⟩
        have hpl2 : H2 pl = none := npl
        have s3 : ∀ o, Same H (upd H2 pl o) := fun o => sameN2 s2 hpl2
        have npf : pf ≠ pl := ne_of_none hf hpl2
        have npw : pw ≠ pl := ne_of_none hw hpl2
        have npl' : H pl = none := noneOf s2 hpl2
        refine ⟨_, rfl, pl, rfl, ⟨_, .inl (.inl upd_same)⟩, ?_⟩
        refine for_it walk_list (fun i σ H3 => ∃ (x7 : Option V) (ws' : List Str) (qs' : List Nat), σ = [some (.ref a), some (.int n), some (.ref pf), some (.ref pw), some (.int k), some (.int (KX.rowAt M q0).put), some (.ref pl), x7] ∧ Same H H3 ∧
          H3 pf = some (.lst (ws'.map V.str)) ∧ H3 pw = some (.lst (qs'.map iv)) ∧ H3 pl = some (.lst [plV (KX.rowAt M q0).s, plV (KX.rowAt M q0).w]) ∧ k < qs'.length ∧ ws'.length ≤ 2 * k + i ∧ WF M n ws' qs')
          ⟨_, ws, qs, rfl, s3 _, by rw [upd_ne npf]; exact hf, by rw [upd_ne npw]; exact hw, upd_same, hlt, hwk, I⟩ (fun i σ H3 _ ⟨_, _, _, _, _, _, _, hp, _⟩ => .inl (.inl hp)) ?_ ?_
        · rintro i x σ H3 H4 hi ⟨x7', ws', qs', rfl, s4, hf4, hw4, hl4, hk4, hwk4, I4⟩ ⟨rfl, ex⟩
          have hi2 : i < 2 := hi
          obtain ⟨b, rfl⟩ : ∃ b, x = plV ((KX.rowAt M q0).go b) := by
            rcases (show i = 0 ∨ i = 1 by omega) with rfl | rfl
            · exact ⟨false, (Option.some.inj ex).symm⟩
            · exact ⟨true, (Option.some.inj ex).symm⟩
          have hok := KX.Wf.go hW hqM b
          have hgo : ∀ cs, KX.beh M (bs0 ++ [b] ++ cs) (.ix n) = KX.beh M cs ((KX.rowAt M q0).go b) := fun cs => by rw [List.append_assoc, hb0]; rfl
          have hql4 : qs'.length ≤ M.length := by simpa using KX.sub_of_len I4.nd fun q hq => List.mem_range.mpr (I4.q q hq).1
          generalize (KX.rowAt M q0).go b = t at hok hgo
          cases t with
          | wd y =>
            refine ⟨_, rfl, _, _, _, _, _, rfl, .ty _, tx_str y, k_ss, _, rfl, iteT ?_⟩
            refine ⟨_, rfl, .inl ⟨rfl, _, .inl (.inl hf4)⟩, _, rfl, pf, _, _, rfl, rfl, hf4, Nat.lt_of_lt_of_le (show _ < 1000 by rw [List.length_map]; omega) (by decide), ?_⟩
            refine ⟨_, ws' ++ [y], qs', rfl, sameU s4 hpf, by rw [upd_same, List.map_append]; rfl, by rw [upd_ne hne.symm]; exact hw4, by rw [upd_ne npf.symm]; exact hl4, hk4, by rw [List.length_append]; show ws'.length + 1 ≤ _; omega, ⟨fun x hx => ?_, I4.nd, I4.q⟩⟩
            rcases List.mem_append.mp hx with hx | hx
            · exact I4.w x hx
            · cases List.mem_singleton.mp hx
              exact ⟨bs0 ++ [b] ++ [], hgo []⟩
          | ix m =>
            have hm : m < M.length := hok
            refine ⟨_, rfl, _, _, _, _, _, rfl, .ty _, tx_int _, k_is, _, rfl, iteF ⟨_, rfl, _, rfl, pw, _, rfl, .inl (.inl (.inl hw4)), rfl, flat_int, _, rfl, ?_⟩⟩
            show if (!inV (.int m) (qs'.map iv)) = true then _ else _
            rw [inv_int]
            by_cases hmem : m ∈ qs'
            · exact onF (by rw [decide_eq_true hmem]; rfl) ⟨_, ws', qs', rfl, s4, hf4, hw4, hl4, hk4, by omega, I4⟩
            · refine onT (by rw [decide_eq_false hmem]; rfl) ⟨_, rfl, .inl ⟨rfl, _, .inl (.inl hw4)⟩, _, rfl, pw, _, _, rfl, rfl, hw4, Nat.lt_of_lt_of_le (show _ < 1000 by rw [List.length_map]; omega) (by decide), ?_⟩
              refine ⟨_, ws', qs' ++ [m], rfl, sameU s4 hpw, by rw [upd_ne hne]; exact hf4, by rw [upd_same, List.map_append]; rfl, by rw [upd_ne npw.symm]; exact hl4, by rw [List.length_append]; omega, by omega, ⟨I4.w, KX.nodup_snoc I4.nd hmem, fun q hq => ?_⟩⟩
              rcases List.mem_append.mp hq with hq | hq
              · exact I4.q q hq
              · cases List.mem_singleton.mp hq
                exact ⟨hm, bs0 ++ [b], hgo⟩
        · rintro σ H3 ⟨x7', ws', qs', rfl, s4, hf4, hw4, hl4, hk4, hwk4, I4⟩
          refine ⟨_, rfl, _, _, rfl, rfl, ⟨_, _, _, ws', qs', k + 1, rfl, s4, hf4, hw4, hk4, by have : ws'.length ≤ 2 * k + 2 := hwk4; omega, I4⟩, ?_⟩
          show M.length - ((k : Int) + 1).toNat < M.length - (k : Int).toNat
          omega
      · refine onF (decide_eq_false (by rw [List.length_map]; omega)) ?_
        exact ⟨_, rfl, q _ _ ws s2 hf I.w⟩
    · rintro σ H2 Q1 Q2 hQ ⟨v, h1, v2, h2, p, ys, h3, h4, i, j, h5, h6, k, h7, h8⟩
      exact ⟨v, h1, v2, h2, p, ys, h3, h4, i, j, h5, h6, k, h7, hQ _ _ h8⟩
end
end SB
end
section
set_option maxRecDepth 100000
set_option maxHeartbeats 4000000
/-! Walks: the class End. -/
namespace SB
open PySem PySem.Spec PyProof.Rows L2

/-- what is known of the text's constants, of End -/
structure TxE (K : PySem.W.Frag) (mg : Str → Option Value) (E : Addr) : Prop where
  G : Gb mg
  hearer : ∃ u, mg "HEARER" = some u ∧ RelV (.str "hearer") u
  sender : ∃ u, mg "SENDER" = some u ∧ RelV (.str "sender") u
  hw : ∃ a, mg "HEARER_WORDS" = some (.ref a) ∧ ∀ H, SqT K H a ([KX.takenS, KX.lostS].map V.str)
  sw : ∃ a, mg "SENDER_WORDS" = some (.ref a) ∧ ∀ H, SqT K H a ([KX.doneS, KX.againS].map V.str)
  cl : Cls K E
  nh : NoAttr K E "hearer_rows"
  ns : NoAttr K E "sender_rows"
  nt : NoAttr K E "table"
  mg : mg "End" = some (.ref E)
  kp : PySem.W.keepIn K (.ref E) = true
  most : ∃ mc u, ClX.CRead K E mc ∧ ClX.CVal K E mc "MOST" (.int 100) u

theorem tyes {σ : L2.St} {H : Hp} {f g : Hp → Prop} (h : f H) : tYes σ H (fun b H3 => if b = true then f H3 else g H3) := by
  show if true = true then f H else g H
  exact iteT h
/-- all but x stands -/
def SameX (x : Addr) (H H' : Hp) : Prop := ∀ b o, b ≠ x → H b = some o → H' b = some o
theorem SameX.rfl' {x : Addr} {H : Hp} : SameX x H H := fun _ _ _ h => h
theorem sx {x : Addr} {H H' : Hp} (s : Same H H') : SameX x H H' := fun b o _ h => s b o h
theorem SameX.trans {x : Addr} {H H1 H2 : Hp} (a : SameX x H H1) (b : SameX x H1 H2) : SameX x H H2 := fun c o n h => b c o n (a c o n h)
theorem SameX.at {x : Addr} {H : Hp} {o : HO} : SameX x H (upd H x o) := fun b u n h => by rw [upd_ne n]; exact h
theorem SameX.new {x p : Addr} {H H1 : Hp} {o : HO} (s : SameX x H H1) (h : H p = none) : SameX x H (upd H1 p o) := fun b u n e => by
  rw [upd_ne (ne_of_none e h)]
  exact s b u n e
theorem MacT.x {x a : Addr} {H H' : Hp} {M : KX.Mc} {C dx : Addr} {fs : List (Str × V)} (h : MacT H a M) (hx : H x = some (.ins C dx fs)) (s : SameX x H H') : MacT H' a M := by
  obtain ⟨xs, h1, h2⟩ := h
  refine ⟨xs, s _ _ (ne_of h1 hx (by intro z; cases z)) h1, Paired.mapP h2 fun u r => ?_⟩
  rintro ⟨p, rfl, hp⟩
  exact ⟨p, rfl, s _ _ (ne_of hp hx (by intro z; cases z)) hp⟩
theorem MacL.x {x a : Addr} {H H' : Hp} {M : KX.Mc} {C dx : Addr} {fs : List (Str × V)} (h : MacL H a M) (hx : H x = some (.ins C dx fs)) (s : SameX x H H') : MacL H' a M := by
  obtain ⟨xs, h1, h2⟩ := h
  refine ⟨xs, s _ _ (ne_of h1 hx (by intro z; cases z)) h1, Paired.mapP h2 fun u r => ?_⟩
  rintro ⟨p, rfl, hp⟩
  exact ⟨p, rfl, s _ _ (ne_of hp hx (by intro z; cases z)) hp⟩

theorem MacT.lst {a D : Addr} {H : Hp} {M : KX.Mc} {acc : List V} {o : HO} (h : MacT H a M) (hD : H D = some (.lst acc)) : MacT (upd H D o) a M := by
  obtain ⟨xs, h1, h2⟩ := h
  refine ⟨xs, by rw [upd_ne (ne_of h1 hD (by intro z; cases z))]; exact h1, Paired.mapP h2 fun u r => ?_⟩
  rintro ⟨p, rfl, hp⟩
  exact ⟨p, rfl, by rw [upd_ne (ne_of hp hD (by intro z; cases z))]; exact hp⟩

def endFs (p1 p2 p3 : Addr) : List (Str × V) := [("hearer_rows", .ref p1), ("sender_rows", .ref p2), ("table", .ref p3)]
/-- an End as it stands -/
def EndAt (E : Addr) (H : Hp) (x : Addr) (Mh Ms : KX.Mc) : Prop := ∃ dx p1 p2 p3, H x = some (.ins E dx (endFs p1 p2 p3)) ∧ MacT H p1 Mh ∧ MacT H p2 Ms
theorem EndAt.same {E x : Addr} {H H' : Hp} {Mh Ms : KX.Mc} (h : EndAt E H x Mh Ms) (s : Same H H') : EndAt E H' x Mh Ms :=
  let ⟨dx, p1, p2, p3, h1, h2, h3⟩ := h
  ⟨dx, p1, p2, p3, s _ _ h1, h2.same s, h3.same s⟩

section
variable {P : Program} {w : World} {K : PySem.W.Frag} {mg : Str → Option Value} {base : Heap} {E : Addr}
/-! End.__init__ -/
abbrev s_end_init : Stmt := inClass (top 19) 1
theorem sc_end_init : FnScope ["self", "hearer", "sender", "index", "row"] ["self", "hearer", "sender"] (defScope s_end_init) := ⟨rfl, rfl, rfl, by decide +kernel, rfl, by decide +kernel, by decide +kernel⟩
def sp_end_init (E : Addr) : Sp := fun vs H Q _ => ∃ (x a b dx : Addr) (Mh Ms : KX.Mc), vs = [.ref x, .ref a, .ref b] ∧ H x = some (.ins E dx []) ∧ MacL H a Mh ∧ MacL H b Ms ∧ KX.VE Mh Ms ∧
  ∀ H', SameX x H H' → EndAt E H' x Mh Ms → Q .non H'
theorem ok_end_init {f : Addr} {fd : FuncData} (F : Fun K "__init__" "End.__init__" s_end_init f fd) (T : TxE K mg E) (C : Cal P w K mg base "checked_rows" 4 ["part", "thing", "least", "most", "words"] (sp_checked_rows K))
    (D : Cal P w K mg base "words_from" 1 ["rows", "first"] sp_words_from) : FnOk P w K mg base CX0 5 f fd ["self", "hearer", "sender"] (sp_end_init E) := by
  refine F.ok sc_end_init (fun vs H Q E h => ?_) (fun cdv A outer s H vs Q E' hr h => ?_)
  · obtain ⟨x, a, b, dx, Mh, Ms, rfl, _⟩ := h
    rfl
  · obtain ⟨x, a, b, dx, Mh, Ms, rfl, hx, hh, hs, hV, q⟩ := h
    have nd := sc_end_init.nd
    obtain ⟨uh, g1, g2⟩ := T.hearer
    obtain ⟨us, g3, g4⟩ := T.sender
    obtain ⟨ah, g5, g6⟩ := T.hw
    obtain ⟨as, g7, g8⟩ := T.sw
    obtain ⟨mc, u, cr, cv⟩ := T.most
    have lc : ∀ (X : Cx), True := fun _ => trivial
    refine ⟨_, pss_cons (ps_fld (pv 0) (cal C hr (pa_cons (pe_glob rfl g1 g2) (pa_cons (pv 1) (pa_cons pe_int (pa_cons (ClX.pe_cval (pe_glob rfl T.mg (v := .ref E) rfl)) (pa_cons (pe_glob rfl g5 (v := .ref ah) rfl) pa_nil)))))) rfl)
      (pss_cons (ps_fld (pv 0) (cal C hr (pa_cons (pe_glob rfl g3 g4) (pa_cons (pv 2) (pa_cons pe_int (pa_cons (ClX.pe_cval (pe_glob rfl T.mg (v := .ref E) rfl)) (pa_cons (pe_glob rfl g7 (v := .ref as) rfl) pa_nil)))))) rfl)
      (pss_cons (ps_if (pt_cmpR op_in_seq pe_str (cal D (hr.mono (by decide)) (pa_cons (pe_fld (pv 0) rfl) (pa_cons pe_int pa_nil))) rfl) (pss_one ps_never) pss_nil)
      (pss_cons (ps_fld (pv 0) (pe_lc (own := [("index", 3), ("row", 4)]) (g := gTup K 2 (gCons (gName 3) (gCons (gName 4) gNil))) (tt := tYes) rfl nd (pi_enumT (by rfl) T.G.enumerate (pa_cons (pe_fld (pv 0) rfl) pa_nil))
        (blkOk_by (N := ["self", "hearer", "sender", "index", "row"]) (sc := defScope s_end_init) (by decide +kernel)) (fun _ _ _ _ _ => pg_tup rfl (pgs_cons (pg_name (i := 3) nd rfl (.inl rfl)) (pgs_cons (pg_name (i := 4) nd rfl (.inl rfl)) pgs_nil)))
        (fun _ _ _ _ _ => pts_nil) (fun _ _ _ _ _ => pe_tup (pa_cons (pe_glob rfl g1 g2) (pa_cons (pv 3) (pa_cons (pv 4) pa_nil))))) rfl)
      (pss_one (ps_fldaug (pv 0) (pe_lc (own := [("index", 3), ("row", 4)]) (g := gTup K 2 (gCons (gName 3) (gCons (gName 4) gNil))) (tt := tYes) rfl nd (pi_enumT (by rfl) T.G.enumerate (pa_cons (pe_fld (pv 0) rfl) pa_nil))
        (blkOk_by (N := ["self", "hearer", "sender", "index", "row"]) (sc := defScope s_end_init) (by decide +kernel)) (fun _ _ _ _ _ => pg_tup rfl (pgs_cons (pg_name (i := 3) nd rfl (.inl rfl)) (pgs_cons (pg_name (i := 4) nd rfl (.inl rfl)) pgs_nil)))
        (fun _ _ _ _ _ => pts_nil) (fun _ _ _ _ _ => pe_tup (pa_cons (pe_glob rfl g3 g4) (pa_cons (pv 3) (pa_cons (pv 4) pa_nil))))) iop_ext))))), ?_⟩
    refine ⟨_, rfl, E, mc, _, _, rfl, cr, cv, ?_⟩
    refine ⟨"hearer", a, 2, 100, ah, [KX.takenS, KX.lostS], Mh, rfl, hh, g6 _, hV.h, hV.h2, hV.h.len, fun H1 p1 s1 m1 => ?_⟩
    refine ⟨_, rfl, x, E, dx, [], rfl, s1 _ _ hx, T.cl, T.nh, by show 0 < 1000; decide, ?_⟩
    have x1 : SameX x H (upd H1 x (.ins E dx (putF "hearer_rows" (.ref p1) []))) := (sx s1).trans SameX.at
    have m1' := m1.x (s1 _ _ hx) (SameX.at (x := x) (o := .ins E dx (putF "hearer_rows" (.ref p1) [])))
    have hs1 := hs.x hx x1
    refine ⟨_, rfl, E, mc, _, _, rfl, cr, cv, ?_⟩
    refine ⟨"sender", b, 1, 100, as, [KX.doneS, KX.againS], Ms, rfl, hs1, g8 _, hV.s, hV.s1, hV.s.len, fun H3 p2 s3 m2 => ?_⟩
    have hx3 : H3 x = some (.ins E dx (putF "hearer_rows" (.ref p1) [])) := s3 _ _ upd_same
    refine ⟨_, rfl, x, E, dx, _, rfl, hx3, T.cl, T.ns, by show 1 < 1000; decide, ?_⟩
    have x3 : SameX x H (upd H3 x (.ins E dx (putF "sender_rows" (.ref p2) (putF "hearer_rows" (.ref p1) [])))) := x1.trans ((sx s3).trans SameX.at)
    have m1'' := (m1'.same s3).x hx3 (SameX.at (x := x) (o := .ins E dx (putF "sender_rows" (.ref p2) (putF "hearer_rows" (.ref p1) []))))
    have m2'' := m2.x hx3 (SameX.at (x := x) (o := .ins E dx (putF "sender_rows" (.ref p2) (putF "hearer_rows" (.ref p1) []))))
    generalize e4 : upd H3 x (.ins E dx (putF "sender_rows" (.ref p2) (putF "hearer_rows" (.ref p1) []))) = H4 at x3 m1'' m2''
    have hx4 : H4 x = some (.ins E dx [("hearer_rows", .ref p1), ("sender_rows", .ref p2)]) := by rw [← e4, upd_same]; rfl
    refine ⟨_, rfl, x, E, dx, _, _, rfl, hx4, T.cl, T.nh, rfl, ?_⟩
    refine ⟨p1, 1, Mh, rfl, m1'', hV.h.wf, hV.h2, hV.h.len, fun H5 pl ws s5 h5 hreach => ?_⟩
    refine ⟨pl, _, rfl, .inl (.inl (.inl h5)), rfl, flat_str, _, rfl, ?_⟩
    show if inV (.str KX.takenS) (ws.map V.str) = true then _ else _
    rw [inv_str]
    refine onF (decide_eq_false fun hmem => ?_) ?_
    · obtain ⟨bs, hb⟩ := hreach _ hmem
      exact hV.nt bs hb
    have hx5 := s5 _ _ hx4
    have x5 : SameX x H H5 := x3.trans (sx s5)
    have m1e := m1''.same s5
    have m2e := m2''.same s5
    refine ⟨_, rfl, x, E, dx, _, _, rfl, hx5, T.cl, T.nh, rfl, p1, _, rfl, .inl (.inl m1e.choose_spec.1), ?_⟩
    have l1 : m1e.choose.length ≤ 100 := by rw [paired_len m1e.choose_spec.2]; exact hV.h.len
    have l2 : m2e.choose.length ≤ 100 := by rw [paired_len m2e.choose_spec.2]; exact hV.s.len
    intro D1 nD1
    refine lc_it walk_enumT (fun i H6 => Same H5 H6 ∧ ∃ acc, H6 D1 = some (.lst acc) ∧ acc.length = i) ⟨sameN nD1, [], upd_same, rfl⟩ (fun i H6 _ p => .inl (.inl (p.1 _ _ m1e.choose_spec.1))) ?_ ?_
    · rintro i v H6 H7 hi ⟨s6, acc, ha, hl⟩ ⟨T6, x6, y6, rfl, nT, rfl, e6, e7⟩
      cases e6
      have s7 := sameN2 (o := .tup [.int (i : Nat), y6]) s6 nT
      refine ⟨T6, _, rfl, .inl (.inl upd_same), rfl, _, _, rfl, _, _, rfl, rfl, rfl, tyes ⟨_, rfl, _, rfl, by show 3 ≤ sizeLine; decide, fun p np => ⟨acc, ?_, ?_, ?_⟩⟩⟩
      · rw [upd_ne (ne_of_none ((upd_ne (ne_of_none ha nT)).trans ha) np), upd_ne (ne_of_none ha nT)]
        exact ha
      · rw [hl]
        exact Nat.lt_of_lt_of_le (Nat.lt_of_lt_of_le hi l1) (by decide)
      · exact ⟨sameU (sameN2 s7 np) nD1, _, upd_same, by rw [List.length_append, hl]; rfl⟩
    rintro H6 ⟨s6, acc, ha, hl⟩
    have hx6 := s6 _ _ hx5
    refine ⟨_, rfl, x, E, dx, _, rfl, hx6, T.cl, T.nt, by show 2 < 1000; decide, ?_⟩
    have hD1x : D1 ≠ x := ne_of ha hx6 (by intro z; cases z)
    generalize e7 : upd H6 x (.ins E dx (putF "table" (.ref D1) [("hearer_rows", .ref p1), ("sender_rows", .ref p2)])) = H7
    have hx7 : H7 x = some (.ins E dx (endFs p1 p2 D1)) := by rw [← e7, upd_same]; rfl
    have x7 : SameX x H H7 := x5.trans ((sx s6).trans (by rw [← e7]; exact SameX.at))
    have m1g : MacT H7 p1 Mh := (m1e.same s6).x hx6 (by rw [← e7]; exact SameX.at)
    have m2g : MacT H7 p2 Ms := (m2e.same s6).x hx6 (by rw [← e7]; exact SameX.at)
    have hD7 : H7 D1 = some (.lst acc) := by rw [← e7, upd_ne hD1x]; exact ha
    refine ⟨_, rfl, x, E, dx, _, _, rfl, hx7, T.cl, T.nt, rfl, ?_⟩
    refine ⟨_, rfl, x, E, dx, _, _, rfl, hx7, T.cl, T.ns, rfl, p2, _, rfl, .inl (.inl m2g.choose_spec.1), ?_⟩
    have l3 : m2g.choose.length ≤ 100 := by rw [paired_len m2g.choose_spec.2]; exact hV.s.len
    intro D2 nD2
    refine lc_it walk_enumT (fun i H8 => Same H7 H8 ∧ ∃ acc, H8 D2 = some (.lst acc) ∧ acc.length = i) ⟨sameN nD2, [], upd_same, rfl⟩ (fun i H8 _ p => .inl (.inl (p.1 _ _ m2g.choose_spec.1))) ?_ ?_
    · rintro i v H8 H9 hi ⟨s8, acc', ha', hl'⟩ ⟨T8, x8, y8, rfl, nT, rfl, e8, e9⟩
      cases e8
      have s9 := sameN2 (o := .tup [.int (i : Nat), y8]) s8 nT
      refine ⟨T8, _, rfl, .inl (.inl upd_same), rfl, _, _, rfl, _, _, rfl, rfl, rfl, tyes ⟨_, rfl, _, rfl, by show 3 ≤ sizeLine; decide, fun p np => ⟨acc', ?_, ?_, ?_⟩⟩⟩
      · rw [upd_ne (ne_of_none ((upd_ne (ne_of_none ha' nT)).trans ha') np), upd_ne (ne_of_none ha' nT)]
        exact ha'
      · rw [hl']
        exact Nat.lt_of_lt_of_le (Nat.lt_of_lt_of_le hi l3) (by decide)
      · exact ⟨sameU (sameN2 s9 np) nD2, _, upd_same, by rw [List.length_append, hl']; rfl⟩
    rintro H8 ⟨s8, acc', ha', hl'⟩
    have hx8 := s8 _ _ hx7
    have hD8 := s8 _ _ hD7
    refine ⟨D1, D2, acc, acc', rfl, rfl, hD8, ha', Nat.le_trans (by rw [hl, hl']; exact Nat.add_le_add (Nat.le_trans (Nat.le_of_eq rfl) l1) l3) (by decide : 200 ≤ sizeLine), ?_⟩
    have nD : H D1 = none := by
      cases e : H D1 with
      | none => rfl
      | some o => rw [x5 _ _ hD1x e] at nD1; cases nD1
    have hx9 : upd H8 D1 (HO.lst (acc ++ acc')) x = some (.ins E dx (endFs p1 p2 D1)) := by rw [upd_ne hD1x.symm]; exact hx8
    refine ⟨dx, _, hx9, by show 3 < 1000; decide, q _ ((SameX.new (x7.trans (sx s8)) nD).trans SameX.at) ?_⟩
    exact ⟨dx, p1, p2, D1, upd_same, (((m1g.same s8).lst hD8).x hx9 SameX.at), (((m2g.same s8).lst hD8).x hx9 SameX.at)⟩
end
end SB
end
section
set_option maxRecDepth 100000
set_option maxHeartbeats 4000000
/-! Walks: data of machines; End.hearer, End.sender, End.__eq__, machine_text, End.__str__. -/
namespace SB
open PySem PySem.Spec PyProof.Rows L2

/-! ### data -/
/-- may be compared; nesting at most n -/
structure Gd (d : PyData) (n : Nat) : Prop where
  c : d.canLay0 = true
  d : d.depth ≤ n
theorem canAll {ds : List PyData} (h : ∀ d ∈ ds, d.canLay0 = true) : PyData.canLayAll0 ds = true := by
  induction ds with
  | nil => rfl
  | cons d ds ih =>
    rw [PyData.canLayAll0, h d (List.mem_cons_self ..), ih fun x hx => h x (List.mem_cons_of_mem _ hx)]
    rfl
theorem depAll {ds : List PyData} {n : Nat} (h : ∀ d ∈ ds, d.depth ≤ n) : PyData.depthAll ds ≤ n := by
  induction ds with
  | nil => exact Nat.zero_le _
  | cons d ds ih =>
    rw [PyData.depthAll]
    exact Nat.max_le.mpr ⟨h d (List.mem_cons_self ..), ih fun x hx => h x (List.mem_cons_of_mem _ hx)⟩
theorem Gd.tup {ds : List PyData} {n : Nat} (h : ∀ d ∈ ds, Gd d n) : Gd (.tuple ds) (n + 1) := ⟨by rw [PyData.canLay0]; exact canAll fun d hd => (h d hd).c, by rw [PyData.depth]; exact Nat.succ_le_succ (depAll fun d hd => (h d hd).d)⟩
theorem Gd.lst {ds : List PyData} {n : Nat} (h : ∀ d ∈ ds, Gd d n) : Gd (.list ds) (n + 1) := ⟨by rw [PyData.canLay0]; exact canAll fun d hd => (h d hd).c, by rw [PyData.depth]; exact Nat.succ_le_succ (depAll fun d hd => (h d hd).d)⟩
theorem Gd.int (i : Int) : Gd (.int i) 0 := ⟨rfl, Nat.le_refl _⟩
theorem Gd.non : Gd .none 0 := ⟨rfl, Nat.le_refl _⟩
theorem Gd.str {x : Str} (h : PyData.strOk x = true) : Gd (.str x) 0 := ⟨h, Nat.le_refl _⟩
theorem Gd.mono {d : PyData} {n m : Nat} (h : Gd d n) (l : n ≤ m) : Gd d m := ⟨h.c, Nat.le_trans h.d l⟩
theorem Gd.sh {d : PyData} {n : Nat} (h : Gd d n) (l : n ≤ 64) : SeqAt.shaped d = true := by
  unfold SeqAt.shaped
  rw [h.c, decide_eq_true (Nat.le_trans h.d l)]
  rfl
def plD : KX.Pl → PyData
  | .ix n => .int n
  | .wd w => .str w
def rowD (r : KX.Rw) : PyData := .tuple [.int r.put, plD r.s, plD r.w]
def macD (M : KX.Mc) : PyData := .tuple (M.map rowD)
section
variable {K : PySem.W.Frag} {H : Hp}
theorem dp_pl (p : KX.Pl) : Dp K H (plV p) (plD p) := by
  cases p with
  | ix n => exact .int _
  | wd w => exact .str _
theorem dp_row {x : V} {r : KX.Rw} (h : RowAt H x r) : Dp K H x (rowD r) := by
  obtain ⟨p, rfl, hp⟩ := h
  exact .tup (.inl (.inl hp)) (.cons (.int _) (.cons (dp_pl _) (.cons (dp_pl _) .nil)))
theorem dp_rows : ∀ {xs : List V} {M : KX.Mc}, RowsV H xs M → DpAll K H xs (M.map rowD)
  | _, _, .nil => .nil
  | _, _, .cons r t => .cons (dp_row r) (dp_rows t)
theorem dp_mac {a : Addr} {M : KX.Mc} (h : MacT H a M) : Dp K H (.ref a) (macD M) := let ⟨xs, h1, h2⟩ := h; .tup (.inl (.inl h1)) (dp_rows h2)
theorem ok_word {w : Str} (h : w ∈ [KX.takenS, KX.lostS, KX.doneS, KX.againS]) : PyData.strOk w = true := by
  simp only [List.mem_cons, List.not_mem_nil, or_false] at h
  rcases h with rfl | rfl | rfl | rfl <;> decide +kernel
theorem gd_pl {words : List Str} {M : KX.Mc} (hV : KX.VM words M) (hw : ∀ w ∈ words, PyData.strOk w = true) {r : KX.Rw} (hr : r ∈ M) (b : Bool) : Gd (plD (r.go b)) 0 := by
  cases e : r.go b with
  | ix n => exact .int _
  | wd w => exact .str (hw w (hV.wds r hr b w e))
theorem gd_mac {words : List Str} {M : KX.Mc} (hV : KX.VM words M) (hw : ∀ w ∈ words, PyData.strOk w = true) : Gd (macD M) 2 := by
  refine .tup fun d hd => ?_
  obtain ⟨r, hr, rfl⟩ := List.mem_map.mp hd
  refine .tup fun d hd => ?_
  simp only [List.mem_cons, List.not_mem_nil, or_false] at hd
  rcases hd with rfl | rfl | rfl
  · exact .int _
  · exact gd_pl hV hw hr false
  · exact gd_pl hV hw hr true
theorem gd_hm {M : KX.Mc} (h : KX.VM [KX.takenS, KX.lostS] M) : Gd (macD M) 2 := gd_mac h fun w hw => ok_word (by simp only [List.mem_cons, List.not_mem_nil, or_false] at hw ⊢; rcases hw with rfl | rfl <;> simp)
theorem gd_sm {M : KX.Mc} (h : KX.VM [KX.doneS, KX.againS] M) : Gd (macD M) 2 := gd_mac h fun w hw => ok_word (by simp only [List.mem_cons, List.not_mem_nil, or_false] at hw ⊢; rcases hw with rfl | rfl <;> simp)
end

section
variable {P : Program} {w : World} {K : PySem.W.Frag} {mg : Str → Option Value} {base : Heap} {E : Addr}
/-! hearer, sender -/
abbrev s_hearer : Stmt := inClass (top 19) 3
abbrev s_sender : Stmt := inClass (top 19) 4
theorem sc_hearer : FnScope ["self"] ["self"] (defScope s_hearer) := ⟨rfl, rfl, rfl, by decide +kernel, rfl, by decide +kernel, by decide +kernel⟩
theorem sc_sender : FnScope ["self"] ["self"] (defScope s_sender) := ⟨rfl, rfl, rfl, by decide +kernel, rfl, by decide +kernel, by decide +kernel⟩
def sp_hearer (E : Addr) : Sp := fun vs H Q _ => ∃ x Mh Ms, vs = [.ref x] ∧ EndAt E H x Mh Ms ∧ ∀ p, MacT H p Mh → Q (.ref p) H
def sp_sender (E : Addr) : Sp := fun vs H Q _ => ∃ x Mh Ms, vs = [.ref x] ∧ EndAt E H x Mh Ms ∧ ∀ p, MacT H p Ms → Q (.ref p) H
theorem ok_hearer {f : Addr} {fd : FuncData} (F : Fun K "hearer" "End.hearer" s_hearer f fd) (T : TxE K mg E) : FnOk P w K mg base CX0 1 f fd ["self"] (sp_hearer E) := by
  refine F.ok sc_hearer (fun vs H Q E h => ?_) (fun cdv A outer s H vs Q E hr h => ?_)
  · obtain ⟨x, Mh, Ms, rfl, _⟩ := h
    rfl
  · obtain ⟨x, Mh, Ms, rfl, ⟨dx, p1, p2, p3, h1, h2, h3⟩, q⟩ := h
    exact ⟨_, pss_one (ps_ret (pe_fld (pv 0) rfl)), _, rfl, x, _, dx, _, _, rfl, h1, T.cl, T.nh, rfl, q p1 h2⟩
theorem ok_sender {f : Addr} {fd : FuncData} (F : Fun K "sender" "End.sender" s_sender f fd) (T : TxE K mg E) : FnOk P w K mg base CX0 1 f fd ["self"] (sp_sender E) := by
  refine F.ok sc_sender (fun vs H Q E h => ?_) (fun cdv A outer s H vs Q E hr h => ?_)
  · obtain ⟨x, Mh, Ms, rfl, _⟩ := h
    rfl
  · obtain ⟨x, Mh, Ms, rfl, ⟨dx, p1, p2, p3, h1, h2, h3⟩, q⟩ := h
    exact ⟨_, pss_one (ps_ret (pe_fld (pv 0) rfl)), _, rfl, x, _, dx, _, _, rfl, h1, T.cl, T.ns, rfl, q p2 h3⟩
/-! __eq__ -/
abbrev s_end_eq : Stmt := inClass (top 19) 5
theorem sc_end_eq : FnScope ["self", "other"] ["self", "other"] (defScope s_end_eq) := ⟨rfl, rfl, rfl, by decide +kernel, rfl, by decide +kernel, by decide +kernel⟩
/-- two Ends of the same machines -/
def SameEnd (E : Addr) (a b : Addr) (H : Hp) : Prop := ∃ Mh Ms, EndAt E H a Mh Ms ∧ EndAt E H b Mh Ms ∧ KX.VE Mh Ms
theorem ok_end_eq {f : Addr} {fd : FuncData} (F : Fun K "__eq__" "End.__eq__" s_end_eq f fd) (T : TxE K mg E) (I : C8.InsC K E) : FnOk P w K mg base CX0 1 f fd ["self", "other"] (spEqv (SameEnd E)) := by
  refine F.ok sc_end_eq (fun vs H Q E h => ?_) (fun cdv A outer s H vs Q E' hr h => ?_)
  · obtain ⟨a, b, rfl, _⟩ := h
    rfl
  · obtain ⟨a, b, rfl, ⟨Mh, Ms, ⟨dx, p1, p2, p3, h1, h2, h3⟩, ⟨dy, q1, q2, q3, k1, k2, k3⟩, hV⟩, q⟩ := h
    refine ⟨_, pss_cons (ps_if (pt_not (pt_val (pe_callB (C8.call_isC I) rfl T.G.isinstance (by decide +kernel) (pa_cons (pv 1) (pa_cons (pe_glob rfl T.mg (v := .ref E) rfl) pa_nil)) (by decide) (by decide)))) (pss_one (ps_ret pe_bl)) pss_nil)
      (pss_one (ps_ret (pe_cmpR (op_eqD hr.units) (pe_tup (pa_cons (pe_fld (pv 0) rfl) (pa_cons (pe_fld (pv 0) rfl) pa_nil))) (pe_tup (pa_cons (pe_fld (pv 1) rfl) (pa_cons (pe_fld (pv 1) rfl) pa_nil))) (nomark _)))), ?_⟩
    refine ⟨_, rfl, b, dy, _, rfl, k1, _, rfl, iteF ?_⟩
    refine ⟨_, rfl, a, E, dx, _, _, rfl, h1, T.cl, T.nh, rfl, _, rfl, a, E, dx, _, _, rfl, h1, T.cl, T.ns, rfl, by show 2 ≤ sizeLine; decide, fun t1 n1 => ?_⟩
    have e1 : Same H (upd H t1 (.tup [.ref p1, .ref p2])) := sameN n1
    refine ⟨_, rfl, b, E, dy, _, _, rfl, e1 _ _ k1, T.cl, T.nh, rfl, _, rfl, b, E, dy, _, _, rfl, e1 _ _ k1, T.cl, T.ns, rfl, by show 2 ≤ sizeLine; decide, fun t2 n2 => ?_⟩
    have e2 : Same H (upd (upd H t1 (.tup [.ref p1, .ref p2])) t2 (.tup [.ref q1, .ref q2])) := sameN2 e1 n2
    have d1 : Gd (.tuple [macD Mh, macD Ms]) 3 := .tup fun d hd => by
      simp only [List.mem_cons, List.not_mem_nil, or_false] at hd
      rcases hd with rfl | rfl
      · exact gd_hm hV.h
      · exact gd_sm hV.s
    refine ⟨.tuple [macD Mh, macD Ms], .tuple [macD Mh, macD Ms], .tup (.inl (.inl ?_)) (.cons (dp_mac (h2.same e2)) (.cons (dp_mac (h3.same e2)) .nil)), .tup (.inl (.inl upd_same)) (.cons (dp_mac (k2.same e2)) (.cons (dp_mac (k3.same e2)) .nil)), d1.sh (by decide), d1.sh (by decide), ?_⟩
    · rw [upd_ne (ne_of_none upd_same n2)]
      exact upd_same
    · rw [SeqAt.eqv_refl _ d1.c]
      exact q _ e2
end
end SB
end
section
set_option maxRecDepth 100000
set_option maxHeartbeats 4000000
/-! Walks: machine_text, End.__str__. -/
namespace SB
open PySem PySem.Spec PyProof.Rows L2

def plT : KX.Pl → Str
  | .ix n => toString (n : Int)
  | .wd w => w
def rowTs (r : KX.Rw) : List Str := [toString (r.put : Int), plT r.s, plT r.w]
def rowT (r : KX.Rw) : Str := Txt.join " " (rowTs r)
def machT (M : KX.Mc) : Str := Txt.join ", " (M.map rowT)
structure TxtOk (M : KX.Mc) : Prop where
  r : ∀ r ∈ M, ((rowTs r).map (·.length)).sum + (rowTs r).length * (" " : Str).length ≤ 16777216
  m : ((M.map rowT).map (·.length)).sum + (M.map rowT).length * (", " : Str).length ≤ 16777216

theorem log_small {n : Nat} (h : n < 1000) : (n : Int).natAbs.log2 < 1920 := by
  have e : (n : Int).natAbs = n := rfl
  rw [e]
  rcases Nat.eq_zero_or_pos n with rfl | hp
  · decide
  · have : n.log2 < 10 := (Nat.log2_lt (by omega)).mpr (by omega)
    omega
section
variable {X : Cx} {tg l o e : Expr} {tl to te : TE}
def rJoin (K : PySem.W.Frag) : V → List V → Hp → VK → Prop := fun x xs H Q => ∃ a p, ∃ ys : List Str, x = .str a ∧ xs = [.ref p] ∧ (SqL K H p (ys.map V.str) ∨ SqT K H p (ys.map V.str)) ∧
  (ys.map (·.length)).sum + ys.length * a.length ≤ 16777216 ∧ Q (.str (Txt.join a ys)) H
theorem joinK (K : PySem.W.Frag) {apos pos : Pos} (ho : PE X o to) (he : PE X e te) (hK : X.K = K := by rfl) (hs : starEach [e] X.env = [(false, eval e X.env)] := by rfl) (hbase : attributeBase o "join" X.env (eval o X.env) = eval o X.env := by rfl) (hline : (apos.endLine == pos.line) = true := by rfl) :
    PE X (.Call (.Attribute o "join" apos) [e] [] pos) (tM1 (rJoin K) to te) := by
  subst hK
  exact pe_join ho he hs hbase hline
theorem tupK (K : PySem.W.Frag) (hl : PE X l tl) (hK : X.K = K := by rfl) : PI X tg l (iTup K tl) := by
  subst hK
  exact pi_tup hl
theorem listK (K : PySem.W.Frag) (hl : PE X l tl) (hK : X.K = K := by rfl) : PI X tg l (iList K tl) := by
  subst hK
  exact pi_list hl
end
section
variable {P : Program} {w : World} {K : PySem.W.Frag} {mg : Str → Option Value} {base : Heap} {E : Addr}
abbrev s_machine_text : Stmt := top 9
theorem sc_machine_text : FnScope ["rows", "row", "part"] ["rows"] (defScope s_machine_text) := ⟨rfl, rfl, rfl, by decide +kernel, rfl, by decide +kernel, by decide +kernel⟩
def sp_machine_text : Sp := fun vs H Q _ => ∃ (a : Addr) (M : KX.Mc) (words : List Str), vs = [.ref a] ∧ MacT H a M ∧ KX.VM words M ∧ TxtOk M ∧ ∀ H', Same H H' → Q (.str (machT M)) H'
theorem ok_machine_text {f : Addr} {fd : FuncData} (F : Fun K "machine_text" "machine_text" s_machine_text f fd) (G : Gb mg) : FnOk P w K mg base CX0 1 f fd ["rows"] sp_machine_text := by
  refine F.ok sc_machine_text (fun vs H Q E h => ?_) (fun cdv A outer s H vs Q E hr h => ?_)
  · obtain ⟨a, M, words, rfl, _⟩ := h
    rfl
  · obtain ⟨a, M, words, rfl, ⟨xs, ha, hx⟩, hV, hT, q⟩ := h
    have nd := sc_machine_text.nd
    refine ⟨_, pss_one (ps_ret (joinK K pe_str (pe_lc (own := [("row", 1)]) (g := gName 1) (tt := tYes) rfl nd (tupK K (pv 0)) (blkOk_by (N := ["rows", "row", "part"]) (sc := defScope s_machine_text) (by decide +kernel)) (fun _ _ _ _ _ => pg_name (i := 1) nd rfl (.inl rfl)) (fun _ _ _ _ _ => pts_nil)
      (fun _ _ _ _ _ => joinK K pe_str (pe_lc (own := [("part", 2)]) (g := gName 2) (tt := tYes) rfl nd (tupK K (pv 1)) (blkOk_by (by rfl)) (fun _ _ _ _ _ => pg_name (i := 2) nd rfl (.inl rfl)) (fun _ _ _ _ _ => pts_nil)
        (fun _ _ _ _ _ => pe_callTy (call_str_int.or SkE.call_str_str) (by rfl) G.str (by decide +kernel) (pa_cons (pv 2) pa_nil))))))), ?_⟩
    have hlen := paired_len hx
    refine ⟨⟨_, rfl⟩, _, rfl, a, rfl, ⟨_, .inl (.inl ha)⟩, fun D nD => ?_⟩
    refine lc_it walk_tup (fun i H2 => Same H H2 ∧ H2 D = some (.lst (((M.map rowT).take i).map V.str))) ⟨sameN nD, by rw [upd_same]; rfl⟩ (fun i H2 _ p => .inl (.inl (p.1 _ _ ha))) ?_ ?_
    · rintro i x H2_ H2 hi ⟨s2, h2⟩ ⟨rfl, ex⟩
      obtain ⟨r, hr1, p, rfl, hp⟩ := paired_get hx ex
      have hrm := List.mem_of_getElem? hr1
      have hp2 := s2 _ _ hp
      refine ⟨rfl, tyes ⟨⟨_, rfl⟩, _, rfl, p, rfl, ⟨_, .inl (.inl hp2)⟩, fun D2 nD2 => ?_⟩⟩
      have hb := hT.r r hrm
      refine lc_it walk_tup (fun j H4 => Same H2 H4 ∧ H4 D2 = some (.lst (((rowTs r).take j).map V.str))) ⟨sameN nD2, by rw [upd_same]; rfl⟩ (fun i H2 _ p => .inl (.inl (p.1 _ _ hp2))) ?_ ?_
      · rintro j y H4_ H4 hj ⟨s4, h4⟩ ⟨rfl, ey⟩
        have hj3 : j < 3 := hj
        have hput : r.put < 1000 := by have := hV.put r hrm; omega
        have hwf := hV.wf r hrm
        have hl100 := hV.len
        have step : ∀ t : Str, (rowTs r)[j]? = some t → ∃ acc, H4 D2 = some (.lst acc) ∧ acc.length < sizeLine ∧ Same H2 (upd H4 D2 (.lst (acc ++ [V.str t]))) ∧ upd H4 D2 (.lst (acc ++ [V.str t])) D2 = some (.lst (((rowTs r).take (j + 1)).map V.str)) := by
          intro t ht
          refine ⟨_, h4, ?_, sameU s4 nD2, ?_⟩
          · rw [List.length_map, List.length_take]
            exact Nat.lt_of_le_of_lt (Nat.min_le_left _ _) (Nat.lt_of_lt_of_le hj3 (by decide))
          · rw [upd_same, List.take_add_one, ht, List.map_append]
            rfl
        have hpl : ∀ q : KX.Pl, q.ok M.length → ∀ (F : Str → Hp → Prop), F (plT q) H4 → (∃ i : Int, [plV q] = [V.int i] ∧ i.natAbs.log2 < 1920 ∧ F (toString i) H4) ∨ ∃ b, [plV q] = [V.str b] ∧ F b H4 := by
          intro q hq F h
          cases q with
          | ix n =>
            have hn : n < M.length := hq
            exact .inl ⟨_, rfl, log_small (by omega), h⟩
          | wd z => exact .inr ⟨_, rfl, h⟩
        rcases (show j = 0 ∨ j = 1 ∨ j = 2 by omega) with rfl | rfl | rfl
        · cases (Option.some.inj ey)
          exact ⟨rfl, tyes ⟨_, rfl, .inl ⟨_, rfl, log_small hput, step _ rfl⟩⟩⟩
        · cases (Option.some.inj ey)
          exact ⟨rfl, tyes ⟨_, rfl, hpl r.s hwf.1 (fun t H6 => ∃ acc, H6 D2 = some (.lst acc) ∧ acc.length < sizeLine ∧ Same H2 (upd H6 D2 (.lst (acc ++ [V.str t]))) ∧ upd H6 D2 (.lst (acc ++ [V.str t])) D2 = some (.lst (((rowTs r).take (1 + 1)).map V.str))) (step _ rfl)⟩⟩
        · cases (Option.some.inj ey)
          exact ⟨rfl, tyes ⟨_, rfl, hpl r.w hwf.2 (fun t H6 => ∃ acc, H6 D2 = some (.lst acc) ∧ acc.length < sizeLine ∧ Same H2 (upd H6 D2 (.lst (acc ++ [V.str t]))) ∧ upd H6 D2 (.lst (acc ++ [V.str t])) D2 = some (.lst (((rowTs r).take (2 + 1)).map V.str))) (step _ rfl)⟩⟩
      rintro H4 ⟨s4, h4⟩
      have h4' : H4 D2 = some (.lst ((rowTs r).map V.str)) := h4
      refine ⟨_, _, _, rfl, rfl, .inl (.inl (.inl h4')), hb, _, s4 _ _ h2, ?_, sameU (s2.trans s4) nD, ?_⟩
      · rw [List.length_map, List.length_take, List.length_map]
        exact Nat.lt_of_le_of_lt (Nat.min_le_right _ _) (Nat.lt_of_le_of_lt hV.len (by decide))
      · rw [upd_same, List.take_add_one, List.getElem?_map, hr1, List.map_append]
        rfl
    · rintro H2 ⟨s2, h2⟩
      have h2' : H2 D = some (.lst ((M.map rowT).map V.str)) := by
        rw [h2, List.take_of_length_le (by rw [List.length_map, hlen]; exact Nat.le_refl _)]
      exact ⟨_, _, _, rfl, rfl, .inl (.inl (.inl h2')), hT.m, q _ s2⟩
/-! __str__ -/
abbrev s_end_str : Stmt := inClass (top 19) 10
theorem sc_end_str : FnScope ["self"] ["self"] (defScope s_end_str) := ⟨rfl, rfl, rfl, by decide +kernel, rfl, by decide +kernel, by decide +kernel⟩
def endT (Mh Ms : KX.Mc) : Str := Txt.join " | " [machT Mh, machT Ms]
def sp_end_str (E : Addr) : Sp := fun vs H Q _ => ∃ (x : Addr) (Mh Ms : KX.Mc), vs = [.ref x] ∧ EndAt E H x Mh Ms ∧ KX.VE Mh Ms ∧ TxtOk Mh ∧ TxtOk Ms ∧ ([machT Mh, machT Ms].map (·.length)).sum + 2 * (" | " : Str).length ≤ 16777216 ∧ ∀ H', Same H H' → Q (.str (endT Mh Ms)) H'
theorem ok_end_str {f : Addr} {fd : FuncData} (F : Fun K "__str__" "End.__str__" s_end_str f fd) (T : TxE K mg E) (C : Cal P w K mg base "machine_text" 1 ["rows"] sp_machine_text) : FnOk P w K mg base CX0 2 f fd ["self"] (sp_end_str E) := by
  refine F.ok sc_end_str (fun vs H Q E h => ?_) (fun cdv A outer s H vs Q E' hr h => ?_)
  · obtain ⟨x, Mh, Ms, rfl, _⟩ := h
    rfl
  · obtain ⟨x, Mh, Ms, rfl, ⟨dx, p1, p2, p3, h1, h2, h3⟩, hV, t1, t2, hl, q⟩ := h
    refine ⟨_, pss_one (ps_ret (joinK K pe_str (pe_lst (pa_cons (cal C hr (pa_cons (pe_fld (pv 0) rfl) pa_nil)) (pa_cons (cal C hr (pa_cons (pe_fld (pv 0) rfl) pa_nil)) pa_nil))))), ?_⟩
    refine ⟨⟨_, rfl⟩, _, rfl, x, E, dx, _, _, rfl, h1, T.cl, T.nh, rfl, p1, Mh, _, rfl, h2, hV.h, t1, fun H1 s1 => ?_⟩
    refine ⟨_, rfl, x, E, dx, _, _, rfl, s1 _ _ h1, T.cl, T.ns, rfl, p2, Ms, _, rfl, h3.same s1, hV.s, t2, fun H2 s2 => ⟨by show 2 ≤ sizeLine; decide, fun l nl => ?_⟩⟩
    exact ⟨_, l, [machT Mh, machT Ms], rfl, rfl, .inl (.inl (.inl upd_same)), hl, q _ (sameN2 (s1.trans s2) nl)⟩
end
end SB
end
section
set_option maxRecDepth 100000
set_option maxHeartbeats 4000000
/-! Walks: kind_at, kinds_of. -/
namespace SB
open PySem PySem.Spec PyProof.Rows L2

section
variable {X : Cx} {a b e o : Expr} {ta tb te to : TE} {pos : Pos}
theorem ixTK (K : PySem.W.Frag) (ha : PE X a ta) (hb : PE X b tb) (hs : PlainIx b := by exact fun _ _ => rfl) (hK : X.K = K := by rfl) : PE X (.Subscript a b pos) (tOp (rIxT K) ta tb) := by
  subst hK
  exact pe_ix ix_tup ha hb hs
theorem ixLK (K : PySem.W.Frag) (ha : PE X a ta) (hb : PE X b tb) (hs : PlainIx b := by exact fun _ _ => rfl) (hK : X.K = K := by rfl) : PE X (.Subscript a b pos) (tOp (rIxL K) ta tb) := by
  subst hK
  exact pe_ix ix_list ha hb hs
theorem fldK (K : PySem.W.Frag) {f : Str} (he : PE X e te) (hb : attributeBase e f X.env (eval e X.env) = eval e X.env := by rfl) (hK : X.K = K := by rfl) : PE X (.Attribute e f pos) (tFld K te f) := by
  subst hK
  exact pe_fld he hb
theorem isiK (K : PySem.W.Frag) {p : Pos} {t : TA} (G : Gb X.mg) (ha : PA X [a, b] t) (hg : Gl X "isinstance" := by rfl) (he : starEach [a, b] X.env = (false, eval a X.env) :: starEach [b] X.env := by rfl) (hpl : (backTo pos (starEach [b] X.env)).any (·.1) = false := by rfl) (hK : X.K = K := by rfl) :
    PE X (.Call (.Name "isinstance" p) [a, b] [] pos) (tCB (rIsi K) t) := by
  subst hK
  exact isi G ha hg he hpl
end

/-! ### the dict of the marks -/
section
variable {α : Type} [DecidableEq α]
def numFrom (k : Nat) : List α → List (α × V)
  | [] => []
  | m :: ms => (m, .int k) :: numFrom (k + 1) ms
theorem numFrom_len (k : Nat) (ms : List α) : (numFrom k ms).length = ms.length := by
  induction ms generalizing k with
  | nil => rfl
  | cons m ms ih => simp [numFrom, ih]
theorem numFrom_snoc (k : Nat) (ms : List α) (m : α) : numFrom k (ms ++ [m]) = numFrom k ms ++ [(m, .int ((k + ms.length : Nat) : Int))] := by
  induction ms generalizing k with
  | nil => rfl
  | cons x ms ih =>
    rw [List.cons_append, numFrom, ih, numFrom, List.cons_append, List.length_cons]
    congr 5
    omega
theorem valV_numFrom (k : Nat) (ms : List α) (m : α) : valV (numFrom k ms) m = if m ∈ ms then some (.int ((k + KX.ixOf ms m : Nat) : Int)) else none := by
  induction ms generalizing k with
  | nil => rfl
  | cons x ms ih =>
    have e0 : valV (numFrom k (x :: ms)) m = if x = m then some (.int k) else valV (numFrom (k + 1) ms) m := by
      unfold valV
      rw [numFrom, List.find?_cons]
      by_cases h : x = m
      · simp [h]
      · simp [h]
    rw [e0, ih]
    by_cases h : x = m
    · subst h
      simp [KX.ixOf]
    · have h' : m ≠ x := fun e => h e.symm
      rw [if_neg h]
      by_cases hm : m ∈ ms
      · rw [if_pos hm, if_pos (List.mem_cons_of_mem _ hm), KX.ixOf, if_neg h]
        congr 3
        omega
      · rw [if_neg hm, if_neg (by simp [h', hm])]
theorem putK_new {kvs : List (α × V)} {k : α} {v : V} (h : valV kvs k = none) : putK kvs k v = kvs ++ [(k, v)] := by
  unfold putK
  rw [if_neg]
  intro ha
  rw [List.any_eq_true] at ha
  obtain ⟨x, hx, e⟩ := ha
  unfold valV at h
  rw [Option.map_eq_none_iff, List.find?_eq_none] at h
  exact h x hx e
end
def MarkAt (H : Hp) (v : V) (m : List Key) : Prop := ∃ p, v = .ref p ∧ H p = some (.tup (m.map kV))
theorem MarkAt.same {H H' : Hp} {v : V} {m : List Key} (h : MarkAt H v m) (s : Same H H') : MarkAt H' v m := let ⟨p, h1, h2⟩ := h; ⟨p, h1, s _ _ h2⟩
theorem take_step {α β : Type} {L : List α} {i : Nat} {x : α} (f : α → β) (h : L[i]? = some x) : (L.take (i + 1)).map f = (L.take i).map f ++ [f x] := by
  rw [List.take_add_one, h, List.map_append]
  rfl
theorem take_all {α : Type} {L : List α} {n : Nat} (h : n = L.length) : L.take n = L := List.take_of_length_le (by omega)
theorem small_len {α : Type} {l : List α} {n : Nat} (h : l.length ≤ n) (hn : n < sizeLine := by decide) : l.length < sizeLine := Nat.lt_of_le_of_lt h hn

section
variable {P : Program} {w : World} {K : PySem.W.Frag} {mg : Str → Option Value} {base : Heap}
abbrev s_kind_at : Stmt := top 21
theorem sc_kind_at : FnScope ["kinds", "place"] ["kinds", "place"] (defScope s_kind_at) := ⟨rfl, rfl, rfl, by decide +kernel, rfl, by decide +kernel, by decide +kernel⟩
def sp_kind_at (K : PySem.W.Frag) : Sp := fun vs H Q _ => ∃ (a : Addr) (ks : List Nat) (p : KX.Pl), vs = [.ref a, plV p] ∧ SqL K H a (ks.map iv) ∧ p.ok ks.length ∧ Q (kV (KX.kindAt ks p)) H
theorem kAt_get {ks : List Nat} {n : Nat} (h : n < ks.length) : (ks.map iv)[n]? = some (.int (KX.kAt ks n)) := by
  unfold KX.kAt
  rw [List.getElem?_map, List.getD_eq_getElem?_getD, List.getElem?_eq_getElem h]
  rfl
theorem ok_kind_at {f : Addr} {fd : FuncData} (F : Fun K "kind_at" "kind_at" s_kind_at f fd) (G : Gb mg) : FnOk P w K mg base CX0 1 f fd ["kinds", "place"] (sp_kind_at K) := by
  refine F.ok sc_kind_at (fun vs H Q E h => ?_) (fun cdv A outer s H vs Q E hr h => ?_)
  · obtain ⟨a, ks, p, rfl, _⟩ := h
    rfl
  · obtain ⟨a, ks, p, rfl, ha, hp, q⟩ := h
    refine ⟨_, pss_one (ps_ret (pe_ifExp (pt_val (isi G (pa_cons (pv 1) (pa_cons (eStr G) pa_nil)))) (pv 1) (ixLK K (pv 0) (pv 1)))), ?_⟩
    cases p with
    | wd x => exact ⟨_, rfl, _, _, _, _, _, rfl, .ty _, tx_str x, k_ss, _, rfl, iteT ⟨_, rfl, q⟩⟩
    | ix n => exact ⟨_, rfl, _, _, _, _, _, rfl, .ty _, tx_int _, k_is, _, rfl, iteF ⟨_, rfl, _, rfl, a, _, _, _, rfl, rfl, ha, atI_nat (kAt_get hp), q⟩⟩

abbrev s_kinds_of : Stmt := top 22
abbrev n_kinds_of : List Str := ["rows", "kinds", "many", "marks", "numbers", "mark", "row", "at"]
theorem sc_kinds_of : FnScope n_kinds_of ["rows"] (defScope s_kinds_of) := ⟨rfl, rfl, rfl, by decide +kernel, rfl, by decide +kernel, by decide +kernel⟩
def sp_kinds_of : Sp := fun vs H Q _ => ∃ (a : Addr) (M : KX.Mc), vs = [.ref a] ∧ MacT H a M ∧ KX.Wf M ∧ M.length ≤ 100 ∧ ∀ H' p, Same H H' → H p = none → H' p = some (.lst ((KX.kindsOf M).map iv)) → Q (.ref p) H'
theorem ok_kinds_of {f : Addr} {fd : FuncData} (F : Fun K "kinds_of" "kinds_of" s_kinds_of f fd) (G : Gb mg) (C : Cal P w K mg base "kind_at" 1 ["kinds", "place"] (sp_kind_at K)) : FnOk P w K mg base CX0 2 f fd ["rows"] sp_kinds_of := by
  refine F.ok sc_kinds_of (fun vs H Q E h => ?_) (fun cdv A outer s H vs Q E hr h => ?_)
  · obtain ⟨a, M, rfl, _⟩ := h
    rfl
  · obtain ⟨a, M, rfl, ⟨xs, ha, hx⟩, hW, h100, q⟩ := h
    have nd := sc_kinds_of.nd
    have hu := hu_of hr
    refine ⟨_, pss_cons (ps_asg (pe_tup (pa_cons (pe_lc (own := [("row", 6)]) (g := gName 6) (tt := tYes) rfl nd (tupK K (pv 0)) (blkOk_by (N := n_kinds_of) (sc := defScope s_kinds_of) (by decide +kernel)) (fun _ _ _ _ _ => pg_name (i := 6) nd rfl (.inl rfl)) (fun _ _ _ _ _ => pts_nil)
          (fun _ _ _ _ _ => ixTK K (pv 6) pe_int)) (pa_cons pe_int pa_nil))) (pg_tup rfl (pgs_cons (pg_name (i := 1) nd rfl (.inr rfl)) (pgs_cons (pg_name (i := 2) nd rfl (.inl rfl)) pgs_nil))))
      (pss_cons (ps_while PassesOwn.never (pt_cmpR op_gt (pe_lenSet' (by rfl) G.len (by rfl) G.set (pv 1)) (pv 2) (nomark _))
        (pss_cons (ps_set (i := 2) nd rfl (.inl rfl) (pe_lenSet' (by rfl) G.len (by rfl) G.set (pv 1)))
        (pss_cons (ps_setLc (i := 3) (own := [("at", 7), ("row", 6)]) (g := gTup K 2 (gCons (gName 7) (gCons (gName 6) gNil))) (tt := tYes) rfl nd rfl rfl (sw_true rfl rfl rfl rfl) (pi_enumT (by rfl) G.enumerate (pa_cons (pv 0) pa_nil)) (blkOk_by (N := n_kinds_of) (sc := defScope s_kinds_of) (by decide +kernel))
          (fun _ _ _ _ _ => pg_tup rfl (pgs_cons (pg_name (i := 7) nd rfl (.inl rfl)) (pgs_cons (pg_name (i := 6) nd rfl (.inl rfl)) pgs_nil))) (fun _ _ _ _ _ => pts_nil)
          (fun _ _ _ _ _ => pe_tup (pa_cons (ixTK K (pv 6) pe_int) (pa_cons (ixLK K (pv 1) (pv 7)) (pa_cons (cal C hr (pa_cons (pv 1) (pa_cons (ixTK K (pv 6) pe_int) pa_nil))) (pa_cons (cal C hr (pa_cons (pv 1) (pa_cons (ixTK K (pv 6) pe_int) pa_nil))) pa_nil))))))
        (pss_cons (ps_set (i := 4) nd rfl (.inr rfl) pe_dnewT)
        (pss_cons (ps_for PassesOwn.never rfl (pi_list (pv 3)) (pg_name (i := 5) nd rfl (.inl rfl))
          (pss_one (ps_expr (pe_dsetT hu (pv 4) (pv 5) (pe_callB call_len_dT (by rfl) G.len PySem.boot_len (pa_cons (pv 4) pa_nil) (by decide) (by decide)) ⟨rfl, rfl, rfl, rfl⟩))))
        (pss_one (ps_set (i := 1) nd rfl (.inr rfl) (pe_lc (own := [("mark", 5)]) (g := gName 5) (tt := tYes) rfl nd (pi_list (pv 3)) (blkOk_by (N := n_kinds_of) (sc := defScope s_kinds_of) (by decide +kernel)) (fun _ _ _ _ _ => pg_name (i := 5) nd rfl (.inl rfl)) (fun _ _ _ _ _ => pts_nil)
          (fun _ _ _ _ _ => pe_dget hu (pv 4) (pv 5) (fun _ _ => rfl))))))))))
      (pss_one (ps_ret (pv 1)))), ?_⟩
    have hlen := paired_len hx
    refine ⟨_, rfl, a, rfl, ⟨_, .inl (.inl ha)⟩, fun D nD => ?_⟩
    refine lc_it walk_tup (fun i H2 => Same H H2 ∧ H2 D = some (.lst (((KX.puts M).take i).map iv))) ⟨sameN nD, by rw [upd_same]; rfl⟩ (fun i H2 _ p => .inl (.inl (p.1 _ _ ha))) ?_ ?_
    · rintro i x H2_ H2 hi ⟨s2, h2⟩ ⟨rfl, ex⟩
      obtain ⟨r, hr1, p, rfl, hp⟩ := paired_get hx ex
      have hg : (KX.puts M)[i]? = some r.put := by unfold KX.puts; rw [List.getElem?_map, hr1]; rfl
      refine ⟨rfl, tyes ⟨_, rfl, p, _, _, _, rfl, rfl, .inl (.inl (s2 _ _ hp)), atI_nat (j := 0) rfl, _, h2, ?_, sameU s2 nD, ?_⟩⟩
      · exact small_len (n := 100) (by rw [List.length_map, List.length_take, KX.puts_len]; omega)
      · rw [upd_same, take_step iv hg]
    rintro H2 ⟨s2, h2⟩
    rw [take_all (by rw [KX.puts_len, hlen])] at h2
    refine ⟨by show 2 ≤ sizeLine; decide, fun t nt => ⟨t, _, rfl, .inl (.inl upd_same), rfl, _, _, rfl, _, _, rfl, rfl, ?_⟩⟩
    refine while_by (fun σ H3 => ∃ (x3 x4 x5 : Option V) (pk : Addr) (Kk : List Nat) (many f : Nat), σ = [some (.ref a), some (.ref pk), some (.int many), x3, x4, x5, none, none] ∧ Same H H3 ∧ H pk = none ∧ H3 pk = some (.lst (Kk.map iv)) ∧ Kk.length = M.length ∧
      KX.kloop M f Kk many = KX.kindsOf M ∧ M.length < f + many) (fun σ _ => M.length - natAt σ 2) ⟨none, none, none, D, KX.puts M, 0, M.length + 1, rfl, sameN2 s2 nt, nD, by rw [upd_ne (ne_of_none h2 nt)]; exact h2, KX.puts_len M, rfl, by omega⟩ ?_ ?_
    · rintro σ H3 ⟨x3, x4, x5, pk, Kk, many, f, rfl, s3, npk, hk, hkl, hloop, hfuel⟩
      have hf1 := KX.firsts_len Kk
      refine ⟨_, rfl, pk, Kk, rfl, .inl (.inl hk), by omega, _, rfl, _, _, rfl, rfl, _, rfl, ?_⟩
      by_cases hlt : many < (KX.firsts Kk).length
      · refine onT (decide_eq_true (by omega)) ?_
        obtain ⟨f, rfl⟩ : ∃ g, f = g + 1 := ⟨f - 1, by omega⟩
        rw [KX.kloop, if_pos hlt] at hloop
        refine ⟨_, rfl, pk, Kk, rfl, .inl (.inl hk), by omega, ?_⟩
        refine ⟨_, rfl, a, _, rfl, .inl (.inl (s3 _ _ ha)), fun D nD' => ?_⟩
        refine lc_it walk_enumT (fun i H4 => Same H3 H4 ∧ ∃ ms, H4 D = some (.lst ms) ∧ Paired (MarkAt H4) ms ((KX.marks M Kk).take i)) ⟨sameN nD', [], upd_same, .nil⟩ (fun i H4 _ p => .inl (.inl (p.1 _ _ (s3 _ _ ha)))) ?_ ?_
        · rintro i v H4 H5 hi ⟨s4, ms, hD, hms⟩ ⟨T, x, y, rfl, nT, rfl, e3, e4⟩
          cases e3
          have s5 := sameN2 (o := .tup [.int (i : Nat), y]) s4 nT
          obtain ⟨r, hr1, p, rfl, hp⟩ := paired_get hx e4
          have hiM : i < M.length := by rw [← hlen]; exact hi
          have hrow := KX.rowAt_of hr1
          have hp5 := s5 _ _ (s3 _ _ hp)
          have hk5 := s5 _ _ hk
          obtain ⟨w1, w2⟩ := hW r (List.mem_of_getElem? hr1)
          refine ⟨T, _, rfl, .inl (.inl upd_same), rfl, _, _, rfl, _, _, rfl, rfl, rfl, tyes ?_⟩
          refine ⟨_, rfl, p, _, _, _, rfl, rfl, .inl (.inl hp5), atI_nat (j := 0) rfl, ?_⟩
          refine ⟨_, rfl, _, rfl, pk, _, _, _, rfl, rfl, .inl (.inl hk5), atI_nat (kAt_get (by omega)), ?_⟩
          refine ⟨_, rfl, _, rfl, p, _, _, _, rfl, rfl, .inl (.inl hp5), atI_nat (j := 1) rfl, pk, Kk, r.s, rfl, .inl (.inl hk5), by rw [hkl]; exact w1, ?_⟩
          refine ⟨_, rfl, _, rfl, p, _, _, _, rfl, rfl, .inl (.inl hp5), atI_nat (j := 2) rfl, pk, Kk, r.w, rfl, .inl (.inl hk5), by rw [hkl]; exact w2, ?_⟩
          refine ⟨by show 4 ≤ sizeLine; decide, fun p2 np2 => ⟨ms, ?_, ?_, ?_, ?_⟩⟩
          · rw [upd_ne (ne_of_none ((upd_ne (ne_of_none hD nT)).trans hD) np2), upd_ne (ne_of_none hD nT)]
            exact hD
          · refine small_len (n := 100) ?_
            rw [paired_len hms, List.length_take, KX.marks_len]
            omega
          · exact sameU (sameN2 s5 np2) nD'
          · refine ⟨_, upd_same, ?_⟩
            have hD5 : upd H4 T (.tup [.int (i : Nat), .ref p]) D = some (.lst ms) := by rw [upd_ne (ne_of_none hD nT)]; exact hD
            rw [List.take_add_one, KX.marks_get hiM]
            refine paired_snoc (Paired.mapP hms fun v m => ?_) ⟨p2, rfl, ?_⟩
            · rintro ⟨b, rfl, hb⟩
              refine ⟨b, rfl, ?_⟩
              rw [upd_ne (ne_of hb hD (by intro z; cases z))]
              exact sameN2 (sameN (o := .tup [.int (i : Nat), .ref p]) nT) np2 _ _ hb
            · rw [upd_ne (ne_of_none hD5 np2).symm, upd_same]
              unfold KX.mark
              rw [hrow]
              rfl
        rintro H4 ⟨s4, ms, hD, hms⟩
        rw [take_all (by rw [KX.marks_len, hlen])] at hms
        have hml : ms.length = M.length := by rw [paired_len hms, KX.marks_len]
        intro pn npn
        have npn' := npn
        refine ⟨_, rfl, D, rfl, ⟨_, .inl (.inl (sameN npn _ _ hD))⟩, ?_⟩
        refine for_it walk_list (fun i σ H5 => (∃ x5 : Option V, σ = [some (.ref a), some (.ref pk), some (.int ((KX.firsts Kk).length : Nat)), some (.ref D), some (.ref pn), x5, none, none]) ∧ Same H4 H5 ∧ H5 pn = some (.dT (numFrom 0 (KX.firsts ((KX.marks M Kk).take i)))))
          ⟨⟨_, rfl⟩, sameN npn, upd_same⟩ (fun i σ H5 _ p => .inl (.inl (p.2.1 _ _ hD))) ?_ ?_
        · rintro i x σ H5_ H5 hi ⟨⟨x5', rfl⟩, s5, h5⟩ ⟨rfl, ex⟩
          obtain ⟨m, hm1, p, rfl, hp⟩ := paired_get hms ex
          have hp5 := s5 _ _ hp
          have hle : (KX.firsts ((KX.marks M Kk).take i)).length ≤ 100 := by
            have := KX.firsts_len ((KX.marks M Kk).take i)
            rw [List.length_take, KX.marks_len] at this
            omega
          refine ⟨_, rfl, pn, rfl, .inr ⟨_, .inl h5⟩, _, rfl, _, rfl, pn, _, rfl, h5, _, m, p, h5, rfl, hp5, ?_, ?_, ?_⟩
          · exact small_len (n := 100) (by rw [numFrom_len]; exact hle)
          · intro v hv
            refine ⟨⟨_, rfl⟩, s5, ?_⟩
            rw [List.take_add_one, hm1]
            show H5 pn = some (.dT (numFrom 0 (KX.firsts ((KX.marks M Kk).take i ++ [m]))))
            rw [KX.firsts_snoc, if_pos]
            · exact h5
            · rw [valV_numFrom] at hv
              by_cases hmem : m ∈ KX.firsts ((KX.marks M Kk).take i)
              · exact hmem
              · rw [if_neg hmem] at hv; cases hv
          · intro hv
            refine ⟨⟨_, rfl⟩, sameU s5 npn', ?_⟩
            rw [upd_same, List.take_add_one, hm1, putK_new hv]
            show some (HO.dT _) = some (.dT (numFrom 0 (KX.firsts ((KX.marks M Kk).take i ++ [m]))))
            have hmem : m ∉ KX.firsts ((KX.marks M Kk).take i) := by
              intro hmem
              rw [valV_numFrom, if_pos hmem] at hv
              cases hv
            rw [KX.firsts_snoc, if_neg hmem, numFrom_snoc, numFrom_len, Nat.zero_add]
        rintro σ H5 ⟨⟨x5', rfl⟩, s5, h5⟩
        rw [take_all (by rw [KX.marks_len, hml])] at h5
        have hD5 := s5 _ _ hD
        refine ⟨_, rfl, D, rfl, ⟨_, .inl (.inl hD5)⟩, fun D3 nD3 => ?_⟩
        refine lc_it walk_list (fun i H6 => Same H5 H6 ∧ H6 D3 = some (.lst (((KX.nextK M Kk).take i).map iv))) ⟨sameN nD3, by rw [upd_same]; rfl⟩ (fun i H6 _ p => .inl (.inl (p.1 _ _ hD5))) ?_ ?_
        · rintro i x H6_ H6 hi ⟨s6, h6⟩ ⟨rfl, ex⟩
          obtain ⟨m, hm1, p, rfl, hp⟩ := paired_get hms ex
          have hmf : m ∈ KX.firsts (KX.marks M Kk) := (KX.mem_firsts _ _).mpr (List.mem_of_getElem? hm1)
          have hv : valV (numFrom 0 (KX.firsts (KX.marks M Kk))) m = some (.int ((KX.ixOf (KX.firsts (KX.marks M Kk)) m : Nat) : Int)) := by
            rw [valV_numFrom, if_pos hmf, Nat.zero_add]
          have hg : (KX.nextK M Kk)[i]? = some (KX.ixOf (KX.firsts (KX.marks M Kk)) m) := by
            unfold KX.nextK
            rw [List.getElem?_map, hm1]
            rfl
          have hd := DGet.t (s6 _ _ h5) (s6 _ _ (s5 _ _ hp))
          rw [hv] at hd
          refine ⟨rfl, tyes ⟨_, rfl, _, rfl, pn, _, rfl, hd, _, h6, ?_, sameU s6 nD3, ?_⟩⟩
          · exact small_len (n := 100) (by rw [List.length_map, List.length_take, KX.nextK_len]; omega)
          · rw [upd_same, take_step iv hg]
        · rintro H6 ⟨s6, h6⟩
          rw [take_all (by rw [KX.nextK_len, hml])] at h6
          have sT : Same H H6 := s3.trans (s4.trans (s5.trans s6))
          refine ⟨⟨_, _, _, D3, KX.nextK M Kk, (KX.firsts Kk).length, f, rfl, sT, noneOf (s3.trans (s4.trans s5)) nD3, h6, KX.nextK_len M Kk, hloop, by omega⟩, ?_⟩
          show M.length - ((KX.firsts Kk).length : Int).toNat < M.length - (many : Int).toNat
          omega
      · refine onF (decide_eq_false (by omega)) ?_
        have hend : Kk = KX.kindsOf M := by
          rw [← hloop]
          cases f with
          | zero => rfl
          | succ f => rw [KX.kloop, if_neg hlt]
        exact ⟨_, rfl, q _ _ s3 npk (hend ▸ hk)⟩
    · rintro σ H2 Q1 Q2 hQ ⟨v, h1, l, ns, h2, h3, h4, v2, h5, i, j, h6, h7, k, h8, h9⟩
      exact ⟨v, h1, l, ns, h2, h3, h4, v2, h5, i, j, h6, h7, k, h8, hQ _ _ h9⟩
end
end SB
end
section
set_option maxRecDepth 100000
set_option maxHeartbeats 4000000
/-! Walks: least_rows, least. -/
namespace SB
open PySem PySem.Spec PyProof.Rows L2

structure IdxOk (K kept : List Nat) (kvs : List (Key × V)) : Prop where
  v : ∀ k : Nat, valV kvs (Sum.inl (k : Int)) = if k ∈ kept.map (KX.kAt K) then some (.int ((KX.ixOf (kept.map (KX.kAt K)) k : Nat) : Int)) else none
  l : kvs.length ≤ kept.length
theorem ixOf_last {xs : List Nat} {x : Nat} (h : x ∉ xs) : KX.ixOf (xs ++ [x]) x = xs.length := by
  induction xs with
  | nil => simp [KX.ixOf]
  | cons y ys ih =>
    have hy : y ≠ x := fun e => h (e ▸ List.mem_cons_self ..)
    rw [List.cons_append, KX.ixOf, if_neg hy, ih fun hm => h (List.mem_cons_of_mem _ hm)]
    rfl
theorem idx_nil (K : List Nat) : IdxOk K [] [] := ⟨fun k => rfl, Nat.le_refl _⟩
theorem idx_dup {K kept : List Nat} {kvs : List (Key × V)} {q : Nat} (h : IdxOk K kept kvs) (hq : KX.kAt K q ∈ kept.map (KX.kAt K)) : IdxOk K (kept ++ [q]) kvs := by
  refine ⟨fun k => ?_, by have := h.l; rw [List.length_append]; omega⟩
  rw [h.v, List.map_append]
  by_cases hk : k ∈ kept.map (KX.kAt K)
  · rw [if_pos hk, if_pos (List.mem_append_left _ hk), KX.ixOf_append_left hk]
  · rw [if_neg hk, if_neg]
    intro hm
    rcases List.mem_append.mp hm with hm | hm
    · exact hk hm
    · rw [List.map_cons, List.map_nil, List.mem_singleton] at hm
      exact hk (hm ▸ hq)
theorem idx_add {K kept : List Nat} {kvs : List (Key × V)} {q : Nat} (h : IdxOk K kept kvs) (hq : KX.kAt K q ∉ kept.map (KX.kAt K)) : IdxOk K (kept ++ [q]) (putK kvs (Sum.inl (KX.kAt K q : Int)) (.int kept.length)) := by
  refine ⟨fun k => ?_, by have := h.l; have := length_putK kvs (Sum.inl (KX.kAt K q : Int)) (V.int kept.length); rw [List.length_append]; simp only [List.length_cons, List.length_nil]; omega⟩
  rw [valV_put, List.map_append]
  by_cases hk : k = KX.kAt K q
  · subst hk
    rw [if_pos rfl, if_pos (List.mem_append_right _ (by simp)), List.map_cons, List.map_nil, ixOf_last hq, List.length_map]
  · rw [if_neg (by intro e; cases e; exact hk rfl), h.v]
    by_cases hm : k ∈ kept.map (KX.kAt K)
    · rw [if_pos hm, if_pos (List.mem_append_left _ hm), KX.ixOf_append_left hm]
    · rw [if_neg hm, if_neg]
      intro hm2
      rcases List.mem_append.mp hm2 with hm2 | hm2
      · exact hm hm2
      · rw [List.map_cons, List.map_nil, List.mem_singleton] at hm2
        exact hk hm2
section
variable {P : Program} {w : World} {K : PySem.W.Frag} {mg : Str → Option Value} {base : Heap}
abbrev s_least_rows : Stmt := top 23
abbrev n_least_rows : List Str := ["rows", "firsts", "kinds", "kept", "indexes", "at", "index", "put", "places", "place", "found", "old"]
theorem sc_least_rows : FnScope n_least_rows ["rows", "firsts"] (defScope s_least_rows) := ⟨rfl, rfl, rfl, by decide +kernel, rfl, by decide +kernel, by decide +kernel⟩
def sp_least_rows (K : PySem.W.Frag) : Sp := fun vs H Q _ => ∃ (a b : Addr) (M : KX.Mc) (n0 : Nat), vs = [.ref a, .ref b] ∧ MacT H a M ∧ SqT K H b ((List.range n0).map iv) ∧ KX.Wf M ∧ M.length ≤ 100 ∧ n0 ≤ M.length ∧
  ∀ H' p, Same H H' → MacL H' p (KX.leastRows M n0) → Q (.ref p) H'
theorem ok_least_rows {f : Addr} {fd : FuncData} (F : Fun K "least_rows" "least_rows" s_least_rows f fd) (G : Gb mg) (C : Cal P w K mg base "kinds_of" 2 ["rows"] sp_kinds_of) : FnOk P w K mg base CX0 3 f fd ["rows", "firsts"] (sp_least_rows K) := by
  refine F.ok sc_least_rows (fun vs H Q E h => ?_) (fun cdv A outer s H vs Q E hr h => ?_)
  · obtain ⟨a, b, M, n0, rfl, _⟩ := h
    rfl
  · obtain ⟨a, b, M, n0, rfl, ⟨xs, ha, hx⟩, hb, hW, h100, hn0, q⟩ := h
    have nd := sc_least_rows.nd
    have hu := hu_of hr
    refine ⟨_, pss_cons (ps_set (i := 2) nd rfl (.inr rfl) (cal C hr (pa_cons (pv 0) pa_nil)))
      (pss_cons (ps_asg (pe_tup (pa_cons (listS G (pv 1)) (pa_cons pe_dnewK (pa_cons pe_int pa_nil)))) (pg_tup rfl (pgs_cons (pg_name (i := 3) nd rfl (.inl rfl)) (pgs_cons (pg_name (i := 4) nd rfl (.inr rfl)) (pgs_cons (pg_name (i := 5) nd rfl (.inl rfl)) pgs_nil)))))
      (pss_cons (ps_for PassesOwn.never rfl (tupK K (pv 1)) (pg_name (i := 6) nd rfl (.inl rfl)) (pss_one (ps_expr (pe_dsetd (pv 4) (ixLK K (pv 2) (pv 6)) (pv 6) ⟨rfl, rfl, rfl, rfl⟩))))
      (pss_cons (ps_while PassesOwn.never (pt_cmpR op_lt (pv 5) (lenS G (pv 3)) (nomark _))
        (pss_cons (ps_asg (ixTK K (pv 0) (ixLK K (pv 3) (pv 5))) (pg_star rfl (pgs_cons (pg_name (i := 7) nd rfl (.inl rfl)) (pgs_starN (pg_name (i := 8) nd rfl (.inl rfl))))))
        (pss_cons (ps_for PassesOwn.never rfl (pi_list (pv 8)) (pg_name (i := 9) nd rfl (.inl rfl))
          (pss_one (ps_if (PW.pt (pw_and (pt_not (pt_val (isi G (pa_cons (pv 9) (pa_cons (eStr G) pa_nil))))) (pw_and1 (pt_cmp (pc_dnotin hu (ixLK K (pv 2) (pv 9)) (pv 4))))))
            (pss_cons (ps_dput hu (pv 4) (ixLK K (pv 2) (pv 9)) (lenS G (pv 3)) rfl) (pss_one (apnd (pv 3) (pv 9)))) pss_nil)))
        (pss_one (ps_aug (i := 5) nd rfl (.inl rfl) pe_int ip_add)))))
      (pss_cons (ps_set (i := 10) nd rfl (.inl rfl) (pe_lst pa_nil))
      (pss_cons (ps_for PassesOwn.never rfl (pi_list (pv 3)) (pg_name (i := 11) nd rfl (.inl rfl))
        (pss_cons (ps_asg (ixTK K (pv 0) (pv 11)) (pg_star rfl (pgs_cons (pg_name (i := 7) nd rfl (.inl rfl)) (pgs_starN (pg_name (i := 8) nd rfl (.inl rfl))))))
        (pss_one (apnd (pv 10) (pe_tup (pa_cons (pv 7) (StX.pa_star (pe_lc (own := [("place", 9)]) (g := gName 9) (tt := tYes) rfl nd (pi_list (pv 8)) (blkOk_by (N := n_least_rows) (sc := defScope s_least_rows) (by decide +kernel)) (fun _ _ _ _ _ => pg_name (i := 9) nd rfl (.inl rfl)) (fun _ _ _ _ _ => pts_nil)
          (fun _ _ _ _ _ => pe_ifExp (pt_val (isiK K G (pa_cons (pv 9) (pa_cons (eStr G) pa_nil)))) (pv 9) (pe_dget hu (pv 4) (ixLK K (pv 2) (pv 9)) (fun _ _ => rfl)))) pa_nil)))))))
      (pss_one (ps_ret (pv 10)))))))), ?_⟩
    have hlen := paired_len hx
    generalize hKd : KX.kindsOf M = Kd at *
    have hKl : Kd.length = M.length := by rw [← hKd]; exact KX.kindsOf_len M
    refine ⟨_, rfl, a, M, rfl, ⟨xs, ha, hx⟩, hW, h100, fun H1 pk s1 npk hk => ?_⟩
    rw [hKd] at hk
    have ha1 := s1 _ _ ha
    have hb1 := sameT s1 hb
    refine ⟨_, rfl, b, _, rfl, .inr hb1, fun pe npe => ?_⟩
    intro pi npi
    have hpe : (upd (upd H1 pe (.lst ((List.range n0).map iv))) pi (.dK [])) pe = some (.lst ((List.range n0).map iv)) := by
      rw [upd_ne (ne_of_none upd_same npi)]
      exact upd_same
    have npe' : H pe = none := noneOf s1 npe
    have npi' : H pi = none := noneOf (sameN2 s1 npe) npi
    have s2 : Same H1 (upd (upd H1 pe (.lst ((List.range n0).map iv))) pi (.dK [])) := sameN2 (sameN npe) npi
    generalize hH2 : upd (upd H1 pe (.lst ((List.range n0).map iv))) pi (.dK []) = H2 at hpe s2
    have hpi : H2 pi = some (.dK []) := by rw [← hH2]; exact upd_same
    refine ⟨by show 3 ≤ sizeLine; decide, fun t nt => ⟨t, _, rfl, .inl (.inl upd_same), rfl, _, _, rfl, _, _, rfl, _, _, rfl, rfl, ?_⟩⟩
    have s3 : Same H2 (upd H2 t (.tup [.ref pe, .ref pi, .int 0])) := sameN nt
    generalize upd H2 t (.tup [.ref pe, .ref pi, .int 0]) = H3 at s3
    have hne1 : pe ≠ pi := ne_of hpe hpi (by intro z; cases z)
    have hk3 : H3 pk = some (.lst (Kd.map iv)) := s3 _ _ (s2 _ _ hk)
    have npi3 : H1 pi = none := noneOf (sameN npe) npi
    have hne2 : pk ≠ pe := ne_of_none hk npe
    have hne3 : pk ≠ pi := ne_of_none hk npi3
    refine ⟨_, rfl, b, rfl, ⟨_, sameT (s2.trans s3) hb1⟩, ?_⟩
    refine for_it walk_tup (fun i σ H4 => ∃ (x6 : Option V) (kvs : List (Key × V)), σ = [some (.ref a), some (.ref b), some (.ref pk), some (.ref pe), some (.ref pi), some (.int 0), x6, none, none, none, none, none] ∧ Same H H4 ∧
        H4 pk = some (.lst (Kd.map iv)) ∧ H4 pe = some (.lst ((List.range n0).map iv)) ∧ H4 pi = some (.dK kvs) ∧ IdxOk Kd (List.range i) kvs)
      ⟨_, [], rfl, s1.trans (s2.trans s3), hk3, s3 _ _ hpe, s3 _ _ hpi, idx_nil Kd⟩ (fun i σ H4 _ ⟨_, _, _, hs, _⟩ => sameT hs hb) ?_ ?_
    · rintro i x σ H4_ H4 hi ⟨x6, kvs, rfl, s4, h4, h5, h6, hI⟩ ⟨rfl, ex⟩
      have hi' : i < n0 := by simpa using hi
      have ex2 : x = .int i := by
        rw [List.getElem?_map, List.getElem?_range hi'] at ex
        exact (Option.some.inj ex).symm
      subst ex2
      refine ⟨_, rfl, pi, rfl, .inl ⟨_, .inl h6⟩, _, rfl, _, rfl, pk, _, _, _, rfl, rfl, .inl (.inl h4), atI_nat (kAt_get (by omega)), _, rfl, kvs, Sum.inl ((KX.kAt Kd i : Nat) : Int), h6, rfl, ?_, ?_, ?_⟩
      · have := hI.l
        rw [List.length_range] at this
        exact small_len (n := 100) (by omega)
      · intro v hv
        rw [hI.v] at hv
        have hm : KX.kAt Kd i ∈ (List.range i).map (KX.kAt Kd) := by
          by_cases hm : KX.kAt Kd i ∈ (List.range i).map (KX.kAt Kd)
          · exact hm
          · rw [if_neg hm] at hv; cases hv
        exact ⟨_, kvs, rfl, s4, h4, h5, h6, by rw [List.range_succ]; exact idx_dup hI hm⟩
      · intro hv
        rw [hI.v] at hv
        have hm : KX.kAt Kd i ∉ (List.range i).map (KX.kAt Kd) := fun hm => by rw [if_pos hm] at hv; cases hv
        refine ⟨_, _, rfl, sameU s4 npi', by rw [upd_ne hne3]; exact h4, by rw [upd_ne hne1]; exact h5, upd_same, ?_⟩
        have := idx_add hI hm
        rw [List.length_range] at this
        rw [List.range_succ]
        exact this
    rintro σ H4 ⟨x6, kvs, rfl, s4, h4, h5, h6, hI⟩
    rw [List.length_map, List.length_range] at hI
    refine while_by (fun σ H5 => ∃ (x6 x7 x8 x9 : Option V) (kept : List Nat) (at_ f : Nat) (kvs : List (Key × V)), σ = [some (.ref a), some (.ref b), some (.ref pk), some (.ref pe), some (.ref pi), some (.int at_), x6, x7, x8, x9, none, none] ∧ Same H H5 ∧
        H5 pk = some (.lst (Kd.map iv)) ∧ H5 pe = some (.lst (kept.map iv)) ∧ H5 pi = some (.dK kvs) ∧ IdxOk Kd kept kvs ∧ KX.KeptOk M Kd n0 kept ∧ KX.bfs M Kd f kept at_ = KX.keptOf M n0 ∧ M.length < f + at_) (fun σ _ => M.length - natAt σ 5)
      ⟨_, _, _, _, List.range n0, 0, M.length + 1, kvs, rfl, s4, h4, h5, h6, hI, KX.KeptOk.start hn0, by unfold KX.keptOf; rw [hKd], by omega⟩ ?_ ?_
    · rintro σ H5 ⟨x6, x7, x8, x9, kept, at_, f, kvs, rfl, s5, j1, j2, j3, hI, hO, hbfs, hfuel⟩
      have hkl := hO.length_le
      refine ⟨_, rfl, _, rfl, pe, _, rfl, .inl (.inl (.inl j2)), _, _, rfl, rfl, _, rfl, ?_⟩
      by_cases hlt : at_ < kept.length
      · refine onT (decide_eq_true (by rw [List.length_map]; omega)) ?_
        obtain ⟨f, rfl⟩ : ∃ g, f = g + 1 := ⟨f - 1, by omega⟩
        rw [KX.bfs, if_pos hlt] at hbfs
        have hq0 := KX.kept_get hlt
        have hqM : kept.getD at_ 0 < M.length := hO.lt _ (KX.kept_mem hlt)
        obtain ⟨xr, hxr, pr, rfl, hpr⟩ := paired_get' hx (KX.rowAt_get hqM)
        refine ⟨_, rfl, _, rfl, _, rfl, pe, _, _, .int ((kept.getD at_ 0 : Nat) : Int), rfl, rfl, .inl (.inl j2), atI_nat (by rw [List.getElem?_map, hq0]; rfl), a, _, _, _, rfl, rfl, .inl (.inl (s5 _ _ ha)), atI_nat hxr, ?_⟩
        refine ⟨pr, _, _, rfl, .inl (.inl (s5 _ _ hpr)), by show 2 ≤ 1000; decide, fun pl npl => ⟨_, _, rfl, _, _, rfl, rfl, ?_⟩⟩
        have npl' : H5 pl = none := npl
        have m1 : pk ≠ pl := ne_of_none j1 npl'
        have m2 : pe ≠ pl := ne_of_none j2 npl'
        have m3 : pi ≠ pl := ne_of_none j3 npl'
        refine ⟨_, rfl, pl, rfl, ⟨_, .inl (.inl upd_same)⟩, ?_⟩
        let kp : Nat → List Nat := fun i => if i = 0 then kept else if i = 1 then KX.addP Kd kept (KX.rowAt M (kept.getD at_ 0)).s else KX.visit M Kd kept at_
        refine for_it walk_list (fun i σ H6 => ∃ (x9 : Option V) (kvs : List (Key × V)), σ = [some (.ref a), some (.ref b), some (.ref pk), some (.ref pe), some (.ref pi), some (.int at_), x6, some (.int (KX.rowAt M (kept.getD at_ 0)).put), some (.ref pl), x9, none, none] ∧ Same H H6 ∧
          H6 pk = some (.lst (Kd.map iv)) ∧ H6 pe = some (.lst ((kp i).map iv)) ∧ H6 pi = some (.dK kvs) ∧ H6 pl = some (.lst [plV (KX.rowAt M (kept.getD at_ 0)).s, plV (KX.rowAt M (kept.getD at_ 0)).w]) ∧ IdxOk Kd (kp i) kvs ∧ KX.KeptOk M Kd n0 (kp i))
          ⟨_, kvs, rfl, sameN2 s5 npl', by rw [upd_ne m1]; exact j1, by rw [upd_ne m2]; exact j2, by rw [upd_ne m3]; exact j3, upd_same, hI, hO⟩ (fun i σ H6 _ ⟨_, _, _, _, _, _, _, hp, _⟩ => .inl (.inl hp)) ?_ ?_
        · rintro i x σ H6_ H6 hi ⟨x9', kvs', rfl, s6, g1, g2, g3, g4, gI, gO⟩ ⟨rfl, ex⟩
          have hi2 : i < 2 := hi
          obtain ⟨t, rfl, htok, hkp⟩ : ∃ t : KX.Pl, x = plV t ∧ t.ok M.length ∧ kp (i + 1) = KX.addP Kd (kp i) t := by
            rcases (show i = 0 ∨ i = 1 by omega) with rfl | rfl
            · exact ⟨_, (Option.some.inj ex).symm, (KX.Wf.go hW hqM false), rfl⟩
            · exact ⟨_, (Option.some.inj ex).symm, (KX.Wf.go hW hqM true), rfl⟩
          have gO' := gO.add htok
          rw [← hkp] at gO'
          cases t with
          | wd y =>
            refine ⟨_, rfl, _, _, _, _, _, rfl, .ty _, tx_str y, k_ss, _, rfl, iteF ?_⟩
            refine iteF ⟨_, kvs', rfl, s6, g1, ?_, g3, g4, ?_, gO'⟩
            · rw [hkp]; exact g2
            · rw [hkp]; exact gI
          | ix m =>
            have hm : m < M.length := htok
            have hd : DGet H6 pi (kV (Sum.inl ((KX.kAt Kd m : Nat) : Int))) _ := DGet.k g3
            rw [gI.v] at hd
            refine ⟨_, rfl, _, _, _, _, _, rfl, .ty _, tx_int _, k_is, _, rfl, iteT ?_⟩
            refine ⟨_, rfl, _, rfl, pk, _, _, _, rfl, rfl, .inl (.inl g1), atI_nat (kAt_get (by omega)), _, rfl, pi, _, rfl, hd, _, rfl, ?_⟩
            by_cases hmem : KX.kAt Kd m ∈ (kp i).map (KX.kAt Kd)
            · refine onF (by rw [if_pos hmem]; rfl) ⟨_, kvs', rfl, s6, g1, ?_, g3, g4, ?_, gO'⟩
              · rw [hkp, KX.addP_ix, if_pos hmem]; exact g2
              · rw [hkp, KX.addP_ix, if_pos hmem]; exact gI
            · have hkn : (kp i).length ≤ 100 := by have := gO.length_le; omega
              refine onT (by rw [if_neg hmem]; rfl) ⟨_, rfl, pe, _, rfl, .inl (.inl (.inl g2)), _, rfl, _, rfl, _, rfl, pk, _, _, _, rfl, rfl, .inl (.inl g1), atI_nat (kAt_get (by omega)), pi, _, rfl, DPut.k (k := Sum.inl ((KX.kAt Kd m : Nat) : Int)) g3 (small_len (n := 100) (Nat.le_trans gI.l hkn)), ?_⟩
              have g2' : (upd H6 pi (.dK (putK kvs' (Sum.inl ((KX.kAt Kd m : Nat) : Int)) (.int (((kp i).map iv).length : Nat))))) pe = some (.lst ((kp i).map iv)) := by rw [upd_ne hne1]; exact g2
              refine ⟨_, rfl, .inl ⟨rfl, _, .inl (.inl g2')⟩, _, rfl, pe, _, _, rfl, rfl, g2', small_len (n := 100) (by rw [List.length_map]; exact hkn), ?_⟩
              refine ⟨_, _, rfl, sameU (sameU s6 npi') npe', by rw [upd_ne hne2, upd_ne hne3]; exact g1, ?_, by rw [upd_ne hne1.symm]; exact upd_same, by rw [upd_ne m2.symm, upd_ne m3.symm]; exact g4, ?_, gO'⟩
              · rw [upd_same, hkp, KX.addP_ix, if_neg hmem, List.map_append]
                rfl
              · rw [hkp, KX.addP_ix, if_neg hmem, List.length_map]
                exact idx_add gI hmem
        · rintro σ H6 ⟨x9', kvs', rfl, s6, g1, g2, g3, g4, gI, gO⟩
          refine ⟨_, rfl, _, _, rfl, rfl, ⟨_, _, _, _, KX.visit M Kd kept at_, at_ + 1, f, kvs', rfl, s6, g1, g2, g3, gI, gO, hbfs, by omega⟩, ?_⟩
          show M.length - ((at_ : Int) + 1).toNat < M.length - (at_ : Int).toNat
          omega
      · refine onF (decide_eq_false (by rw [List.length_map]; omega)) ?_
        have hend : kept = KX.keptOf M n0 := by
          rw [← hbfs]
          cases f with
          | zero => rfl
          | succ f => rw [KX.bfs, if_neg hlt]
        subst hend
        have hcl := KX.keptOf_closed hW hn0
        generalize hkp : KX.keptOf M n0 = kept at *
        refine ⟨by show 0 ≤ sizeLine; decide, fun pf npf => ?_⟩
        have npf' : H5 pf = none := npf
        have hst : H5 pe = some (.lst (kept.map iv)) := j2
        refine ⟨_, rfl, pe, rfl, ⟨_, .inl (.inl (sameN npf' _ _ j2))⟩, ?_⟩
        have hll : (KX.leastRows M n0).length = kept.length := by rw [KX.leastRows_len, hkp]
        refine for_it walk_list (fun i σ H6 => ∃ (x7 x8 x9 x11 : Option V) (rows : List V), σ = [some (.ref a), some (.ref b), some (.ref pk), some (.ref pe), some (.ref pi), some (.int at_), x6, x7, x8, x9, some (.ref pf), x11] ∧ Same H5 H6 ∧ H6 pf = some (.lst rows) ∧ RowsV H6 rows ((KX.leastRows M n0).take i))
          ⟨_, _, _, _, [], rfl, sameN npf', upd_same, .nil⟩ (fun i σ H6 _ ⟨_, _, _, _, _, _, hs, _⟩ => .inl (.inl (hs _ _ j2))) ?_ ?_
        · rintro i x σ H6_ H6 hi ⟨x7', x8', x9', x11', rows, rfl, s6, hpf, hR⟩ ⟨rfl, ex⟩
          have hik : i < kept.length := by simpa using hi
          have hq0 := KX.kept_get hik
          have ex2 : x = .int ((kept.getD i 0 : Nat) : Int) := by
            rw [List.getElem?_map, hq0] at ex
            exact (Option.some.inj ex).symm
          subst ex2
          have hqM : kept.getD i 0 < M.length := hO.lt _ (KX.kept_mem hik)
          obtain ⟨xr, hxr, pr, rfl, hpr⟩ := paired_get' hx (KX.rowAt_get hqM)
          refine ⟨_, rfl, _, rfl, a, _, _, _, rfl, rfl, .inl (.inl (s6 _ _ (s5 _ _ ha))), atI_nat hxr, ?_⟩
          refine ⟨pr, _, _, rfl, .inl (.inl (s6 _ _ (s5 _ _ hpr))), by show 2 ≤ 1000; decide, fun pl npl => ⟨_, _, rfl, _, _, rfl, rfl, ?_⟩⟩
          have npl' : H6 pl = none := npl
          have m1 : pf ≠ pl := ne_of_none hpf npl'
          have s7 : Same H5 (upd H6 pl (.lst [plV (KX.rowAt M (kept.getD i 0)).s, plV (KX.rowAt M (kept.getD i 0)).w])) := sameN2 s6 npl'
          have hR7 := rows_same hR (sameN (o := .lst [plV (KX.rowAt M (kept.getD i 0)).s, plV (KX.rowAt M (kept.getD i 0)).w]) npl')
          have hpf7 : (upd H6 pl (.lst [plV (KX.rowAt M (kept.getD i 0)).s, plV (KX.rowAt M (kept.getD i 0)).w])) pf = some (.lst rows) := by rw [upd_ne m1]; exact hpf
          have hpl7 : (upd H6 pl (.lst [plV (KX.rowAt M (kept.getD i 0)).s, plV (KX.rowAt M (kept.getD i 0)).w])) pl = some (.lst ([(KX.rowAt M (kept.getD i 0)).s, (KX.rowAt M (kept.getD i 0)).w].map plV)) := upd_same
          generalize upd H6 pl (.lst [plV (KX.rowAt M (kept.getD i 0)).s, plV (KX.rowAt M (kept.getD i 0)).w]) = H7 at s7 hR7 hpf7 hpl7
          refine ⟨_, rfl, .inl ⟨rfl, _, .inl (.inl hpf7)⟩, _, rfl, _, rfl, pl, rfl, ⟨_, .inl (.inl hpl7)⟩, fun D nD => ?_⟩
          refine lc_it walk_list (fun j H8 => Same H7 H8 ∧ H8 D = some (.lst (([(KX.rowAt M (kept.getD i 0)).s, (KX.rowAt M (kept.getD i 0)).w].take j).map fun t => plV (KX.ren Kd kept t)))) ⟨sameN nD, upd_same⟩ (fun i H8 _ p => .inl (.inl (p.1 _ _ hpl7))) ?_ ?_
          · rintro j y H8_ H8 hj ⟨s8, h8⟩ ⟨rfl, ey⟩
            have hj2 : j < 2 := hj
            obtain ⟨t, bb, htj, rfl, htok, hgo⟩ : ∃ (t : KX.Pl) (bb : Bool), [(KX.rowAt M (kept.getD i 0)).s, (KX.rowAt M (kept.getD i 0)).w][j]? = some t ∧ y = plV t ∧ t.ok M.length ∧ t = (KX.rowAt M (kept.getD i 0)).go bb := by
              rcases (show j = 0 ∨ j = 1 by omega) with rfl | rfl
              · exact ⟨_, false, rfl, (Option.some.inj ey).symm, KX.Wf.go hW hqM false, rfl⟩
              · exact ⟨_, true, rfl, (Option.some.inj ey).symm, KX.Wf.go hW hqM true, rfl⟩
            have hacc : (([(KX.rowAt M (kept.getD i 0)).s, (KX.rowAt M (kept.getD i 0)).w].take j).map fun t => plV (KX.ren Kd kept t)).length < sizeLine := by
              refine small_len (n := 2) ?_
              rw [List.length_map, List.length_take]
              exact Nat.min_le_right _ _
            cases t with
            | wd z =>
              refine ⟨rfl, tyes ⟨_, rfl, _, _, _, _, _, rfl, .ty _, tx_str z, k_ss, _, rfl, iteT ⟨_, rfl, _, h8, hacc, sameU s8 nD, ?_⟩⟩⟩
              rw [upd_same, take_step _ htj]
              rfl
            | ix m =>
              have hm : m < M.length := htok
              have hmem : KX.kAt Kd m ∈ kept.map (KX.kAt Kd) := by
                have := hcl i hik hik bb m hgo.symm
                rw [hKd] at this
                exact this
              have hd : DGet H8 pi (kV (Sum.inl ((KX.kAt Kd m : Nat) : Int))) _ := DGet.k (s8 _ _ (s7 _ _ j3))
              rw [hI.v, if_pos hmem] at hd
              refine ⟨rfl, tyes ⟨_, rfl, _, _, _, _, _, rfl, .ty _, tx_int _, k_is, _, rfl, iteF ⟨_, rfl, _, rfl, _, rfl, pk, _, _, _, rfl, rfl, .inl (.inl (s8 _ _ (s7 _ _ j1))), atI_nat (kAt_get (by omega)), pi, _, rfl, hd, _, h8, hacc, sameU s8 nD, ?_⟩⟩⟩
              rw [upd_same, take_step _ htj]
              rfl
          · rintro H8 ⟨s8, h8⟩
            have h8' : H8 D = some (.lst [plV (KX.ren Kd kept (KX.rowAt M (kept.getD i 0)).s), plV (KX.ren Kd kept (KX.rowAt M (kept.getD i 0)).w)]) := h8
            refine ⟨D, _, rfl, .inr (.inl (.inl h8')), by show 3 ≤ sizeLine; decide, fun p2 np2 => ?_⟩
            have hpf8 := s8 _ _ hpf7
            have hpf9 : upd H8 p2 (.tup (rowV ⟨(KX.rowAt M (kept.getD i 0)).put, KX.ren Kd kept (KX.rowAt M (kept.getD i 0)).s, KX.ren Kd kept (KX.rowAt M (kept.getD i 0)).w⟩)) pf = some (.lst rows) := by rw [upd_ne (ne_of_none hpf8 np2)]; exact hpf8
            have s9 : Same H7 (upd H8 p2 (.tup (rowV ⟨(KX.rowAt M (kept.getD i 0)).put, KX.ren Kd kept (KX.rowAt M (kept.getD i 0)).s, KX.ren Kd kept (KX.rowAt M (kept.getD i 0)).w⟩))) := sameN2 s8 np2
            have hrow : (KX.leastRows M n0)[i]? = some ⟨(KX.rowAt M (kept.getD i 0)).put, KX.ren Kd kept (KX.rowAt M (kept.getD i 0)).s, KX.ren Kd kept (KX.rowAt M (kept.getD i 0)).w⟩ := by
              unfold KX.leastRows KX.foundR
              rw [hkp, hKd, List.getElem?_map, hq0]
              rfl
            refine ⟨pf, rows, _, rfl, rfl, hpf9, ?_, _, _, _, _, _, rfl, sameU (s7.trans s9) npf', upd_same, ?_⟩
            · refine small_len (n := 100) ?_
              rw [paired_len hR7, List.length_take]
              omega
            · rw [List.take_add_one, hrow]
              have hR9 := rows_same hR7 s9
              refine paired_snoc (Paired.mapP hR9 fun v m => ?_) ⟨p2, rfl, ?_⟩
              · rintro ⟨bq, rfl, hbq⟩
                exact ⟨bq, rfl, by rw [upd_ne (ne_of hbq hpf9 (by intro z; cases z))]; exact hbq⟩
              · rw [upd_ne (ne_of_none hpf8 np2).symm]
                exact upd_same
        · rintro σ H6 ⟨x7', x8', x9', x11', rows, rfl, s6, hpf, hR⟩
          rw [take_all (by rw [hll, List.length_map])] at hR
          exact ⟨_, rfl, q _ _ (s5.trans s6) ⟨rows, hpf, hR⟩⟩
    · rintro σ H2 Q1 Q2 hQ ⟨v, h1, v2, h2, p, ys, h3, h4, i, j, h5, h6, k, h7, h8⟩
      exact ⟨v, h1, v2, h2, p, ys, h3, h4, i, j, h5, h6, k, h7, hQ _ _ h8⟩
end
end SB
end
section
set_option maxRecDepth 100000
set_option maxHeartbeats 4000000
/-! Walks: least. -/
namespace SB
open PySem PySem.Spec PyProof.Rows L2
section
variable {P : Program} {w : World} {K : PySem.W.Frag} {mg : Str → Option Value} {base : Heap} {E : Addr}
/-- the new instance's own room -/
theorem SameX.made {x dx : Addr} {H H' : Hp} {o1 o2 : HO} (s : SameX x (upd (upd H dx o1) x o2) H') (nx : H x = none) (nd : H dx = none) : Same H H' := fun b o e => by
  have e1 : b ≠ x := ne_of_none e nx
  have e2 : b ≠ dx := ne_of_none e nd
  exact s b o e1 (by rw [upd_ne e1, upd_ne e2]; exact e)
theorem MacL.same2 {H : Hp} {a x dx : Addr} {o1 o2 : HO} {M : KX.Mc} (h : MacL H a M) (nx : H x = none) (nd : H dx = none) : MacL (upd (upd H dx o1) x o2) a M := h.same fun b o e => by
  rw [upd_ne (ne_of_none e nx), upd_ne (ne_of_none e nd)]
  exact e
abbrev s_least : Stmt := top 24
theorem sc_least : FnScope ["end"] ["end"] (defScope s_least) := ⟨rfl, rfl, rfl, by decide +kernel, rfl, by decide +kernel, by decide +kernel⟩
def sp_least (E : Addr) : Sp := fun vs H Q _ => ∃ (x : Addr) (Mh Ms : KX.Mc), vs = [.ref x] ∧ EndAt E H x Mh Ms ∧ KX.VE Mh Ms ∧ ∀ H' y, Same H H' → EndAt E H' y (KX.leastRows Mh 2) (KX.leastRows Ms 1) → Q (.ref y) H'
theorem ok_least {f : Addr} {fd : FuncData} (F : Fun K "least" "least" s_least f fd) (T : TxE K mg E) (C : Cal P w K mg base "least_rows" 3 ["rows", "firsts"] (sp_least_rows K))
    (h1 : CalP P w K mg base E "hearer" 1 (sp_hearer E)) (h2 : CalP P w K mg base E "sender" 1 (sp_sender E)) (I : CalC P w K mg base E "End" 5 ["self", "hearer", "sender"] (sp_end_init E)) : FnOk P w K mg base CX0 7 f fd ["end"] (sp_least E) := by
  refine F.ok sc_least (fun vs H Q E h => ?_) (fun cdv A outer s H vs Q E' hr h => ?_)
  · obtain ⟨x, Mh, Ms, rfl, _⟩ := h
    rfl
  · obtain ⟨x, Mh, Ms, rfl, hE, hV, q⟩ := h
    refine ⟨_, pss_one (ps_ret (calC I hr (pa_cons (cal C (hr.mono (by decide)) (pa_cons (calP h1 T.cl (hr.mono (by decide)) (pv 0)) (pa_cons (pe_tup (pa_cons pe_int (pa_cons pe_int pa_nil))) pa_nil)))
      (pa_cons (cal C (hr.mono (by decide)) (pa_cons (calP h2 T.cl (hr.mono (by decide)) (pv 0)) (pa_cons (pe_tup (pa_cons pe_int pa_nil)) pa_nil))) pa_nil)))), ?_⟩
    obtain ⟨dx, p1, p2, p3, e1, e2, e3⟩ := id hE
    refine ⟨_, rfl, x, dx, _, rfl, e1, x, Mh, Ms, rfl, hE, fun pa ma => ⟨by show 2 ≤ sizeLine; decide, fun t nt => ?_⟩⟩
    refine ⟨pa, t, Mh, 2, rfl, ma.same (sameN nt), .inl (.inl upd_same), hV.h.wf, hV.h.len, hV.h2, fun H1 l1 s1 m1 => ?_⟩
    have s1' := (sameN nt).trans s1
    have hE1 := hE.same s1'
    refine ⟨_, rfl, x, dx, _, rfl, s1' _ _ e1, x, Mh, Ms, rfl, hE1, fun pb mb => ⟨by show 1 ≤ sizeLine; decide, fun t2 nt2 => ?_⟩⟩
    refine ⟨pb, t2, Ms, 1, rfl, mb.same (sameN nt2), .inl (.inl upd_same), hV.s.wf, hV.s.len, hV.s1, fun H2 l2 s2 m2 => ?_⟩
    have s2' := (sameN nt2).trans s2
    intro y dy ny ndy hne
    refine ⟨y, l1, l2, dy, _, _, rfl, upd_same, (m1.same s2').same2 ny ndy, m2.same2 ny ndy, hV.least, fun H3 s3 hE3 => ⟨rfl, q H3 y (s1'.trans (s2'.trans (s3.made ny ndy))) hE3⟩⟩
end
end SB
end
section
set_option maxRecDepth 100000
set_option maxHeartbeats 4000000
/-! Walks: numbered. -/
namespace SB
open PySem PySem.Spec PyProof.Rows L2

section
variable {X : Cx} {a b : Expr} {ta tb : TE} {pos : Pos}
theorem inK (K : PySem.W.Frag) (hK : X.K = K := by rfl) : OpR X (compareOp .In) (rIn K false) := by
  subst hK
  exact op_in_seq
theorem notInK (K : PySem.W.Frag) (hK : X.K = K := by rfl) : OpR X (compareOp .NotIn) (rIn K true) := by
  subst hK
  exact op_notIn_seq
end
/-! ### rows by names, as they stand -/
def RnAt (H : Hp) (v : V) (r : KX.Rn) : Prop := ∃ p, v = .ref p ∧ H p = some (.tup [.int r.put, .str r.s, .str r.w])
def KvAt (H : Hp) (kv : Key × V) (nr : Str × KX.Rn) : Prop := kv.1 = Sum.inr nr.1 ∧ RnAt H kv.2 nr.2
def RowsD (H : Hp) (a : Addr) (rs : KX.Rs) : Prop := ∃ kvs, H a = some (.dK kvs) ∧ Paired (KvAt H) kvs rs
theorem RnAt.same {H H' : Hp} {v : V} {r : KX.Rn} (h : RnAt H v r) (s : Same H H') : RnAt H' v r := let ⟨p, h1, h2⟩ := h; ⟨p, h1, s _ _ h2⟩
theorem kvs_same {H H' : Hp} {kvs : List (Key × V)} {rs : KX.Rs} (h : Paired (KvAt H) kvs rs) (s : Same H H') : Paired (KvAt H') kvs rs := Paired.mapP h fun _ _ q => ⟨q.1, q.2.same s⟩
/-- what stands at a place that is no tuple may change -/
theorem kvs_upd {H : Hp} {kvs : List (Key × V)} {rs : KX.Rs} {d : Addr} {o u : HO} (h : Paired (KvAt H) kvs rs) (hd : H d = some u) (hu : ∀ xs, u ≠ .tup xs) : Paired (KvAt (upd H d o)) kvs rs :=
  Paired.mapP h fun _ _ q => by
    obtain ⟨q1, p, q2, q3⟩ := q
    refine ⟨q1, p, q2, ?_⟩
    rw [upd_ne (fun e => by rw [e, hd] at q3; exact hu _ (Option.some.inj q3))]
    exact q3
theorem rowsD_same {H H' : Hp} {a : Addr} {rs : KX.Rs} (h : RowsD H a rs) (s : Same H H') : RowsD H' a rs := let ⟨k, h1, h2⟩ := h; ⟨k, s _ _ h1, kvs_same h2 s⟩
theorem kvs_get {H : Hp} {n : Str} {r : KX.Rn} : ∀ {kvs : List (Key × V)} {rs : KX.Rs}, Paired (KvAt H) kvs rs → KX.getR rs n = some r → ∃ v, valV kvs (Sum.inr n) = some v ∧ RnAt H v r
  | _, _, .nil, e => by cases e
  | (k, v) :: kvs, (m, r') :: rs, .cons q t, e => by
    have hk : k = Sum.inr m := q.1
    by_cases h : m = n
    · have e1 : KX.getR ((m, r') :: rs) n = some r' := by unfold KX.getR; rw [List.find?_cons]; simp [h]
      rw [e1] at e
      cases e
      exact ⟨v, valV_pos (by rw [hk, h]), q.2⟩
    · have e1 : KX.getR ((m, r') :: rs) n = KX.getR rs n := by unfold KX.getR; rw [List.find?_cons]; simp [h]
      rw [e1] at e
      obtain ⟨v', h1, h2⟩ := kvs_get t e
      exact ⟨v', by rw [valV_neg (by rw [hk]; intro z; cases z; exact h rfl)]; exact h1, h2⟩
theorem kvs_any {H : Hp} {n : Str} : ∀ {kvs : List (Key × V)} {rs : KX.Rs}, Paired (KvAt H) kvs rs → (kvs.any fun kv => decide (kv.1 = Sum.inr n)) = rs.any fun x => decide (x.1 = n)
  | _, _, .nil => rfl
  | (k, v) :: kvs, (m, r') :: rs, .cons q t => by
    have hk : k = Sum.inr m := q.1
    rw [List.any_cons, List.any_cons, kvs_any t, hk]
    congr 1
    by_cases h : m = n
    · simp [h]
    · have h2 : (Sum.inr m : Key) ≠ Sum.inr n := by intro z; cases z; exact h rfl
      simp [h]
theorem kvs_put {H : Hp} {n : Str} {v : V} {r : KX.Rn} {kvs : List (Key × V)} {rs : KX.Rs} (h : Paired (KvAt H) kvs rs) (hv : RnAt H v r) : Paired (KvAt H) (putK kvs (Sum.inr n) v) (KX.putA rs n r) := by
  unfold putK KX.putA
  rw [kvs_any h]
  split
  · have hmap : ∀ {kvs : List (Key × V)} {rs : KX.Rs}, Paired (KvAt H) kvs rs → Paired (KvAt H) (kvs.map fun kv => if kv.1 = Sum.inr n then (kv.1, v) else kv) (rs.map fun x => if x.1 = n then (x.1, r) else x) := by
      intro kvs rs h
      induction h with
      | nil => exact .nil
      | @cons kv nr _ _ q t ih =>
        refine .cons ?_ ih
        have hk : kv.1 = Sum.inr nr.1 := q.1
        show KvAt H (if kv.1 = Sum.inr n then (kv.1, v) else kv) (if nr.1 = n then (nr.1, r) else nr)
        by_cases e : nr.1 = n
        · rw [if_pos e, if_pos (by rw [hk, e])]
          exact ⟨hk, hv⟩
        · rw [if_neg e, if_neg (by rw [hk]; intro z; cases z; exact e rfl)]
          exact q
    exact hmap h
  · exact Paired.snoc h ⟨rfl, hv⟩
theorem ixOf_map {names : List Str} {x : Str} : KX.ixOf (names.map (Sum.inr : Str → Key)) (Sum.inr x) = KX.ixOf names x := by
  induction names with
  | nil => rfl
  | cons y ys ih =>
    rw [List.map_cons, KX.ixOf, KX.ixOf, ih]
    by_cases h : y = x
    · rw [if_pos h, if_pos (by rw [h])]
    · rw [if_neg h, if_neg (by intro z; cases z; exact h rfl)]
theorem at_val {names : List Str} {x : Str} : (valV (numFrom 0 (names.map (Sum.inr : Str → Key))) (Sum.inr x)).getD (.str x) = plV (KX.plN names x) := by
  rw [valV_numFrom]
  unfold KX.plN
  by_cases h : x ∈ names
  · rw [if_pos h, if_pos (List.mem_map.mpr ⟨x, h, rfl⟩), Nat.zero_add, ixOf_map]
    rfl
  · rw [if_neg h, if_neg]
    · rfl
    · intro hm
      obtain ⟨y, hy, e⟩ := List.mem_map.mp hm
      cases e
      exact h hy
theorem ne_of_none' {H : Hp} {p q : Addr} {o : HO} (hp : H p = none) (hq : H q = some o) : p ≠ q := fun e => by rw [e, hq] at hp; cases hp
theorem lockSame {H H' : Hp} {d : Addr} {u : HO} {od : Obj} (hd : H d = some u) (s : Same (upd H d (.frz od u)) H') : Same H (upd H' d u) := fun b o e => by
  by_cases hb : b = d
  · subst hb
    rw [hd] at e
    cases e
    exact upd_same
  · rw [upd_ne hb]
    exact s b o (by rw [upd_ne hb]; exact e)
section
variable {P : Program} {w : World} {K : PySem.W.Frag} {mg : Str → Option Value} {base : Heap}
abbrev s_numbered : Stmt := top 28
abbrev n_numbered : List Str := ["rows", "firsts", "names", "at", "found", "name", "put", "strong", "weak", "index"]
theorem sc_numbered : FnScope n_numbered ["rows", "firsts"] (defScope s_numbered) := ⟨rfl, rfl, rfl, by decide +kernel, rfl, by decide +kernel, by decide +kernel⟩
def sp_numbered (K : PySem.W.Frag) : Sp := fun vs H Q _ => ∃ (a b : Addr) (rs : KX.Rs) (fs : List Str), vs = [.ref a, .ref b] ∧ RowsD H a rs ∧ H b = some (.lst (fs.map V.str)) ∧ KX.FsOk rs fs ∧ rs.length ≤ 100 ∧
  ∀ H' p, Same H H' → MacL H' p (KX.numberedR rs fs) → Q (.ref p) H'
theorem ok_numbered {f : Addr} {fd : FuncData} (F : Fun K "numbered" "numbered" s_numbered f fd) (G : Gb mg) : FnOk P w K mg base CX0 1 f fd ["rows", "firsts"] (sp_numbered K) := by
  refine F.ok sc_numbered (fun vs H Q E h => ?_) (fun cdv A outer s H vs Q E hr h => ?_)
  · obtain ⟨a, b, rs, fs, rfl, _⟩ := h
    rfl
  · obtain ⟨a, b, rs, fs, rfl, ⟨kvs, ha, hx⟩, hb, hO, h100, q⟩ := h
    have nd := sc_numbered.nd
    have hu := hu_of hr
    refine ⟨_, pss_cons (ps_set (i := 2) nd rfl (.inl rfl) (pe_op op_cat (pv 1) (pe_lock (pe_lc (own := [("name", 5)]) (g := gName 5) (tt := tTest (tOp (rIn K true) (tVar 5) (tVar 1))) rfl nd (pi_keys (pv 0)) (blkOk_by (N := n_numbered) (sc := defScope s_numbered) (by decide +kernel)) (fun _ _ _ _ _ => pg_name (i := 5) nd rfl (.inl rfl))
        (fun _ _ _ _ _ => pts_one (pt_cmpR (notInK K) (pv 5) (pv 1) rfl)) (fun _ _ _ _ _ => pv 5)))))
      (pss_cons (ps_setDc (i := 3) (own := [("index", 9), ("name", 5)]) (g := gTup K 2 (gCons (gName 9) (gCons (gName 5) gNil))) (tt := tYes) rfl nd rfl rfl (sw_trueD rfl rfl rfl rfl) (pi_enum (by rfl) G.enumerate (pa_cons (pv 2) pa_nil)) (blkOk_by (N := n_numbered) (sc := defScope s_numbered) (by decide +kernel))
        (fun _ _ _ _ _ => pg_tup rfl (pgs_cons (pg_name (i := 9) nd rfl (.inl rfl)) (pgs_cons (pg_name (i := 5) nd rfl (.inl rfl)) pgs_nil))) (fun _ _ _ _ _ => pts_nil) (fun _ _ _ _ _ => pv 5) (fun _ _ _ _ _ => pv 9))
      (pss_cons (ps_set (i := 4) nd rfl (.inl rfl) (pe_lst pa_nil))
      (pss_cons (ps_for PassesOwn.never rfl (pi_list (pv 2)) (pg_name (i := 5) nd rfl (.inl rfl))
        (pss_cons (ps_asg (pe_dget hu (pv 0) (pv 5) (fun _ _ => rfl)) (pg_tup rfl (pgs_cons (pg_name (i := 6) nd rfl (.inl rfl)) (pgs_cons (pg_name (i := 7) nd rfl (.inl rfl)) (pgs_cons (pg_name (i := 8) nd rfl (.inl rfl)) pgs_nil)))))
        (pss_one (apnd (pv 4) (pe_tup (pa_cons (pv 6) (pa_cons (pe_dget2 hu (pv 3) (pv 7) (pv 7) ⟨rfl, rfl, rfl, rfl⟩) (pa_cons (pe_dget2 hu (pv 3) (pv 8) (pv 8) ⟨rfl, rfl, rfl, rfl⟩) pa_nil))))))))
      (pss_one (ps_ret (pv 4)))))), ?_⟩
    have hklen := paired_len hx
    have hab : a ≠ b := ne_of ha hb (by intro z; cases z)
    have hfl : fs.length ≤ rs.length := by
      have := KX.names_len hO
      unfold KX.namesOf at this
      rw [List.length_append] at this
      omega
    refine ⟨_, rfl, a, _, ha, True.intro, fun od => ?_⟩
    refine ⟨_, rfl, a, od, rfl, .inl ⟨kvs, upd_same, fun D nD => ?_⟩⟩
    have hbf : (upd H a (.frz od (.dK kvs))) b = some (.lst (fs.map V.str)) := by rw [upd_ne hab.symm]; exact hb
    have haf : (upd H a (.frz od (.dK kvs))) a = some (.frz od (.dK kvs)) := upd_same
    have sf : ∀ H', Same (upd H a (.frz od (.dK kvs))) H' → Same H (upd H' a (.dK kvs)) := fun H' s => lockSame ha s
    have nDH : H D = none := by
      have hne : D ≠ a := fun e => by rw [e, upd_same] at nD; cases nD
      rw [upd_ne hne] at nD
      exact nD
    generalize upd H a (.frz od (.dK kvs)) = Hf at nD hbf haf sf
    refine lc_it walk_keys (fun i H2 => Same Hf H2 ∧ H2 D = some (.lst ((((KX.keysR rs).take i).filter fun n => decide (n ∉ fs)).map V.str))) ⟨sameN nD, upd_same⟩ (fun i H2 _ p => p.1 _ _ haf) ?_ ?_
    · rintro i x H2_ H2 hi ⟨s2, h2⟩ ⟨rfl, k, v, ek, rfl⟩
      obtain ⟨⟨n, r⟩, hr1, hk, hv⟩ := paired_get hx ek
      have hk' : k = Sum.inr n := hk
      subst hk'
      have hg : (KX.keysR rs)[i]? = some n := by unfold KX.keysR; rw [List.getElem?_map, hr1]; rfl
      refine ⟨rfl, _, rfl, _, rfl, b, _, rfl, .inl (.inl (.inl (s2 _ _ hbf))), rfl, flat_str, _, rfl, ?_⟩
      show if (!inV (.str n) (fs.map V.str)) = true then _ else _
      rw [inv_str]
      by_cases hm : n ∈ fs
      · refine onF (by rw [decide_eq_true hm]; rfl) ⟨s2, ?_⟩
        rw [List.take_add_one, hg]
        show H2 D = some (.lst ((((KX.keysR rs).take i ++ [n]).filter fun n => decide (n ∉ fs)).map V.str))
        rw [List.filter_append, List.filter_cons_of_neg (by simpa using hm), List.filter_nil, List.append_nil]
        exact h2
      · refine onT (by rw [decide_eq_false hm]; rfl) ⟨_, rfl, _, h2, ?_, sameU s2 nD, ?_⟩
        · refine small_len (n := 100) ?_
          rw [List.length_map]
          refine Nat.le_trans (List.length_filter_le _ _) ?_
          rw [List.length_take]
          unfold KX.keysR
          rw [List.length_map]
          omega
        · rw [upd_same, List.take_add_one, hg]
          show _ = some (HO.lst ((((KX.keysR rs).take i ++ [n]).filter fun n => decide (n ∉ fs)).map V.str))
          rw [List.filter_append, List.filter_cons_of_pos (by simpa using hm), List.filter_nil, List.map_append]
          rfl
    rintro H2 ⟨s2, h2⟩
    rw [take_all (by unfold KX.keysR; rw [List.length_map, hklen])] at h2
    refine ⟨s2 _ _ haf, ?_⟩
    have s3 := sf H2 s2
    have hDa : D ≠ a := ne_of_none' nD haf
    have hD3 : (upd H2 a (.dK kvs)) D = some (.lst (((KX.keysR rs).filter fun n => decide (n ∉ fs)).map V.str)) := by rw [upd_ne hDa]; exact h2
    generalize upd H2 a (.dK kvs) = H3 at s3 hD3
    have hnl : (KX.namesOf rs fs).length = rs.length := KX.names_len hO
    have hnd := KX.names_nodup hO
    refine ⟨b, D, _, _, rfl, rfl, s3 _ _ hb, hD3, ?_, fun pn npn => ?_⟩
    · rw [List.length_map, List.length_map]
      unfold KX.namesOf at hnl
      rw [List.length_append] at hnl
      exact Nat.le_trans (show _ ≤ 100 by omega) (by decide)
    have hpn : (upd H3 pn (.lst (fs.map V.str ++ ((KX.keysR rs).filter fun n => decide (n ∉ fs)).map V.str))) pn = some (.lst ((KX.namesOf rs fs).map V.str)) := by
      rw [upd_same]
      unfold KX.namesOf
      rw [List.map_append]
    have s4 : Same H (upd H3 pn (.lst (fs.map V.str ++ ((KX.keysR rs).filter fun n => decide (n ∉ fs)).map V.str))) := sameN2 s3 npn
    generalize upd H3 pn (.lst (fs.map V.str ++ ((KX.keysR rs).filter fun n => decide (n ∉ fs)).map V.str)) = H4 at hpn s4
    generalize hnm : KX.namesOf rs fs = names at *
    have hnmem : ∀ i n, names[i]? = some n → n ∈ KX.keysR rs := fun i n h => (KX.mem_names hO n).mp (by rw [hnm]; exact List.mem_of_getElem? h)
    refine ⟨_, rfl, pn, _, rfl, .inl (.inl hpn), fun pd npd => ?_⟩
    refine dc_it walk_enum (fun i H5 => Same H4 H5 ∧ H5 pd = some (.dK (numFrom 0 ((names.take i).map (Sum.inr : Str → Key))))) ⟨sameN npd, upd_same⟩ (fun i H5 _ p => .inl (.inl (p.1 _ _ hpn))) ?_ ?_
    · rintro i v H5 H6 hi ⟨s5, h5⟩ ⟨T, x, y, rfl, nT, rfl, e3, e4⟩
      cases e3
      have hi' : i < names.length := by simpa using hi
      have e4' : names[i]? = some names[i] := List.getElem?_eq_getElem hi'
      have ey : y = .str names[i] := by
        have e5 : (names.map V.str)[i]? = some y := e4
        rw [List.getElem?_map, e4'] at e5
        exact (Option.some.inj e5).symm
      subst ey
      refine ⟨T, _, rfl, .inl (.inl upd_same), rfl, _, _, rfl, _, _, rfl, rfl, rfl, tyes ⟨_, rfl, _, rfl, _, Sum.inr names[i], rfl, by rw [upd_ne (ne_of_none h5 nT)]; exact h5, ?_, ?_, ?_⟩⟩
      · refine small_len (n := 100) ?_
        rw [numFrom_len, List.length_map, List.length_take]
        omega
      · exact sameU (sameN2 s5 nT) npd
      · rw [upd_same, putK_new]
        · rw [List.take_add_one, e4']
          show _ = some (HO.dK (numFrom 0 ((names.take i ++ [names[i]]).map (Sum.inr : Str → Key))))
          rw [List.map_append, List.map_cons, List.map_nil, numFrom_snoc, List.length_map, List.length_take, Nat.min_eq_left (Nat.le_of_lt hi'), Nat.zero_add]
        · rw [valV_numFrom, if_neg]
          intro hm
          obtain ⟨z, hz, e⟩ := List.mem_map.mp hm
          cases e
          obtain ⟨j, hj, e6⟩ := List.getElem_of_mem hz
          rw [List.length_take] at hj
          rw [List.getElem_take] at e6
          have := (List.getElem_inj hnd).mp e6
          omega
    rintro H5 ⟨s5, h5⟩
    rw [take_all (by rw [List.length_map])] at h5
    refine ⟨by show 0 ≤ sizeLine; decide, fun pf npf => ?_⟩
    have npf' : H5 pf = none := npf
    have s6 : Same H H5 := s4.trans s5
    have hpn5 := s5 _ _ hpn
    refine ⟨_, rfl, pn, rfl, ⟨_, .inl (.inl (sameN npf' _ _ hpn5))⟩, ?_⟩
    refine for_it walk_list (fun i σ H6 => ∃ (x5 x6 x7 x8 : Option V) (rows : List V), σ = [some (.ref a), some (.ref b), some (.ref pn), some (.ref pd), some (.ref pf), x5, x6, x7, x8, none] ∧ Same H5 H6 ∧ H6 pf = some (.lst rows) ∧ RowsV H6 rows ((names.map (KX.rowN rs names)).take i))
      ⟨_, _, _, _, [], rfl, sameN npf', upd_same, .nil⟩ (fun i σ H6 _ ⟨_, _, _, _, _, _, hs, _⟩ => .inl (.inl (hs _ _ hpn5))) ?_ ?_
    · rintro i x σ H6_ H6 hi ⟨x5, x6, x7, x8, rows, rfl, s7, hpf, hR⟩ ⟨rfl, ex⟩
      have hi' : i < names.length := by simpa using hi
      have e4' : names[i]? = some names[i] := List.getElem?_eq_getElem hi'
      have ex2 : x = .str names[i] := by
        rw [List.getElem?_map, e4'] at ex
        exact (Option.some.inj ex).symm
      subst ex2
      obtain ⟨r, hr1⟩ := KX.getR_key (hnmem i _ e4')
      obtain ⟨v, hv, p, rfl, hp⟩ := kvs_get hx hr1
      have ha6 := s7 _ _ (s6 _ _ ha)
      have hp6 := s7 _ _ (s6 _ _ hp)
      have h56 := s7 _ _ h5
      have hd : DGet H6 a (kV (Sum.inr names[i])) _ := DGet.k ha6
      rw [hv] at hd
      refine ⟨_, rfl, _, rfl, a, _, rfl, hd, p, _, rfl, .inl (.inl hp6), rfl, _, _, rfl, _, _, rfl, _, _, rfl, rfl, ?_⟩
      refine ⟨_, rfl, .inl ⟨rfl, _, .inl (.inl hpf)⟩, _, rfl, ?_⟩
      refine ⟨_, rfl, pd, rfl, .inl ⟨_, .inl h56⟩, _, rfl, _, rfl, _, DGet.k (k := Sum.inr r.s) h56, ?_⟩
      refine ⟨_, rfl, pd, rfl, .inl ⟨_, .inl h56⟩, _, rfl, _, rfl, _, DGet.k (k := Sum.inr r.w) h56, ?_⟩
      rw [at_val, at_val]
      refine ⟨by show 3 ≤ sizeLine; decide, fun p2 np2 => ?_⟩
      have hrow : KX.rowN rs names names[i] = ⟨r.put, KX.plN names r.s, KX.plN names r.w⟩ := by
        unfold KX.rowN
        rw [hr1]
      have hpf7 : upd H6 p2 (.tup [.int r.put, plV (KX.plN names r.s), plV (KX.plN names r.w)]) pf = some (.lst rows) := by rw [upd_ne (ne_of_none hpf np2)]; exact hpf
      refine ⟨pf, rows, _, rfl, rfl, hpf7, ?_, _, _, _, _, _, rfl, sameU (sameN2 s7 np2) npf', upd_same, ?_⟩
      · refine small_len (n := 100) ?_
        rw [paired_len hR, List.length_take, List.length_map]
        omega
      · rw [List.take_add_one, List.getElem?_map, e4']
        show RowsV _ _ (_ ++ [KX.rowN rs names names[i]])
        rw [hrow]
        have hR9 := rows_same hR (sameN (o := .tup [.int r.put, plV (KX.plN names r.s), plV (KX.plN names r.w)]) np2)
        refine paired_snoc (Paired.mapP hR9 fun v m => ?_) ⟨p2, rfl, ?_⟩
        · rintro ⟨bq, rfl, hbq⟩
          exact ⟨bq, rfl, by rw [upd_ne (ne_of hbq hpf7 (by intro z; cases z))]; exact hbq⟩
        · rw [upd_ne (ne_of_none hpf np2).symm]
          exact upd_same
    · rintro σ H6 ⟨x5, x6, x7, x8, rows, rfl, s7, hpf, hR⟩
      rw [take_all (by rw [List.length_map, List.length_map])] at hR
      refine ⟨_, rfl, q _ _ (s6.trans s7) ⟨rows, hpf, ?_⟩⟩
      unfold KX.numberedR
      rw [hnm]
      exact hR
end
end SB
end
section
set_option maxRecDepth 100000
set_option maxHeartbeats 4000000
/-! Walks: flag_rows, end_rows. -/
namespace SB
open PySem PySem.Spec PyProof.Rows L2

theorem str_assoc (a b c : Str) : (a ++ b) ++ c = a ++ (b ++ c) := by
  cases a with | mk x =>
  cases b with | mk y =>
  cases c with | mk z =>
  exact congrArg Str.mk (Array.append_assoc ..)
def Ln (x : Str) : Prop := x.length ≤ 1000
theorem Ln.s {x : Str} (h : Ln x) : x.length ≤ sizeLine := Nat.le_trans h (by decide)
theorem w4_lens : ∀ w ∈ [KX.lostS, KX.takenS, KX.againS, KX.doneS], w.length ≤ 1000 ∧ (Str.empty ++ w).length ≤ 1000 ∧ ((Str.empty ++ w) ++ (" flag " : Str)).length ≤ 1000 ∧ ((Str.empty ++ w) ++ (" gap " : Str)).length ≤ 1000 ∧ ((Str.empty ++ w) ++ (" gap 1" : Str)).length ≤ 1000 ∧ ((Str.empty ++ w) ++ (" flag 1" : Str)).length ≤ 1000 ∧
    ∀ i ∈ List.range 12, (KX.nmF w i).length ≤ 1000 ∧ (KX.nmG w i).length ≤ 1000 := by decide +kernel
theorem e_lens : (Str.empty ++ ("end " : Str)).length ≤ 1000 ∧ ∀ i ∈ List.range 12, (KX.nmE i).length ≤ 1000 := by decide +kernel
theorem one_gap : (" gap " : Str) ++ ((toString (1 : Int) : String) : Str) = " gap 1" := by decide +kernel
theorem one_flag : (" flag " : Str) ++ ((toString (1 : Int) : String) : Str) = " flag 1" := by decide +kernel
theorem nmG_one (w : Str) : (Str.empty ++ w) ++ (" gap 1" : Str) = KX.nmG w 1 := by
  unfold KX.nmG
  rw [str_assoc _ (" gap " : Str), show (((1 : Nat) : Int)) = (1 : Int) from rfl, one_gap]
theorem nmF_one (w : Str) : (Str.empty ++ w) ++ (" flag 1" : Str) = KX.nmF w 1 := by
  unfold KX.nmF
  rw [str_assoc _ (" flag " : Str), show (((1 : Nat) : Int)) = (1 : Int) from rfl, one_flag]
section
variable {t0 t1 : TE} {σ : L2.St} {H : Hp} {w sep : Str} {i : Nat} {Q : Str → Hp → Prop}
/-- f'{w}..{i}' -/
theorem js3 (h0 : ∀ R : VK, R (.str w) H → t0 σ H R) (h1 : ∀ R : VK, R (.int (i : Int)) H → t1 σ H R) (lw : Ln w) (l0 : Ln (Str.empty ++ w)) (l1 : Ln ((Str.empty ++ w) ++ sep)) (l2 : Ln (((Str.empty ++ w) ++ sep) ++ ((toString (i : Int) : String) : Str))) (hi : i < 1000)
    (q : Q (((Str.empty ++ w) ++ sep) ++ ((toString (i : Int) : String) : Str)) H) : tJs [tFmt t0, tC (.str sep), tFmt t1] Str.empty σ H Q :=
  h0 _ (.inl ⟨_, rfl, lw.s, _, rfl, l0.s, _, rfl, l1.s, h1 _ (.inr ⟨_, rfl, log_small hi, _, rfl, l2.s, q⟩)⟩)
/-- f'{w}..' -/
theorem js2 (h0 : ∀ R : VK, R (.str w) H → t0 σ H R) (lw : Ln w) (l0 : Ln (Str.empty ++ w)) (l1 : Ln ((Str.empty ++ w) ++ sep)) (q : Q ((Str.empty ++ w) ++ sep) H) : tJs [tFmt t0, tC (.str sep)] Str.empty σ H Q :=
  h0 _ (.inl ⟨_, rfl, lw.s, _, rfl, l0.s, _, rfl, l1.s, q⟩)
/-- f'..{i}' -/
theorem js2i (h1 : ∀ R : VK, R (.int (i : Int)) H → t1 σ H R) (l0 : Ln (Str.empty ++ sep)) (l2 : Ln ((Str.empty ++ sep) ++ ((toString (i : Int) : String) : Str))) (hi : i < 1000)
    (q : Q ((Str.empty ++ sep) ++ ((toString (i : Int) : String) : Str)) H) : tJs [tC (.str sep), tFmt t1] Str.empty σ H Q :=
  ⟨_, rfl, l0.s, h1 _ (.inr ⟨_, rfl, log_small hi, _, rfl, l2.s, q⟩)⟩
end
structure W4L (w : Str) : Prop where
  l : Ln w
  e : Ln (Str.empty ++ w)
  f : Ln ((Str.empty ++ w) ++ (" flag " : Str))
  g : Ln ((Str.empty ++ w) ++ (" gap " : Str))
  g1 : Ln ((Str.empty ++ w) ++ (" gap 1" : Str))
  f1 : Ln ((Str.empty ++ w) ++ (" flag 1" : Str))
  nf : ∀ i, i < 12 → Ln (KX.nmF w i)
  ng : ∀ i, i < 12 → Ln (KX.nmG w i)
theorem w4l {w : Str} (h : KX.W4 w) : W4L w := by
  obtain ⟨a, b, c, d, e, f, g⟩ := w4_lens w h
  exact ⟨a, b, c, d, e, f, fun i hi => (g i (List.mem_range.mpr hi)).1, fun i hi => (g i (List.mem_range.mpr hi)).2⟩
/-- one more row is put into the dict -/
theorem rows_put {H : Hp} {a : Addr} {kvs : List (Key × V)} {rs : KX.Rs} {n : Str} {r : KX.Rn} {v : V} (ha : H a = some (.dK kvs)) (h : Paired (KvAt H) kvs rs) (hv : RnAt H v r) :
    Paired (KvAt (upd H a (.dK (putK kvs (Sum.inr n) v)))) (putK kvs (Sum.inr n) v) (KX.putA rs n r) :=
  kvs_upd (kvs_put h hv) ha fun xs e => by cases e
theorem rg {lo n : Nat} {x : Int} {i : Nat} (h : x = (1 : Int) + (i : Nat)) : x = ((i + 1 : Nat) : Int) := by omega
section
variable {P : Program} {w : World} {K : PySem.W.Frag} {mg : Str → Option Value} {base : Heap}
abbrev s_flag_rows : Stmt := top 29
abbrev n_flag_rows : List Str := ["word", "flag", "gap", "rows", "spot", "later"]
theorem sc_flag_rows : FnScope n_flag_rows ["word", "flag", "gap"] (defScope s_flag_rows) := ⟨rfl, rfl, rfl, by decide +kernel, rfl, by decide +kernel, by decide +kernel⟩
def sp_flag_rows : Sp := fun vs H Q _ => ∃ (wd : Str) (flag gap : Nat), vs = [.str wd, .int flag, .int gap] ∧ KX.W4 wd ∧ flag ≤ 10 ∧ gap ≤ 10 ∧ ∀ H' a, Same H H' → H a = none → RowsD H' a (KX.flagRows wd flag gap) → Q (.ref a) H'
theorem ok_flag_rows {f : Addr} {fd : FuncData} (F : Fun K "flag_rows" "flag_rows" s_flag_rows f fd) (G : Gb mg) : FnOk P w K mg base CX0 1 f fd ["word", "flag", "gap"] sp_flag_rows := by
  refine F.ok sc_flag_rows (fun vs H Q E h => ?_) (fun cdv A outer s H vs Q E hr h => ?_)
  · obtain ⟨wd, flag, gap, rfl, _⟩ := h
    rfl
  · obtain ⟨wd, flag, gap, rfl, h4, hf, hg, q⟩ := h
    have nd := sc_flag_rows.nd
    have hu := hu_of hr
    have L := w4l h4
    refine ⟨_, pss_cons (ps_set (i := 3) nd rfl (.inl rfl) pe_dnewK)
      (pss_cons (ps_for PassesOwn.never rfl (pi_range2 (by rfl) G.range (pa_cons pe_int (pa_cons (pe_op op_add (pv 1) pe_int) pa_nil))) (pg_name (i := 4) nd rfl (.inl rfl))
        (pss_cons (ps_set (i := 5) nd rfl (.inl rfl) (pe_ifExp (pt_cmpR op_lt (pv 4) (pv 1) (nomark _)) (pe_joined (.cons (pe_fmt (pv 0)) (.cons pe_str (.cons (pe_fmt (pe_op op_add (pv 4) pe_int)) .nil)))) (pe_joined (.cons (pe_fmt (pv 0)) (.cons pe_str .nil)))))
        (pss_one (ps_dput hu (pv 3) (pe_joined (.cons (pe_fmt (pv 0)) (.cons pe_str (.cons (pe_fmt (pv 4)) .nil)))) (pe_tup (pa_cons pe_int (pa_cons (pv 5) (pa_cons (pv 5) pa_nil)))) rfl))))
      (pss_cons (ps_for PassesOwn.never rfl (pi_range2 (by rfl) G.range (pa_cons pe_int (pa_cons (pe_op op_add (pv 2) pe_int) pa_nil))) (pg_name (i := 4) nd rfl (.inl rfl))
        (pss_cons (ps_set (i := 5) nd rfl (.inl rfl) (pe_ifExp (pt_cmpR op_lt (pv 4) (pv 2) (nomark _)) (pe_joined (.cons (pe_fmt (pv 0)) (.cons pe_str (.cons (pe_fmt (pe_op op_add (pv 4) pe_int)) .nil)))) (pv 0)))
        (pss_one (ps_dput hu (pv 3) (pe_joined (.cons (pe_fmt (pv 0)) (.cons pe_str (.cons (pe_fmt (pv 4)) .nil)))) (pe_tup (pa_cons pe_int (pa_cons (pe_ifExp (pt_cmpR op_eq (pv 4) pe_int (nomark _)) (pe_joined (.cons (pe_fmt (pv 0)) (.cons pe_str .nil))) (pe_joined (.cons (pe_fmt (pv 0)) (.cons pe_str .nil)))) (pa_cons (pv 5) pa_nil)))) rfl))))
      (pss_one (ps_ret (pv 3))))), ?_⟩
    intro d nd0
    have nd1 : H d = none := nd0
    have b1 : (((flag : Int) + 1) - 1).toNat = flag := by omega
    have b2 : (((gap : Int) + 1) - 1).toNat = gap := by omega
    refine ⟨_, rfl, _, _, rfl, rfl, 1, _, rfl, ⟨by omega, by omega, by omega, by omega⟩, ?_⟩
    rw [b1]
    refine for_it walk_range (fun i σ H2 => ∃ (x4 x5 : Option V) (kvs : List (Key × V)), σ = [some (.str wd), some (.int flag), some (.int gap), some (.ref d), x4, x5] ∧ Same H H2 ∧ H2 d = some (.dK kvs) ∧ Paired (KvAt H2) kvs (KX.putAll [] ((List.range i).map (KX.flagRn wd flag))))
      ⟨_, _, [], rfl, sameN nd1, upd_same, .nil⟩ (fun _ _ _ _ _ => True.intro) ?_ ?_
    · rintro i x σ H2_ H2 hi ⟨x4, x5, kvs, rfl, s2, h2, hp⟩ ⟨rfl, ex⟩
      have ex2 : x = .int ((i + 1 : Nat) : Int) := ex.trans (congrArg V.int (show (1 : Int) + (i : Nat) = ((i + 1 : Nat) : Int) by omega))
      subst ex2
      refine ⟨_, rfl, _, rfl, _, _, rfl, rfl, _, rfl, ?_⟩
      have hkl : kvs.length < sizeLine := by
        refine small_len (n := 100) ?_
        rw [paired_len hp]
        have := KX.len_putAll [] ((List.range i).map (KX.flagRn wd flag))
        rw [List.length_map, List.length_range, List.length_nil] at this
        omega
      by_cases hlt : i + 1 < flag
      · refine onT (decide_eq_true (by omega)) (js3 (i := i + 1 + 1) (fun R r => ⟨_, rfl, r⟩) (fun R r => ⟨_, rfl, _, _, rfl, rfl, r⟩) L.l L.e L.f (L.nf (i + 1 + 1) (by omega)) (by omega) ?_)
        refine ⟨_, rfl, _, rfl, by show 3 ≤ sizeLine; decide, fun p np => ⟨_, rfl, ?_⟩⟩
        have hd3 : upd H2 p (.tup [.int 0, .str (KX.nmF wd (i + 1 + 1)), .str (KX.nmF wd (i + 1 + 1))]) d = some (.dK kvs) := by rw [upd_ne (ne_of_none h2 np)]; exact h2
        refine js3 (i := i + 1) (fun R r => ⟨_, rfl, r⟩) (fun R r => ⟨_, rfl, r⟩) L.l L.e L.f (L.nf (i + 1) (by omega)) (by omega) ⟨d, _, rfl, DPut.k (k := Sum.inr (KX.nmF wd (i + 1))) hd3 hkl, ?_⟩
        refine ⟨_, _, _, rfl, sameU (sameN2 s2 np) nd1, upd_same, ?_⟩
        rw [List.range_succ, List.map_append, List.map_cons, List.map_nil, KX.putAll_snoc]
        refine rows_put hd3 (kvs_same hp (sameN np)) ⟨p, rfl, ?_⟩
        rw [upd_same]
        simp only [KX.flagRn, if_pos hlt]
        rfl
      · refine onF (decide_eq_false (by omega)) (js2 (fun R r => ⟨_, rfl, r⟩) L.l L.e L.g1 ?_)
        rw [nmG_one]
        refine ⟨_, rfl, _, rfl, by show 3 ≤ sizeLine; decide, fun p np => ⟨_, rfl, ?_⟩⟩
        have hd3 : upd H2 p (.tup [.int 0, .str (KX.nmG wd 1), .str (KX.nmG wd 1)]) d = some (.dK kvs) := by rw [upd_ne (ne_of_none h2 np)]; exact h2
        refine js3 (i := i + 1) (fun R r => ⟨_, rfl, r⟩) (fun R r => ⟨_, rfl, r⟩) L.l L.e L.f (L.nf (i + 1) (by omega)) (by omega) ⟨d, _, rfl, DPut.k (k := Sum.inr (KX.nmF wd (i + 1))) hd3 hkl, ?_⟩
        refine ⟨_, _, _, rfl, sameU (sameN2 s2 np) nd1, upd_same, ?_⟩
        rw [List.range_succ, List.map_append, List.map_cons, List.map_nil, KX.putAll_snoc]
        refine rows_put hd3 (kvs_same hp (sameN np)) ⟨p, rfl, ?_⟩
        rw [upd_same]
        simp only [KX.flagRn, if_neg hlt]
        rfl
    rintro σ H2 ⟨x4, x5, kvs, rfl, s2, h2, hp⟩
    refine ⟨_, rfl, _, _, rfl, rfl, 1, _, rfl, ⟨by omega, by omega, by omega, by omega⟩, ?_⟩
    rw [b2]
    refine for_it walk_range (fun i σ H2 => ∃ (x4 x5 : Option V) (kvs : List (Key × V)), σ = [some (.str wd), some (.int flag), some (.int gap), some (.ref d), x4, x5] ∧ Same H H2 ∧ H2 d = some (.dK kvs) ∧ Paired (KvAt H2) kvs (KX.putAll (KX.putAll [] ((List.range flag).map (KX.flagRn wd flag))) ((List.range i).map (KX.gapRn wd gap))))
      ⟨_, _, kvs, rfl, s2, h2, hp⟩ (fun _ _ _ _ _ => True.intro) ?_ ?_
    · clear s2 h2 hp kvs x4 x5 H2
      rintro i x σ H2_ H2 hi ⟨x4, x5, kvs, rfl, s2, h2, hp⟩ ⟨rfl, ex⟩
      have ex2 : x = .int ((i + 1 : Nat) : Int) := ex.trans (congrArg V.int (show (1 : Int) + (i : Nat) = ((i + 1 : Nat) : Int) by omega))
      subst ex2
      refine ⟨_, rfl, _, rfl, _, _, rfl, rfl, _, rfl, ?_⟩
      have hkl : kvs.length < sizeLine := by
        refine small_len (n := 100) ?_
        rw [paired_len hp]
        have h1 := KX.len_putAll [] ((List.range flag).map (KX.flagRn wd flag))
        have := KX.len_putAll (KX.putAll [] ((List.range flag).map (KX.flagRn wd flag))) ((List.range i).map (KX.gapRn wd gap))
        rw [List.length_map, List.length_range] at this h1
        rw [List.length_nil] at h1
        omega
      by_cases hlt : i + 1 < gap
      · refine onT (decide_eq_true (by omega)) (js3 (i := i + 1 + 1) (fun R r => ⟨_, rfl, r⟩) (fun R r => ⟨_, rfl, _, _, rfl, rfl, r⟩) L.l L.e L.g (L.ng (i + 1 + 1) (by omega)) (by omega) ?_)
        refine ⟨_, rfl, rfl, _, rfl, ?_⟩
        by_cases h1 : i + 1 = 1
        · refine onT (decide_eq_true (by rw [h1]; rfl)) (js2 (fun R r => ⟨_, rfl, r⟩) L.l L.e L.g1 ?_)
          rw [nmG_one]
          refine ⟨_, rfl, by show 3 ≤ sizeLine; decide, fun p np => ⟨_, rfl, ?_⟩⟩
          have hd3 : upd H2 p (.tup [.int 1, .str (KX.nmG wd 1), .str (KX.nmG wd (i + 1 + 1))]) d = some (.dK kvs) := by rw [upd_ne (ne_of_none h2 np)]; exact h2
          refine js3 (i := i + 1) (fun R r => ⟨_, rfl, r⟩) (fun R r => ⟨_, rfl, r⟩) L.l L.e L.g (L.ng (i + 1) (by omega)) (by omega) ⟨d, _, rfl, DPut.k (k := Sum.inr (KX.nmG wd (i + 1))) hd3 hkl, ?_⟩
          refine ⟨_, _, _, rfl, sameU (sameN2 s2 np) nd1, upd_same, ?_⟩
          rw [List.range_succ, List.map_append, List.map_cons, List.map_nil, KX.putAll_snoc]
          refine rows_put hd3 (kvs_same hp (sameN np)) ⟨p, rfl, ?_⟩
          rw [upd_same]
          simp only [KX.gapRn, if_pos hlt, if_pos h1]
          rfl
        · refine onF (decide_eq_false (by intro z; cases z; exact h1 rfl)) (js2 (fun R r => ⟨_, rfl, r⟩) L.l L.e L.f1 ?_)
          rw [nmF_one]
          refine ⟨_, rfl, by show 3 ≤ sizeLine; decide, fun p np => ⟨_, rfl, ?_⟩⟩
          have hd3 : upd H2 p (.tup [.int 1, .str (KX.nmF wd 1), .str (KX.nmG wd (i + 1 + 1))]) d = some (.dK kvs) := by rw [upd_ne (ne_of_none h2 np)]; exact h2
          refine js3 (i := i + 1) (fun R r => ⟨_, rfl, r⟩) (fun R r => ⟨_, rfl, r⟩) L.l L.e L.g (L.ng (i + 1) (by omega)) (by omega) ⟨d, _, rfl, DPut.k (k := Sum.inr (KX.nmG wd (i + 1))) hd3 hkl, ?_⟩
          refine ⟨_, _, _, rfl, sameU (sameN2 s2 np) nd1, upd_same, ?_⟩
          rw [List.range_succ, List.map_append, List.map_cons, List.map_nil, KX.putAll_snoc]
          refine rows_put hd3 (kvs_same hp (sameN np)) ⟨p, rfl, ?_⟩
          rw [upd_same]
          simp only [KX.gapRn, if_pos hlt, if_neg h1]
          rfl
      · refine onF (decide_eq_false (by omega)) ⟨_, rfl, ?_⟩
        refine ⟨_, rfl, rfl, _, rfl, ?_⟩
        by_cases h1 : i + 1 = 1
        · refine onT (decide_eq_true (by rw [h1]; rfl)) (js2 (fun R r => ⟨_, rfl, r⟩) L.l L.e L.g1 ?_)
          rw [nmG_one]
          refine ⟨_, rfl, by show 3 ≤ sizeLine; decide, fun p np => ⟨_, rfl, ?_⟩⟩
          have hd3 : upd H2 p (.tup [.int 1, .str (KX.nmG wd 1), .str wd]) d = some (.dK kvs) := by rw [upd_ne (ne_of_none h2 np)]; exact h2
          refine js3 (i := i + 1) (fun R r => ⟨_, rfl, r⟩) (fun R r => ⟨_, rfl, r⟩) L.l L.e L.g (L.ng (i + 1) (by omega)) (by omega) ⟨d, _, rfl, DPut.k (k := Sum.inr (KX.nmG wd (i + 1))) hd3 hkl, ?_⟩
          refine ⟨_, _, _, rfl, sameU (sameN2 s2 np) nd1, upd_same, ?_⟩
          rw [List.range_succ, List.map_append, List.map_cons, List.map_nil, KX.putAll_snoc]
          refine rows_put hd3 (kvs_same hp (sameN np)) ⟨p, rfl, ?_⟩
          rw [upd_same]
          simp only [KX.gapRn, if_neg hlt, if_pos h1]
          rfl
        · refine onF (decide_eq_false (by intro z; cases z; exact h1 rfl)) (js2 (fun R r => ⟨_, rfl, r⟩) L.l L.e L.f1 ?_)
          rw [nmF_one]
          refine ⟨_, rfl, by show 3 ≤ sizeLine; decide, fun p np => ⟨_, rfl, ?_⟩⟩
          have hd3 : upd H2 p (.tup [.int 1, .str (KX.nmF wd 1), .str wd]) d = some (.dK kvs) := by rw [upd_ne (ne_of_none h2 np)]; exact h2
          refine js3 (i := i + 1) (fun R r => ⟨_, rfl, r⟩) (fun R r => ⟨_, rfl, r⟩) L.l L.e L.g (L.ng (i + 1) (by omega)) (by omega) ⟨d, _, rfl, DPut.k (k := Sum.inr (KX.nmG wd (i + 1))) hd3 hkl, ?_⟩
          refine ⟨_, _, _, rfl, sameU (sameN2 s2 np) nd1, upd_same, ?_⟩
          rw [List.range_succ, List.map_append, List.map_cons, List.map_nil, KX.putAll_snoc]
          refine rows_put hd3 (kvs_same hp (sameN np)) ⟨p, rfl, ?_⟩
          rw [upd_same]
          simp only [KX.gapRn, if_neg hlt, if_neg h1]
          rfl
    · rintro σ H3 ⟨x4, x5, kvs, rfl, s3, h3, hp3⟩
      exact ⟨_, rfl, q _ _ s3 nd1 ⟨kvs, h3, hp3⟩⟩
end
end SB
end
section
set_option maxRecDepth 100000
set_option maxHeartbeats 4000000
/-! Walks: end_rows. -/
namespace SB
open PySem PySem.Spec PyProof.Rows L2
section
variable {P : Program} {w : World} {K : PySem.W.Frag} {mg : Str → Option Value} {base : Heap}
abbrev s_end_rows : Stmt := top 30
abbrev n_end_rows : List Str := ["bits", "limit", "early", "late", "rows", "spot", "word"]
theorem sc_end_rows : FnScope n_end_rows ["bits", "limit", "early", "late"] (defScope s_end_rows) := ⟨rfl, rfl, rfl, by decide +kernel, rfl, by decide +kernel, by decide +kernel⟩
def sp_end_rows : Sp := fun vs H Q _ => ∃ (bits limit : Nat) (ea la : Str), vs = [.int bits, .int limit, .str ea, .str la] ∧ KX.W4 ea ∧ KX.W4 la ∧ bits ≤ 10 ∧ ∀ H' a, Same H H' → H a = none → RowsD H' a (KX.endRows bits limit ea la) → Q (.ref a) H'
theorem ok_end_rows {f : Addr} {fd : FuncData} (F : Fun K "end_rows" "end_rows" s_end_rows f fd) (G : Gb mg) : FnOk P w K mg base CX0 1 f fd ["bits", "limit", "early", "late"] sp_end_rows := by
  refine F.ok sc_end_rows (fun vs H Q E h => ?_) (fun cdv A outer s H vs Q E hr h => ?_)
  · obtain ⟨bits, limit, ea, la, rfl, _⟩ := h
    rfl
  · obtain ⟨bits, limit, ea, la, rfl, he, hl, hb, q⟩ := h
    have nd := sc_end_rows.nd
    have hu := hu_of hr
    refine ⟨_, pss_cons (ps_set (i := 4) nd rfl (.inl rfl) pe_dnewK)
      (pss_cons (ps_for PassesOwn.never rfl (pi_range2 (by rfl) G.range (pa_cons pe_int (pa_cons (pe_op op_add (pv 0) pe_int) pa_nil))) (pg_name (i := 5) nd rfl (.inl rfl))
        (pss_cons (ps_set (i := 6) nd rfl (.inl rfl) (pe_ifExp (pt_cmpR op_le (pv 5) (pv 1) (nomark _)) (pv 2) (pv 3)))
        (pss_one (ps_dput hu (pv 4) (pe_joined (.cons pe_str (.cons (pe_fmt (pv 5)) .nil))) (pe_tup (pa_cons pe_int (pa_cons (pe_joined (.cons (pe_fmt (pv 6)) (.cons pe_str .nil))) (pa_cons (pe_ifExp (pt_cmpR op_lt (pv 5) (pv 0) (nomark _)) (pe_joined (.cons pe_str (.cons (pe_fmt (pe_op op_add (pv 5) pe_int)) .nil))) (pv 3)) pa_nil)))) rfl))))
      (pss_one (ps_ret (pv 4)))), ?_⟩
    intro d nd0
    have nd1 : H d = none := nd0
    have b1 : (((bits : Int) + 1) - 1).toNat = bits := by omega
    refine ⟨_, rfl, _, _, rfl, rfl, 1, _, rfl, ⟨by omega, by omega, by omega, by omega⟩, ?_⟩
    rw [b1]
    refine for_it walk_range (fun i σ H2 => ∃ (x5 x6 : Option V) (kvs : List (Key × V)), σ = [some (.int bits), some (.int limit), some (.str ea), some (.str la), some (.ref d), x5, x6] ∧ Same H H2 ∧ H2 d = some (.dK kvs) ∧ Paired (KvAt H2) kvs (KX.putAll [] ((List.range i).map (KX.endRn bits limit ea la))))
      ⟨_, _, [], rfl, sameN nd1, upd_same, .nil⟩ (fun _ _ _ _ _ => True.intro) ?_ ?_
    · rintro i x σ H2_ H2 hi ⟨x4, x5, kvs, rfl, s2, h2, hp⟩ ⟨rfl, ex⟩
      have ex2 : x = .int ((i + 1 : Nat) : Int) := ex.trans (congrArg V.int (show (1 : Int) + (i : Nat) = ((i + 1 : Nat) : Int) by omega))
      subst ex2
      have hkl : kvs.length < sizeLine := by
        refine small_len (n := 100) ?_
        rw [paired_len hp]
        have := KX.len_putAll [] ((List.range i).map (KX.endRn bits limit ea la))
        rw [List.length_map, List.length_range, List.length_nil] at this
        omega
      refine ⟨_, rfl, _, rfl, _, _, rfl, rfl, _, rfl, ?_⟩
      by_cases hle : i + 1 ≤ limit
      · refine onT (decide_eq_true (by omega)) ⟨_, rfl, ?_⟩
        show tJs [tFmt (tVar 6), tC (V.str " flag 1")] Str.empty _ _ _
        refine js2 (fun R r => ⟨_, rfl, r⟩) (w4l he).l (w4l he).e (w4l he).f1 ?_
        rw [nmF_one]
        refine ⟨_, rfl, _, rfl, _, _, rfl, rfl, _, rfl, ?_⟩
        by_cases hlt : i + 1 < bits
        · refine onT (decide_eq_true (by omega)) (js2i (i := i + 1 + 1) (fun R r => ⟨_, rfl, _, _, rfl, rfl, r⟩) e_lens.1 (e_lens.2 (i + 1 + 1) (List.mem_range.mpr (by omega))) (by omega) ?_)
          refine ⟨by show 3 ≤ sizeLine; decide, fun p np => ⟨_, rfl, ?_⟩⟩
          have hd3 : upd H2 p (.tup [.int 1, .str (KX.nmF ea 1), .str (KX.nmE (i + 1 + 1))]) d = some (.dK kvs) := by rw [upd_ne (ne_of_none h2 np)]; exact h2
          refine js2i (i := i + 1) (fun R r => ⟨_, rfl, r⟩) e_lens.1 (e_lens.2 (i + 1) (List.mem_range.mpr (by omega))) (by omega) ⟨d, _, rfl, DPut.k (k := Sum.inr (KX.nmE (i + 1))) hd3 hkl, ?_⟩
          refine ⟨_, _, _, rfl, sameU (sameN2 s2 np) nd1, upd_same, ?_⟩
          rw [List.range_succ, List.map_append, List.map_cons, List.map_nil, KX.putAll_snoc]
          refine rows_put hd3 (kvs_same hp (sameN np)) ⟨p, rfl, ?_⟩
          rw [upd_same]
          simp only [KX.endRn, if_pos hle, if_pos hlt]
          rfl
        · refine onF (decide_eq_false (by omega)) ⟨_, rfl, ?_⟩
          refine ⟨by show 3 ≤ sizeLine; decide, fun p np => ⟨_, rfl, ?_⟩⟩
          have hd3 : upd H2 p (.tup [.int 1, .str (KX.nmF ea 1), .str la]) d = some (.dK kvs) := by rw [upd_ne (ne_of_none h2 np)]; exact h2
          refine js2i (i := i + 1) (fun R r => ⟨_, rfl, r⟩) e_lens.1 (e_lens.2 (i + 1) (List.mem_range.mpr (by omega))) (by omega) ⟨d, _, rfl, DPut.k (k := Sum.inr (KX.nmE (i + 1))) hd3 hkl, ?_⟩
          refine ⟨_, _, _, rfl, sameU (sameN2 s2 np) nd1, upd_same, ?_⟩
          rw [List.range_succ, List.map_append, List.map_cons, List.map_nil, KX.putAll_snoc]
          refine rows_put hd3 (kvs_same hp (sameN np)) ⟨p, rfl, ?_⟩
          rw [upd_same]
          simp only [KX.endRn, if_pos hle, if_neg hlt]
          rfl
      · refine onF (decide_eq_false (by omega)) ⟨_, rfl, ?_⟩
        show tJs [tFmt (tVar 6), tC (V.str " flag 1")] Str.empty _ _ _
        refine js2 (fun R r => ⟨_, rfl, r⟩) (w4l hl).l (w4l hl).e (w4l hl).f1 ?_
        rw [nmF_one]
        refine ⟨_, rfl, _, rfl, _, _, rfl, rfl, _, rfl, ?_⟩
        by_cases hlt : i + 1 < bits
        · refine onT (decide_eq_true (by omega)) (js2i (i := i + 1 + 1) (fun R r => ⟨_, rfl, _, _, rfl, rfl, r⟩) e_lens.1 (e_lens.2 (i + 1 + 1) (List.mem_range.mpr (by omega))) (by omega) ?_)
          refine ⟨by show 3 ≤ sizeLine; decide, fun p np => ⟨_, rfl, ?_⟩⟩
          have hd3 : upd H2 p (.tup [.int 1, .str (KX.nmF la 1), .str (KX.nmE (i + 1 + 1))]) d = some (.dK kvs) := by rw [upd_ne (ne_of_none h2 np)]; exact h2
          refine js2i (i := i + 1) (fun R r => ⟨_, rfl, r⟩) e_lens.1 (e_lens.2 (i + 1) (List.mem_range.mpr (by omega))) (by omega) ⟨d, _, rfl, DPut.k (k := Sum.inr (KX.nmE (i + 1))) hd3 hkl, ?_⟩
          refine ⟨_, _, _, rfl, sameU (sameN2 s2 np) nd1, upd_same, ?_⟩
          rw [List.range_succ, List.map_append, List.map_cons, List.map_nil, KX.putAll_snoc]
          refine rows_put hd3 (kvs_same hp (sameN np)) ⟨p, rfl, ?_⟩
          rw [upd_same]
          simp only [KX.endRn, if_neg hle, if_pos hlt]
          rfl
        · refine onF (decide_eq_false (by omega)) ⟨_, rfl, ?_⟩
          refine ⟨by show 3 ≤ sizeLine; decide, fun p np => ⟨_, rfl, ?_⟩⟩
          have hd3 : upd H2 p (.tup [.int 1, .str (KX.nmF la 1), .str la]) d = some (.dK kvs) := by rw [upd_ne (ne_of_none h2 np)]; exact h2
          refine js2i (i := i + 1) (fun R r => ⟨_, rfl, r⟩) e_lens.1 (e_lens.2 (i + 1) (List.mem_range.mpr (by omega))) (by omega) ⟨d, _, rfl, DPut.k (k := Sum.inr (KX.nmE (i + 1))) hd3 hkl, ?_⟩
          refine ⟨_, _, _, rfl, sameU (sameN2 s2 np) nd1, upd_same, ?_⟩
          rw [List.range_succ, List.map_append, List.map_cons, List.map_nil, KX.putAll_snoc]
          refine rows_put hd3 (kvs_same hp (sameN np)) ⟨p, rfl, ?_⟩
          rw [upd_same]
          simp only [KX.endRn, if_neg hle, if_neg hlt]
          rfl
    · rintro σ H3 ⟨x4, x5, kvs, rfl, s3, h3, hp3⟩
      exact ⟨_, rfl, q _ _ s3 nd1 ⟨kvs, h3, hp3⟩⟩
end
end SB
end
section
set_option maxRecDepth 100000
set_option maxHeartbeats 4000000
/-! Walks: how keywords bind. -/
namespace SB
open PySem PySem.Spec PyProof.Rows L2
/-- a def of the text with keyword-only parameters -/
abbrev FunK (K : PySem.W.Frag) (x : Str) (st : Stmt) (kws : List (Str × V)) (f : Addr) (fd : FuncData) : Prop := FunD K x x (defArgs st) (defBody st) (defScope st) [] kws f fd
section
variable {K : PySem.W.Frag} {f : Addr} {fd : FuncData}
abbrev s_counted_end : Stmt := top 31
abbrev p_counted_end : List Str := ["bits", "hearer", "sender", "flag", "gap"]
theorem kb_counted4 {kws : List (Str × V)} (F : FunK K "counted_end" s_counted_end kws f fd) (hk : kws ≠ []) :
    ∃ mv : List Value, KBn K fd p_counted_end 1 ["hearer", "sender", "flag", "gap"] (fun us ws => us ++ ws) (fun vs zs => vs ++ zs) := by
  obtain ⟨mv, h⟩ := FunD.kbinds0 (ps := p_counted_end) F 1 ["hearer", "sender", "flag", "gap"] [] (fun us mv ws => us ++ ws) hk (fun q hq => by cases hq) (fun a b c => a.append c)
    (fun D doc pm an cdv ct us mv ws l1 l2 l3 => match us, mv, ws, l1, l2, l3 with | [_], [], [_, _, _, _], _, _, _ => rfl)
  exact ⟨mv, h⟩
theorem kb_counted2 (F : FunK K "counted_end" s_counted_end [("flag", .int 6), ("gap", .int 8)] f fd) :
    ∃ mv : List Value, KBn K fd p_counted_end 1 ["hearer", "sender"] (fun us ws => us ++ (ws ++ mv)) (fun vs zs => vs ++ (zs ++ [.int 6, .int 8])) := by
  obtain ⟨mv, h⟩ := FunD.kbinds0 (ps := p_counted_end) F 1 ["hearer", "sender"] [("flag", .int 6), ("gap", .int 8)] (fun us mv ws => us ++ (ws ++ mv)) (by simp) (fun q hq => hq) (fun a b c => a.append (c.append b))
    (fun D doc pm an cdv ct us mv ws l1 l2 l3 => match us, mv, ws, l1, l2, l3 with | [_], [_, _], [_, _], _, _, _ => ⟨_, _, _, _, _, _, rfl, rfl, _, _, _, _, _, _, rfl, rfl, rfl⟩)
  exact ⟨mv, h⟩
abbrev s_voting_end : Stmt := top 34
abbrev p_voting_end : List Str := ["votes", "needed", "rounds"]
theorem kb_voting2 {kws : List (Str × V)} (F : FunK K "voting_end" s_voting_end kws f fd) (hk : kws ≠ []) :
    ∃ mv : List Value, KBn K fd p_voting_end 1 ["needed", "rounds"] (fun us ws => us ++ ws) (fun vs zs => vs ++ zs) := by
  obtain ⟨mv, h⟩ := FunD.kbinds0 (ps := p_voting_end) F 1 ["needed", "rounds"] [] (fun us mv ws => us ++ ws) hk (fun q hq => by cases hq) (fun a b c => a.append c)
    (fun D doc pm an cdv ct us mv ws l1 l2 l3 => match us, mv, ws, l1, l2, l3 with | [_], [], [_, _], _, _, _ => rfl)
  exact ⟨mv, h⟩
theorem kb_voting1 (F : FunK K "voting_end" s_voting_end [("rounds", .int 1)] f fd) :
    ∃ mv : List Value, KBn K fd p_voting_end 1 ["needed"] (fun us ws => us ++ (ws ++ mv)) (fun vs zs => vs ++ (zs ++ [.int 1])) := by
  obtain ⟨mv, h⟩ := FunD.kbinds0 (ps := p_voting_end) F 1 ["needed"] [("rounds", .int 1)] (fun us mv ws => us ++ (ws ++ mv)) (by simp) (fun q hq => hq) (fun a b c => a.append (c.append b))
    (fun D doc pm an cdv ct us mv ws l1 l2 l3 => match us, mv, ws, l1, l2, l3 with | [_], [_], [_], _, _, _ => ⟨_, _, _, _, _, _, rfl, rfl, rfl⟩)
  exact ⟨mv, h⟩
abbrev s_sending : Stmt := top 44
abbrev p_sending : List Str := ["end", "hearers", "wrong", "silent"]
theorem kb_sending {kws : List (Str × V)} (F : FunK K "sending" s_sending kws f fd) (hk : kws ≠ []) :
    ∃ mv : List Value, KBn K fd p_sending 2 ["wrong", "silent"] (fun us ws => us ++ ws) (fun vs zs => vs ++ zs) := by
  obtain ⟨mv, h⟩ := FunD.kbinds0 (ps := p_sending) F 2 ["wrong", "silent"] [] (fun us mv ws => us ++ ws) hk (fun q hq => by cases hq) (fun a b c => a.append c)
    (fun D doc pm an cdv ct us mv ws l1 l2 l3 => match us, mv, ws, l1, l2, l3 with | [_, _], [], [_, _], _, _, _ => rfl)
  exact ⟨mv, h⟩
end
/-! ### the call by keywords, of a def that is named so -/
/-- a def of the text with its keywords ks at n positional values -/
structure CalN (P : Program) (w : World) (K : PySem.W.Frag) (mg : Str → Option Value) (base : Heap) (nm : Str) (k : Nat) (ps : List Str) (sp : Sp) (n : Nat) (ks : List Str) (gV : List V → List V → List V) : Prop where
  ex : ∃ f fd g, FnOk P w K mg base CX0 k f fd ps sp ∧ mg nm = some (.ref f) ∧ PySem.W.keepIn K (.ref f) = true ∧ KBn K fd ps n ks g gV
section
variable {X : Cx} {k n : Nat} {ps ks : List Str} {sp : Sp} {nm : Str} {p pos : Pos} {e : Expr} {es : List Expr} {kws : List Keyword} {t tk : TA} {gV : List V → List V → List V}
theorem calN (c : CalN X.prog X.w X.K X.mg X.base nm k ps sp n ks gV) (hr : Room k X.A) (ha : PA X (e :: es) t) (hkw : PK X kws tk) (hg : Gl X nm := by rfl) (hall : (backToKw pos (keywordEach kws X.env)).all (·.1.isSome) = true := by rfl) (hks : (backToKw pos (keywordEach kws X.env)).filterMap (·.1) = ks := by rfl)
    (hdb : (nm == ("__debug__" : Str)) = false := by decide) (he : starEach (e :: es) X.env = (false, eval e X.env) :: starEach es X.env := by rfl)
    (hpl : ((backTo pos (starEach (e :: es) X.env)).any (·.1) || (backToKw pos (keywordEach kws X.env)).any (·.1.isNone)) = false := by rfl) : PE X (.Call (.Name nm p) (e :: es) kws pos) (tCallN n ks.length sp gV E0 t tk) := by
  obtain ⟨f, fd, g, F, hm, hk, hb⟩ := c.ex
  exact pe_callN F hr hg hm hk hb pass0 ha hkw hall hks hdb he hpl
end
end SB
end
section
set_option maxRecDepth 100000
set_option maxHeartbeats 4000000
/-! Walks: counted_end, standard_end. -/
namespace SB
open PySem PySem.Spec PyProof.Rows L2
theorem kvs_merge {H : Hp} : ∀ {more : List (Key × V)} {ms : KX.Rs} {kvs : List (Key × V)} {rs : KX.Rs}, Paired (KvAt H) kvs rs → Paired (KvAt H) more ms → Paired (KvAt H) (mergeK kvs more) (KX.putAll rs ms)
  | _, _, _, _, h, .nil => h
  | (k, v) :: more, (n, r) :: ms, kvs, rs, h, .cons q t => by
    have hk : k = Sum.inr n := q.1
    subst hk
    exact kvs_merge (kvs := putK kvs (Sum.inr n) v) (rs := KX.putA rs n r) (kvs_put h q.2) t
theorem flag_len (w : Str) (flag gap : Nat) : (KX.flagRows w flag gap).length ≤ flag + gap := by
  unfold KX.flagRows
  have h1 := KX.len_putAll [] ((List.range flag).map (KX.flagRn w flag))
  have h2 := KX.len_putAll (KX.putAll [] ((List.range flag).map (KX.flagRn w flag))) ((List.range gap).map (KX.gapRn w gap))
  rw [List.length_map, List.length_range] at h1 h2
  rw [List.length_nil] at h1
  omega
theorem end_len (bits limit : Nat) (ea la : Str) : (KX.endRows bits limit ea la).length ≤ bits := by
  unfold KX.endRows
  have h1 := KX.len_putAll [] ((List.range bits).map (KX.endRn bits limit ea la))
  rw [List.length_map, List.length_range, List.length_nil] at h1
  omega
theorem nmE1 : KX.nmE 1 = "end 1" := by decide +kernel
theorem nmF1 : KX.nmF KX.lostS 1 = "lost flag 1" := by decide +kernel
section
variable {P : Program} {w : World} {K : PySem.W.Frag} {mg : Str → Option Value} {base : Heap} {E : Addr}
abbrev n_counted_end : List Str := ["bits", "hearer", "sender", "flag", "gap", "ears", "mouth", "word"]
theorem sc_counted_end : FnScope n_counted_end p_counted_end (defScope s_counted_end) := ⟨rfl, rfl, rfl, by decide +kernel, rfl, by decide +kernel, by decide +kernel⟩
structure CntOk (bits flag gap : Nat) : Prop where
  b1 : 1 ≤ bits
  b2 : bits ≤ 10
  f1 : 1 ≤ flag
  f2 : flag ≤ 8
  g1 : 1 ≤ gap
  g2 : gap ≤ 8
def sp_counted_end (E : Addr) : Sp := fun vs H Q _ => ∃ (bits h s flag gap : Nat), vs = [.int bits, .int h, .int s, .int flag, .int gap] ∧ CntOk bits flag gap ∧
  ∀ H' y, Same H H' → EndAt E H' y (KX.leastRows (KX.cpH bits h flag gap).hm 2) (KX.leastRows (KX.cpS bits s flag gap).sm 1) → Q (.ref y) H'
theorem ok_counted_end {f : Addr} {fd : FuncData} {kws : List (Str × V)} (F : FunK K "counted_end" s_counted_end kws f fd) (T : TxE K mg E) (C1 : Cal P w K mg base "end_rows" 1 ["bits", "limit", "early", "late"] sp_end_rows)
    (C2 : Cal P w K mg base "flag_rows" 1 ["word", "flag", "gap"] sp_flag_rows) (C3 : Cal P w K mg base "numbered" 1 ["rows", "firsts"] (sp_numbered K)) (C4 : Cal P w K mg base "least" 7 ["end"] (sp_least E))
    (I : CalC P w K mg base E "End" 5 ["self", "hearer", "sender"] (sp_end_init E)) : FnOk P w K mg base CX0 8 f fd p_counted_end (sp_counted_end E) := by
  have G := T.G
  refine FunD.ok F sc_counted_end (fun vs H Q E h => ?_) (fun cdv A outer s H vs Q E' hr h => ?_)
  · obtain ⟨bits, h, s, flag, gap, rfl, _⟩ := h
    rfl
  · obtain ⟨bits, hl, sl, flag, gap, rfl, hC, q⟩ := h
    have nd := sc_counted_end.nd
    have r1 := hr.mono (show 1 ≤ 7 by decide)
    obtain ⟨b1, b2, f1, f2, g1, g2⟩ := id hC
    have w4lost : KX.W4 KX.lostS := by simp [KX.W4]
    have w4taken : KX.W4 KX.takenS := by simp [KX.W4]
    have w4again : KX.W4 KX.againS := by simp [KX.W4]
    have w4done : KX.W4 KX.doneS := by simp [KX.W4]
    suffices hh : ∃ t, PSs (cxOf CX0 P w K mg base n_counted_end "counted_end" (defScope s_counted_end) f cdv A outer s H E').nox (defBody s_counted_end) t ∧ t { nx := fun _ H' => Q .non H', rt := Q } (start n_counted_end [.int bits, .int hl, .int sl, .int flag, .int gap]) H by
      obtain ⟨t, h1, h2⟩ := hh
      exact ⟨t, h1.nox, h2⟩
    refine ⟨_, pss_cons (ps_par (i := 5) (j := 6) rfl nd rfl rfl (by decide) rfl rfl (pa_cons (cal C1 r1 (pa_cons (pv 0) (pa_cons (pv 1) (pa_cons pe_str (pa_cons pe_str pa_nil))))) (pa_cons (cal C1 r1 (pa_cons (pv 0) (pa_cons (pv 2) (pa_cons pe_str (pa_cons pe_str pa_nil))))) pa_nil)) rfl)
      (pss_cons (ps_for PassesOwn.never rfl (tupK K (pe_tup (pa_cons pe_str (pa_cons pe_str pa_nil)))) (pg_name (i := 7) nd rfl (.inl rfl)) (pss_one (ps_expr (pe_dupd (pv 5) (cal C2 r1 (pa_cons (pv 7) (pa_cons (pv 3) (pa_cons (pv 4) pa_nil)))) ⟨rfl, rfl, rfl, rfl⟩))))
      (pss_cons (ps_for PassesOwn.never rfl (tupK K (pe_tup (pa_cons pe_str (pa_cons pe_str pa_nil)))) (pg_name (i := 7) nd rfl (.inl rfl)) (pss_one (ps_expr (pe_dupd (pv 6) (cal C2 r1 (pa_cons (pv 7) (pa_cons (pv 3) (pa_cons (pv 4) pa_nil)))) ⟨rfl, rfl, rfl, rfl⟩))))
      (pss_one (ps_ret (cal C4 hr (pa_cons (calC I (hr.mono (by decide)) (pa_cons (cal C3 r1 (pa_cons (pv 5) (pa_cons (pe_lst (pa_cons pe_str (pa_cons pe_str pa_nil))) pa_nil))) (pa_cons (cal C3 r1 (pa_cons (pv 6) (pa_cons (pe_lst (pa_cons pe_str pa_nil)) pa_nil))) pa_nil))) pa_nil)))))), ?_⟩
    refine ⟨_, rfl, _, rfl, bits, hl, KX.lostS, KX.takenS, rfl, w4lost, w4taken, by omega, fun H1 ea s1 nea re => ?_⟩
    refine ⟨_, rfl, _, rfl, bits, sl, KX.againS, KX.doneS, rfl, w4again, w4done, by omega, fun H2 mo s2 nmo rm => ⟨_, _, rfl, ?_⟩⟩
    obtain ⟨ke, he, pe⟩ := rowsD_same re s2
    obtain ⟨km, hm, pm⟩ := rm
    have nmo' : H mo = none := noneOf s1 nmo
    have hem : ea ≠ mo := by
      obtain ⟨k0, h0, _⟩ := re
      exact ne_of_none h0 nmo
    have s12 := s1.trans s2
    refine ⟨by show 2 ≤ sizeLine; decide, fun tt1 nt1 => ⟨_, rfl, ⟨_, .inl (.inl upd_same)⟩, ?_⟩⟩
    have st1 := s12.trans (sameN (o := .tup [.str KX.lostS, .str KX.takenS]) nt1)
    refine for_it walk_tup (fun i σ H5 => ∃ (x7 : Option V) (ke km : List (Key × V)), σ = [some (.int bits), some (.int hl), some (.int sl), some (.int flag), some (.int gap), some (.ref ea), some (.ref mo), x7] ∧ Same H H5 ∧ H5 tt1 = some (.tup [.str KX.lostS, .str KX.takenS]) ∧
        H5 ea = some (.dK ke) ∧ Paired (KvAt H5) ke (if i = 0 then KX.endRows bits hl KX.lostS KX.takenS else if i = 1 then KX.putAll (KX.endRows bits hl KX.lostS KX.takenS) (KX.flagRows KX.lostS flag gap) else KX.putAll (KX.putAll (KX.endRows bits hl KX.lostS KX.takenS) (KX.flagRows KX.lostS flag gap)) (KX.flagRows KX.takenS flag gap)) ∧
        H5 mo = some (.dK km) ∧ Paired (KvAt H5) km (KX.endRows bits sl KX.againS KX.doneS))
      ⟨_, ke, km, rfl, st1, upd_same, sameN nt1 _ _ he, kvs_same pe (sameN nt1), sameN nt1 _ _ hm, kvs_same pm (sameN nt1)⟩ (fun i σ H5 _ ⟨_, _, _, _, _, ht, _⟩ => .inl (.inl ht)) ?_ ?_
    · rintro i x σ H5_ H5 hi ⟨x7, ke, km, rfl, s5, ht, hA, pA, hB, pB⟩ ⟨rfl, ex⟩
      have hi2 : i < 2 := hi
      obtain ⟨wd, rfl, hw4, hnext, hlen⟩ : ∃ wd : Str, x = .str wd ∧ KX.W4 wd ∧ (if i + 1 = 0 then KX.endRows bits hl KX.lostS KX.takenS else if i + 1 = 1 then KX.putAll (KX.endRows bits hl KX.lostS KX.takenS) (KX.flagRows KX.lostS flag gap) else KX.putAll (KX.putAll (KX.endRows bits hl KX.lostS KX.takenS) (KX.flagRows KX.lostS flag gap)) (KX.flagRows KX.takenS flag gap)) = KX.putAll (if i = 0 then KX.endRows bits hl KX.lostS KX.takenS else if i = 1 then KX.putAll (KX.endRows bits hl KX.lostS KX.takenS) (KX.flagRows KX.lostS flag gap) else KX.putAll (KX.putAll (KX.endRows bits hl KX.lostS KX.takenS) (KX.flagRows KX.lostS flag gap)) (KX.flagRows KX.takenS flag gap)) (KX.flagRows wd flag gap) ∧
          (if i = 0 then KX.endRows bits hl KX.lostS KX.takenS else if i = 1 then KX.putAll (KX.endRows bits hl KX.lostS KX.takenS) (KX.flagRows KX.lostS flag gap) else KX.putAll (KX.putAll (KX.endRows bits hl KX.lostS KX.takenS) (KX.flagRows KX.lostS flag gap)) (KX.flagRows KX.takenS flag gap)).length ≤ 60 := by
        have l0 := end_len bits hl KX.lostS KX.takenS
        have l1 := flag_len KX.lostS flag gap
        rcases (show i = 0 ∨ i = 1 by omega) with rfl | rfl
        · exact ⟨_, (Option.some.inj ex).symm, w4lost, rfl, show (KX.endRows bits hl KX.lostS KX.takenS).length ≤ 60 by omega⟩
        · refine ⟨_, (Option.some.inj ex).symm, w4taken, rfl, show (KX.putAll (KX.endRows bits hl KX.lostS KX.takenS) (KX.flagRows KX.lostS flag gap)).length ≤ 60 from ?_⟩
          have := KX.len_putAll (KX.endRows bits hl KX.lostS KX.takenS) (KX.flagRows KX.lostS flag gap)
          omega
      refine ⟨_, rfl, ea, rfl, .inl ⟨_, .inl hA⟩, _, rfl, _, rfl, _, rfl, wd, flag, gap, rfl, hw4, by omega, by omega, fun H6 b s6 nb rb => ?_⟩
      obtain ⟨kb, hb, pb⟩ := rb
      have hAb : ea ≠ b := ne_of_none hA nb
      have lb := flag_len wd flag gap
      refine ⟨b, ke, kb, rfl, hAb, s6 _ _ hA, hb, ?_, ?_⟩
      · rw [paired_len pA, paired_len pb]
        exact Nat.le_trans (show _ ≤ 100 by omega) (by decide)
      · rw [hnext]
        have hA6 := s6 _ _ hA
        refine ⟨_, _, km, rfl, sameU (s5.trans s6) nea, by rw [upd_ne (ne_of (s6 _ _ ht) hA6 (by intro z; cases z))]; exact s6 _ _ ht, upd_same, kvs_upd (kvs_merge (kvs_same pA s6) pb) hA6 (fun xs e => by cases e), by rw [upd_ne hem.symm]; exact s6 _ _ hB, kvs_upd (kvs_same pB s6) hA6 (fun xs e => by cases e)⟩
    clear he pe hm pm ke km
    rintro σ H3 ⟨x7, ke, km, rfl, s3, ht3, he, pe, hm, pm⟩
    refine ⟨by show 2 ≤ sizeLine; decide, fun tt2 nt2 => ⟨_, rfl, ⟨_, .inl (.inl upd_same)⟩, ?_⟩⟩
    have st2 := s3.trans (sameN (o := .tup [.str KX.againS, .str KX.doneS]) nt2)
    refine for_it walk_tup (fun i σ H5 => ∃ (x7 : Option V) (ke km : List (Key × V)), σ = [some (.int bits), some (.int hl), some (.int sl), some (.int flag), some (.int gap), some (.ref ea), some (.ref mo), x7] ∧ Same H H5 ∧ H5 tt2 = some (.tup [.str KX.againS, .str KX.doneS]) ∧
        H5 mo = some (.dK km) ∧ Paired (KvAt H5) km (if i = 0 then KX.endRows bits sl KX.againS KX.doneS else if i = 1 then KX.putAll (KX.endRows bits sl KX.againS KX.doneS) (KX.flagRows KX.againS flag gap) else KX.putAll (KX.putAll (KX.endRows bits sl KX.againS KX.doneS) (KX.flagRows KX.againS flag gap)) (KX.flagRows KX.doneS flag gap)) ∧
        H5 ea = some (.dK ke) ∧ Paired (KvAt H5) ke (KX.putAll (KX.putAll (KX.endRows bits hl KX.lostS KX.takenS) (KX.flagRows KX.lostS flag gap)) (KX.flagRows KX.takenS flag gap)))
      ⟨_, ke, km, rfl, st2, upd_same, sameN nt2 _ _ hm, kvs_same pm (sameN nt2), sameN nt2 _ _ he, kvs_same pe (sameN nt2)⟩ (fun i σ H5 _ ⟨_, _, _, _, _, ht, _⟩ => .inl (.inl ht)) ?_ ?_
    · rintro i x σ H5_ H5 hi ⟨x7, ke, km, rfl, s5, ht, hA, pA, hB, pB⟩ ⟨rfl, ex⟩
      have hi2 : i < 2 := hi
      obtain ⟨wd, rfl, hw4, hnext, hlen⟩ : ∃ wd : Str, x = .str wd ∧ KX.W4 wd ∧ (if i + 1 = 0 then KX.endRows bits sl KX.againS KX.doneS else if i + 1 = 1 then KX.putAll (KX.endRows bits sl KX.againS KX.doneS) (KX.flagRows KX.againS flag gap) else KX.putAll (KX.putAll (KX.endRows bits sl KX.againS KX.doneS) (KX.flagRows KX.againS flag gap)) (KX.flagRows KX.doneS flag gap)) = KX.putAll (if i = 0 then KX.endRows bits sl KX.againS KX.doneS else if i = 1 then KX.putAll (KX.endRows bits sl KX.againS KX.doneS) (KX.flagRows KX.againS flag gap) else KX.putAll (KX.putAll (KX.endRows bits sl KX.againS KX.doneS) (KX.flagRows KX.againS flag gap)) (KX.flagRows KX.doneS flag gap)) (KX.flagRows wd flag gap) ∧
          (if i = 0 then KX.endRows bits sl KX.againS KX.doneS else if i = 1 then KX.putAll (KX.endRows bits sl KX.againS KX.doneS) (KX.flagRows KX.againS flag gap) else KX.putAll (KX.putAll (KX.endRows bits sl KX.againS KX.doneS) (KX.flagRows KX.againS flag gap)) (KX.flagRows KX.doneS flag gap)).length ≤ 60 := by
        have l0 := end_len bits sl KX.againS KX.doneS
        have l1 := flag_len KX.againS flag gap
        rcases (show i = 0 ∨ i = 1 by omega) with rfl | rfl
        · exact ⟨_, (Option.some.inj ex).symm, w4again, rfl, show (KX.endRows bits sl KX.againS KX.doneS).length ≤ 60 by omega⟩
        · refine ⟨_, (Option.some.inj ex).symm, w4done, rfl, show (KX.putAll (KX.endRows bits sl KX.againS KX.doneS) (KX.flagRows KX.againS flag gap)).length ≤ 60 from ?_⟩
          have := KX.len_putAll (KX.endRows bits sl KX.againS KX.doneS) (KX.flagRows KX.againS flag gap)
          omega
      refine ⟨_, rfl, mo, rfl, .inl ⟨_, .inl hA⟩, _, rfl, _, rfl, _, rfl, wd, flag, gap, rfl, hw4, by omega, by omega, fun H6 b s6 nb rb => ?_⟩
      obtain ⟨kb, hb, pb⟩ := rb
      have hAb : mo ≠ b := ne_of_none hA nb
      have lb := flag_len wd flag gap
      refine ⟨b, km, kb, rfl, hAb, s6 _ _ hA, hb, ?_, ?_⟩
      · rw [paired_len pA, paired_len pb]
        exact Nat.le_trans (show _ ≤ 100 by omega) (by decide)
      · rw [hnext]
        have hA6 := s6 _ _ hA
        refine ⟨_, ke, _, rfl, sameU (s5.trans s6) nmo', by rw [upd_ne (ne_of (s6 _ _ ht) hA6 (by intro z; cases z))]; exact s6 _ _ ht, upd_same, kvs_upd (kvs_merge (kvs_same pA s6) pb) hA6 (fun xs e => by cases e), by rw [upd_ne hem]; exact s6 _ _ hB, kvs_upd (kvs_same pB s6) hA6 (fun xs e => by cases e)⟩
    clear he pe hm pm ke km
    rintro σ H4 ⟨x7', ke, km, rfl, s4, ht4, hm, pm, he, pe⟩
    have okH := KX.cpH_ok (limit := hl) b1 b2 f1 f2 g1 g2
    have okS := KX.cpS_ok (limit := sl) b1 b2 f1 f2 g1 g2
    have okV : KX.VE (KX.cpH bits hl flag gap).hm (KX.cpS bits sl flag gap).sm := KX.count_ve okH okS rfl rfl rfl rfl
    have reH : Paired (KvAt H4) ke (KX.cpH bits hl flag gap).rows := pe
    have rmS : Paired (KvAt H4) km (KX.cpS bits sl flag gap).rows := pm
    refine ⟨_, rfl, by show 2 ≤ sizeLine; decide, fun l nl => ?_⟩
    have e5 : Same H4 (upd H4 l (.lst [.str "end 1", .str "lost flag 1"])) := sameN nl
    refine ⟨ea, l, _, [KX.nmE 1, KX.nmF KX.lostS 1], rfl, ⟨ke, e5 _ _ he, kvs_same reH e5⟩, ?_, KX.fs_h okH, (KX.rows_ok okH).len, fun H6 p s6 m6 => ?_⟩
    · rw [upd_same]
      show some (HO.lst [V.str "end 1", V.str "lost flag 1"]) = some (.lst [.str (KX.nmE 1), .str (KX.nmF KX.lostS 1)])
      rw [nmE1, nmF1]
    have s46 := e5.trans s6
    refine ⟨_, rfl, by show 1 ≤ sizeLine; decide, fun l2 nl2 => ?_⟩
    have e7 : Same H6 (upd H6 l2 (.lst [.str "end 1"])) := sameN nl2
    refine ⟨mo, l2, _, [KX.nmE 1], rfl, ⟨km, e7 _ _ (s46 _ _ hm), kvs_same rmS (s46.trans e7)⟩, ?_, KX.fs_s okS, (KX.rows_ok okS).len, fun H8 p2 s8 m8 => ?_⟩
    · rw [upd_same]
      show some (HO.lst [V.str "end 1"]) = some (.lst [.str (KX.nmE 1)])
      rw [nmE1]
    have s68 := e7.trans s8
    intro y dy ny ndy hne
    refine ⟨y, p, p2, dy, _, _, rfl, upd_same, (m6.same s68).same2 ny ndy, m8.same2 ny ndy, okV, fun H9 s9 hE9 => ⟨rfl, ?_⟩⟩
    have s49 : Same H4 H9 := s46.trans (s68.trans (s9.made ny ndy))
    exact ⟨y, _, _, rfl, hE9, okV, fun H10 z s10 hE10 => q H10 z (s4.trans (s49.trans s10)) hE10⟩
abbrev s_standard_end : Stmt := top 32
theorem sc_standard_end : FnScope [] [] (defScope s_standard_end) := ⟨rfl, rfl, rfl, by decide +kernel, rfl, by decide +kernel, by decide +kernel⟩
def sp_standard_end (E : Addr) : Sp := fun vs H Q _ => vs = [] ∧ ∀ H' y, Same H H' → EndAt E H' y (KX.leastRows (KX.cpH 7 6 6 8).hm 2) (KX.leastRows (KX.cpS 7 7 6 8).sm 1) → Q (.ref y) H'
theorem ok_standard_end {f : Addr} {fd : FuncData} (F : Fun K "standard_end" "standard_end" s_standard_end f fd)
    (C : CalN P w K mg base "counted_end" 8 p_counted_end (sp_counted_end E) 1 ["hearer", "sender"] (fun vs zs => vs ++ (zs ++ [.int 6, .int 8]))) : FnOk P w K mg base CX0 9 f fd [] (sp_standard_end E) := by
  refine F.ok sc_standard_end (fun vs H Q E h => ?_) (fun cdv A outer s H vs Q E' hr h => ?_)
  · obtain ⟨rfl, _⟩ := h
    rfl
  · obtain ⟨rfl, q⟩ := h
    refine ⟨_, pss_one (ps_ret (calN C hr (pa_cons pe_int pa_nil) (pk_cons pe_int (pk_cons pe_int pk_nil)))), ?_⟩
    exact ⟨rfl, rfl, 7, 6, 7, 6, 8, rfl, ⟨by decide, by decide, by decide, by decide, by decide, by decide⟩, q⟩
end
end SB
end
section
set_option maxRecDepth 100000
set_option maxHeartbeats 4000000
/-! Walks: vote_rows. -/
namespace SB
open PySem PySem.Spec PyProof.Rows L2

abbrev ts (n : Nat) : Str := ((toString (n : Int) : String) : Str)
theorem w_lens : ∀ t ∈ List.range 4, (Str.empty ++ ("warned " : Str)).length ≤ 1000 ∧ ((Str.empty ++ ("warned " : Str)) ++ ts t).length ≤ 1000 ∧ (((Str.empty ++ ("warned " : Str)) ++ ts t) ++ (" 0" : Str)).length ≤ 1000 ∧ (((Str.empty ++ ("warned " : Str)) ++ ts t) ++ (" " : Str)).length ≤ 1000 ∧
    (Str.empty ++ ("calm " : Str)).length ≤ 1000 ∧ ((Str.empty ++ ("calm " : Str)) ++ ts t).length ≤ 1000 ∧ (((Str.empty ++ ("calm " : Str)) ++ ts t) ++ (" 0 0" : Str)).length ≤ 1000 ∧ (((Str.empty ++ ("calm " : Str)) ++ ts t) ++ (" " : Str)).length ≤ 1000 ∧
    ∀ s ∈ List.range 8, (KX.nmW t s).length ≤ 1000 ∧ ((((Str.empty ++ ("calm " : Str)) ++ ts t) ++ (" " : Str)) ++ ts s).length ≤ 1000 ∧ (((((Str.empty ++ ("calm " : Str)) ++ ts t) ++ (" " : Str)) ++ ts s) ++ (" " : Str)).length ≤ 1000 ∧
      ∀ k ∈ List.range 8, (KX.nmC t s k).length ≤ 1000 := by decide +kernel
theorem one_w0 : (" " : Str) ++ ts 0 = " 0" := by decide +kernel
theorem one_c0 : ((" " : Str) ++ ts 0) ++ ((" " : Str) ++ ts 0) = " 0 0" := by decide +kernel
theorem nmW_0 (t : Nat) : ((Str.empty ++ ("warned " : Str)) ++ ts t) ++ (" 0" : Str) = KX.nmW t 0 := by
  unfold KX.nmW
  rw [str_assoc _ (" " : Str)]
  show _ = _ ++ ((" " : Str) ++ ts 0)
  rw [one_w0]
theorem nmC_0 (t : Nat) : ((Str.empty ++ ("calm " : Str)) ++ ts t) ++ (" 0 0" : Str) = KX.nmC t 0 0 := by
  show _ = ((((((Str.empty ++ ("calm " : Str)) ++ ts t) ++ (" " : Str)) ++ ts 0) ++ (" " : Str)) ++ ts 0)
  rw [← one_c0]
  simp only [str_assoc]
section
variable {t0 t1 t2 : TE} {σ : L2.St} {H : Hp} {t s k : Nat} {Q : Str → Hp → Prop}
theorem jsW (h0 : ∀ R : VK, R (.int (t : Int)) H → t0 σ H R) (h1 : ∀ R : VK, R (.int (s : Int)) H → t1 σ H R) (ht : t < 4) (hs : s < 8) (q : Q (KX.nmW t s) H) : tJs [tC (.str "warned "), tFmt t0, tC (.str " "), tFmt t1] Str.empty σ H Q := by
  obtain ⟨a1, a2, a3, a4, a5, a6, a7, a8, a9⟩ := w_lens t (List.mem_range.mpr ht)
  obtain ⟨b1, b2, b3, b4⟩ := a9 s (List.mem_range.mpr hs)
  exact ⟨_, rfl, Ln.s a1, h0 _ (.inr ⟨_, rfl, log_small (by omega), _, rfl, Ln.s a2, _, rfl, Ln.s a4, h1 _ (.inr ⟨_, rfl, log_small (by omega), _, rfl, Ln.s b1, q⟩)⟩)⟩
theorem jsW0 (h0 : ∀ R : VK, R (.int (t : Int)) H → t0 σ H R) (ht : t < 4) (q : Q (KX.nmW t 0) H) : tJs [tC (.str "warned "), tFmt t0, tC (.str " 0")] Str.empty σ H Q := by
  obtain ⟨a1, a2, a3, a4, a5, a6, a7, a8, a9⟩ := w_lens t (List.mem_range.mpr ht)
  refine ⟨_, rfl, Ln.s a1, h0 _ (.inr ⟨_, rfl, log_small (by omega), _, rfl, Ln.s a2, _, rfl, Ln.s a3, ?_⟩)⟩
  show Q (((Str.empty ++ ("warned " : Str)) ++ ts t) ++ (" 0" : Str)) H
  rw [nmW_0]
  exact q
theorem jsC (h0 : ∀ R : VK, R (.int (t : Int)) H → t0 σ H R) (h1 : ∀ R : VK, R (.int (s : Int)) H → t1 σ H R) (h2 : ∀ R : VK, R (.int (k : Int)) H → t2 σ H R) (ht : t < 4) (hs : s < 8) (hk : k < 8) (q : Q (KX.nmC t s k) H) :
    tJs [tC (.str "calm "), tFmt t0, tC (.str " "), tFmt t1, tC (.str " "), tFmt t2] Str.empty σ H Q := by
  obtain ⟨a1, a2, a3, a4, a5, a6, a7, a8, a9⟩ := w_lens t (List.mem_range.mpr ht)
  obtain ⟨b1, b2, b3, b4⟩ := a9 s (List.mem_range.mpr hs)
  have c := b4 k (List.mem_range.mpr hk)
  exact ⟨_, rfl, Ln.s a5, h0 _ (.inr ⟨_, rfl, log_small (by omega), _, rfl, Ln.s a6, _, rfl, Ln.s a8, h1 _ (.inr ⟨_, rfl, log_small (by omega), _, rfl, Ln.s b2, _, rfl, Ln.s b3, h2 _ (.inr ⟨_, rfl, log_small (by omega), _, rfl, Ln.s c, q⟩)⟩)⟩)⟩
theorem jsC0 (h0 : ∀ R : VK, R (.int (t : Int)) H → t0 σ H R) (ht : t < 4) (q : Q (KX.nmC t 0 0) H) : tJs [tC (.str "calm "), tFmt t0, tC (.str " 0 0")] Str.empty σ H Q := by
  obtain ⟨a1, a2, a3, a4, a5, a6, a7, a8, a9⟩ := w_lens t (List.mem_range.mpr ht)
  refine ⟨_, rfl, Ln.s a5, h0 _ (.inr ⟨_, rfl, log_small (by omega), _, rfl, Ln.s a6, _, rfl, Ln.s a7, ?_⟩)⟩
  show Q (((Str.empty ++ ("calm " : Str)) ++ ts t) ++ (" 0 0" : Str)) H
  rw [nmC_0]
  exact q
end
/-- a if c else b whose value is told at once -/
def tIfV (tc : TT) (ta tb : TE) : TE := fun σ H Q => tc σ H fun c H1 => ∃ x : V, (c = true → ∀ R : VK, R x H1 → ta σ H1 R) ∧ (c = false → ∀ R : VK, R x H1 → tb σ H1 R) ∧ Q x H1
theorem pe_ifV {X : Cx} {c a b : Expr} {tc : TT} {ta tb : TE} {pos : Pos} (hc : PT X c tc) (ha : PE X a ta) (hb : PE X b tb) (mono : ∀ σ H Q Q', (∀ b H1, Q b H1 → Q' b H1) → tc σ H Q → tc σ H Q') : PE X (.IfExp c a b pos) (tIfV tc ta tb) := by
  refine ⟨fun pins s σ H Q I h => (pe_ifExp hc ha hb).run pins s σ H Q I (mono _ _ _ _ ?_ h)⟩
  rintro k H1 ⟨x, h1, h2, q⟩
  cases k with
  | true => exact iteT (h1 rfl Q q)
  | false => exact iteF (h2 rfl Q q)
theorem mono_v (i : Nat) (σ : L2.St) (H : Hp) (Q Q' : Bool → Hp → Prop) (hQ : ∀ b H1, Q b H1 → Q' b H1) : tB (tVar i) σ H Q → tB (tVar i) σ H Q' := by
  rintro ⟨v, h1, k, h2, h3⟩
  exact ⟨v, h1, k, h2, hQ _ _ h3⟩
theorem flat_succ {α : Type} (f : Nat → List α) (i : Nat) : (List.range (i + 1)).flatMap f = (List.range i).flatMap f ++ f i := by
  rw [List.range_succ, List.flatMap_append]
  simp
theorem flat_le {α : Type} (f : Nat → List α) {m : Nat} (h : ∀ x, (f x).length ≤ m) : ∀ n, ((List.range n).flatMap f).length ≤ n * m
  | 0 => by simp
  | n + 1 => by
    rw [flat_succ, List.length_append]
    have h1 := flat_le f h n
    have h2 := h n
    rw [Nat.succ_mul]
    omega
theorem decV {i j : Nat} : decide (V.int i = V.int j) = decide (i = j) := by
  by_cases h : i = j
  · rw [decide_eq_true h, decide_eq_true (by rw [h])]
  · rw [decide_eq_false h, decide_eq_false (by intro z; injection z with z; exact h (by omega))]
theorem decV' {x : Int} {i j : Nat} (hx : x = i) : decide (V.int x = V.int j) = decide (i = j) := by
  subst hx
  exact decV
section
variable {P : Program} {w : World} {K : PySem.W.Frag} {mg : Str → Option Value} {base : Heap}
abbrev s_vote_rows : Stmt := top 33
abbrev n_vote_rows : List Str := ["votes", "needed", "rounds", "low", "high", "rows", "turn", "is_last", "warned", "calm", "spot", "later", "count", "more", "follow"]
abbrev p_vote_rows : List Str := ["votes", "needed", "rounds", "low", "high"]
theorem sc_vote_rows : FnScope n_vote_rows p_vote_rows (defScope s_vote_rows) := ⟨rfl, rfl, rfl, by decide +kernel, rfl, by decide +kernel, by decide +kernel⟩
def sp_vote_rows : Sp := fun vs H Q _ => ∃ (v : KX.VP), vs = [.int v.votes, .int v.needed, .int v.rounds, .str v.low, .str v.high] ∧ v.Ok ∧ ∀ H' a, Same H H' → H a = none → RowsD H' a v.rows → Q (.ref a) H'
theorem ok_vote_rows {f : Addr} {fd : FuncData} (F : Fun K "vote_rows" "vote_rows" s_vote_rows f fd) (G : Gb mg) : FnOk P w K mg base CX0 1 f fd p_vote_rows sp_vote_rows := by
  refine F.ok sc_vote_rows (fun vs H Q E h => ?_) (fun cdv A outer s H vs Q E hr h => ?_)
  · obtain ⟨v, rfl, _⟩ := h
    rfl
  · obtain ⟨v, rfl, hO, q⟩ := h
    have nd := sc_vote_rows.nd
    have hu := hu_of hr
    refine ⟨_, pss_cons (ps_set (i := 5) nd rfl (.inl rfl) pe_dnewK)
      (pss_cons (ps_for PassesOwn.never rfl (pi_range1 (by rfl) G.range (pa_cons (pv 2) pa_nil)) (pg_name (i := 6) nd rfl (.inl rfl))
        (pss_cons (ps_set (i := 7) nd rfl (.inl rfl) (pe_cmpR op_eq (pe_op op_add (pv 6) pe_int) (pv 2) (nomark _)))
        (pss_cons (ps_set (i := 8) nd rfl (.inl rfl) (pe_ifV (pt_val (pv 7)) (pv 3) (pe_joined (.cons pe_str (.cons (pe_fmt (pe_op op_add (pv 6) pe_int)) (.cons pe_str .nil)))) (mono_v 7)))
        (pss_cons (ps_set (i := 9) nd rfl (.inl rfl) (pe_ifV (pt_val (pv 7)) (pv 4) (pe_joined (.cons pe_str (.cons (pe_fmt (pe_op op_add (pv 6) pe_int)) (.cons pe_str .nil)))) (mono_v 7)))
        (pss_one (ps_for PassesOwn.never rfl (pi_range1 (by rfl) G.range (pa_cons (pv 0) pa_nil)) (pg_name (i := 10) nd rfl (.inl rfl))
          (pss_cons (ps_set (i := 11) nd rfl (.inl rfl) (pe_ifV (pt_cmpR op_lt (pe_op op_add (pv 10) pe_int) (pv 0) (nomark _)) (pe_joined (.cons pe_str (.cons (pe_fmt (pv 6)) (.cons pe_str (.cons (pe_fmt (pe_op op_add (pv 10) pe_int)) .nil))))) (pv 8) (by rintro σ H Q Q' hQ ⟨v, h1, i, j, h2, h3, v2, h4, i2, j2, h5, h6, k, h7, h8⟩; exact ⟨v, h1, i, j, h2, h3, v2, h4, i2, j2, h5, h6, k, h7, hQ _ _ h8⟩)))
          (pss_cons (ps_dput hu (pv 5) (pe_joined (.cons pe_str (.cons (pe_fmt (pv 6)) (.cons pe_str (.cons (pe_fmt (pv 10)) .nil))))) (pe_tup (pa_cons pe_int (pa_cons (pv 11) (pa_cons (pv 11) pa_nil)))) rfl)
          (pss_one (ps_for PassesOwn.never rfl (pi_range1 (by rfl) G.range (pa_cons (pe_op op_add (pe_callB (call_min2 rfl) (by rfl) G.min (by decide +kernel) (pa_cons (pv 10) (pa_cons (pv 1) pa_nil)) (by decide) (by decide)) pe_int) pa_nil)) (pg_name (i := 12) nd rfl (.inl rfl))
            (pss_cons (ps_set (i := 13) nd rfl (.inl rfl) (pe_callB (call_min2 rfl) (by rfl) G.min (by decide +kernel) (pa_cons (pe_op op_add (pv 12) pe_int) (pa_cons (pv 1) pa_nil)) (by decide) (by decide)))
            (pss_cons (ps_if (pt_cmpR op_lt (pe_op op_add (pv 10) pe_int) (pv 0) (nomark _))
              (pss_one (ps_set (i := 14) nd rfl (.inl rfl) (pe_tup (pa_cons (pe_joined (.cons pe_str (.cons (pe_fmt (pv 6)) (.cons pe_str (.cons (pe_fmt (pe_op op_add (pv 10) pe_int)) (.cons pe_str (.cons (pe_fmt (pv 13)) .nil))))))) (pa_cons (pe_joined (.cons pe_str (.cons (pe_fmt (pv 6)) (.cons pe_str (.cons (pe_fmt (pe_op op_add (pv 10) pe_int)) (.cons pe_str (.cons (pe_fmt (pv 12)) .nil))))))) pa_nil)))))
              (pss_one (ps_set (i := 14) nd rfl (.inl rfl) (pe_tup (pa_cons (pe_ifV (pt_cmpR op_eq (pv 13) (pv 1) (nomark _)) (pv 8) (pv 9) (by rintro σ H Q Q' hQ ⟨v, h1, v2, h2, h3, k, h4, h5⟩; exact ⟨v, h1, v2, h2, h3, k, h4, hQ _ _ h5⟩)) (pa_cons (pe_ifV (pt_cmpR op_eq (pv 12) (pv 1) (nomark _)) (pv 8) (pv 9) (by rintro σ H Q Q' hQ ⟨v, h1, v2, h2, h3, k, h4, h5⟩; exact ⟨v, h1, v2, h2, h3, k, h4, hQ _ _ h5⟩)) pa_nil))))))
            (pss_one (ps_dput hu (pv 5) (pe_joined (.cons pe_str (.cons (pe_fmt (pv 6)) (.cons pe_str (.cons (pe_fmt (pv 10)) (.cons pe_str (.cons (pe_fmt (pv 12)) .nil))))))) (pe_tup (pa_cons pe_int (pa_cons (ixTK K (pv 14) pe_int) (pa_cons (ixTK K (pv 14) pe_int) pa_nil)))) rfl))))))))))))))
      (pss_one (ps_ret (pv 5)))), ?_⟩
    have hN := hO
    obtain ⟨v1, v2, n1, n2, r1, r2⟩ := hN
    intro d nd0
    have nd1 : H d = none := nd0
    have hS : ∀ t s, (v.spotL t s).length ≤ 8 := fun t s => by rw [KX.spot_len]; omega
    have hT : ∀ t, (v.turnL t).length ≤ 48 := fun t => by
      have := flat_le (v.spotL t) (hS t) v.votes
      unfold KX.VP.turnL
      have : v.votes * 8 ≤ 48 := by omega
      omega
    refine ⟨_, rfl, _, rfl, by omega, by omega, ?_⟩
    show ∃ W, _
    rw [show ((v.rounds : Nat) : Int).toNat = v.rounds from rfl]
    refine for_it walk_range (fun i σ H2 => ∃ (x6 x7 x8 x9 x10 x11 x12 x13 x14 : Option V) (kvs : List (Key × V)), σ = [some (.int v.votes), some (.int v.needed), some (.int v.rounds), some (.str v.low), some (.str v.high), some (.ref d), x6, x7, x8, x9, x10, x11, x12, x13, x14] ∧ Same H H2 ∧
        H2 d = some (.dK kvs) ∧ Paired (KvAt H2) kvs (KX.putAll [] ((List.range i).flatMap v.turnL)))
      ⟨_, _, _, _, _, _, _, _, _, [], rfl, sameN nd1, upd_same, .nil⟩ (fun _ _ _ _ _ => True.intro) ?_ ?_
    · rintro t x σ H2_ H2 hi ⟨x6, x7, x8, x9, x10, x11, x12, x13, x14, kvs, rfl, s2, h2, hp⟩ ⟨rfl, ex⟩
      have ex2 : x = .int (t : Int) := ex.trans (congrArg V.int (show (0 : Int) + (t : Nat) = (t : Int) by omega))
      subst ex2
      have ht4 : t + 1 < 4 := by omega
      refine ⟨_, rfl, _, _, rfl, rfl, _, rfl, rfl, ?_⟩
      have eL := decV' (x := (t : Int) + 1) (i := t + 1) (j := v.rounds) (by omega)
      refine ⟨_, rfl, _, rfl, .str (v.warned t), fun hc R r => ?_, fun hc R r => ?_, ?_⟩
      · have e : v.warned t = v.low := if_pos (of_decide_eq_true (eL.symm.trans hc))
        rw [e] at r
        exact ⟨_, rfl, r⟩
      · have e : v.warned t = KX.nmW (t + 1) 0 := if_neg (of_decide_eq_false (eL.symm.trans hc))
        rw [e] at r
        exact jsW0 (t := t + 1) (fun R r => ⟨_, rfl, _, _, rfl, rfl, r⟩) ht4 r
      refine ⟨_, rfl, _, rfl, .str (v.calm t), fun hc R r => ?_, fun hc R r => ?_, ?_⟩
      · have e : v.calm t = v.high := if_pos (of_decide_eq_true (eL.symm.trans hc))
        rw [e] at r
        exact ⟨_, rfl, r⟩
      · have e : v.calm t = KX.nmC (t + 1) 0 0 := if_neg (of_decide_eq_false (eL.symm.trans hc))
        rw [e] at r
        exact jsC0 (t := t + 1) (fun R r => ⟨_, rfl, _, _, rfl, rfl, r⟩) ht4 r
      refine ⟨_, rfl, _, rfl, by omega, by omega, ?_⟩
      rw [show ((v.votes : Nat) : Int).toNat = v.votes from rfl]
      refine for_it walk_range (fun j σ H3 => ∃ (x10 x11 x12 x13 x14 : Option V) (kvs : List (Key × V)), σ = [some (.int v.votes), some (.int v.needed), some (.int v.rounds), some (.str v.low), some (.str v.high), some (.ref d), some (.int t), some (.bl (decide (V.int ((t : Int) + 1) = V.int v.rounds))), some (.str (v.warned t)), some (.str (v.calm t)), x10, x11, x12, x13, x14] ∧ Same H H3 ∧
        H3 d = some (.dK kvs) ∧ Paired (KvAt H3) kvs (KX.putAll [] ((List.range t).flatMap v.turnL ++ (List.range j).flatMap (v.spotL t))))
        ⟨_, _, _, _, _, kvs, rfl, s2, h2, by rw [List.range_zero, List.flatMap_nil, List.append_nil]; exact hp⟩ (fun _ _ _ _ _ => True.intro) ?_ ?_
      · clear s2 h2 hp
        rintro j x σ H3_ H3 hj ⟨x10, x11, x12, x13, x14, kvs, rfl, s3, h3, hp⟩ ⟨rfl, ex⟩
        have ex2 : x = .int (j : Int) := ex.trans (congrArg V.int (show (0 : Int) + (j : Nat) = (j : Int) by omega))
        subst ex2
        have hkl : ∀ {H' : Hp} {kvs' : List (Key × V)} {l : KX.Rs}, Paired (KvAt H') kvs' (KX.putAll [] l) → l.length ≤ 900 → kvs'.length < sizeLine := fun h hl => by
          refine small_len (n := 900) ?_
          rw [paired_len h]
          have := KX.len_putAll [] ‹KX.Rs›
          rw [List.length_nil] at this
          omega
        have hA := flat_le v.turnL hT t
        have hB := flat_le (v.spotL t) (hS t) j
        have hA2 : t * 48 ≤ 144 := by omega
        have hB2 : j * 8 ≤ 48 := by omega
        refine ⟨_, rfl, _, _, rfl, rfl, _, rfl, _, _, rfl, rfl, _, rfl, ?_⟩
        refine ⟨.str (v.later t j), fun hc R r => ?_, fun hc R r => ?_, ?_⟩
        · have e : v.later t j = KX.nmW t (j + 1) := if_pos (by have := of_decide_eq_true hc; omega)
          rw [e] at r
          exact jsW (t := t) (s := j + 1) (fun R r => ⟨_, rfl, r⟩) (fun R r => ⟨_, rfl, _, _, rfl, rfl, r⟩) (by omega) (by omega) r
        · have e : v.later t j = v.warned t := if_neg (by have := of_decide_eq_false hc; omega)
          rw [e] at r
          exact ⟨_, rfl, r⟩
        refine ⟨_, rfl, _, rfl, by show 3 ≤ sizeLine; decide, fun p np => ⟨_, rfl, ?_⟩⟩
        have hd3 : upd H3 p (.tup [.int 0, .str (v.later t j), .str (v.later t j)]) d = some (.dK kvs) := by rw [upd_ne (ne_of_none h3 np)]; exact h3
        refine jsW (t := t) (s := j) (fun R r => ⟨_, rfl, r⟩) (fun R r => ⟨_, rfl, r⟩) (by omega) (by omega) ⟨d, _, rfl, DPut.k (k := Sum.inr (KX.nmW t j)) hd3 (hkl hp (by rw [List.length_append]; omega)), ?_⟩
        have hp4 := rows_put (n := KX.nmW t j) (r := ⟨0, v.later t j, v.later t j⟩) (v := .ref p) hd3 (kvs_same hp (sameN np)) ⟨p, rfl, upd_same⟩
        have s4 := sameU (o := .dK (putK kvs (Sum.inr (KX.nmW t j)) (.ref p))) (sameN2 (o := .tup [.int 0, .str (v.later t j), .str (v.later t j)]) s3 np) nd1
        have h4 : upd (upd H3 p (.tup [.int 0, .str (v.later t j), .str (v.later t j)])) d (.dK (putK kvs (Sum.inr (KX.nmW t j)) (.ref p))) d = some (.dK (putK kvs (Sum.inr (KX.nmW t j)) (.ref p))) := upd_same
        generalize upd (upd H3 p (.tup [.int 0, .str (v.later t j), .str (v.later t j)])) d (.dK (putK kvs (Sum.inr (KX.nmW t j)) (.ref p))) = H4 at hp4 s4 h4
        generalize putK kvs (Sum.inr (KX.nmW t j)) (.ref p) = kv4 at hp4 h4
        clear hd3 hp h3 kvs s3
        have hmn : (if (v.needed : Int) < (j : Int) then (v.needed : Int) else (j : Int)) = ((min j v.needed : Nat) : Int) := by
          split <;> omega
        refine ⟨_, rfl, _, rfl, _, _, rfl, ?_⟩
        rw [hmn]
        refine ⟨_, _, rfl, rfl, _, rfl, by omega, by omega, ?_⟩
        rw [show (((min j v.needed : Nat) : Int) + 1).toNat = min j v.needed + 1 from rfl]
        have hflat : (List.range t).flatMap v.turnL ++ (List.range (j + 1)).flatMap (v.spotL t) = ((List.range t).flatMap v.turnL ++ (List.range j).flatMap (v.spotL t)) ++ v.spotL t j := by
          rw [flat_succ, List.append_assoc]
        generalize hL : (List.range t).flatMap v.turnL ++ (List.range j).flatMap (v.spotL t) = L at hp4 hflat
        have hLl : L.length ≤ 192 := by rw [← hL, List.length_append]; omega
        have hp4' : Paired (KvAt H4) kv4 (KX.putAll [] (L ++ [v.wRn t j])) := by
          rw [KX.putAll_snoc]
          exact hp4
        refine for_it walk_range (fun k σ H5 => ∃ (x12 x13 x14 : Option V) (kvs : List (Key × V)), σ = [some (.int v.votes), some (.int v.needed), some (.int v.rounds), some (.str v.low), some (.str v.high), some (.ref d), some (.int t), some (.bl (decide (V.int ((t : Int) + 1) = V.int v.rounds))), some (.str (v.warned t)), some (.str (v.calm t)), some (.int j), some (.str (v.later t j)), x12, x13, x14] ∧ Same H H5 ∧
          H5 d = some (.dK kvs) ∧ Paired (KvAt H5) kvs (KX.putAll [] (L ++ v.wRn t j :: (List.range k).map (v.cRn t j))))
          ⟨_, _, _, kv4, rfl, s4, h4, hp4'⟩ (fun _ _ _ _ _ => True.intro) ?_ ?_
        · clear hp4' hp4 h4 s4 kv4 x12 x13 x14
          rintro k x σ H5_ H5 hk ⟨x12, x13, x14, kvs, rfl, s5, h5, hp⟩ ⟨rfl, ex⟩
          have ex2 : x = .int (k : Int) := ex.trans (congrArg V.int (show (0 : Int) + (k : Nat) = (k : Int) by omega))
          subst ex2
          have hmn2 : (if (v.needed : Int) < (k : Int) + 1 then (v.needed : Int) else (k : Int) + 1) = ((min (k + 1) v.needed : Nat) : Int) := by
            split <;> omega
          refine ⟨_, rfl, _, _, rfl, rfl, _, rfl, _, _, rfl, ?_⟩
          rw [hmn2]
          refine ⟨_, rfl, _, _, rfl, rfl, _, rfl, _, _, rfl, rfl, _, rfl, ?_⟩
          have hlen5 : kvs.length < sizeLine := hkl hp (by rw [List.length_append, List.length_cons, List.length_map, List.length_range]; omega)
          have hnext : L ++ v.wRn t j :: (List.range (k + 1)).map (v.cRn t j) = (L ++ v.wRn t j :: (List.range k).map (v.cRn t j)) ++ [v.cRn t j k] := by
            rw [List.range_succ, List.map_append]
            simp
          have fin : ∀ (H6 : Hp) (p : Addr) (x12 x13 x14 : Option V), Same H5 H6 → H6 p = some (.tup [.int 1, .str (v.f0 t j k), .str (v.f1 t j k)]) →
              ∃ (a : Addr) (H7 : Hp), V.ref d = .ref a ∧ DPut H6 a (.str (KX.nmC t j k)) (.ref p) H7 ∧ ∃ (y12 y13 y14 : Option V) (kvs : List (Key × V)), [some (.int v.votes), some (.int v.needed), some (.int v.rounds), some (.str v.low), some (.str v.high), some (.ref d), some (.int t), some (.bl (decide (V.int ((t : Int) + 1) = V.int v.rounds))), some (.str (v.warned t)), some (.str (v.calm t)), some (.int j), some (.str (v.later t j)), x12, x13, x14] = [some (.int v.votes), some (.int v.needed), some (.int v.rounds), some (.str v.low), some (.str v.high), some (.ref d), some (.int t), some (.bl (decide (V.int ((t : Int) + 1) = V.int v.rounds))), some (.str (v.warned t)), some (.str (v.calm t)), some (.int j), some (.str (v.later t j)), y12, y13, y14] ∧ Same H H7 ∧
                H7 d = some (.dK kvs) ∧ Paired (KvAt H7) kvs (KX.putAll [] (L ++ v.wRn t j :: (List.range (k + 1)).map (v.cRn t j))) := by
            intro H6 p x12 x13 x14 s6 hp6
            have hd6 := s6 _ _ h5
            refine ⟨d, _, rfl, DPut.k (k := Sum.inr (KX.nmC t j k)) hd6 hlen5, _, _, _, _, rfl, sameU (s5.trans s6) nd1, upd_same, ?_⟩
            rw [hnext, KX.putAll_snoc]
            exact rows_put hd6 (kvs_same hp s6) ⟨p, rfl, hp6⟩
          by_cases hlt : j + 1 < v.votes
          · refine onT (decide_eq_true (by omega)) ?_
            have ef0 : v.f0 t j k = KX.nmC t (j + 1) (min (k + 1) v.needed) := if_pos hlt
            have ef1 : v.f1 t j k = KX.nmC t (j + 1) k := if_pos hlt
            refine jsC (t := t) (s := j + 1) (k := min (k + 1) v.needed) (fun R r => ⟨_, rfl, r⟩) (fun R r => ⟨_, rfl, _, _, rfl, rfl, r⟩) (fun R r => ⟨_, rfl, r⟩) (by omega) (by omega) (by omega) ?_
            refine jsC (t := t) (s := j + 1) (k := k) (fun R r => ⟨_, rfl, r⟩) (fun R r => ⟨_, rfl, _, _, rfl, rfl, r⟩) (fun R r => ⟨_, rfl, r⟩) (by omega) (by omega) (by omega) ?_
            rw [← ef0, ← ef1]
            refine ⟨by show 2 ≤ sizeLine; decide, fun tf ntf => ?_⟩
            refine ⟨_, rfl, tf, _, _, _, rfl, rfl, .inl (.inl upd_same), atI_nat (j := 0) rfl, _, rfl, tf, _, _, _, rfl, rfl, .inl (.inl upd_same), atI_nat (j := 1) rfl, by show 3 ≤ sizeLine; decide, fun p np => ⟨_, rfl, ?_⟩⟩
            exact jsC (t := t) (s := j) (k := k) (fun R r => ⟨_, rfl, r⟩) (fun R r => ⟨_, rfl, r⟩) (fun R r => ⟨_, rfl, r⟩) (by omega) (by omega) (by omega) (fin _ p _ _ _ (sameN2 (sameN ntf) np) upd_same)
          · refine onF (decide_eq_false (by omega)) ?_
            have ef0 : v.f0 t j k = if min (k + 1) v.needed = v.needed then v.warned t else v.calm t := if_neg hlt
            have ef1 : v.f1 t j k = if k = v.needed then v.warned t else v.calm t := if_neg hlt
            refine ⟨_, rfl, _, rfl, rfl, _, rfl, .str (v.f0 t j k), fun hc R r => ?_, fun hc R r => ?_, ?_⟩
            · rw [ef0, if_pos (of_decide_eq_true (decV.symm.trans hc))] at r
              exact ⟨_, rfl, r⟩
            · rw [ef0, if_neg (of_decide_eq_false (decV.symm.trans hc))] at r
              exact ⟨_, rfl, r⟩
            refine ⟨_, rfl, _, rfl, rfl, _, rfl, .str (v.f1 t j k), fun hc R r => ?_, fun hc R r => ?_, ?_⟩
            · rw [ef1, if_pos (of_decide_eq_true (decV.symm.trans hc))] at r
              exact ⟨_, rfl, r⟩
            · rw [ef1, if_neg (of_decide_eq_false (decV.symm.trans hc))] at r
              exact ⟨_, rfl, r⟩
            refine ⟨by show 2 ≤ sizeLine; decide, fun tf ntf => ?_⟩
            refine ⟨_, rfl, tf, _, _, _, rfl, rfl, .inl (.inl upd_same), atI_nat (j := 0) rfl, _, rfl, tf, _, _, _, rfl, rfl, .inl (.inl upd_same), atI_nat (j := 1) rfl, by show 3 ≤ sizeLine; decide, fun p np => ⟨_, rfl, ?_⟩⟩
            exact jsC (t := t) (s := j) (k := k) (fun R r => ⟨_, rfl, r⟩) (fun R r => ⟨_, rfl, r⟩) (fun R r => ⟨_, rfl, r⟩) (by omega) (by omega) (by omega) (fin _ p _ _ _ (sameN2 (sameN ntf) np) upd_same)
        · rintro σ H5 ⟨x12', x13', x14', kvs, rfl, s5, h5, hp⟩
          exact ⟨_, _, _, _, _, kvs, rfl, s5, h5, by rw [hflat]; exact hp⟩
      · rintro σ H3 ⟨x10', x11', x12', x13', x14', kvs', rfl, s3, h3, hp3⟩
        exact ⟨_, _, _, _, _, _, _, _, _, kvs', rfl, s3, h3, by rw [flat_succ]; exact hp3⟩
    · rintro σ H3 ⟨x6, x7, x8, x9, x10, x11, x12, x13, x14, kvs, rfl, s3, h3, hp3⟩
      exact ⟨_, rfl, q _ _ s3 nd1 ⟨kvs, h3, hp3⟩⟩
end
end SB
end
section
set_option maxRecDepth 100000
set_option maxHeartbeats 4000000
/-! Walks: voting_end. -/
namespace SB
open PySem PySem.Spec PyProof.Rows L2
section
variable {P : Program} {w : World} {K : PySem.W.Frag} {mg : Str → Option Value} {base : Heap} {E : Addr}
abbrev n_voting_end : List Str := ["votes", "needed", "rounds", "ears", "mouth"]
theorem sc_voting_end : FnScope n_voting_end p_voting_end (defScope s_voting_end) := ⟨rfl, rfl, rfl, by decide +kernel, rfl, by decide +kernel, by decide +kernel⟩
def vpH (votes needed rounds : Nat) : KX.VP := ⟨votes, needed, rounds, KX.lostS, KX.takenS⟩
def vpS (votes needed rounds : Nat) : KX.VP := ⟨votes, needed, rounds, KX.againS, KX.doneS⟩
def sp_voting_end (E : Addr) : Sp := fun vs H Q _ => ∃ (votes needed rounds : Nat), vs = [.int votes, .int needed, .int rounds] ∧ (vpH votes needed rounds).Ok ∧
  ∀ H' y, Same H H' → EndAt E H' y (KX.leastRows (vpH votes needed rounds).hm 2) (KX.leastRows (vpS votes needed rounds).sm 1) → Q (.ref y) H'
theorem ok_voting_end {f : Addr} {fd : FuncData} {kws : List (Str × V)} (F : FunK K "voting_end" s_voting_end kws f fd) (T : TxE K mg E) (C1 : Cal P w K mg base "vote_rows" 1 p_vote_rows sp_vote_rows)
    (C3 : Cal P w K mg base "numbered" 1 ["rows", "firsts"] (sp_numbered K)) (C4 : Cal P w K mg base "least" 7 ["end"] (sp_least E))
    (I : CalC P w K mg base E "End" 5 ["self", "hearer", "sender"] (sp_end_init E)) : FnOk P w K mg base CX0 8 f fd p_voting_end (sp_voting_end E) := by
  have G := T.G
  refine FunD.ok F sc_voting_end (fun vs H Q E h => ?_) (fun cdv A outer s H vs Q E' hr h => ?_)
  · obtain ⟨votes, needed, rounds, rfl, _⟩ := h
    rfl
  · obtain ⟨votes, needed, rounds, rfl, hO, q⟩ := h
    have nd := sc_voting_end.nd
    have r1 := hr.mono (show 1 ≤ 7 by decide)
    have hS : (vpS votes needed rounds).Ok := ⟨hO.v1, hO.v2, hO.n1, hO.n2, hO.r1, hO.r2⟩
    suffices hh : ∃ t, PSs (cxOf CX0 P w K mg base n_voting_end "voting_end" (defScope s_voting_end) f cdv A outer s H E').nox (defBody s_voting_end) t ∧ t { nx := fun _ H' => Q .non H', rt := Q } (start n_voting_end [.int votes, .int needed, .int rounds]) H by
      obtain ⟨t, h1, h2⟩ := hh
      exact ⟨t, h1.nox, h2⟩
    refine ⟨_, pss_cons (ps_set (i := 3) nd rfl (.inl rfl) (cal C1 r1 (pa_cons (pv 0) (pa_cons (pv 1) (pa_cons (pv 2) (pa_cons pe_str (pa_cons pe_str pa_nil)))))))
      (pss_cons (ps_set (i := 4) nd rfl (.inl rfl) (cal C1 r1 (pa_cons (pv 0) (pa_cons (pv 1) (pa_cons (pv 2) (pa_cons pe_str (pa_cons pe_str pa_nil)))))))
      (pss_one (ps_ret (cal C4 hr (pa_cons (calC I (hr.mono (by decide)) (pa_cons (cal C3 r1 (pa_cons (pv 3) (pa_cons (pe_lst (pa_cons pe_str (pa_cons pe_str pa_nil))) pa_nil))) (pa_cons (cal C3 r1 (pa_cons (pv 4) (pa_cons (pe_lst (pa_cons pe_str pa_nil)) pa_nil))) pa_nil))) pa_nil))))), ?_⟩
    refine ⟨_, rfl, _, rfl, _, rfl, vpH votes needed rounds, rfl, hO, fun H1 ea s1 nea re => ?_⟩
    refine ⟨_, rfl, _, rfl, _, rfl, vpS votes needed rounds, rfl, hS, fun H4 mo s2 nmo rm => ?_⟩
    obtain ⟨ke, he, reH⟩ := rowsD_same re s2
    obtain ⟨km, hm, rmS⟩ := rm
    have s4 := s1.trans s2
    have okV : KX.VE (vpH votes needed rounds).hm (vpS votes needed rounds).sm := KX.vote_ve hO hS rfl rfl rfl rfl
    refine ⟨_, rfl, by show 2 ≤ sizeLine; decide, fun l nl => ?_⟩
    have e5 : Same H4 (upd H4 l (.lst [.str "calm 0 0 0", .str "warned 0 0"])) := sameN nl
    refine ⟨ea, l, _, [("calm 0 0 0" : Str), ("warned 0 0" : Str)], rfl, ⟨ke, e5 _ _ he, kvs_same reH e5⟩, upd_same, KX.vote_fs hO, (KX.vote_ok hO).len, fun H6 p s6 m6 => ?_⟩
    have s46 := e5.trans s6
    refine ⟨_, rfl, by show 1 ≤ sizeLine; decide, fun l2 nl2 => ?_⟩
    have e7 : Same H6 (upd H6 l2 (.lst [.str "calm 0 0 0"])) := sameN nl2
    refine ⟨mo, l2, _, [("calm 0 0 0" : Str)], rfl, ⟨km, e7 _ _ (s46 _ _ hm), kvs_same rmS (s46.trans e7)⟩, upd_same, KX.vote_fs1 hS, (KX.vote_ok hS).len, fun H8 p2 s8 m8 => ?_⟩
    have s68 := e7.trans s8
    intro y dy ny ndy hne
    refine ⟨y, p, p2, dy, _, _, rfl, upd_same, (m6.same s68).same2 ny ndy, m8.same2 ny ndy, okV, fun H9 s9 hE9 => ⟨rfl, ?_⟩⟩
    have s49 : Same H4 H9 := s46.trans (s68.trans (s9.made ny ndy))
    exact ⟨y, _, _, rfl, hE9, okV, fun H10 z s10 hE10 => q H10 z (s4.trans (s49.trans s10)) hE10⟩
end
end SB
end
section
set_option maxRecDepth 100000
set_option maxHeartbeats 4000000
/-! Walks: the class Course. -/
namespace SB
open PySem PySem.Spec PyProof.Rows L2

/-! ### dicts by labels -/
def kvF (m : Nat) (f : Nat → V) : List (Key × V) := (List.range m).map fun (k : Nat) => (Sum.inl (k : Int), f k)
theorem kvF_len (m : Nat) (f : Nat → V) : (kvF m f).length = m := by simp [kvF]
theorem kvF_succ (m : Nat) (f : Nat → V) : kvF (m + 1) f = kvF m f ++ [(Sum.inl (m : Int), f m)] := by simp [kvF, List.range_succ]
theorem valV_kvF_none {m k : Nat} (f : Nat → V) (h : m ≤ k) : valV (kvF m f) (Sum.inl (k : Int)) = none := by
  unfold valV
  rw [Option.map_eq_none_iff, List.find?_eq_none]
  intro x hx
  obtain ⟨z, hz, rfl⟩ := List.mem_map.mp hx
  have := List.mem_range.mp hz
  intro e
  have e2 := of_decide_eq_true e
  injection e2 with e3
  omega
theorem valV_kvF (m : Nat) (f : Nat → V) (k : Nat) : valV (kvF m f) (Sum.inl (k : Int)) = if k < m then some (f k) else none := by
  induction m with
  | zero => exact valV_kvF_none f (Nat.zero_le _)
  | succ m ih =>
    by_cases h : k < m
    · rw [if_pos h] at ih
      rw [if_pos (by omega), kvF_succ]
      unfold valV at ih ⊢
      rw [List.find?_append]
      cases e : (kvF m f).find? fun kv => decide (kv.1 = Sum.inl (k : Int)) with
      | none => rw [e] at ih; cases ih
      | some x => rw [e] at ih; exact ih
    · by_cases e : k = m
      · subst e
        rw [if_pos (by omega), kvF_succ, valV_snoc _ _ _ _ (valV_kvF_none f (Nat.le_refl _)), if_pos rfl]
      · rw [if_neg (by omega)]
        exact valV_kvF_none f (by omega)
theorem putK_kvF {m : Nat} {f : Nat → V} {i : Nat} {v : V} (h : i < m) : putK (kvF m f) (Sum.inl (i : Int)) v = kvF m (fun k => if k = i then v else f k) := by
  unfold putK
  rw [if_pos]
  · unfold kvF
    rw [List.map_map]
    refine List.map_congr_left fun (k : Nat) hk => ?_
    show (if (Sum.inl (k : Int) : Key) = Sum.inl (i : Int) then ((Sum.inl (k : Int) : Key), v) else (Sum.inl (k : Int), f k)) = (Sum.inl (k : Int), if k = i then v else f k)
    by_cases e : k = i
    · subst e
      rw [if_pos rfl, if_pos rfl]
    · rw [if_neg (by intro z; injection z with z; omega), if_neg e]
  · rw [valV_any, valV_kvF, if_pos h]
    rfl
theorem putK_kvF_new {m : Nat} {f : Nat → V} : putK (kvF m f) (Sum.inl (m : Int)) (f m) = kvF (m + 1) f := by
  rw [kvF_succ, putK_new]
  rw [valV_kvF, if_neg (Nat.lt_irrefl m)]

def bV (b : Bool) : V := .int (if b then 1 else 0)
def poV : Option KX.Pl → V
  | none => .non
  | some p => plV p
/-- where a course and its parts lie -/
structure CoA where
  c : Addr
  e : Addr
  dx : Addr
  lb : Addr
  pd : Addr
  ed : Addr
  pp : Addr
  es : List Addr
def CoA.fs (a : CoA) : List (Str × V) := [("end", .ref a.e), ("labels", .ref a.lb), ("places", .ref a.pd), ("ears", .ref a.ed), ("passed", .ref a.pp)]
/-- what a step of the course may change -/
def CoA.own (a : CoA) (b : Addr) : Prop := b = a.pd ∨ b = a.pp ∨ b ∈ a.es
structure CoAt (U : Addr) (H : Hp) (a : CoA) (m : Nat) (r : KX.Run (Option KX.Pl)) : Prop where
  c : H a.c = some (.ins U a.dx a.fs)
  lb : H a.lb = some (.lst ((List.range m).map iv))
  pd : H a.pd = some (.dK (kvF m fun k => poV (r.P k)))
  ed : H a.ed = some (.dK (kvF m fun k => .ref (a.es.getD k 0)))
  pp : H a.pp = some (.lst (r.bits.map bV))
  es : ∀ k x, a.es[k]? = some x → H x = some (.lst ((r.ears k).map bV))
  el : a.es.length = m
  en : a.es.Nodup
  pe : a.pp ∉ a.es
  le : a.lb ∉ a.es
  lp : a.lb ≠ a.pp
  de : a.pd ≠ a.ed
theorem CoAt.same {U : Addr} {H H' : Hp} {a : CoA} {m : Nat} {r : KX.Run (Option KX.Pl)} (h : CoAt U H a m r) (s : Same H H') : CoAt U H' a m r :=
  ⟨s _ _ h.c, s _ _ h.lb, s _ _ h.pd, s _ _ h.ed, s _ _ h.pp, fun k x e => s _ _ (h.es k x e), h.el, h.en, h.pe, h.le, h.lp, h.de⟩

theorem noneX {x q : Addr} {H H' : Hp} {o : HO} (s : SameX x H H') (h : H' q = none) (hx : H' x = some o) : H q = none ∧ q ≠ x := by
  have hne : q ≠ x := ne_of_none' h hx
  refine ⟨?_, hne⟩
  cases e : H q with
  | none => rfl
  | some u => rw [s _ _ hne e] at h; cases h
theorem kvF_congr {m : Nat} {f g : Nat → V} (h : ∀ k, k < m → f k = g k) : kvF m f = kvF m g := List.map_congr_left fun k hk => by
  show (_, f k) = (_, g k)
  rw [h k (List.mem_range.mp hk)]
/-- what is known of Course -/
structure TxU (K : PySem.W.Frag) (mg : Str → Option Value) (U : Addr) : Prop where
  cl : Cls K U
  n1 : NoAttr K U "end"
  n2 : NoAttr K U "labels"
  n3 : NoAttr K U "places"
  n4 : NoAttr K U "ears"
  n5 : NoAttr K U "passed"
  weak : ∃ u, mg "WEAK" = some u ∧ RelV (.int 1) u
section
variable {P : Program} {w : World} {K : PySem.W.Frag} {mg : Str → Option Value} {base : Heap} {E U : Addr}
/-! __init__ -/
abbrev s_co_init : Stmt := inClass (top 39) 0
abbrev n_co_init : List Str := ["self", "end", "labels", "bodies", "label"]
abbrev p_co_init : List Str := ["self", "end", "labels", "bodies"]
theorem sc_co_init : FnScope n_co_init p_co_init (defScope s_co_init) := ⟨rfl, rfl, rfl, by decide +kernel, rfl, by decide +kernel, by decide +kernel⟩
def start0 (bs : List Nat) : KX.Run (Option KX.Pl) := ⟨fun k => some (.ix (if k ∈ bs then 1 else 0)), [], fun _ => []⟩
def sp_co_init (U : Addr) : Sp := fun vs H Q _ => ∃ (x e l b dx m : Nat) (bs : List Nat), vs = [.ref x, .ref e, .ref l, .ref b] ∧ H x = some (.ins U dx []) ∧ H l = some (.lst ((List.range m).map iv)) ∧ H b = some (.lst (bs.map iv)) ∧ m ≤ 100 ∧
  ∀ (H' : Hp) (a : CoA), SameX x H H' → a.c = x → a.e = e → CoAt U H' a m (start0 bs) → (∀ y, a.own y → H y = none) → Q .non H'
theorem ok_co_init {f : Addr} {fd : FuncData} (F : Fun K "__init__" "Course.__init__" s_co_init f fd) (T : TxU K mg U) (G : Gb mg) : FnOk P w K mg base CX0 1 f fd p_co_init (sp_co_init U) := by
  refine F.ok sc_co_init (fun vs H Q E h => ?_) (fun cdv A outer s H vs Q E' hr h => ?_)
  · obtain ⟨x, e, l, b, dx, m, bs, rfl, _⟩ := h
    rfl
  · obtain ⟨x, e, l, b, dx, m, bs, rfl, hx, hl, hb, hm, q⟩ := h
    have nd := sc_co_init.nd
    have hu := hu_of hr
    refine ⟨_, pss_cons (ps_fld (pv 0) (pv 1) rfl)
      (pss_cons (ps_fld (pv 0) (listS G (pv 2)) rfl)
      (pss_cons (ps_fld (pv 0) (pe_dc (own := [("label", 4)]) (g := gName 4) (tt := tYes) rfl nd (pi_list (pv 2)) (blkOk_by (N := n_co_init) (sc := defScope s_co_init) (by decide +kernel)) (fun _ _ _ _ _ => pg_name (i := 4) nd rfl (.inl rfl)) (fun _ _ _ _ _ => pts_nil)
        (fun _ _ _ _ _ => pv 4) (fun _ _ _ _ _ => pe_callTy call_int1 (by rfl) G.int (by decide +kernel) (pa_cons (pe_cmpR (inK K) (pv 4) (pv 3) rfl) pa_nil))) rfl)
      (pss_cons (ps_fld (pv 0) (pe_dc (own := [("label", 4)]) (g := gName 4) (tt := tYes) rfl nd (pi_list (pv 2)) (blkOk_by (N := n_co_init) (sc := defScope s_co_init) (by decide +kernel)) (fun _ _ _ _ _ => pg_name (i := 4) nd rfl (.inl rfl)) (fun _ _ _ _ _ => pts_nil)
        (fun _ _ _ _ _ => pv 4) (fun _ _ _ _ _ => pe_lst pa_nil)) rfl)
      (pss_one (ps_fld (pv 0) (pe_lst pa_nil) rfl))))), ?_⟩
    have hlx : l ≠ x := ne_of hl hx (by intro z; cases z)
    have hbx : b ≠ x := ne_of hb hx (by intro z; cases z)
    refine ⟨_, rfl, _, rfl, x, U, dx, [], rfl, hx, T.cl, T.n1, by show 0 < 1000; decide, ?_⟩
    have x1 : SameX x H (upd H x (.ins U dx (putF "end" (.ref e) []))) := SameX.at
    have h1 : upd H x (.ins U dx (putF "end" (.ref e) [])) x = some (.ins U dx [("end", .ref e)]) := upd_same
    generalize upd H x (.ins U dx (putF "end" (.ref e) [])) = H1 at x1 h1
    have hl1 := x1 _ _ hlx hl
    refine ⟨_, rfl, l, _, rfl, .inl (.inl (.inl hl1)), fun lb nlb => ⟨_, rfl, x, U, dx, _, rfl, (upd_ne (ne_of_none h1 nlb)).trans h1, T.cl, T.n2, by show 1 < 1000; decide, ?_⟩⟩
    obtain ⟨nlbH, lbx⟩ := noneX x1 nlb h1
    have x2 : SameX x H (upd (upd H1 lb (.lst ((List.range m).map iv))) x (.ins U dx (putF "labels" (.ref lb) [("end", .ref e)]))) := (x1.trans (sx (sameN nlb))).trans SameX.at
    have h2 : (upd (upd H1 lb (.lst ((List.range m).map iv))) x (.ins U dx (putF "labels" (.ref lb) [("end", .ref e)]))) x = some (.ins U dx [("end", .ref e), ("labels", .ref lb)]) := upd_same
    have b2 : (upd (upd H1 lb (.lst ((List.range m).map iv))) x (.ins U dx (putF "labels" (.ref lb) [("end", .ref e)]))) lb = some (.lst ((List.range m).map iv)) := by rw [upd_ne lbx]; exact upd_same
    generalize upd (upd H1 lb (.lst ((List.range m).map iv))) x (.ins U dx (putF "labels" (.ref lb) [("end", .ref e)])) = H2 at x2 h2 b2
    have hl2 := x2 _ _ hlx hl
    have hb2 := x2 _ _ hbx hb
    refine ⟨_, rfl, l, rfl, ⟨_, .inl (.inl hl2)⟩, fun pd npd => ?_⟩
    refine dc_it walk_list (fun i H3 => Same H2 H3 ∧ H3 pd = some (.dK (kvF i fun k => poV (some (.ix (if k ∈ bs then 1 else 0)))))) ⟨sameN npd, upd_same⟩ (fun i H3 _ p => .inl (.inl (p.1 _ _ hl2))) ?_ ?_
    · rintro i y H3_ H3 hi ⟨s3, h3⟩ ⟨rfl, ey⟩
      have hi' : i < m := by simpa using hi
      have ey2 : y = .int (i : Int) := by
        rw [List.getElem?_map, List.getElem?_range hi'] at ey
        exact (Option.some.inj ey).symm
      subst ey2
      refine ⟨rfl, tyes ⟨_, rfl, _, rfl, _, rfl, b, _, rfl, .inl (.inl (.inl (s3 _ _ hb2))), rfl, flat_int, .inr ⟨_, rfl, _, Sum.inl (i : Int), rfl, h3, ?_, sameU s3 npd, ?_⟩⟩⟩
      · exact small_len (n := 100) (by rw [kvF_len]; omega)
      · rw [upd_same, ← putK_kvF_new]
        show some (HO.dK (putK _ _ (V.int (if inV (.int (i : Int)) (bs.map iv) = true then 1 else 0)))) = some (.dK (putK _ _ (V.int (((if i ∈ bs then 1 else 0 : Nat)) : Int))))
        rw [inv_int]
        by_cases hm : i ∈ bs
        · rw [if_pos hm, if_pos (decide_eq_true hm)]
          rfl
        · rw [if_neg hm, if_neg (by rw [decide_eq_false hm]; decide)]
          rfl
    rintro H3 ⟨s3, h3⟩
    rw [List.length_map, List.length_range] at h3
    have x3 : SameX x H H3 := x2.trans (sx s3)
    have hx3 := s3 _ _ h2
    refine ⟨_, rfl, x, U, dx, _, rfl, hx3, T.cl, T.n3, by show 2 < 1000; decide, ?_⟩
    obtain ⟨npdH, pdx⟩ := noneX x2 npd h2
    have pdlb : lb ≠ pd := ne_of_none b2 npd
    have x4 : SameX x H (upd H3 x (.ins U dx (putF "places" (.ref pd) [("end", .ref e), ("labels", .ref lb)]))) := x3.trans SameX.at
    have h4 : (upd H3 x (.ins U dx (putF "places" (.ref pd) [("end", .ref e), ("labels", .ref lb)]))) x = some (.ins U dx [("end", .ref e), ("labels", .ref lb), ("places", .ref pd)]) := upd_same
    have b4 : (upd H3 x (.ins U dx (putF "places" (.ref pd) [("end", .ref e), ("labels", .ref lb)]))) lb = some (.lst ((List.range m).map iv)) := by rw [upd_ne lbx]; exact s3 _ _ b2
    have c4 : (upd H3 x (.ins U dx (putF "places" (.ref pd) [("end", .ref e), ("labels", .ref lb)]))) pd = some (.dK (kvF m fun k => poV (some (.ix (if k ∈ bs then 1 else 0))))) := by rw [upd_ne pdx]; exact h3
    generalize upd H3 x (.ins U dx (putF "places" (.ref pd) [("end", .ref e), ("labels", .ref lb)])) = H4 at x4 h4 b4 c4
    have hl4 := x4 _ _ hlx hl
    refine ⟨_, rfl, l, rfl, ⟨_, .inl (.inl hl4)⟩, fun ed ned => ?_⟩
    refine dc_it walk_list (fun i H5 => Same H4 H5 ∧ ∃ es : List Addr, es.length = i ∧ es.Nodup ∧ H5 ed = some (.dK (kvF i fun k => .ref (es.getD k 0))) ∧ ∀ y ∈ es, H5 y = some (.lst []) ∧ H4 y = none) ⟨sameN ned, [], rfl, List.nodup_nil, upd_same, fun y hy => by cases hy⟩ (fun i H3 _ p => .inl (.inl (p.1 _ _ hl4))) ?_ ?_
    · rintro i y H5_ H5 hi ⟨s5, es, e1, e2, e3, e4⟩ ⟨rfl, ey⟩
      have hi' : i < m := by simpa using hi
      have ey2 : y = .int (i : Int) := by
        rw [List.getElem?_map, List.getElem?_range hi'] at ey
        exact (Option.some.inj ey).symm
      subst ey2
      refine ⟨rfl, tyes ⟨_, rfl, by show 0 ≤ sizeLine; decide, fun z nz => ⟨kvF i fun k => .ref (es.getD k 0), Sum.inl (i : Int), rfl, ?_, ?_, ?_⟩⟩⟩
      · rw [upd_ne (ne_of_none e3 nz)]; exact e3
      · exact small_len (n := 100) (by rw [kvF_len]; omega)
      · have nz4 : H4 z = none := noneOf s5 nz
        have hzd : ed ≠ z := ne_of_none e3 nz
        have hze : z ∉ es := fun hz => by rw [(e4 z hz).1] at nz; cases nz
        refine ⟨sameU (sameN2 s5 nz) ned, es ++ [z], by rw [List.length_append, e1]; rfl, KX.nodup_snoc e2 hze, ?_, fun y hy => ?_⟩
        · rw [upd_same]
          have hc : kvF i (fun k => .ref (es.getD k 0)) = kvF i fun k => .ref ((es ++ [z]).getD k 0) := kvF_congr fun k hk => by
            rw [List.getD_eq_getElem?_getD, List.getD_eq_getElem?_getD, List.getElem?_append_left (by omega)]
          have hz : (es ++ [z]).getD i 0 = z := by
            rw [List.getD_eq_getElem?_getD, List.getElem?_append_right (by omega), e1]
            simp
          rw [hc, ← putK_kvF_new, hz]
        · have hyd : y ≠ ed := by
            rcases List.mem_append.mp hy with hy | hy
            · exact fun e => by rw [e] at hy; have := (e4 ed hy).1; rw [e3] at this; cases this
            · cases List.mem_singleton.mp hy
              exact hzd.symm
          rw [upd_ne hyd]
          rcases List.mem_append.mp hy with hy | hy
          · rw [upd_ne (show y ≠ z from fun e' => hze (e' ▸ hy))]
            exact e4 y hy
          · cases List.mem_singleton.mp hy
            exact ⟨upd_same, nz4⟩
    rintro H5 ⟨s5, es, e1, e2, e3, e4⟩
    rw [List.length_map, List.length_range] at e1 e3
    have hx5 := s5 _ _ h4
    have x5 : SameX x H H5 := x4.trans (sx s5)
    refine ⟨_, rfl, x, U, dx, _, rfl, hx5, T.cl, T.n4, by show 3 < 1000; decide, ?_⟩
    obtain ⟨nedH, edx⟩ := noneX x4 ned h4
    have pded : pd ≠ ed := ne_of_none c4 ned
    have esx : ∀ y ∈ es, y ≠ x ∧ H y = none ∧ y ≠ lb ∧ y ≠ pd := fun y hy => by
      obtain ⟨z1, z2⟩ := noneX x4 (e4 y hy).2 h4
      exact ⟨z2, z1, ne_of_none' (e4 y hy).2 b4, ne_of_none' (e4 y hy).2 c4⟩
    have x6 : SameX x H (upd H5 x (.ins U dx (putF "ears" (.ref ed) [("end", .ref e), ("labels", .ref lb), ("places", .ref pd)]))) := x5.trans SameX.at
    have h6 : (upd H5 x (.ins U dx (putF "ears" (.ref ed) [("end", .ref e), ("labels", .ref lb), ("places", .ref pd)]))) x = some (.ins U dx [("end", .ref e), ("labels", .ref lb), ("places", .ref pd), ("ears", .ref ed)]) := upd_same
    have b6 : (upd H5 x (.ins U dx (putF "ears" (.ref ed) [("end", .ref e), ("labels", .ref lb), ("places", .ref pd)]))) lb = some (.lst ((List.range m).map iv)) := by rw [upd_ne lbx]; exact s5 _ _ b4
    have c6 : (upd H5 x (.ins U dx (putF "ears" (.ref ed) [("end", .ref e), ("labels", .ref lb), ("places", .ref pd)]))) pd = some (.dK (kvF m fun k => poV (some (.ix (if k ∈ bs then 1 else 0))))) := by rw [upd_ne pdx]; exact s5 _ _ c4
    have d6 : (upd H5 x (.ins U dx (putF "ears" (.ref ed) [("end", .ref e), ("labels", .ref lb), ("places", .ref pd)]))) ed = some (.dK (kvF m fun k => .ref (es.getD k 0))) := by rw [upd_ne edx]; exact e3
    have e6 : ∀ y ∈ es, (upd H5 x (.ins U dx (putF "ears" (.ref ed) [("end", .ref e), ("labels", .ref lb), ("places", .ref pd)]))) y = some (.lst []) := fun y hy => by rw [upd_ne (esx y hy).1]; exact (e4 y hy).1
    generalize upd H5 x (.ins U dx (putF "ears" (.ref ed) [("end", .ref e), ("labels", .ref lb), ("places", .ref pd)])) = H6 at x6 h6 b6 c6 d6 e6
    refine ⟨by show 0 ≤ sizeLine; decide, fun pp npp => ?_⟩
    have hx7 : upd H6 pp (.lst []) x = _ := (upd_ne (ne_of_none h6 npp)).trans h6
    obtain ⟨nppH, ppx⟩ := noneX x6 npp h6
    refine ⟨_, rfl, x, U, dx, _, rfl, hx7, T.cl, T.n5, by show 4 < 1000; decide, ?_⟩
    have x8 : SameX x H (upd (upd H6 pp (.lst [])) x (.ins U dx (putF "passed" (.ref pp) [("end", .ref e), ("labels", .ref lb), ("places", .ref pd), ("ears", .ref ed)]))) := (x6.trans (sx (sameN npp))).trans SameX.at
    have s7 : Same H6 (upd H6 pp (.lst [])) := sameN npp
    have pes : pp ∉ es := fun hp => by rw [e6 pp hp] at npp; cases npp
    refine q _ ⟨x, e, dx, lb, pd, ed, pp, es⟩ x8 rfl rfl ⟨upd_same, ?_, ?_, ?_, ?_, fun k y hy => ?_, e1, e2, pes, fun hp => (esx lb hp).2.2.1 rfl, ne_of_none b6 npp, pded⟩ ?_
    · show upd _ _ _ lb = _
      rw [upd_ne lbx]; exact s7 _ _ b6
    · show upd _ _ _ pd = _
      rw [upd_ne pdx]; exact s7 _ _ c6
    · show upd _ _ _ ed = _
      rw [upd_ne edx]; exact s7 _ _ d6
    · show upd _ _ _ pp = _
      rw [upd_ne ppx]; exact upd_same
    · have hm2 := List.mem_of_getElem? hy
      rw [upd_ne (esx y hm2).1]
      exact s7 _ _ (e6 y hm2)
    · rintro y (rfl | rfl | hy)
      · exact npdH
      · exact nppH
      · exact (esx y hy).2.1
end
end SB
end
section
set_option maxRecDepth 100000
set_option maxHeartbeats 4000000
/-! Walks: Course.is_going, going, row_of, state. -/
namespace SB
open PySem PySem.Spec PyProof.Rows L2
section
variable {P : Program} {w : World} {K : PySem.W.Frag} {mg : Str → Option Value} {base : Heap} {E U : Addr}
def goes : Option KX.Pl → Bool
  | some (.ix _) => true
  | _ => false
/-! is_going -/
abbrev s_is_going : Stmt := inClass (top 39) 1
theorem sc_is_going : FnScope ["self", "label"] ["self", "label"] (defScope s_is_going) := ⟨rfl, rfl, rfl, by decide +kernel, rfl, by decide +kernel, by decide +kernel⟩
def sp_is_going (U : Addr) : Sp := fun vs H Q _ => ∃ (a : CoA) (m k : Nat) (r : KX.Run (Option KX.Pl)), vs = [.ref a.c, .int k] ∧ CoAt U H a m r ∧ k < m ∧ Q (.bl (goes (r.P k))) H
theorem ok_is_going {f : Addr} {fd : FuncData} (F : Fun K "is_going" "Course.is_going" s_is_going f fd) (T : TxU K mg U) (G : Gb mg) : FnOk P w K mg base CX0 1 f fd ["self", "label"] (sp_is_going U) := by
  refine F.ok sc_is_going (fun vs H Q E h => ?_) (fun cdv A outer s H vs Q E' hr h => ?_)
  · obtain ⟨a, m, k, r, rfl, _⟩ := h
    rfl
  · obtain ⟨a, m, k, r, rfl, hC, hk, q⟩ := h
    have hu := hu_of hr
    refine ⟨_, pss_one (ps_ret (pe_and (pe_cmp (pc_din hu (pv 1) (pe_fld (pv 0) rfl))) (pe_one (isi G (pa_cons (pe_dget hu (pe_fld (pv 0) rfl) (pv 1) (fun _ _ => rfl)) (pa_cons (eInt G) pa_nil)))))), ?_⟩
    have hd : DGet H a.pd (kV (Sum.inl (k : Int))) _ := DGet.k hC.pd
    rw [valV_kvF, if_pos hk] at hd
    refine ⟨_, rfl, _, rfl, a.c, U, _, _, _, rfl, hC.c, T.cl, T.n3, rfl, a.pd, _, rfl, hd, _, rfl, iteT ?_⟩
    refine ⟨_, rfl, a.c, U, _, _, _, rfl, hC.c, T.cl, T.n3, rfl, _, rfl, a.pd, _, rfl, hd, ?_⟩
    cases hp : r.P k with
    | none =>
      rw [hp] at q
      exact ⟨_, _, _, _, _, rfl, .ty _, tx_non, k_ni, q⟩
    | some p =>
      rw [hp] at q
      cases p with
      | ix i => exact ⟨_, _, _, _, _, rfl, .ty _, tx_int _, k_ii, q⟩
      | wd z => exact ⟨_, _, _, _, _, rfl, .ty _, tx_str _, k_si, q⟩
/-! going -/
abbrev s_going : Stmt := inClass (top 39) 2
theorem sc_going : FnScope ["self", "label"] ["self"] (defScope s_going) := ⟨rfl, rfl, rfl, by decide +kernel, rfl, by decide +kernel, by decide +kernel⟩
def goingL (m : Nat) (P : Nat → Option KX.Pl) : List Nat := (List.range m).filter fun k => goes (P k)
def sp_going (U : Addr) : Sp := fun vs H Q _ => ∃ (a : CoA) (m : Nat) (r : KX.Run (Option KX.Pl)), vs = [.ref a.c] ∧ CoAt U H a m r ∧ m ≤ 100 ∧ ∀ H' p, Same H H' → H p = none → H' p = some (.lst ((goingL m r.P).map iv)) → Q (.ref p) H'
theorem ok_going {f : Addr} {fd : FuncData} (F : Fun K "going" "Course.going" s_going f fd) (T : TxU K mg U) (C : CalM P w K mg base U "is_going" 1 ["self", "label"] (sp_is_going U)) : FnOk P w K mg base CX0 2 f fd ["self"] (sp_going U) := by
  refine F.ok sc_going (fun vs H Q E h => ?_) (fun cdv A outer s H vs Q E' hr h => ?_)
  · obtain ⟨a, m, r, rfl, _⟩ := h
    rfl
  · obtain ⟨a, m, r, rfl, hC, hm, q⟩ := h
    have nd := sc_going.nd
    refine ⟨_, pss_one (ps_ret (pe_lc (own := [("label", 1)]) (g := gName 1) (tt := tB (tMeth U "is_going" (sp_is_going U) [] E0 (tVar 0) (tCons (tVar 1) tNil))) rfl nd (pi_list (pe_fld (pv 0) rfl)) (blkOk_by (N := ["self", "label"]) (sc := defScope s_going) (by decide +kernel)) (fun _ _ _ _ _ => pg_name (i := 1) nd rfl (.inl rfl))
      (fun _ _ _ _ _ => pts_one (pt_val (calM C T.cl hr (pv 0) (pa_cons (pv 1) pa_nil)))) (fun _ _ _ _ _ => pv 1))), ?_⟩
    refine ⟨_, rfl, a.c, U, _, _, _, rfl, hC.c, T.cl, T.n2, rfl, a.lb, rfl, ⟨_, .inl (.inl hC.lb)⟩, fun D nD => ?_⟩
    refine lc_it walk_list (fun i H2 => Same H H2 ∧ H2 D = some (.lst ((((List.range m).take i).filter fun k => goes (r.P k)).map iv))) ⟨sameN nD, upd_same⟩ (fun i H2 _ p => .inl (.inl (p.1 _ _ hC.lb))) ?_ ?_
    · rintro i x H2_ H2 hi ⟨s2, h2⟩ ⟨rfl, ex⟩
      have hi' : i < m := by simpa using hi
      have hr0 : (List.range m)[i]? = some i := List.getElem?_range hi'
      have ex2 : x = .int (i : Int) := by
        rw [List.getElem?_map, hr0] at ex
        exact (Option.some.inj ex).symm
      subst ex2
      have hC2 := hC.same s2
      refine ⟨rfl, _, rfl, a.c, a.dx, _, rfl, hC2.c, rfl, _, rfl, a, m, i, r, rfl, hC2, hi', _, rfl, ?_⟩
      by_cases hg : goes (r.P i) = true
      · refine onT hg ⟨_, rfl, _, h2, ?_, sameU s2 nD, ?_⟩
        · refine small_len (n := 100) ?_
          rw [List.length_map]
          refine Nat.le_trans (List.length_filter_le _ _) ?_
          rw [List.length_take, List.length_range]
          omega
        · rw [upd_same, List.take_add_one, hr0]
          show _ = some (HO.lst ((((List.range m).take i ++ [i]).filter fun k => goes (r.P k)).map iv))
          rw [List.filter_append, List.filter_cons_of_pos (p := fun k => goes (r.P k)) (a := i) hg, List.filter_nil, List.map_append]
          rfl
      · refine onF (by simpa using hg) ⟨s2, ?_⟩
        rw [List.take_add_one, hr0]
        show H2 D = some (.lst ((((List.range m).take i ++ [i]).filter fun k => goes (r.P k)).map iv))
        rw [List.filter_append, List.filter_cons_of_neg (p := fun k => goes (r.P k)) (a := i) hg, List.filter_nil, List.append_nil]
        exact h2
    · rintro H2 ⟨s2, h2⟩
      rw [take_all (by rw [List.length_map])] at h2
      exact q _ _ s2 nD h2
/-! row_of -/
abbrev s_row_of : Stmt := inClass (top 39) 3
theorem sc_row_of : FnScope ["self", "label", "machine"] ["self", "label"] (defScope s_row_of) := ⟨rfl, rfl, rfl, by decide +kernel, rfl, by decide +kernel, by decide +kernel⟩
def sp_row_of (E U : Addr) : Sp := fun vs H Q _ => ∃ (a : CoA) (m k i : Nat) (r : KX.Run (Option KX.Pl)) (Mh Ms : KX.Mc), vs = [.ref a.c, .int k] ∧ CoAt U H a m r ∧ EndAt E H a.e Mh Ms ∧ k < m ∧ r.P k = some (.ix i) ∧ i < (KX.mcs Mh Ms k).length ∧
  ∀ x, RowAt H x (KX.rowAt (KX.mcs Mh Ms k) i) → Q x H
theorem ok_row_of {f : Addr} {fd : FuncData} (F : Fun K "row_of" "Course.row_of" s_row_of f fd) (T : TxU K mg U) (TE : TxE K mg E) (h1 : CalP P w K mg base E "hearer" 1 (sp_hearer E)) (h2 : CalP P w K mg base E "sender" 1 (sp_sender E)) : FnOk P w K mg base CX0 3 f fd ["self", "label"] (sp_row_of E U) := by
  refine F.ok sc_row_of (fun vs H Q E h => ?_) (fun cdv A outer s H vs Q E' hr h => ?_)
  · obtain ⟨a, m, k, i, r, Mh, Ms, rfl, _⟩ := h
    rfl
  · obtain ⟨a, m, k, i, r, Mh, Ms, rfl, hC, hE, hk, hp, hi, q⟩ := h
    have nd := sc_row_of.nd
    have hu := hu_of hr
    refine ⟨_, pss_cons (ps_set (i := 2) nd rfl (.inl rfl) (pe_ifExp (pt_cmpR op_eq (pv 1) (pe_ix ix_list (pe_fld (pv 0) rfl) pe_int (fun _ _ => rfl)) (nomark _)) (calP h2 TE.cl hr (pe_fld (pv 0) rfl)) (calP h1 TE.cl hr (pe_fld (pv 0) rfl))))
      (pss_one (ps_ret (pe_ix ix_tup (pv 2) (pe_dget hu (pe_fld (pv 0) rfl) (pv 1) (fun _ _ => rfl)) (fun _ _ => rfl)))), ?_⟩
    have hd : DGet H a.pd (kV (Sum.inl (k : Int))) _ := DGet.k hC.pd
    rw [valV_kvF, if_pos hk, hp] at hd
    have hm0 : ((List.range m).map iv)[0]? = some (.int ((0 : Nat) : Int)) := by
      rw [List.getElem?_map, List.getElem?_range (by omega)]
      rfl
    obtain ⟨dx, p1, p2, p3, e1, e2, e3⟩ := id hE
    have fin : ∀ p, MacT H p (KX.mcs Mh Ms k) → ∃ (p' : Addr) (xs : List V) (j : Int) (v : V), V.ref p = .ref p' ∧ plV (.ix i) = .int j ∧ SqT K H p' xs ∧ atI xs j = some v ∧ Q v H := by
      rintro p ⟨xs, hp1, hp2⟩
      obtain ⟨x, hx1, hx2⟩ := paired_get' hp2 (KX.rowAt_get hi)
      exact ⟨p, xs, _, x, rfl, rfl, .inl (.inl hp1), atI_nat hx1, q x hx2⟩
    refine ⟨_, rfl, _, rfl, a.c, U, _, _, _, rfl, hC.c, T.cl, T.n2, rfl, a.lb, _, _, _, rfl, rfl, .inl (.inl hC.lb), atI_nat (j := 0) hm0, rfl, _, rfl, ?_⟩
    by_cases h0 : k = 0
    · have em : KX.mcs Mh Ms k = Ms := by unfold KX.mcs; rw [if_pos h0]
      rw [em] at fin
      refine onT (decide_eq_true (by rw [h0])) ⟨_, rfl, a.c, U, _, _, _, rfl, hC.c, T.cl, T.n1, rfl, a.e, dx, _, rfl, e1, a.e, Mh, Ms, rfl, hE, fun p hp => ?_⟩
      exact ⟨_, rfl, _, rfl, a.c, U, _, _, _, rfl, hC.c, T.cl, T.n3, rfl, _, rfl, a.pd, _, rfl, hd, fin p hp⟩
    · have em : KX.mcs Mh Ms k = Mh := by unfold KX.mcs; rw [if_neg h0]
      rw [em] at fin
      refine onF (decide_eq_false (by intro z; injection z with z; omega)) ⟨_, rfl, a.c, U, _, _, _, rfl, hC.c, T.cl, T.n1, rfl, a.e, dx, _, rfl, e1, a.e, Mh, Ms, rfl, hE, fun p hp => ?_⟩
      exact ⟨_, rfl, _, rfl, a.c, U, _, _, _, rfl, hC.c, T.cl, T.n3, rfl, _, rfl, a.pd, _, rfl, hd, fin p hp⟩
/-! state -/
abbrev s_state : Stmt := inClass (top 39) 4
theorem sc_state : FnScope ["self", "label"] ["self"] (defScope s_state) := ⟨rfl, rfl, rfl, by decide +kernel, rfl, by decide +kernel, by decide +kernel⟩
def stateV (m : Nat) (P : Nat → Option KX.Pl) : List V := (List.range m).map fun k => poV (P k)
def sp_state (U : Addr) : Sp := fun vs H Q _ => ∃ (a : CoA) (m : Nat) (r : KX.Run (Option KX.Pl)), vs = [.ref a.c] ∧ CoAt U H a m r ∧ m ≤ 100 ∧ ∀ H' p, Same H H' → H p = none → H' p = some (.tup (stateV m r.P)) → Q (.ref p) H'
theorem ok_state {f : Addr} {fd : FuncData} (F : Fun K "state" "Course.state" s_state f fd) (T : TxU K mg U) (G : Gb mg) : FnOk P w K mg base CX0 1 f fd ["self"] (sp_state U) := by
  refine F.ok sc_state (fun vs H Q E h => ?_) (fun cdv A outer s H vs Q E' hr h => ?_)
  · obtain ⟨a, m, r, rfl, _⟩ := h
    rfl
  · obtain ⟨a, m, r, rfl, hC, hm, q⟩ := h
    have nd := sc_state.nd
    have hu := hu_of hr
    refine ⟨_, pss_one (ps_ret (tupleS G (pe_lc (own := [("label", 1)]) (g := gName 1) (tt := tYes) rfl nd (pi_list (pe_fld (pv 0) rfl)) (blkOk_by (N := ["self", "label"]) (sc := defScope s_state) (by decide +kernel)) (fun _ _ _ _ _ => pg_name (i := 1) nd rfl (.inl rfl))
      (fun _ _ _ _ _ => pts_nil) (fun _ _ _ _ _ => pe_dget hu (fldK K (pv 0)) (pv 1) (fun _ _ => rfl))))), ?_⟩
    refine ⟨_, rfl, a.c, U, _, _, _, rfl, hC.c, T.cl, T.n2, rfl, a.lb, rfl, ⟨_, .inl (.inl hC.lb)⟩, fun D nD => ?_⟩
    refine lc_it walk_list (fun i H2 => Same H H2 ∧ H2 D = some (.lst (((List.range m).take i).map fun k => poV (r.P k)))) ⟨sameN nD, upd_same⟩ (fun i H2 _ p => .inl (.inl (p.1 _ _ hC.lb))) ?_ ?_
    · rintro i x H2_ H2 hi ⟨s2, h2⟩ ⟨rfl, ex⟩
      have hi' : i < m := by simpa using hi
      have hr0 : (List.range m)[i]? = some i := List.getElem?_range hi'
      have ex2 : x = .int (i : Int) := by
        rw [List.getElem?_map, hr0] at ex
        exact (Option.some.inj ex).symm
      subst ex2
      have hC2 := hC.same s2
      have hd : DGet H2 a.pd (kV (Sum.inl (i : Int))) _ := DGet.k hC2.pd
      rw [valV_kvF, if_pos hi'] at hd
      refine ⟨rfl, tyes ⟨_, rfl, a.c, U, _, _, _, rfl, hC2.c, T.cl, T.n3, rfl, _, rfl, a.pd, _, rfl, hd, _, h2, ?_, sameU s2 nD, ?_⟩⟩
      · exact small_len (n := 100) (by rw [List.length_map, List.length_take, List.length_range]; omega)
      · rw [upd_same, take_step (fun k => poV (r.P k)) hr0]
    · rintro H2 ⟨s2, h2⟩
      rw [take_all (by rw [List.length_map])] at h2
      exact ⟨D, _, rfl, .inl ⟨.inl (.inl h2), fun p np => q _ _ (sameN2 s2 np) (noneOf s2 np) upd_same⟩⟩
end
end SB
end
section
set_option maxRecDepth 100000
set_option maxHeartbeats 4000000
/-! Walks: Course.step. -/
namespace SB
open PySem PySem.Spec PyProof.Rows L2

/-! ### frames -/
section
variable {S : Addr → Prop} {H H1 H2 : Hp} {p : Addr} {o : HO}
theorem But.rfl' : But S H H := fun _ _ _ h => h
theorem But.trans (a : But S H H1) (b : But S H1 H2) : But S H H2 := fun c u n h => b c u n (a c u n h)
theorem But.at (h : S p) : But S H (upd H p o) := fun b u n e => by
  rw [upd_ne (show b ≠ p from fun z => n (z ▸ h))]
  exact e
theorem bs (s : Same H H1) : But S H H1 := fun b u _ e => s b u e
end
/-! ### the least of some bits -/
theorem min_bits {ns : List Int} (h : ∀ n ∈ ns, n = 0 ∨ n = 1) : minDef 1 ns = if (0 : Int) ∈ ns then 0 else 1 := by
  have key : ∀ (ys : List Int) (y : Int), (y = 0 ∨ y = 1) → (∀ n ∈ ys, n = 0 ∨ n = 1) → ys.foldl (fun a z => if z < a then z else a) y = if (0 : Int) ∈ y :: ys then 0 else 1 := by
    intro ys
    induction ys with
    | nil =>
      intro y hy _
      rcases hy with rfl | rfl <;> simp
    | cons z zs ih =>
      intro y hy hz
      rw [List.foldl_cons, ih _ (by have := hz z (List.mem_cons_self ..); split <;> assumption) fun n hn => hz n (List.mem_cons_of_mem _ hn)]
      have hz0 := hz z (List.mem_cons_self ..)
      rcases hy with rfl | rfl <;> rcases hz0 with rfl | rfl <;> simp
  cases ns with
  | nil => rfl
  | cons y ys => exact key ys y (h y (List.mem_cons_self ..)) fun n hn => h n (List.mem_cons_of_mem _ hn)
theorem atI_go (r : KX.Rw) (e : Bool) : atI (rowV r) (1 + (if e = true then 1 else 0)) = some (plV (r.go e)) := by
  cases e with
  | false => exact atI_nat (xs := rowV r) (j := 1) rfl
  | true => exact atI_nat (xs := rowV r) (j := 2) rfl

/-! ### a course that changes -/
section
variable {U : Addr} {H : Hp} {a : CoA} {m : Nat} {r : KX.Run (Option KX.Pl)}
theorem CoAt.congr (h : CoAt U H a m r) {r' : KX.Run (Option KX.Pl)} (hP : ∀ k, k < m → r.P k = r'.P k) (hb : r.bits = r'.bits) (he : ∀ k, k < m → r.ears k = r'.ears k) : CoAt U H a m r' := by
  refine ⟨h.c, h.lb, ?_, h.ed, hb ▸ h.pp, fun k x e => ?_, h.el, h.en, h.pe, h.le, h.lp, h.de⟩
  · rw [h.pd, kvF_congr fun k hk => by rw [hP k hk]]
  · have hk : k < m := by
      have := (List.getElem?_eq_some_iff.mp e).1
      rw [h.el] at this
      exact this
    rw [← he k hk]
    exact h.es k x e
theorem CoAt.setP (h : CoAt U H a m r) (P : Nat → Option KX.Pl) : CoAt U (upd H a.pd (.dK (kvF m fun k => poV (P k)))) a m { r with P := P } := by
  have hpd := h.pd
  refine ⟨?_, ?_, upd_same, ?_, ?_, fun k x e => ?_, h.el, h.en, h.pe, h.le, h.lp, h.de⟩
  · rw [upd_ne (ne_of h.c hpd (by intro z; cases z))]; exact h.c
  · rw [upd_ne (ne_of h.lb hpd (by intro z; cases z))]; exact h.lb
  · rw [upd_ne h.de.symm]; exact h.ed
  · rw [upd_ne (ne_of h.pp hpd (by intro z; cases z))]; exact h.pp
  · rw [upd_ne (ne_of (h.es k x e) hpd (by intro z; cases z))]; exact h.es k x e
theorem CoAt.setB (h : CoAt U H a m r) (bits : List Bool) : CoAt U (upd H a.pp (.lst (bits.map bV))) a m { r with bits := bits } := by
  have hpp := h.pp
  refine ⟨?_, ?_, ?_, ?_, upd_same, fun k x e => ?_, h.el, h.en, h.pe, h.le, h.lp, h.de⟩
  · rw [upd_ne (ne_of h.c hpp (by intro z; cases z))]; exact h.c
  · rw [upd_ne h.lp]; exact h.lb
  · rw [upd_ne (ne_of h.pd hpp (by intro z; cases z))]; exact h.pd
  · rw [upd_ne (ne_of h.ed hpp (by intro z; cases z))]; exact h.ed
  · rw [upd_ne (show x ≠ a.pp from fun z => h.pe (z ▸ List.mem_of_getElem? e))]; exact h.es k x e
theorem CoAt.setE (h : CoAt U H a m r) {k : Nat} {x : Addr} (hk : a.es[k]? = some x) (l : List Bool) : CoAt U (upd H x (.lst (l.map bV))) a m { r with ears := fun j => if j = k then l else r.ears j } := by
  have hx := h.es k x hk
  have hm := List.mem_of_getElem? hk
  refine ⟨?_, ?_, ?_, ?_, ?_, fun j y e => ?_, h.el, h.en, h.pe, h.le, h.lp, h.de⟩
  · rw [upd_ne (ne_of h.c hx (by intro z; cases z))]; exact h.c
  · rw [upd_ne (show a.lb ≠ x from fun z => h.le (z ▸ hm))]; exact h.lb
  · rw [upd_ne (ne_of h.pd hx (by intro z; cases z))]; exact h.pd
  · rw [upd_ne (ne_of h.ed hx (by intro z; cases z))]; exact h.ed
  · rw [upd_ne (show a.pp ≠ x from fun z => h.pe (z ▸ hm))]; exact h.pp
  · show _ = some (HO.lst ((if j = k then l else r.ears j).map bV))
    by_cases ej : j = k
    · subst ej
      rw [hk] at e
      cases e
      rw [if_pos rfl, upd_same]
    · rw [if_neg ej, upd_ne]
      · exact h.es j y e
      · intro z
        subst z
        obtain ⟨h1, h2⟩ := List.getElem?_eq_some_iff.mp hk
        obtain ⟨h3, h4⟩ := List.getElem?_eq_some_iff.mp e
        exact ej ((List.getElem_inj h.en).mp (h4.trans h2.symm))
theorem CoAt.off (h : CoAt U H a m r) {p : Addr} {u o : HO} (hp : H p = some u) (hu : (∀ l, u ≠ .lst l)) (hi : ∀ C dx fs, u ≠ .ins C dx fs) (h1 : p ≠ a.pd) (h2 : p ≠ a.ed) : CoAt U (upd H p o) a m r := by
  refine ⟨?_, ?_, ?_, ?_, ?_, fun j y e => ?_, h.el, h.en, h.pe, h.le, h.lp, h.de⟩
  · rw [upd_ne (show a.c ≠ p from fun z => by rw [← z, h.c] at hp; exact hi _ _ _ (Option.some.inj hp).symm)]; exact h.c
  · rw [upd_ne (show a.lb ≠ p from fun z => by rw [← z, h.lb] at hp; exact hu _ (Option.some.inj hp).symm)]; exact h.lb
  · rw [upd_ne h1.symm]; exact h.pd
  · rw [upd_ne h2.symm]; exact h.ed
  · rw [upd_ne (show a.pp ≠ p from fun z => by rw [← z, h.pp] at hp; exact hu _ (Option.some.inj hp).symm)]; exact h.pp
  · rw [upd_ne (show y ≠ p from fun z => by rw [← z, h.es j y e] at hp; exact hu _ (Option.some.inj hp).symm)]; exact h.es j y e
end
/-- the rows that are asked for, by label -/
def RkAt (H : Hp) (f : Nat → KX.Rw) (kv : Key × V) (k : Nat) : Prop := kv.1 = Sum.inl (k : Int) ∧ RowAt H kv.2 (f k)
theorem rk_none {H : Hp} {f : Nat → KX.Rw} {k : Nat} : ∀ {kvs : List (Key × V)} {l : List Nat}, Paired (RkAt H f) kvs l → k ∉ l → valV kvs (Sum.inl (k : Int)) = none
  | _, _, .nil, _ => rfl
  | (q, v) :: kvs, j :: l, .cons h t, hk => by
    have e : q = Sum.inl (j : Int) := h.1
    rw [valV_neg (by rw [e]; intro z; injection z with z; exact hk (by rw [show k = j by omega]; exact List.mem_cons_self ..))]
    exact rk_none t fun hm => hk (List.mem_cons_of_mem _ hm)
section
variable {P : Program} {w : World} {K : PySem.W.Frag} {mg : Str → Option Value} {base : Heap} {E U : Addr}
abbrev s_step : Stmt := inClass (top 39) 5
abbrev n_step : List Str := ["self", "wrong", "silent", "label", "rows", "bit", "row", "ear"]
theorem sc_step : FnScope n_step ["self", "wrong", "silent"] (defScope s_step) := ⟨rfl, rfl, rfl, by decide +kernel, rfl, by decide +kernel, by decide +kernel⟩
def sp_step (E U : Addr) : Sp := fun vs H Q _ => ∃ (a : CoA) (wa sa m : Nat) (r : KX.Run (Option KX.Pl)) (Mh Ms : KX.Mc) (wl sl : List Nat), vs = [.ref a.c, .ref wa, .ref sa] ∧ CoAt U H a m r ∧ EndAt E H a.e Mh Ms ∧ KX.VE Mh Ms ∧
  H wa = some (.lst (wl.map iv)) ∧ H sa = some (.lst (sl.map iv)) ∧ ¬ a.own wa ∧ ¬ a.own sa ∧ (∀ k ∈ sl, k < m) ∧ (∀ k i, k < m → r.P k = some (.ix i) → i < (KX.mcs Mh Ms k).length) ∧ m ≤ 100 ∧ r.bits.length ≤ 100000 ∧ (∀ k, (r.ears k).length ≤ 100000) ∧
  ∀ H', But a.own H H' → CoAt U H' a m (KX.stepR (KX.sysB (KX.mcs Mh Ms)) m (fun k => decide (k ∈ sl)) (fun k => decide (k ∈ wl)) r) → Q .non H'
theorem ok_step {f : Addr} {fd : FuncData} (F : Fun K "step" "Course.step" s_step f fd) (T : TxU K mg U) (G : Gb mg) (C1 : CalM P w K mg base U "row_of" 3 ["self", "label"] (sp_row_of E U)) (C2 : CalM P w K mg base U "going" 2 ["self"] (sp_going U)) : FnOk P w K mg base CX0 4 f fd ["self", "wrong", "silent"] (sp_step E U) := by
  refine F.ok sc_step (fun vs H Q E h => ?_) (fun cdv A outer s H vs Q E' hr h => ?_)
  · obtain ⟨a, wa, sa, m, r, Mh, Ms, wl, sl, rfl, _⟩ := h
    rfl
  · obtain ⟨a, wa, sa, m, r, Mh, Ms, wl, sl, rfl, hC, hE, hV, hwa, hsa, nwa, nsa, hsl, hix, hm, hbl, hel, q⟩ := h
    have nd := sc_step.nd
    have hu := hu_of hr
    obtain ⟨uw, gw1, gw2⟩ := T.weak
    refine ⟨_, pss_cons (ps_for PassesOwn.never rfl (pi_list (pv 2)) (pg_name (i := 3) nd rfl (.inl rfl)) (pss_one (ps_dput hu (pe_fld (pv 0) rfl) (pv 3) pe_non rfl)))
      (pss_cons (ps_setDc (i := 4) (own := [("label", 3)]) (g := gName 3) (tt := tYes) rfl nd rfl rfl (sw_trueD rfl rfl rfl rfl) (pi_list (calM0 C2 T.cl (hr.mono (by decide)) (pv 0))) (blkOk_by (N := n_step) (sc := defScope s_step) (by decide +kernel)) (fun _ _ _ _ _ => pg_name (i := 3) nd rfl (.inl rfl)) (fun _ _ _ _ _ => pts_nil)
        (fun _ _ _ _ _ => pv 3) (fun _ _ _ _ _ => calM C1 T.cl hr (pv 0) (pa_cons (pv 3) pa_nil)))
      (pss_cons (ps_set (i := 5) nd rfl (.inl rfl) (pe_callBK (cr_minD rfl hu) (by rfl) G.min (by decide +kernel) (pa_cons (pe_lock (pe_lc (own := [("row", 6)]) (g := gName 6) (tt := tYes) rfl nd (pi_values (pv 4)) (blkOk_by (N := n_step) (sc := defScope s_step) (by decide +kernel)) (fun _ _ _ _ _ => pg_name (i := 6) nd rfl (.inl rfl)) (fun _ _ _ _ _ => pts_nil)
        (fun _ _ _ _ _ => ixTK K (pv 6) pe_int))) pa_nil) (pk_cons (pe_glob rfl gw1 gw2) pk_nil)))
      (pss_cons (apnd (pe_fld (pv 0) rfl) (pv 5))
      (pss_one (ps_lock (ps_for PassesOwn.never rfl (pi_items (pv 4)) (pg_tup rfl (pgs_cons (pg_name (i := 3) nd rfl (.inl rfl)) (pgs_cons (pg_name (i := 6) nd rfl (.inl rfl)) pgs_nil)))
        (pss_cons (ps_set (i := 7) nd rfl (.inl rfl) (pe_ifV (pt_cmpR op_in_seq (pv 3) (pv 1) rfl) (pe_op op_sub pe_int (pv 5)) (pv 5) (by rintro σ H Q Q' hQ ⟨v, h1, v2, h2, p, xs, h3, h4, h5, h6, k, h7, h8⟩; exact ⟨v, h1, v2, h2, p, xs, h3, h4, h5, h6, k, h7, hQ _ _ h8⟩)))
        (pss_cons (apnd (pe_dget hu (pe_fld (pv 0) rfl) (pv 3) (fun _ _ => rfl)) (pv 7))
        (pss_one (ps_dput hu (pe_fld (pv 0) rfl) (pv 3) (ixTK K (pv 6) (pe_op op_add pe_int (pv 7))) rfl)))))))))), ?_⟩
    refine ⟨_, rfl, sa, rfl, ⟨_, .inl (.inl hsa)⟩, ?_⟩
    have opd : a.own a.pd := .inl rfl
    have opp : a.own a.pp := .inr (.inl rfl)
    refine for_it walk_list (fun i σ H2 => (∃ x3 : Option V, σ = [some (.ref a.c), some (.ref wa), some (.ref sa), x3, none, none, none, none]) ∧ But a.own H H2 ∧ CoAt U H2 a m { r with P := fun k => if k ∈ sl.take i then none else r.P k })
      ⟨⟨_, rfl⟩, But.rfl', hC.congr (fun k _ => by simp) rfl fun _ _ => rfl⟩ (fun i σ H2 _ p => .inl (.inl (p.2.1 _ _ nsa hsa))) ?_ ?_
    · rintro i x σ H2_ H2 hi ⟨⟨x3, rfl⟩, b2, hC2⟩ ⟨rfl, ex⟩
      have hi' : i < sl.length := by simpa using hi
      have hg : sl[i]? = some sl[i] := List.getElem?_eq_getElem hi'
      have ex2 : x = .int ((sl[i] : Nat) : Int) := by
        rw [List.getElem?_map, hg] at ex
        exact (Option.some.inj ex).symm
      subst ex2
      have hk : sl[i] < m := hsl _ (List.getElem_mem hi')
      refine ⟨_, rfl, a.c, U, _, _, _, rfl, hC2.c, T.cl, T.n3, rfl, _, rfl, a.pd, _, rfl, DPut.k (k := Sum.inl ((sl[i] : Nat) : Int)) hC2.pd (small_len (n := 100) (by rw [kvF_len]; exact hm)), ?_⟩
      have e : putK (kvF m fun k => poV (if k ∈ sl.take i then none else r.P k)) (Sum.inl ((sl[i] : Nat) : Int)) .non = kvF m fun k => poV (if k ∈ sl.take (i + 1) then none else r.P k) := by
        rw [putK_kvF hk]
        refine kvF_congr fun k _ => ?_
        rw [List.take_add_one, hg]
        by_cases e1 : k = sl[i]
        · rw [if_pos e1, if_pos (by rw [e1]; exact List.mem_append_right _ (by simp))]
          rfl
        · rw [if_neg e1]
          by_cases e2 : k ∈ sl.take i
          · rw [if_pos e2, if_pos (List.mem_append_left _ e2)]
          · rw [if_neg e2, if_neg (by intro z; rcases List.mem_append.mp z with z | z; exact e2 z; exact e1 (by simpa using z))]
      refine ⟨⟨_, rfl⟩, b2.trans (But.at opd), ?_⟩
      show CoAt U (upd H2 a.pd (.dK (putK (kvF m fun k => poV (if k ∈ sl.take i then none else r.P k)) (Sum.inl ((sl[i] : Nat) : Int)) .non))) a m _
      rw [e]
      exact hC2.setP _
    rintro σ H2 ⟨⟨x3, rfl⟩, b2, hC2⟩
    rw [List.length_map] at hC2
    rw [List.take_of_length_le (Nat.le_refl _)] at hC2
    generalize hP1 : KX.hush (KX.sysB (KX.mcs Mh Ms)) (fun k => decide (k ∈ sl)) r.P = P1
    have hC3 : CoAt U H2 a m { r with P := P1 } := hC2.congr (fun k _ => by
      rw [← hP1]
      show (if k ∈ sl then none else r.P k) = (if decide (k ∈ sl) = true then none else r.P k)
      by_cases e : k ∈ sl
      · rw [if_pos e, if_pos (decide_eq_true e)]
      · rw [if_neg e, if_neg (by rw [decide_eq_false e]; decide)]) rfl fun _ _ => rfl
    have hix1 : ∀ k i, k < m → P1 k = some (.ix i) → i < (KX.mcs Mh Ms k).length := fun k i hk e => by
      rw [← hP1] at e
      unfold KX.hush at e
      split at e
      · cases e
      · exact hix k i hk e
    clear hC2
    have hE2 : EndAt E H2 a.e Mh Ms := by
      obtain ⟨dxe, p1, p2, p3, h1, ⟨xs1, h2, h2'⟩, ⟨xs2, h3, h3'⟩⟩ := hE
      have nf : ∀ b o, H b = some o → (∀ l, o ≠ .lst l) → (∀ l, o ≠ .dK l) → H2 b = some o := fun b o hb n1 n2 => by
        refine b2 b o ?_ hb
        rintro (rfl | rfl | hz)
        · rw [hC.pd] at hb; exact n2 _ (Option.some.inj hb).symm
        · rw [hC.pp] at hb; exact n1 _ (Option.some.inj hb).symm
        · obtain ⟨j, hj, e⟩ := List.getElem_of_mem hz
          rw [hC.es j b (by rw [List.getElem?_eq_getElem hj, e])] at hb
          exact n1 _ (Option.some.inj hb).symm
      have rw2 : ∀ {xs M}, RowsV H xs M → RowsV H2 xs M := fun h => Paired.mapP h fun v rr => by
        rintro ⟨p, rfl, hp⟩
        exact ⟨p, rfl, nf _ _ hp (fun l z => by cases z) (fun l z => by cases z)⟩
      exact ⟨dxe, p1, p2, p3, nf _ _ h1 (fun l z => by cases z) (fun l z => by cases z), ⟨xs1, nf _ _ h2 (fun l z => by cases z) (fun l z => by cases z), rw2 h2'⟩, ⟨xs2, nf _ _ h3 (fun l z => by cases z) (fun l z => by cases z), rw2 h3'⟩⟩
    have hwa2 := b2 _ _ nwa hwa
    let rowF : Nat → KX.Rw := fun k => match P1 k with
      | some (.ix i) => KX.rowAt (KX.mcs Mh Ms k) i
      | _ => KX.row0
    have hLmem : ∀ k ∈ goingL m P1, k < m ∧ ∃ i, P1 k = some (.ix i) ∧ rowF k = KX.rowAt (KX.mcs Mh Ms k) i := fun k hk => by
      obtain ⟨h1, h2⟩ := List.mem_filter.mp hk
      refine ⟨List.mem_range.mp h1, ?_⟩
      cases e : P1 k with
      | none => rw [e] at h2; cases h2
      | some p =>
        cases p with
        | wd z => rw [e] at h2; cases h2
        | ix i => exact ⟨i, rfl, by show (match P1 k with | some (.ix i) => KX.rowAt (KX.mcs Mh Ms k) i | _ => KX.row0) = _; rw [e]⟩
    have hLnd : (goingL m P1).Nodup := List.Pairwise.filter _ List.nodup_range
    have hLlen : (goingL m P1).length ≤ 100 := Nat.le_trans (List.length_filter_le _ _) (by rw [List.length_range]; exact hm)
    refine ⟨_, rfl, a.c, a.dx, _, rfl, hC3.c, rfl, a, m, _, rfl, hC3, hm, fun H3 pg s3 npg hpg => ⟨pg, rfl, ⟨_, .inl (.inl hpg)⟩, fun pr npr => ?_⟩⟩
    have hC4 := hC3.same s3
    have hE4 := hE2.same s3
    refine dc_it walk_list (fun i H4 => Same H3 H4 ∧ ∃ kvs, H4 pr = some (.dK kvs) ∧ Paired (RkAt H4 rowF) kvs ((goingL m P1).take i)) ⟨sameN npr, [], upd_same, .nil⟩ (fun i H4 _ p => .inl (.inl (p.1 _ _ hpg))) ?_ ?_
    · rintro i x H4_ H4 hi ⟨s4, kvs, h4, hp4⟩ ⟨rfl, ex⟩
      have hi' : i < (goingL m P1).length := by simpa using hi
      have hg : (goingL m P1)[i]? = some (goingL m P1)[i] := List.getElem?_eq_getElem hi'
      have ex2 : x = .int (((goingL m P1)[i] : Nat) : Int) := by
        have : ((goingL m P1).map iv)[i]? = some x := ex
        rw [List.getElem?_map, hg] at this
        exact (Option.some.inj this).symm
      subst ex2
      obtain ⟨hk, i0, hp0, hrow⟩ := hLmem _ (List.getElem_mem hi')
      generalize (goingL m P1)[i] = k at hg hk hp0 hrow
      refine ⟨rfl, tyes ⟨_, rfl, _, rfl, a.c, a.dx, _, rfl, (hC4.same s4).c, rfl, _, rfl, a, m, k, i0, _, Mh, Ms, rfl, hC4.same s4, hE4.same s4, hk, hp0, hix1 k i0 hk hp0, fun x hx => ⟨kvs, Sum.inl (k : Int), rfl, h4, ?_, sameU s4 npr, _, upd_same, ?_⟩⟩⟩
      · refine small_len (n := 100) ?_
        rw [paired_len hp4, List.length_take]
        omega
      · have hnk : k ∉ (goingL m P1).take i := fun hm2 => by
          obtain ⟨j, hj, e6⟩ := List.getElem_of_mem hm2
          rw [List.length_take] at hj
          rw [List.getElem_take] at e6
          obtain ⟨_, e7⟩ := List.getElem?_eq_some_iff.mp hg
          have := (List.getElem_inj hLnd).mp (e6.trans e7.symm)
          omega
        have mv : ∀ v rr, RowAt H4 v rr → ∀ o, RowAt (upd H4 pr o) v rr := by
          rintro v rr ⟨p, rfl, hp⟩ o
          exact ⟨p, rfl, by rw [upd_ne (ne_of hp h4 (by intro z; cases z))]; exact hp⟩
        rw [putK_new (rk_none hp4 hnk), List.take_add_one, hg]
        refine paired_snoc (Paired.mapP hp4 fun kv j hj => ⟨hj.1, mv _ _ hj.2 _⟩) ⟨rfl, ?_⟩
        rw [hrow]
        exact mv _ _ hx _
    rintro H4 ⟨s4, kvs, h4, hp4⟩
    rw [take_all (by rw [List.length_map])] at hp4
    have hC5 := hC4.same s4
    have npr2 : H2 pr = none := noneOf s3 npr
    have nprH : ∀ o, H pr = some o → a.own pr := fun o ho => Classical.byContradiction fun hn => by rw [b2 _ _ hn ho] at npr2; cases npr2
    have hprd : pr ≠ a.pd := ne_of_none' npr2 hC3.pd
    have hpre : pr ≠ a.ed := ne_of_none' npr2 hC3.ed
    have hprp : pr ≠ a.pp := ne_of_none' npr2 hC3.pp
    have hpro : ¬ a.own pr := by
      rintro (z | z | z)
      · exact hprd z
      · exact hprp z
      · obtain ⟨j, hj, e⟩ := List.getElem_of_mem z
        have := hC3.es j pr (by rw [List.getElem?_eq_getElem hj, e])
        rw [npr2] at this
        cases this
    have nprH' : H pr = none := by
      cases e : H pr with
      | none => rfl
      | some o => exact absurd (nprH o e) hpro
    refine ⟨pr, _, h4, True.intro, fun od => ⟨_, rfl, pr, od, kvs, rfl, upd_same, fun D nD => ?_⟩⟩
    let ns : List Int := (goingL m P1).map fun k => ((rowF k).put : Int)
    have mvf : ∀ {o : HO}, Paired (RkAt (upd H4 pr o) rowF) kvs (goingL m P1) := fun {o} => Paired.mapP hp4 fun kv j hj => ⟨hj.1, by
      obtain ⟨p, e1, hp⟩ := hj.2
      exact ⟨p, e1, by rw [upd_ne (ne_of hp h4 (by intro z; cases z))]; exact hp⟩⟩
    have hpf := mvf (o := .frz od (.dK kvs))
    have hfr : upd H4 pr (.frz od (.dK kvs)) pr = some (.frz od (.dK kvs)) := upd_same
    have sback : ∀ H', Same (upd H4 pr (.frz od (.dK kvs))) H' → Same H4 (upd H' pr (.dK kvs)) := fun H' s => lockSame h4 s
    have nDr : D ≠ pr := ne_of_none' nD upd_same
    generalize upd H4 pr (.frz od (.dK kvs)) = Hf at nD hpf hfr sback
    refine lc_it walk_values (fun i H6 => Same Hf H6 ∧ H6 D = some (.lst ((ns.take i).map V.int))) ⟨sameN nD, upd_same⟩ (fun i H6 _ p => p.1 _ _ hfr) ?_ ?_
    · rintro i x H6_ H6 hi ⟨s6, h6⟩ ⟨rfl, ky, ek⟩
      obtain ⟨k, hk1, hk2, p, e1, hp⟩ := paired_get hpf ek
      have e1' : x = .ref p := e1
      subst e1'
      have hg : ns[i]? = some ((rowF k).put : Int) := by
        show ((goingL m P1).map fun k => ((rowF k).put : Int))[i]? = _
        rw [List.getElem?_map, hk1]
        rfl
      refine ⟨rfl, tyes ⟨_, rfl, p, _, _, _, rfl, rfl, .inl (.inl (s6 _ _ hp)), atI_nat (j := 0) rfl, _, h6, ?_, sameU s6 nD, ?_⟩⟩
      · refine small_len (n := 100) ?_
        rw [List.length_map, List.length_take]
        show min i ((goingL m P1).map _).length ≤ 100
        rw [List.length_map]
        omega
      · rw [upd_same, take_step V.int hg]
    rintro H6 ⟨s6, h6⟩
    rw [take_all (show kvs.length = ((goingL m P1).map _).length by rw [List.length_map]; exact paired_len hp4)] at h6
    refine ⟨s6 _ _ hfr, ?_⟩
    have s7 := sback H6 s6
    have h7 : (upd H6 pr (.dK kvs)) D = some (.lst (ns.map V.int)) := by rw [upd_ne nDr]; exact h6
    have hr7 : (upd H6 pr (.dK kvs)) pr = some (.dK kvs) := upd_same
    generalize upd H6 pr (.dK kvs) = H7 at s7 h7 hr7
    refine ⟨D, ns, 1, rfl, rfl, .inl (.inl h7), ?_⟩
    generalize hb : KX.lineB (KX.sysB (KX.mcs Mh Ms)) m P1 = b
    have hbit : minDef 1 ns = if b = true then 1 else 0 := by
      have hput : ∀ n ∈ ns, n = 0 ∨ n = 1 := fun n hn => by
        obtain ⟨k, hk, rfl⟩ := List.mem_map.mp hn
        obtain ⟨hkm, i, hp0, hrow⟩ := hLmem k hk
        have hl := hix1 k i hkm hp0
        have : (rowF k).put ≤ 1 := by
          rw [hrow]
          unfold KX.mcs at hl ⊢
          split at hl
          · rename_i h0
            rw [if_pos h0]
            exact hV.s.put _ (KX.rowAt_mem hl)
          · rename_i h0
            rw [if_neg h0]
            exact hV.h.put _ (KX.rowAt_mem hl)
        omega
      rw [min_bits hput]
      cases b with
      | true =>
        rw [if_neg]
        · rfl
        · intro hz
          obtain ⟨k, hk, e0⟩ := List.mem_map.mp hz
          obtain ⟨hkm, i, hp0, hrow⟩ := hLmem k hk
          have : KX.lineB (KX.sysB (KX.mcs Mh Ms)) m P1 = false := KX.lineB_false.mpr ⟨k, hkm, by rw [hp0]; rfl, by
            rw [hp0]
            show (KX.rowAt (KX.mcs Mh Ms k) i).put = 0
            rw [← hrow]
            omega⟩
          rw [hb] at this
          cases this
      | false =>
        rw [if_pos]
        · rfl
        · obtain ⟨k, hkm, hl, hp0⟩ := KX.lineB_false.mp hb
          have hg : goes (P1 k) = true := by
            cases e : P1 k with
            | none => rw [e] at hl; cases hl
            | some p =>
              cases p with
              | wd z => rw [e] at hl; cases hl
              | ix i => rfl
          have hkL : k ∈ goingL m P1 := List.mem_filter.mpr ⟨List.mem_range.mpr hkm, hg⟩
          obtain ⟨_, i, e, hrow⟩ := hLmem k hkL
          refine List.mem_map.mpr ⟨k, hkL, ?_⟩
          rw [e] at hp0
          have hp0' : (KX.rowAt (KX.mcs Mh Ms k) i).put = 0 := hp0
          rw [hrow, hp0']
          rfl
    rw [hbit]
    have hC7 := hC5.same s7
    refine ⟨_, rfl, a.c, U, _, _, _, rfl, hC7.c, T.cl, T.n5, rfl, .inl ⟨rfl, _, .inl (.inl hC7.pp)⟩, _, rfl, a.pp, _, _, rfl, rfl, hC7.pp, small_len (n := 100000) (by rw [List.length_map]; exact hbl), ?_⟩
    have eb : (r.bits.map bV ++ [V.int (if b = true then 1 else 0)]) = (r.bits ++ [b]).map bV := by rw [List.map_append]; rfl
    show tLock _ _ _ (upd H7 a.pp (.lst (r.bits.map bV ++ [V.int (if b = true then 1 else 0)])))
    rw [eb]
    have hC8 := hC7.setB (r.bits ++ [b])
    have b8 : But a.own H (upd H7 a.pp (.lst ((r.bits ++ [b]).map bV))) := (b2.trans (bs (s3.trans (s4.trans s7)))).trans (But.at opp)
    have hr8 : (upd H7 a.pp (.lst ((r.bits ++ [b]).map bV))) pr = some (.dK kvs) := by rw [upd_ne hprp]; exact hr7
    have hp8 : Paired (RkAt (upd H7 a.pp (.lst ((r.bits ++ [b]).map bV))) rowF) kvs (goingL m P1) := Paired.mapP hp4 fun kv j hj => ⟨hj.1, by
      obtain ⟨p, e1, hp⟩ := hj.2
      have hp7 := s7 _ _ hp
      exact ⟨p, e1, by rw [upd_ne (ne_of hp7 hC7.pp (by intro z; cases z))]; exact hp7⟩⟩
    generalize upd H7 a.pp (.lst ((r.bits ++ [b]).map bV)) = H8 at hC8 b8 hr8 hp8
    have hwa8 := b8 _ _ nwa hwa
    have hwr : wa ≠ pr := ne_of hwa8 hr8 (by intro z; cases z)
    refine ⟨pr, _, hr8, True.intro, fun od2 => ⟨_, rfl, pr, od2, kvs, rfl, upd_same, ?_⟩⟩
    have hC9 : CoAt U (upd H8 pr (.frz od2 (.dK kvs))) a m _ := hC8.off hr8 (fun l z => by cases z) (fun C dx fs z => by cases z) hprd hpre
    have hp9 : Paired (RkAt (upd H8 pr (.frz od2 (.dK kvs))) rowF) kvs (goingL m P1) := Paired.mapP hp8 fun kv j hj => ⟨hj.1, by
      obtain ⟨p, e1, hp⟩ := hj.2
      exact ⟨p, e1, by rw [upd_ne (ne_of hp hr8 (by intro z; cases z))]; exact hp⟩⟩
    have hfr9 : (upd H8 pr (.frz od2 (.dK kvs))) pr = some (.frz od2 (.dK kvs)) := upd_same
    have hwa9 : (upd H8 pr (.frz od2 (.dK kvs))) wa = some (.lst (wl.map iv)) := by rw [upd_ne hwr]; exact hwa8
    have hback : ∀ H', But a.own (upd H8 pr (.frz od2 (.dK kvs))) H' → But a.own H (upd H' pr (.dK kvs)) := fun H' bb c o nc hc => by
      have hcp : c ≠ pr := ne_of_none hc nprH'
      rw [upd_ne hcp]
      exact bb c o nc (by rw [upd_ne hcp]; exact b8 c o nc hc)
    generalize upd H8 pr (.frz od2 (.dK kvs)) = H9 at hC9 hp9 hfr9 hwa9 hback
    let mv : Nat → Option KX.Pl := fun k => (KX.sysB (KX.mcs Mh Ms)).go k (P1 k) (KX.earB b (fun k => decide (k ∈ wl)) k)
    let rI : Nat → KX.Run (Option KX.Pl) := fun i => ⟨fun k => if k ∈ (goingL m P1).take i then mv k else P1 k, r.bits ++ [b], fun k => if k ∈ (goingL m P1).take i then r.ears k ++ [KX.earB b (fun k => decide (k ∈ wl)) k] else r.ears k⟩
    refine for_it walk_items (fun i σ Hi => (∃ x3 x6 x7 : Option V, σ = [some (.ref a.c), some (.ref wa), some (.ref sa), x3, some (.ref pr), some (.int (if b = true then 1 else 0)), x6, x7]) ∧ But a.own H9 Hi ∧ CoAt U Hi a m (rI i))
      ⟨⟨_, _, _, rfl⟩, But.rfl', hC9.congr (fun k _ => by show P1 k = if k ∈ (goingL m P1).take 0 then mv k else P1 k; rw [List.take_zero, if_neg (by simp)]) rfl fun k _ => (if_neg (t := r.ears k ++ [KX.earB b (fun k => decide (k ∈ wl)) k]) (show k ∉ (goingL m P1).take 0 by simp)).symm⟩
      (fun i σ Hi _ p => p.2.1 _ _ hpro hfr9) ?_ ?_
    · rintro i v σ Hi Hj hi ⟨⟨y3, y6, y7, rfl⟩, bi, hCi⟩ ⟨Tt, kx, x, rfl, nT, rfl, ek, ex⟩
      obtain ⟨kv, ekv⟩ : ∃ kv, kvs[i]? = some kv := ⟨kvs[i], List.getElem?_eq_getElem hi⟩
      obtain ⟨k, hk1, hk2, p, e1, hp⟩ := paired_get hp9 ekv
      have ekx : kx = .int (k : Int) := by
        have : (kvs[i]?.map fun kv => kV kv.1) = some kx := ek
        rw [ekv] at this
        have h2 : kV kv.1 = kx := Option.some.inj this
        rw [← h2, hk2]
        rfl
      have exx : x = .ref p := by
        have : (kvs[i]?.map Prod.snd) = some x := ex
        rw [ekv] at this
        have h2 : kv.2 = x := Option.some.inj this
        rw [← h2]
        exact e1
      subst ekx exx
      obtain ⟨hkm, i0, hp0, hrow⟩ := hLmem k (List.mem_of_getElem? hk1)
      have hnk : k ∉ (goingL m P1).take i := fun hm2 => by
        obtain ⟨j, hj, e6⟩ := List.getElem_of_mem hm2
        rw [List.length_take] at hj
        rw [List.getElem_take] at e6
        obtain ⟨_, e7⟩ := List.getElem?_eq_some_iff.mp hk1
        have := (List.getElem_inj hLnd).mp (e6.trans e7.symm)
        omega
      have hpo : ∀ rr : List V, H9 p = some (.tup rr) → ¬ a.own p := by
        rintro rr hp' (z | z | z)
        · rw [z, hC9.pd] at hp'; cases hp'
        · rw [z, hC9.pp] at hp'; cases hp'
        · obtain ⟨j, hj, e⟩ := List.getElem_of_mem z
          rw [hC9.es j p (by rw [List.getElem?_eq_getElem hj, e])] at hp'
          cases hp'
      have hpi := bi _ _ (hpo _ hp) hp
      have hCj : CoAt U (upd Hi Tt (.tup [.int (k : Int), .ref p])) a m (rI i) := hCi.same (sameN nT)
      have hpj : (upd Hi Tt (.tup [.int (k : Int), .ref p])) p = some (.tup (rowV (rowF k))) := by rw [upd_ne (ne_of_none hpi nT)]; exact hpi
      have hwi := bi _ _ nwa hwa9
      have hwj : (upd Hi Tt (.tup [.int (k : Int), .ref p])) wa = some (.lst (wl.map iv)) := by rw [upd_ne (ne_of_none hwi nT)]; exact hwi
      have bj : But a.own H9 (upd Hi Tt (.tup [.int (k : Int), .ref p])) := bi.trans (bs (sameN nT))
      refine ⟨Tt, _, rfl, .inl (.inl upd_same), rfl, _, _, rfl, _, _, rfl, rfl, ?_⟩
      generalize upd Hi Tt (.tup [.int (k : Int), .ref p]) = Hj at hCj hpj hwj bj
      generalize hee : KX.earB b (fun k => decide (k ∈ wl)) k = e
      refine ⟨_, rfl, _, rfl, wa, _, rfl, .inl (.inl (.inl hwj)), rfl, flat_int, _, rfl, .int (if e = true then 1 else 0), fun hc R rr => ?_, fun hc R rr => ?_, ?_⟩
      · have hc' : inV (.int (k : Int)) (wl.map iv) = true := hc
        rw [inv_int] at hc'
        refine ⟨_, rfl, _, _, rfl, rfl, ?_⟩
        have : (1 : Int) - (if b = true then 1 else 0) = if e = true then 1 else 0 := by
          rw [← hee]
          unfold KX.earB
          rw [if_pos hc']
          cases b <;> rfl
        show R (.int ((1 : Int) - (if b = true then 1 else 0))) Hj
        rw [this]
        exact rr
      · have hc' : inV (.int (k : Int)) (wl.map iv) = false := hc
        rw [inv_int] at hc'
        refine ⟨_, rfl, ?_⟩
        have : (if b = true then (1 : Int) else 0) = if e = true then 1 else 0 := by
          rw [← hee]
          show (if b = true then (1 : Int) else 0) = if (if decide (k ∈ wl) = true then !b else b) = true then 1 else 0
          rw [hc']
          rfl
        rw [this]
        exact rr
      have hde : DGet Hj a.ed (kV (Sum.inl (k : Int))) _ := DGet.k hCj.ed
      rw [valV_kvF, if_pos hkm] at hde
      obtain ⟨xe, hxe⟩ : ∃ xe, a.es[k]? = some xe := ⟨_, List.getElem?_eq_getElem (show k < a.es.length by rw [hCj.el]; exact hkm)⟩
      have hge : a.es.getD k 0 = xe := by rw [List.getD_eq_getElem?_getD, hxe]; rfl
      rw [hge] at hde
      have hxeH := hCj.es k xe hxe
      have hears : (rI i).ears k = r.ears k := if_neg hnk
      rw [hears] at hxeH
      refine ⟨_, rfl, a.c, U, _, _, _, rfl, hCj.c, T.cl, T.n4, rfl, _, rfl, a.ed, _, rfl, hde, .inl ⟨rfl, _, .inl (.inl hxeH)⟩, _, rfl, xe, _, _, rfl, rfl, hxeH, small_len (n := 100000) (by rw [List.length_map]; exact hel k), ?_⟩
      have ea : ((r.ears k).map bV ++ [V.int (if e = true then 1 else 0)]) = (r.ears k ++ [e]).map bV := by rw [List.map_append]; rfl
      rw [ea]
      have hCk := hCj.setE hxe (r.ears k ++ [e])
      have bk : But a.own H9 (upd Hj xe (.lst ((r.ears k ++ [e]).map bV))) := bj.trans (But.at (.inr (.inr (List.mem_of_getElem? hxe))))
      have hpk : (upd Hj xe (.lst ((r.ears k ++ [e]).map bV))) p = some (.tup (rowV (rowF k))) := by rw [upd_ne (ne_of hpj hxeH (by intro z; cases z))]; exact hpj
      generalize upd Hj xe (.lst ((r.ears k ++ [e]).map bV)) = Hk at hCk bk hpk
      refine ⟨_, rfl, _, rfl, _, _, rfl, rfl, p, _, _, _, rfl, rfl, .inl (.inl hpk), atI_go (rowF k) e, ?_⟩
      refine ⟨_, rfl, a.c, U, _, _, _, rfl, hCk.c, T.cl, T.n3, rfl, _, rfl, a.pd, _, rfl, DPut.k (k := Sum.inl (k : Int)) hCk.pd (small_len (n := 100) (by rw [kvF_len]; exact hm)), ⟨_, _, _, rfl⟩, bk.trans (But.at opd), ?_⟩
      have hmv : mv k = some ((rowF k).go e) := by
        show (KX.sysB (KX.mcs Mh Ms)).go k (P1 k) (KX.earB b (fun k => decide (k ∈ wl)) k) = _
        rw [hp0, hee, hrow]
        rfl
      have ep : putK (kvF m fun j => poV ((rI i).P j)) (Sum.inl (k : Int)) (plV ((rowF k).go e)) = kvF m fun j => poV ((rI (i + 1)).P j) := by
        rw [putK_kvF hkm]
        refine kvF_congr fun j _ => ?_
        show (if j = k then plV ((rowF k).go e) else poV (if j ∈ (goingL m P1).take i then mv j else P1 j)) = poV (if j ∈ (goingL m P1).take (i + 1) then mv j else P1 j)
        rw [List.take_add_one, hk1]
        by_cases e1 : j = k
        · rw [if_pos e1, if_pos (by rw [e1]; exact List.mem_append_right _ (by simp)), e1, hmv]
          rfl
        · rw [if_neg e1]
          by_cases e2 : j ∈ (goingL m P1).take i
          · rw [if_pos e2, if_pos (List.mem_append_left _ e2)]
          · rw [if_neg e2, if_neg (by intro z; rcases List.mem_append.mp z with z | z; exact e2 z; exact e1 (by simpa using z))]
      show CoAt U (upd Hk a.pd (.dK (putK (kvF m fun j => poV ((rI i).P j)) (Sum.inl (k : Int)) (plV ((rowF k).go e))))) a m (rI (i + 1))
      rw [ep]
      refine (hCk.setP fun j => (rI (i + 1)).P j).congr (fun j _ => rfl) rfl fun j _ => ?_
      show (if j = k then r.ears k ++ [e] else (if j ∈ (goingL m P1).take i then r.ears j ++ [KX.earB b (fun k => decide (k ∈ wl)) j] else r.ears j)) = if j ∈ (goingL m P1).take (i + 1) then r.ears j ++ [KX.earB b (fun k => decide (k ∈ wl)) j] else r.ears j
      rw [List.take_add_one, hk1]
      by_cases e1 : j = k
      · rw [if_pos e1, if_pos (by rw [e1]; exact List.mem_append_right _ (by simp)), e1, hee]
      · rw [if_neg e1]
        by_cases e2 : j ∈ (goingL m P1).take i
        · rw [if_pos e2, if_pos (List.mem_append_left _ e2)]
        · rw [if_neg e2, if_neg (by intro z; rcases List.mem_append.mp z with z | z; exact e2 z; exact e1 (by simpa using z))]
    · rintro σ Hi ⟨⟨y3, y6, y7, rfl⟩, bi, hCi⟩
      have hfi := bi _ _ hpro hfr9
      refine ⟨hfi, q _ (hback _ bi) ?_⟩
      have hCz : CoAt U (upd Hi pr (.dK kvs)) a m (rI kvs.length) := hCi.off hfi (fun l z => by cases z) (fun C dx fs z => by cases z) hprd hpre
      have htk : (goingL m P1).take kvs.length = goingL m P1 := take_all (paired_len hp4)
      have hlive : ∀ k, k < m → ((KX.sysB (KX.mcs Mh Ms)).live (P1 k) = true ↔ k ∈ goingL m P1) := fun k hk => by
        have : (KX.sysB (KX.mcs Mh Ms)).live (P1 k) = goes (P1 k) := by
          cases e : P1 k with
          | none => rfl
          | some p => cases p <;> rfl
        rw [this]
        exact ⟨fun h => List.mem_filter.mpr ⟨List.mem_range.mpr hk, h⟩, fun h => (List.mem_filter.mp h).2⟩
      refine hCz.congr (fun k hk => ?_) ?_ fun k hk => ?_
      · show (if k ∈ (goingL m P1).take kvs.length then mv k else P1 k) = KX.stepP _ m _ _ r.P k
        unfold KX.stepP KX.moveP
        rw [hP1, hb, htk]
        by_cases e : k ∈ goingL m P1
        · rw [if_pos e, if_pos ((hlive k hk).mpr e)]
        · rw [if_neg e, if_neg (fun z => e ((hlive k hk).mp z))]
      · show r.bits ++ [b] = r.bits ++ [KX.lineB _ m (KX.hush _ _ r.P)]
        rw [hP1, hb]
      · show (if k ∈ (goingL m P1).take kvs.length then r.ears k ++ [KX.earB b (fun k => decide (k ∈ wl)) k] else r.ears k) = (if (KX.sysB (KX.mcs Mh Ms)).live (KX.hush _ _ r.P k) = true then r.ears k ++ [KX.earB (KX.lineB _ m (KX.hush _ _ r.P)) _ k] else r.ears k)
        rw [hP1, hb, htk]
        by_cases e : k ∈ goingL m P1
        · rw [if_pos e, if_pos ((hlive k hk).mpr e)]
        · rw [if_neg e, if_neg (fun z => e ((hlive k hk).mp z))]
end
end SB
end
section
set_option maxRecDepth 100000
set_option maxHeartbeats 4000000
/-! Walks: sorted_faults, wrong_bodies, due_faults. -/
namespace SB
open PySem PySem.Spec PyProof.Rows L2

def FtAt (H : Hp) (v : V) (f : KX.Ft) : Prop := ∃ p, v = .ref p ∧ H p = some (.tup [.int f.1, .int f.2])
def FtsL (H : Hp) (a : Addr) (F : List KX.Ft) : Prop := ∃ xs, H a = some (.lst xs) ∧ Paired (FtAt H) xs F
def TrisL (H : Hp) (a : Addr) (l : List Tri) : Prop := ∃ xs, H a = some (.lst xs) ∧ Paired (IsTri H) xs l
theorem IsTri.same {H H' : Hp} {v : V} {t : Tri} (h : IsTri H v t) (s : Same H H') : IsTri H' v t := let ⟨p, h1, h2⟩ := h; ⟨p, h1, s _ _ h2⟩
theorem TrisL.same {H H' : Hp} {a : Addr} {l : List Tri} (h : TrisL H a l) (s : Same H H') : TrisL H' a l := let ⟨xs, h1, h2⟩ := h; ⟨xs, s _ _ h1, Paired.mapP h2 fun _ _ z => z.same s⟩
theorem FtsL.same {H H' : Hp} {a : Addr} {l : List KX.Ft} (h : FtsL H a l) (s : Same H H') : FtsL H' a l := let ⟨xs, h1, h2⟩ := h; ⟨xs, s _ _ h1, Paired.mapP h2 fun _ _ ⟨p, e1, e2⟩ => ⟨p, e1, s _ _ e2⟩⟩
theorem paired_append {α β : Type} {R : α → β → Prop} : ∀ {xs : List α} {ys : List β} {xs' : List α} {ys' : List β}, Paired R xs ys → Paired R xs' ys' → Paired R (xs ++ xs') (ys ++ ys')
  | _, _, _, _, .nil, h => h
  | _, _, _, _, .cons r t, h => .cons r (paired_append t h)
def triOf (b : Bool) (f : KX.Ft) : Tri := (f.1, f.2, b)
def trisOf (D Q : List KX.Ft) : List Tri := D.map (triOf false) ++ Q.map (triOf true)
section
variable {P : Program} {w : World} {K : PySem.W.Frag} {mg : Str → Option Value} {base : Heap} {E U : Addr}
abbrev s_sorted_faults : Stmt := top 40
abbrev n_sorted_faults : List Str := ["wrong", "silent", "bit", "label"]
theorem sc_sorted_faults : FnScope n_sorted_faults ["wrong", "silent"] (defScope s_sorted_faults) := ⟨rfl, rfl, rfl, by decide +kernel, rfl, by decide +kernel, by decide +kernel⟩
def sp_sorted_faults : Sp := fun vs H Q _ => ∃ (wa sa : Addr) (D S : List KX.Ft), vs = [.ref wa, .ref sa] ∧ FtsL H wa D ∧ FtsL H sa S ∧ D.length + S.length ≤ 20000 ∧
  ∀ H' p l, Same H H' → H p = none → TrisL H' p l → l.Perm (trisOf D S) → Q (.ref p) H'
theorem ok_sorted_faults {f : Addr} {fd : FuncData} (F : Fun K "sorted_faults" "sorted_faults" s_sorted_faults f fd) (G : Gb mg) : FnOk P w K mg base CX0 1 f fd ["wrong", "silent"] sp_sorted_faults := by
  refine F.ok sc_sorted_faults (fun vs H Q E h => ?_) (fun cdv A outer s H vs Q E' hr h => ?_)
  · obtain ⟨wa, sa, D, S, rfl, _⟩ := h
    rfl
  · obtain ⟨wa, sa, D, S, rfl, ⟨ws, hw, pw⟩, ⟨ss, hs, ps⟩, hl, q⟩ := h
    have nd := sc_sorted_faults.nd
    refine ⟨_, pss_one (ps_ret (pe_callB (cr_sortTri hr.units) (by rfl) G.sorted (by decide +kernel) (pa_cons (pe_op op_cat
      (pe_lc (own := [("bit", 2), ("label", 3)]) (g := gTup K 2 (gCons (gName 2) (gCons (gName 3) gNil))) (tt := tYes) rfl nd (pi_list (pv 0)) (blkOk_by (N := n_sorted_faults) (sc := defScope s_sorted_faults) (by decide +kernel)) (fun _ _ _ _ _ => pg_tup rfl (pgs_cons (pg_name (i := 2) nd rfl (.inl rfl)) (pgs_cons (pg_name (i := 3) nd rfl (.inl rfl)) pgs_nil)))
        (fun _ _ _ _ _ => pts_nil) (fun _ _ _ _ _ => pe_tup (pa_cons (pv 2) (pa_cons (pv 3) (pa_cons pe_bl pa_nil)))))
      (pe_lc (own := [("bit", 2), ("label", 3)]) (g := gTup K 2 (gCons (gName 2) (gCons (gName 3) gNil))) (tt := tYes) rfl nd (pi_list (pv 1)) (blkOk_by (N := n_sorted_faults) (sc := defScope s_sorted_faults) (by decide +kernel)) (fun _ _ _ _ _ => pg_tup rfl (pgs_cons (pg_name (i := 2) nd rfl (.inl rfl)) (pgs_cons (pg_name (i := 3) nd rfl (.inl rfl)) pgs_nil)))
        (fun _ _ _ _ _ => pts_nil) (fun _ _ _ _ _ => pe_tup (pa_cons (pv 2) (pa_cons (pv 3) (pa_cons pe_bl pa_nil)))))) pa_nil) (by decide) (by decide))), ?_⟩
    have wl := paired_len pw
    have sl := paired_len ps
    refine ⟨_, rfl, wa, rfl, ⟨_, .inl (.inl hw)⟩, fun D1 nD1 => ?_⟩
    refine lc_it walk_list (fun i H2 => Same H H2 ∧ ∃ acc, H2 D1 = some (.lst acc) ∧ Paired (IsTri H2) acc ((D.take i).map (triOf false))) ⟨sameN nD1, [], upd_same, .nil⟩ (fun i H2 _ p => .inl (.inl (p.1 _ _ hw))) ?_ ?_
    · rintro i x H2_ H2 hi ⟨s2, acc, h2, hp2⟩ ⟨rfl, ex⟩
      obtain ⟨⟨b, k⟩, hf1, p, rfl, hp⟩ := paired_get pw ex
      have hp' := s2 _ _ hp
      refine ⟨p, _, rfl, .inl (.inl hp'), rfl, _, _, rfl, _, _, rfl, rfl, rfl, tyes ⟨_, rfl, _, rfl, by show 3 ≤ sizeLine; decide, fun t nt => ⟨acc, ?_, ?_, sameU (sameN2 s2 nt) nD1, _, upd_same, ?_⟩⟩⟩
      · rw [upd_ne (ne_of_none h2 nt)]; exact h2
      · refine small_len (n := 20000) ?_
        rw [paired_len hp2, List.length_map, List.length_take]
        omega
      · rw [take_step (triOf false) hf1]
        refine paired_snoc (Paired.mapP hp2 fun v m => ?_) ⟨t, rfl, ?_⟩
        · rintro ⟨z, rfl, hz⟩
          refine ⟨z, rfl, ?_⟩
          rw [upd_ne (ne_of hz h2 (by intro z; cases z)), upd_ne (ne_of_none hz nt)]
          exact hz
        · rw [upd_ne (ne_of_none h2 nt).symm]
          exact upd_same
    rintro H2 ⟨s2, acc, h2, hp2⟩
    rw [take_all wl] at hp2
    refine ⟨_, rfl, sa, rfl, ⟨_, .inl (.inl (s2 _ _ hs))⟩, fun D2 nD2 => ?_⟩
    refine lc_it walk_list (fun i H3 => Same H2 H3 ∧ ∃ acc, H3 D2 = some (.lst acc) ∧ Paired (IsTri H3) acc ((S.take i).map (triOf true))) ⟨sameN nD2, [], upd_same, .nil⟩ (fun i H3 _ p => .inl (.inl (p.1 _ _ (s2 _ _ hs)))) ?_ ?_
    · rintro i x H3_ H3 hi ⟨s3, acc', h3, hp3⟩ ⟨rfl, ex⟩
      obtain ⟨⟨b, k⟩, hf1, p, rfl, hp⟩ := paired_get ps ex
      have hp' := s3 _ _ (s2 _ _ hp)
      refine ⟨p, _, rfl, .inl (.inl hp'), rfl, _, _, rfl, _, _, rfl, rfl, rfl, tyes ⟨_, rfl, _, rfl, by show 3 ≤ sizeLine; decide, fun t nt => ⟨acc', ?_, ?_, sameU (sameN2 s3 nt) nD2, _, upd_same, ?_⟩⟩⟩
      · rw [upd_ne (ne_of_none h3 nt)]; exact h3
      · refine small_len (n := 20000) ?_
        rw [paired_len hp3, List.length_map, List.length_take]
        omega
      · rw [take_step (triOf true) hf1]
        refine paired_snoc (Paired.mapP hp3 fun v m => ?_) ⟨t, rfl, ?_⟩
        · rintro ⟨z, rfl, hz⟩
          refine ⟨z, rfl, ?_⟩
          rw [upd_ne (ne_of hz h3 (by intro z; cases z)), upd_ne (ne_of_none hz nt)]
          exact hz
        · rw [upd_ne (ne_of_none h3 nt).symm]
          exact upd_same
    rintro H3 ⟨s3, acc', h3, hp3⟩
    rw [take_all sl] at hp3
    have hp2' : Paired (IsTri H3) acc (D.map (triOf false)) := Paired.mapP hp2 fun _ _ z => z.same s3
    have la := paired_len hp2
    have lb := paired_len hp3
    rw [List.length_map] at la lb
    refine ⟨D1, D2, acc, acc', rfl, rfl, s3 _ _ h2, h3, Nat.le_trans (show _ ≤ 20000 by omega) (by decide), fun p np => ?_⟩
    have s4 : Same H3 (upd H3 p (.lst (acc ++ acc'))) := sameN np
    refine ⟨p, _, trisOf D S, rfl, .inl (.inl upd_same), Paired.mapP (paired_append hp2' hp3) fun _ _ z => z.same s4, ?_, fun ys bs' p2 hperm hys np2 => ?_⟩
    · unfold trisOf
      rw [List.length_append, List.length_map, List.length_map]
      exact hl
    · have s5 := sameN2 (o := .lst ys) s4 np2
      exact q _ _ _ (s2.trans (s3.trans s5)) (noneOf (s2.trans (s3.trans s4)) np2) ⟨ys, upd_same, Paired.mapP hys fun _ _ z => z.same (sameN np2)⟩ hperm
/-! wrong_bodies -/
abbrev s_wrong_bodies : Stmt := top 41
abbrev n_wrong_bodies : List Str := ["labels", "faults", "found", "bit", "label", "is_silence"]
theorem sc_wrong_bodies : FnScope n_wrong_bodies ["labels", "faults"] (defScope s_wrong_bodies) := ⟨rfl, rfl, rfl, by decide +kernel, rfl, by decide +kernel, by decide +kernel⟩
def sp_wrong_bodies : Sp := fun vs H Q _ => ∃ (lb fa m : Nat) (l : List Tri), vs = [.ref lb, .ref fa] ∧ H lb = some (.lst ((List.range m).map iv)) ∧ TrisL H fa l ∧ l.Nodup ∧ l.length ≤ 20000 ∧ m ≤ 100 ∧
  (∀ t ∈ l, t.1 = 0 → t.2.2 = false ∧ ∃ k : Nat, t.2.1 = k ∧ 1 ≤ k ∧ k < m) ∧
  ∀ H' p (bs : List Nat), Same H H' → H p = none → H' p = some (.lst (bs.map iv)) → (∀ k : Nat, k ∈ bs ↔ ((0 : Int), (k : Int), false) ∈ l) → Q (.ref p) H'
theorem cut1 {m : Nat} : cutV ((List.range m).map iv) (some (1 : Int)) none = ((List.range m).drop 1).map iv := by
  unfold cutV
  have e1 : HT.sIx ((List.range m).map iv).length 0 (some (1 : Int)) = min 1 m := by
    rw [show (1 : Int) = ((1 : Nat) : Int) from rfl, HT.sIx_nat, List.length_map, List.length_range]
  rw [e1, HT.sIx_none, List.length_map, List.length_range, ← List.map_drop, ← List.map_take]
  congr 1
  by_cases h : 1 ≤ m
  · rw [Nat.min_eq_left h, List.take_of_length_le (by rw [List.length_drop, List.length_range]; exact Nat.le_refl _)]
  · have : m = 0 := by omega
    subst this
    rfl
theorem ok_wrong_bodies {f : Addr} {fd : FuncData} (F : Fun K "wrong_bodies" "wrong_bodies" s_wrong_bodies f fd) : FnOk P w K mg base CX0 1 f fd ["labels", "faults"] sp_wrong_bodies := by
  refine F.ok sc_wrong_bodies (fun vs H Q E h => ?_) (fun cdv A outer s H vs Q E' hr h => ?_)
  · obtain ⟨lb, fa, m, l, rfl, _⟩ := h
    rfl
  · obtain ⟨lb, fa, m, l, rfl, hlb, ⟨xs, hfa, hp⟩, hnd, hl, hm, hz, q⟩ := h
    have nd := sc_wrong_bodies.nd
    refine ⟨_, pss_cons (ps_set (i := 2) nd rfl (.inl rfl) (pe_lst pa_nil))
      (pss_cons (ps_for PassesOwn.never rfl (pi_list (pv 1)) (pg_tup rfl (pgs_cons (pg_name (i := 3) nd rfl (.inl rfl)) (pgs_cons (pg_name (i := 4) nd rfl (.inl rfl)) (pgs_cons (pg_name (i := 5) nd rfl (.inl rfl)) pgs_nil))))
        (pss_one (ps_if (pt_cmpR op_eq (pv 3) pe_int (nomark _))
          (pss_cons (ps_if (PW.pt (pw_or (pt_val (pv 5)) (pw_or (pt_cmpR op_notIn_seq (pv 4) (pe_slice sl_list (pv 0) (po_some pe_int) po_none) rfl) (pw_or1 (pt_cmpR op_in_seq (pv 4) (pv 2) rfl))))) (pss_one ps_never) pss_nil)
          (pss_one (apnd (pv 2) (pv 4)))) pss_nil)))
      (pss_one (ps_ret (pv 2)))), ?_⟩
    refine ⟨by show 0 ≤ sizeLine; decide, fun pf npf => ?_⟩
    have npf' : H pf = none := npf
    refine ⟨_, rfl, fa, rfl, ⟨_, .inl (.inl (sameN npf' _ _ hfa))⟩, ?_⟩
    refine for_it walk_list (fun i σ H2 => ∃ (x3 x4 x5 : Option V) (bs : List Nat), σ = [some (.ref lb), some (.ref fa), some (.ref pf), x3, x4, x5] ∧ Same H H2 ∧ H2 pf = some (.lst (bs.map iv)) ∧ bs.length ≤ i ∧ ∀ k : Nat, k ∈ bs ↔ ((0 : Int), (k : Int), false) ∈ l.take i)
      ⟨_, _, _, [], rfl, sameN npf', upd_same, Nat.le_refl _, fun k => by simp⟩ (fun i σ H2 _ ⟨_, _, _, _, _, hs, _⟩ => .inl (.inl (hs _ _ hfa))) ?_ ?_
    · rintro i x σ H2_ H2 hi ⟨x3, x4, x5, bs, rfl, s2, h2, hbl, hbs⟩ ⟨rfl, ex⟩
      obtain ⟨⟨b, k0, sil⟩, hf1, p, rfl, hpt⟩ := paired_get hp ex
      have hp' := s2 _ _ hpt
      have hmem : (b, k0, sil) ∈ l := List.mem_of_getElem? hf1
      refine ⟨p, _, rfl, .inl (.inl hp'), rfl, _, _, rfl, _, _, rfl, _, _, rfl, rfl, ?_⟩
      refine ⟨_, rfl, rfl, _, rfl, ?_⟩
      by_cases hb : b = 0
      · subst hb
        obtain ⟨e1, k, e2, hk1, hkm⟩ := hz _ hmem rfl
        have e1' : sil = false := e1
        have e2' : k0 = (k : Int) := e2
        subst e1' e2'
        refine onT (decide_eq_true rfl) ?_
        refine ⟨_, rfl, _, rfl, iteF ⟨_, rfl, _, rfl, _, rfl, lb, _, rfl, .inl (.inl (s2 _ _ hlb)), fun t nt => ?_⟩⟩
        rw [cut1]
        refine ⟨t, _, rfl, .inl (.inl (.inl upd_same)), rfl, flat_int, _, rfl, ?_⟩
        show if (!inV (.int (k : Int)) (((List.range m).drop 1).map iv)) = true then _ else _
        have hin : k ∈ (List.range m).drop 1 := by
          rw [List.mem_iff_getElem]
          exact ⟨k - 1, by rw [List.length_drop, List.length_range]; omega, by rw [List.getElem_drop, List.getElem_range]; omega⟩
        rw [inv_int, decide_eq_true hin]
        have h2' : (upd H2 t (.lst (((List.range m).drop 1).map iv))) pf = some (.lst (bs.map iv)) := by rw [upd_ne (ne_of_none h2 nt)]; exact h2
        refine iteF ⟨_, rfl, _, rfl, pf, _, rfl, .inl (.inl (.inl h2')), rfl, flat_int, _, rfl, ?_⟩
        show if inV (.int (k : Int)) (bs.map iv) = true then _ else _
        have hnk : k ∉ bs := fun hkb => by
          have h3 := (hbs k).mp hkb
          obtain ⟨j, hj, e6⟩ := List.getElem_of_mem h3
          rw [List.length_take] at hj
          rw [List.getElem_take] at e6
          obtain ⟨_, e7⟩ := List.getElem?_eq_some_iff.mp hf1
          have := (List.getElem_inj hnd).mp (e6.trans e7.symm)
          omega
        rw [inv_int, decide_eq_false hnk]
        refine iteF ⟨_, rfl, .inl ⟨rfl, _, .inl (.inl h2')⟩, _, rfl, pf, _, _, rfl, rfl, h2', small_len (n := 20000) (by rw [List.length_map]; have : i < xs.length := hi; have := paired_len hp; omega), ?_⟩
        refine ⟨_, _, _, bs ++ [k], rfl, sameU (sameN2 s2 nt) npf', by rw [upd_same, List.map_append]; rfl, by rw [List.length_append]; exact Nat.succ_le_succ hbl, fun j => ?_⟩
        rw [List.take_add_one, hf1, List.mem_append, List.mem_singleton, hbs]
        show _ ↔ _ ∈ l.take i ++ [((0 : Int), (k : Int), false)]
        rw [List.mem_append, List.mem_singleton]
        constructor
        · rintro (h | rfl)
          · exact .inl h
          · exact .inr rfl
        · rintro (h | h)
          · exact .inl h
          · injection h with _ h
            injection h with h _
            exact .inr (by omega)
      · refine onF (decide_eq_false (by intro z; injection z with z; exact hb z)) ⟨_, _, _, bs, rfl, s2, h2, by omega, fun j => ?_⟩
        rw [List.take_add_one, hf1, hbs]
        show _ ↔ _ ∈ l.take i ++ [(b, k0, sil)]
        rw [List.mem_append, List.mem_singleton]
        constructor
        · exact .inl
        · rintro (h | h)
          · exact h
          · injection h with h _
            exact absurd h.symm hb
    · rintro σ H2 ⟨x3, x4, x5, bs, rfl, s2, h2, hbl, hbs⟩
      rw [take_all (paired_len hp)] at hbs
      exact ⟨_, rfl, q _ _ bs s2 npf' h2 hbs⟩
/-! due_faults -/
abbrev s_due_faults : Stmt := top 42
abbrev n_due_faults : List Str := ["course", "faults", "wrong", "silent", "bit", "label", "is_silence"]
theorem sc_due_faults : FnScope n_due_faults ["course", "faults"] (defScope s_due_faults) := ⟨rfl, rfl, rfl, by decide +kernel, rfl, by decide +kernel, by decide +kernel⟩
def sp_due_faults (U : Addr) : Sp := fun vs H Q _ => ∃ (a : CoA) (fa m : Nat) (r : KX.Run (Option KX.Pl)) (l : List Tri), vs = [.ref a.c, .ref fa] ∧ CoAt U H a m r ∧ TrisL H fa l ∧ l.Nodup ∧ l.length ≤ 20000 ∧
  (∀ t ∈ l, t.1 = (r.bits.length : Int) + 1 → ∃ k : Nat, t.2.1 = k ∧ k < m ∧ goes (r.P k) = true ∧ (t.1, (k : Int), !t.2.2) ∉ l) ∧
  ∀ H' p pw ps (wl sl : List Nat), Same H H' → H' p = some (.tup [.ref pw, .ref ps]) → H pw = none → H ps = none → H' pw = some (.lst (wl.map iv)) → H' ps = some (.lst (sl.map iv)) →
    (∀ k : Nat, k ∈ wl ↔ ((r.bits.length : Int) + 1, (k : Int), false) ∈ l) → (∀ k : Nat, k ∈ sl ↔ ((r.bits.length : Int) + 1, (k : Int), true) ∈ l) → Q (.ref p) H'
theorem ok_due_faults {f : Addr} {fd : FuncData} (F : Fun K "due_faults" "due_faults" s_due_faults f fd) (T : TxU K mg U) (G : Gb mg) (C : CalM P w K mg base U "is_going" 1 ["self", "label"] (sp_is_going U)) : FnOk P w K mg base CX0 2 f fd ["course", "faults"] (sp_due_faults U) := by
  refine F.ok sc_due_faults (fun vs H Q E h => ?_) (fun cdv A outer s H vs Q E' hr h => ?_)
  · obtain ⟨a, fa, m, r, l, rfl, _⟩ := h
    rfl
  · obtain ⟨a, fa, m, r, l, rfl, hC, ⟨xs, hfa, hp⟩, hnd, hl, hz, q⟩ := h
    have nd := sc_due_faults.nd
    refine ⟨_, pss_cons (ps_par (i := 2) (j := 3) rfl nd rfl rfl (by decide) rfl rfl (pa_cons (pe_lst pa_nil) (pa_cons (pe_lst pa_nil) pa_nil)) rfl)
      (pss_cons (ps_for PassesOwn.never rfl (pi_list (pv 1)) (pg_tup rfl (pgs_cons (pg_name (i := 4) nd rfl (.inl rfl)) (pgs_cons (pg_name (i := 5) nd rfl (.inl rfl)) (pgs_cons (pg_name (i := 6) nd rfl (.inl rfl)) pgs_nil))))
        (pss_one (ps_if (pt_cmpR op_eq (pv 4) (pe_op op_add (lenS G (pe_fld (pv 0) rfl)) pe_int) (nomark _))
          (pss_cons (ps_if (PW.pt (pw_or (pt_not (pt_val (calM C T.cl hr (pv 0) (pa_cons (pv 5) pa_nil)))) (pw_or (pt_cmpR op_in_seq (pv 5) (pv 2) rfl) (pw_or1 (pt_cmpR op_in_seq (pv 5) (pv 3) rfl))))) (pss_one ps_never) pss_nil)
          (pss_one (ps_if (pt_val (pv 6)) (pss_one (apnd (pv 3) (pv 5))) (pss_one (apnd (pv 2) (pv 5)))))) pss_nil)))
      (pss_one (ps_ret (pe_tup (pa_cons (pv 2) (pa_cons (pv 3) pa_nil)))))), ?_⟩
    refine ⟨by show 0 ≤ sizeLine; decide, fun pw npw => ⟨by show 0 ≤ sizeLine; decide, fun ps nps => ⟨_, _, rfl, ?_⟩⟩⟩
    have npw' : H pw = none := npw
    have nps' : H ps = none := noneOf (sameN npw') nps
    have hws : pw ≠ ps := ne_of_none upd_same nps
    have s0 : Same H (upd (upd H pw (.lst [])) ps (.lst [])) := sameN2 (sameN npw') nps
    refine ⟨_, rfl, fa, rfl, ⟨_, .inl (.inl (s0 _ _ hfa))⟩, ?_⟩
    refine for_it walk_list (fun i σ H2 => ∃ (x4 x5 x6 : Option V) (wl sl : List Nat), σ = [some (.ref a.c), some (.ref fa), some (.ref pw), some (.ref ps), x4, x5, x6] ∧ Same H H2 ∧ H2 pw = some (.lst (wl.map iv)) ∧ H2 ps = some (.lst (sl.map iv)) ∧ wl.length ≤ i ∧ sl.length ≤ i ∧
        (∀ k : Nat, k ∈ wl ↔ ((r.bits.length : Int) + 1, (k : Int), false) ∈ l.take i) ∧ (∀ k : Nat, k ∈ sl ↔ ((r.bits.length : Int) + 1, (k : Int), true) ∈ l.take i))
      ⟨_, _, _, [], [], rfl, s0, by rw [upd_ne hws]; exact upd_same, upd_same, Nat.le_refl _, Nat.le_refl _, fun k => by simp, fun k => by simp⟩ (fun i σ H2 _ ⟨_, _, _, _, _, _, hs, _⟩ => .inl (.inl (hs _ _ hfa))) ?_ ?_
    · rintro i x σ H2_ H2 hi ⟨x4, x5, x6, wl, sl, rfl, s2, h2, h3, hwl, hsl, hbw, hbs⟩ ⟨rfl, ex⟩
      obtain ⟨⟨b, k0, sil⟩, hf1, p, rfl, hpt⟩ := paired_get hp ex
      have hp' := s2 _ _ hpt
      have hmem : (b, k0, sil) ∈ l := List.mem_of_getElem? hf1
      have hC2 := hC.same s2
      have hxl : i < 20000 := by have : i < xs.length := hi; have := paired_len hp; omega
      refine ⟨p, _, rfl, .inl (.inl hp'), rfl, _, _, rfl, _, _, rfl, _, _, rfl, rfl, ?_⟩
      refine ⟨_, rfl, _, rfl, a.c, U, _, _, _, rfl, hC2.c, T.cl, T.n5, rfl, a.pp, _, rfl, .inl (.inl (.inl hC2.pp)), _, _, rfl, rfl, rfl, _, rfl, ?_⟩
      have hlenB : (r.bits.map bV).length = r.bits.length := List.length_map _
      have step : ∀ (t : Tri), t ≠ (b, k0, sil) → (t ∈ l.take (i + 1) ↔ t ∈ l.take i) := fun t ht => by
        rw [List.take_add_one, hf1]
        show t ∈ l.take i ++ [(b, k0, sil)] ↔ _
        rw [List.mem_append, List.mem_singleton]
        exact ⟨fun h => h.elim id fun e => absurd e ht, .inl⟩
      by_cases hb : b = (r.bits.length : Int) + 1
      · obtain ⟨k, e2, hkm, hgo, hnot⟩ := hz _ hmem hb
        have e2' : k0 = (k : Int) := e2
        subst e2'
        have hnew : ∀ z : Bool, (b, (k : Int), z) ∉ l.take i := fun z hm => by
          by_cases ez : z = sil
          · subst ez
            obtain ⟨j, hj, e6⟩ := List.getElem_of_mem hm
            rw [List.length_take] at hj
            rw [List.getElem_take] at e6
            obtain ⟨_, e7⟩ := List.getElem?_eq_some_iff.mp hf1
            have := (List.getElem_inj hnd).mp (e6.trans e7.symm)
            omega
          · have ez' : z = !sil := by cases z <;> cases sil <;> first | rfl | exact absurd rfl ez
            rw [ez'] at hm
            exact hnot (List.mem_of_mem_take hm)
        subst hb
        refine onT (decide_eq_true (by rw [hlenB])) ?_
        have hnw : k ∉ wl := fun h => hnew false ((hbw k).mp h)
        have hns : k ∉ sl := fun h => hnew true ((hbs k).mp h)
        refine ⟨_, rfl, a.c, a.dx, _, rfl, hC2.c, rfl, _, rfl, a, m, k, r, rfl, hC2, hkm, _, rfl, ?_⟩
        rw [hgo]
        refine iteF ⟨_, rfl, _, rfl, pw, _, rfl, .inl (.inl (.inl h2)), rfl, flat_int, _, rfl, ?_⟩
        show if inV (.int (k : Int)) (wl.map iv) = true then _ else _
        rw [inv_int, decide_eq_false hnw]
        refine iteF ⟨_, rfl, _, rfl, ps, _, rfl, .inl (.inl (.inl h3)), rfl, flat_int, _, rfl, ?_⟩
        show if inV (.int (k : Int)) (sl.map iv) = true then _ else _
        rw [inv_int, decide_eq_false hns]
        refine iteF ⟨_, rfl, _, rfl, ?_⟩
        have grow : ∀ (z : Bool) (j : Nat), ((r.bits.length : Int) + 1, (j : Int), z) ∈ l.take (i + 1) ↔ ((r.bits.length : Int) + 1, (j : Int), z) ∈ l.take i ∨ (j = k ∧ z = sil) := fun z j => by
          rw [List.take_add_one, hf1]
          show _ ∈ l.take i ++ [((r.bits.length : Int) + 1, (k : Int), sil)] ↔ _
          rw [List.mem_append, List.mem_singleton]
          constructor
          · rintro (h | h)
            · exact .inl h
            · injection h with _ h
              injection h with h1 h2
              exact .inr ⟨by omega, h2⟩
          · rintro (h | ⟨rfl, rfl⟩)
            · exact .inl h
            · exact .inr rfl
        cases sil with
        | true =>
          refine onT rfl ⟨_, rfl, .inl ⟨rfl, _, .inl (.inl h3)⟩, _, rfl, ps, _, _, rfl, rfl, h3, small_len (n := 20000) (by rw [List.length_map]; omega), ?_⟩
          refine ⟨_, _, _, wl, sl ++ [k], rfl, sameU s2 nps', by rw [upd_ne hws]; exact h2, by rw [upd_same, List.map_append]; rfl, by omega, by rw [List.length_append]; exact Nat.succ_le_succ hsl, fun j => ?_, fun j => ?_⟩
          · rw [grow, hbw]
            exact ⟨.inl, fun h => h.elim id fun z => nomatch z.2⟩
          · rw [grow, List.mem_append, List.mem_singleton, hbs]
            exact ⟨fun h => h.elim .inl fun z => .inr ⟨z, rfl⟩, fun h => h.elim .inl fun z => .inr z.1⟩
        | false =>
          refine onF rfl ⟨_, rfl, .inl ⟨rfl, _, .inl (.inl h2)⟩, _, rfl, pw, _, _, rfl, rfl, h2, small_len (n := 20000) (by rw [List.length_map]; omega), ?_⟩
          refine ⟨_, _, _, wl ++ [k], sl, rfl, sameU s2 npw', by rw [upd_same, List.map_append]; rfl, by rw [upd_ne hws.symm]; exact h3, by rw [List.length_append]; exact Nat.succ_le_succ hwl, by omega, fun j => ?_, fun j => ?_⟩
          · rw [grow, List.mem_append, List.mem_singleton, hbw]
            exact ⟨fun h => h.elim .inl fun z => .inr ⟨z, rfl⟩, fun h => h.elim .inl fun z => .inr z.1⟩
          · rw [grow, hbs]
            exact ⟨.inl, fun h => h.elim id fun z => nomatch z.2⟩
      · refine onF (decide_eq_false (by rw [hlenB]; intro z; injection z with z; exact hb z)) ⟨_, _, _, wl, sl, rfl, s2, h2, h3, by omega, by omega, fun j => ?_, fun j => ?_⟩
        · rw [step _ (by intro z; injection z with z _; exact hb z.symm)]
          exact hbw j
        · rw [step _ (by intro z; injection z with z _; exact hb z.symm)]
          exact hbs j
    · rintro σ H2 ⟨x4, x5, x6, wl, sl, rfl, s2, h2, h3, hwl, hsl, hbw, hbs⟩
      rw [take_all (paired_len hp)] at hbw hbs
      refine ⟨_, rfl, _, rfl, by show 2 ≤ sizeLine; decide, fun p np => ?_⟩
      exact q _ p pw ps wl sl (sameN2 s2 np) upd_same npw' nps' (by rw [upd_ne (ne_of_none h2 np)]; exact h2) (by rw [upd_ne (ne_of_none h3 np)]; exact h3) hbw hbs
end
end SB
end
section
set_option maxRecDepth 100000
set_option maxHeartbeats 4000000
/-! Walks: run_sending. -/
namespace SB
open PySem PySem.Spec PyProof.Rows L2

section
variable {X : Cx} {a : Expr} {ta : TE} {p pos : Pos}
theorem lenK (K : PySem.W.Frag) (G : Gb X.mg) (ha : PE X a ta) (hg : Gl X "len" := by rfl) (he : starEach [a] X.env = (false, eval a X.env) :: starEach [] X.env := by rfl) (hK : X.K = K := by rfl) :
    PE X (.Call (.Name "len" p) [a] [] pos) (tCB (fun xs H Q => ∃ p ys, xs = [.ref p] ∧ (SqL K H p ys ∨ SqT K H p ys) ∧ Q (.int ys.length) H) (tCons ta tNil)) := by
  subst hK
  exact lenS G ha hg he
end
/-! ### keys of the states -/
def leafOf : Option KX.Pl → Leaf
  | none => .none
  | some (.ix i) => .num i
  | some (.wd w) => .text w
def stateK (m : Nat) (P : Nat → Option KX.Pl) : List Leaf := (List.range m).map fun k => leafOf (P k)
theorem leafV_of (p : Option KX.Pl) : leafV (leafOf p) = poV p := by
  cases p with
  | none => rfl
  | some p => cases p <;> rfl
theorem leafOf_inj : ∀ {p q : Option KX.Pl}, leafOf p = leafOf q → p = q
  | none, none, _ => rfl
  | none, some (.ix _), h => nomatch h
  | none, some (.wd _), h => nomatch h
  | some (.ix _), none, h => nomatch h
  | some (.wd _), none, h => nomatch h
  | some (.ix _), some (.wd _), h => nomatch h
  | some (.wd _), some (.ix _), h => nomatch h
  | some (.ix i), some (.ix j), h => by
    have e : (i : Int) = j := Leaf.num.inj h
    rw [show i = j by omega]
  | some (.wd x), some (.wd y), h => by rw [Leaf.text.inj h]
theorem stateV_K (m : Nat) (P : Nat → Option KX.Pl) : stateV m P = (stateK m P).map leafV := by
  unfold stateV stateK
  rw [List.map_map]
  exact List.map_congr_left fun k _ => (leafV_of (P k)).symm
theorem stateK_inj {m : Nat} {P P' : Nat → Option KX.Pl} (h : stateK m P = stateK m P') : ∀ k, k < m → P k = P' k := fun k hk => by
  have e := congrArg (fun l => l[k]?) h
  unfold stateK at e
  simp only [List.getElem?_map, List.getElem?_range hk] at e
  exact leafOf_inj (Option.some.inj e)
/-! ### a run's places, ears -/
section
variable {Mh Ms : KX.Mc} {m T : Nat} {D S : List KX.Ft}
theorem run_ix (hV : KX.VE Mh Ms) (h0 : ∀ k, (0, k) ∈ D → 1 ≤ k) : ∀ t k pl, (KX.runR (KX.sysB (KX.mcs Mh Ms)) m D S (KX.P0B D) t).P k = some pl → pl.ok (KX.mcs Mh Ms k).length
  | 0, k, pl, h => by
    have e : some (KX.Pl.ix (if (0, k) ∈ D then 1 else 0)) = some pl := h
    cases e
    show (if (0, k) ∈ D then 1 else 0) < _
    have h2 := hV.h2
    have s1 := hV.s1
    unfold KX.mcs
    by_cases hk : k = 0
    · subst hk
      rw [if_pos rfl, if_neg (fun hm => by have := h0 0 hm; omega)]
      exact s1
    · rw [if_neg hk]
      split <;> omega
  | t + 1, k, pl, h => by
    have ih := run_ix hV h0 t
    have hh : ∀ q k pl, KX.hush (KX.sysB (KX.mcs Mh Ms)) q (KX.runR (KX.sysB (KX.mcs Mh Ms)) m D S (KX.P0B D) t).P k = some pl → pl.ok (KX.mcs Mh Ms k).length := fun q k pl h => by
      unfold KX.hush at h
      split at h
      · cases h
      · exact ih k pl h
    have h' : KX.stepP (KX.sysB (KX.mcs Mh Ms)) m (KX.atB S (t + 1)) (KX.atB D (t + 1)) (KX.runR (KX.sysB (KX.mcs Mh Ms)) m D S (KX.P0B D) t).P k = some pl := h
    unfold KX.stepP KX.moveP at h'
    split at h'
    · cases e : KX.hush (KX.sysB (KX.mcs Mh Ms)) (KX.atB S (t + 1)) (KX.runR (KX.sysB (KX.mcs Mh Ms)) m D S (KX.P0B D) t).P k with
      | none => rw [e] at h'; cases h'
      | some p =>
        rw [e] at h'
        cases p with
        | wd z =>
          cases h'
          exact True.intro
        | ix i =>
          cases h'
          exact KX.Wf.go (KX.mcs_wf hV k) (hh _ _ _ e) _
    · exact hh _ _ _ h'
theorem run_ears {α : Type} {G : KX.Sys α} {P0 : Nat → α} : ∀ t k, ((KX.runR G m D S P0 t).ears k).length ≤ t
  | 0, k => Nat.le_refl _
  | t + 1, k => by
    have ih := run_ears (G := G) (P0 := P0) t k
    show (if G.live _ = true then (KX.runR G m D S P0 t).ears k ++ [_] else (KX.runR G m D S P0 t).ears k).length ≤ t + 1
    split
    · rw [List.length_append]
      exact Nat.succ_le_succ ih
    · omega
theorem live_goes (M : Nat → KX.Mc) (p : Option KX.Pl) : (KX.sysB M).live p = goes p := by
  cases p with
  | none => rfl
  | some p => cases p <;> rfl
theorem going_any {M : Nat → KX.Mc} {P : Nat → Option KX.Pl} : goingL m P = [] ↔ KX.anyL (KX.sysB M) m P = false := by
  unfold goingL
  rw [List.filter_eq_nil_iff]
  constructor
  · intro h
    cases e : KX.anyL (KX.sysB M) m P with
    | false => rfl
    | true =>
      obtain ⟨k, hk, hl⟩ := KX.anyL_iff.mp e
      rw [live_goes] at hl
      exact absurd hl (h k (List.mem_range.mpr hk))
  · intro h k hk hg
    have : KX.anyL (KX.sysB M) m P = true := KX.anyL_iff.mpr ⟨k, List.mem_range.mp hk, by rw [live_goes]; exact hg⟩
    rw [h] at this
    cases this
end
/-! ### comparing with [] -/
theorem gd_tri (t : Tri) : Gd (triD t) 1 := .tup fun d hd => by
  simp only [List.mem_cons, List.not_mem_nil, or_false] at hd
  rcases hd with rfl | rfl | rfl
  · exact .int _
  · exact .int _
  · exact ⟨rfl, Nat.le_refl _⟩
theorem dp_tris {K : PySem.W.Frag} {H : Hp} : ∀ {xs : List V} {l : List Tri}, Paired (IsTri H) xs l → DpAll K H xs (l.map triD)
  | _, _, .nil => .nil
  | _, _, .cons ⟨t, e, h⟩ r => .cons (by subst e; exact .tup (.inl (.inl h)) (.cons (.int _) (.cons (.int _) (.cons (.bl _) .nil)))) (dp_tris r)
theorem gd_tris (l : List Tri) : Gd (.list (l.map triD)) 2 := .lst fun d hd => by
  obtain ⟨t, _, rfl⟩ := List.mem_map.mp hd
  exact gd_tri t
theorem gd_nil : Gd (.list []) 2 := .lst fun d hd => by cases hd
theorem dp_ints {K : PySem.W.Frag} {H : Hp} : ∀ ks : List Nat, DpAll K H (ks.map iv) (ks.map fun n => PyData.int (n : Nat))
  | [] => .nil
  | k :: ks => .cons (.int _) (dp_ints ks)
theorem gd_ints (ks : List Nat) : Gd (.list (ks.map fun n => PyData.int (n : Nat))) 2 := .lst fun d hd => by
  obtain ⟨t, _, rfl⟩ := List.mem_map.mp hd
  exact (Gd.int _).mono (by decide)
theorem eqv_nil {α : Type} (l : List α) (f : α → PyData) : PyData.eqv (.list (l.map f)) (.list []) = decide (l.length = 0) := by
  rw [PyData.eqv]
  cases l with
  | nil => rfl
  | cons x xs => rfl
theorem mem_tris {D S : List KX.Ft} {b k : Nat} {z : Bool} : ((b : Int), (k : Int), z) ∈ trisOf D S ↔ (z = false ∧ (b, k) ∈ D) ∨ (z = true ∧ (b, k) ∈ S) := by
  unfold trisOf
  rw [List.mem_append, List.mem_map, List.mem_map]
  constructor
  · rintro (⟨⟨b', k'⟩, hf, e⟩ | ⟨⟨b', k'⟩, hf, e⟩)
    · unfold triOf at e
      injection e with e1 e2
      injection e2 with e2 e3
      exact .inl ⟨e3.symm, by rw [show b = b' by have : (b' : Int) = b := e1; omega, show k = k' by have : (k' : Int) = k := e2; omega]; exact hf⟩
    · unfold triOf at e
      injection e with e1 e2
      injection e2 with e2 e3
      exact .inr ⟨e3.symm, by rw [show b = b' by have : (b' : Int) = b := e1; omega, show k = k' by have : (k' : Int) = k := e2; omega]; exact hf⟩
  · rintro (⟨rfl, h⟩ | ⟨rfl, h⟩)
    · exact .inl ⟨_, h, rfl⟩
    · exact .inr ⟨_, h, rfl⟩
theorem tris_form {D S : List KX.Ft} {t : Tri} (h : t ∈ trisOf D S) : ∃ (b k : Nat) (z : Bool), t = ((b : Int), (k : Int), z) := by
  unfold trisOf at h
  rcases List.mem_append.mp h with h | h
  · obtain ⟨f, _, rfl⟩ := List.mem_map.mp h
    exact ⟨f.1, f.2, false, rfl⟩
  · obtain ⟨f, _, rfl⟩ := List.mem_map.mp h
    exact ⟨f.1, f.2, true, rfl⟩
theorem tris_nodup {D S : List KX.Ft} (hD : D.Nodup) (hS : S.Nodup) : (trisOf D S).Nodup := by
  unfold trisOf
  have inj : ∀ z f g, triOf z f = triOf z g → f = g := fun z ⟨a, b⟩ ⟨c, d⟩ e => by
    unfold triOf at e
    injection e with e1 e2
    injection e2 with e2 _
    have e1' : (a : Int) = c := e1
    have e2' : (b : Int) = d := e2
    rw [show a = c by omega, show b = d by omega]
  rw [List.nodup_append]
  refine ⟨List.Pairwise.map (R := (· ≠ ·)) _ (fun a b hab e => hab (inj _ _ _ e)) hD, List.Pairwise.map (R := (· ≠ ·)) _ (fun a b hab e => hab (inj _ _ _ e)) hS, fun a ha b hb e => ?_⟩
  obtain ⟨f, _, rfl⟩ := List.mem_map.mp ha
  obtain ⟨g, _, rfl⟩ := List.mem_map.mp hb
  unfold triOf at e
  injection e with _ e
  injection e with _ e
  cases e
end SB
end
section
set_option maxRecDepth 100000
set_option maxHeartbeats 4000000
/-! Walks: run_sending. -/
namespace SB
open PySem PySem.Spec PyProof.Rows L2
/-- how many bits have passed, as it stands -/
def lenAt (H : Hp) (p : Addr) : Nat := match H p with
  | some (.lst xs) => xs.length
  | _ => 0
section
variable {P : Program} {w : World} {K : PySem.W.Frag} {mg : Str → Option Value} {base : Heap} {E U : Addr}
abbrev s_run_sending : Stmt := top 43
abbrev n_run_sending : List Str := ["end", "labels", "wrong", "silent", "faults", "course", "seen", "place", "deaf", "quiet", "fault"]
abbrev p_run_sending : List Str := ["end", "labels", "wrong", "silent"]
theorem sc_run_sending : FnScope n_run_sending p_run_sending (defScope s_run_sending) := ⟨rfl, rfl, rfl, by decide +kernel, rfl, by decide +kernel, by decide +kernel⟩
def sp_run_sending (E U : Addr) : Sp := fun vs H Q _ => ∃ (e lb wa sa m T : Nat) (D S : List KX.Ft) (Mh Ms : KX.Mc), vs = [.ref e, .ref lb, .ref wa, .ref sa] ∧ EndAt E H e Mh Ms ∧ KX.VE Mh Ms ∧ H lb = some (.lst ((List.range m).map iv)) ∧ FtsL H wa D ∧ FtsL H sa S ∧
  KX.Fair (KX.sysB (KX.mcs Mh Ms)) m (KX.P0B D) D S T ∧ m ≤ 100 ∧ D.length + S.length ≤ 20000 ∧
  ∀ (H' : Hp) (a : CoA), Same H H' → CoAt U H' a m (KX.runR (KX.sysB (KX.mcs Mh Ms)) m D S (KX.P0B D) T) → Q (.ref a.c) H'
theorem ok_run_sending {f : Addr} {fd : FuncData} (F : Fun K "run_sending" "run_sending" s_run_sending f fd) (T : TxU K mg U) (G : Gb mg) (C1 : Cal P w K mg base "sorted_faults" 1 ["wrong", "silent"] sp_sorted_faults) (C2 : Cal P w K mg base "wrong_bodies" 1 ["labels", "faults"] sp_wrong_bodies)
    (C3 : CalC P w K mg base U "Course" 1 p_co_init (sp_co_init U)) (C4 : CalM P w K mg base U "going" 2 ["self"] (sp_going U)) (C5 : CalM P w K mg base U "state" 1 ["self"] (sp_state U)) (C6 : Cal P w K mg base "due_faults" 2 ["course", "faults"] (sp_due_faults U))
    (C7 : CalM P w K mg base U "step" 4 ["self", "wrong", "silent"] (sp_step E U)) (hmb : ∃ u, mg "MOST_BIT" = some u ∧ RelV (.int 5000) u) : FnOk P w K mg base CX0 5 f fd p_run_sending (sp_run_sending E U) := by
  refine F.ok sc_run_sending (fun vs H Q E h => ?_) (fun cdv A outer s H vs Q E' hr h => ?_)
  · obtain ⟨e, lb, wa, sa, m, T, D, S, Mh, Ms, rfl, _⟩ := h
    rfl
  · obtain ⟨e, lb, wa, sa, m, Tt, D, S, Mh, Ms, rfl, hE, hV, hlb, hD, hS, hF, hm, hlen, q⟩ := h
    have nd := sc_run_sending.nd
    have hu := hu_of hr
    obtain ⟨um, gm1, gm2⟩ := hmb
    refine ⟨_, pss_cons (ps_set (i := 4) nd rfl (.inl rfl) (cal C1 (hr.mono (by decide)) (pa_cons (pv 2) (pa_cons (pv 3) pa_nil))))
      (pss_cons (ps_set (i := 5) nd rfl (.inr rfl) (calC C3 (hr.mono (by decide)) (pa_cons (pv 0) (pa_cons (pv 1) (pa_cons (cal C2 (hr.mono (by decide)) (pa_cons (pv 1) (pa_cons (pv 4) pa_nil))) pa_nil)))))
      (pss_cons (ps_setLc (i := 4) (own := [("fault", 10)]) (g := gName 10) (tt := tTest (tOp (rI0 fun i j => .bl (decide (j < i))) (tOp (rIxT K) (tVar 10) (tC (.int 0))) (tC (.int 0)))) rfl nd rfl rfl (sw_true rfl rfl rfl rfl) (pi_list (pv 4)) (blkOk_by (N := n_run_sending) (sc := defScope s_run_sending) (by decide +kernel)) (fun _ _ _ _ _ => pg_name (i := 10) nd rfl (.inl rfl))
          (fun _ _ _ _ _ => pts_one (pt_cmpR op_gt (ixTK K (pv 10) pe_int) pe_int (nomark _))) (fun _ _ _ _ _ => pv 10))
      (pss_cons (ps_set (i := 6) nd rfl (.inl rfl) pe_dnewS)
      (pss_cons (ps_while PassesOwn.never (pt_cmpR (op_neD hr.units) (calM0 C4 T.cl (hr.mono (by decide)) (pv 5)) (pe_lst pa_nil) (nomark _))
        (C8.pss_cut (ps_if (pt_cmpR (op_eqD hr.units) (pv 4) (pe_lst pa_nil) (nomark _))
          (pss_cons (ps_set (i := 7) nd rfl (.inl rfl) (calM0 C5 T.cl (hr.mono (by decide)) (pv 5)))
          (pss_cons (ps_if (pt_cmp (pc_sin hu (pv 7) (pv 6))) (pss_one ps_never) pss_nil)
          (pss_one (ps_sput hu (pv 6) (pv 7) (lenS G (pe_fld (pv 5) rfl)) rfl))))
          (pss_one (ps_if (pt_cmpR op_eq (lenS G (pe_fld (pv 5) rfl)) (pe_glob rfl gm1 gm2) (nomark _)) (pss_one ps_never) pss_nil)))
        (pss_cons (ps_asg (cal C6 (hr.mono (by decide)) (pa_cons (pv 5) (pa_cons (pv 4) pa_nil))) (pg_tup rfl (pgs_cons (pg_name (i := 8) nd rfl (.inl rfl)) (pgs_cons (pg_name (i := 9) nd rfl (.inl rfl)) pgs_nil))))
        (pss_cons (ps_setLc (i := 4) (own := [("fault", 10)]) (g := gName 10) (tt := tTest (tOp (rI0 fun i j => .bl (decide (j < i))) (tOp (rIxT K) (tVar 10) (tC (.int 0))) (tOp (rI0 fun i j => .int (i + j)) (tCB (fun xs H Q => ∃ p ys, xs = [.ref p] ∧ (SqL K H p ys ∨ SqT K H p ys) ∧ Q (.int ys.length) H) (tCons (tFld K (tVar 5) "passed") tNil)) (tC (.int 1))))) rfl nd rfl rfl (sw_true rfl rfl rfl rfl) (pi_list (pv 4)) (blkOk_by (N := n_run_sending) (sc := defScope s_run_sending) (by decide +kernel)) (fun _ _ _ _ _ => pg_name (i := 10) nd rfl (.inl rfl))
          (fun _ _ _ _ _ => pts_one (pt_cmpR op_gt (ixTK K (pv 10) pe_int) (pe_op op_add (lenK K G (fldK K (pv 5))) pe_int) (nomark _))) (fun _ _ _ _ _ => pv 10))
        (pss_one (ps_expr (calM C7 T.cl hr (pv 5) (pa_cons (pv 8) (pa_cons (pv 9) pa_nil)))))))))
      (pss_cons (ps_if (pt_cmpR (op_neD hr.units) (pv 4) (pe_lst pa_nil) (nomark _)) (pss_one ps_never) pss_nil)
      (pss_one (ps_ret (pv 5)))))))), ?_⟩
    refine ⟨_, rfl, _, rfl, wa, sa, D, S, rfl, hD, hS, hlen, fun H1 f1 l1 s1 nf1 hl1 perm1 => ?_⟩
    have hlb1 := s1 _ _ hlb
    have hnd1 : l1.Nodup := perm1.nodup_iff.mpr (tris_nodup hF.dN hF.qN)
    have hmem1 : ∀ x, x ∈ l1 ↔ x ∈ trisOf D S := fun x => perm1.mem_iff
    have hll1 : l1.length ≤ 20000 := by
      rw [perm1.length_eq]
      unfold trisOf
      rw [List.length_append, List.length_map, List.length_map]
      exact hlen
    refine ⟨_, rfl, _, rfl, _, rfl, _, rfl, lb, f1, m, l1, rfl, hlb1, hl1, hnd1, hll1, hm, fun t ht h0 => ?_, fun H2 pb bs s2 npb hpb hbs => ?_⟩
    · obtain ⟨b, k, z, rfl⟩ := tris_form ((hmem1 t).mp ht)
      have hb0 : b = 0 := by have : (b : Int) = 0 := h0; omega
      subst hb0
      rcases mem_tris.mp ((hmem1 _).mp ht) with ⟨rfl, hm2⟩ | ⟨rfl, hm2⟩
      · exact ⟨rfl, k, rfl, hF.d0 k hm2⟩
      · exact absurd hm2 (hF.q0 k)
    intro x dx nx ndx hne
    have mv2 : ∀ b o, H2 b = some o → (upd (upd H2 dx (.own x)) x (.ins U dx [])) b = some o := fun b o hb => by rw [upd_ne (ne_of_none hb nx), upd_ne (ne_of_none hb ndx)]; exact hb
    refine ⟨x, e, lb, pb, dx, m, bs, rfl, upd_same, mv2 _ _ (s2 _ _ hlb1), mv2 _ _ hpb, hm, fun H3 a s3x eax eae hC0 hown => ⟨rfl, ?_⟩⟩
    have s3 : Same H2 H3 := s3x.made nx ndx
    have hownH2 : ∀ y, a.own y → H2 y = none := fun y hy => by
      cases e2 : H2 y with
      | none => rfl
      | some o => have := hown y hy; rw [mv2 _ _ e2] at this; cases this
    have sH3 : Same H H3 := s1.trans (s2.trans s3)
    have hownH : ∀ y, a.own y → H y = none := fun y hy => noneOf (s1.trans s2) (hownH2 y hy)
    subst eax
    have hC3 : CoAt U H3 a m (KX.runR (KX.sysB (KX.mcs Mh Ms)) m D S (KX.P0B D) 0) := hC0.congr (fun k hk => by
      show some (KX.Pl.ix (if k ∈ bs then 1 else 0)) = some (.ix (if (0, k) ∈ D then 1 else 0))
      have e0 : ((0 : Int), (k : Int), false) ∈ trisOf D S ↔ (false = false ∧ (0, k) ∈ D) ∨ (false = true ∧ (0, k) ∈ S) := mem_tris (b := 0)
      have : k ∈ bs ↔ (0, k) ∈ D := ((hbs k).trans ((hmem1 _).trans e0)).trans ⟨fun h => h.elim (fun z => z.2) (fun z => (nomatch z.1)), fun h => Or.inl ⟨rfl, h⟩⟩
      by_cases h : k ∈ bs
      · rw [if_pos h, if_pos (this.mp h)]
      · rw [if_neg h, if_neg fun z => h (this.mpr z)]) rfl fun _ _ => rfl
    obtain ⟨xs1, hx1, hp1⟩ := hl1.same (s2.trans s3)
    refine ⟨_, rfl, f1, rfl, ⟨_, .inl (.inl hx1)⟩, fun D2 nD2 => ?_⟩
    refine lc_it walk_list (fun i H4 => Same H3 H4 ∧ ∃ acc, H4 D2 = some (.lst acc) ∧ Paired (IsTri H4) acc ((l1.take i).filter fun t => decide (0 < t.1))) ⟨sameN nD2, [], upd_same, .nil⟩ (fun i H4 _ p => .inl (.inl (p.1 _ _ hx1))) ?_ ?_
    · rintro i v H4_ H4 hi ⟨s4, acc, h4, hp4⟩ ⟨rfl, ev⟩
      obtain ⟨⟨b, k, z⟩, hf1, p, rfl, hp⟩ := paired_get hp1 ev
      have hp' := s4 _ _ hp
      have hil : i < l1.length := by have : i < xs1.length := hi; rw [paired_len hp1] at this; exact this
      refine ⟨rfl, _, rfl, p, _, _, _, rfl, rfl, .inl (.inl hp'), atI_nat (j := 0) rfl, _, _, rfl, rfl, _, rfl, ?_⟩
      have etk : l1.take (i + 1) = l1.take i ++ [(b, k, z)] := by rw [List.take_add_one, hf1]; rfl
      by_cases hb : 0 < b
      · refine onT (decide_eq_true hb) ⟨_, rfl, acc, h4, ?_, sameU s4 nD2, _, upd_same, ?_⟩
        · refine small_len (n := 20000) ?_
          rw [paired_len hp4]
          refine Nat.le_trans (List.length_filter_le _ _) ?_
          rw [List.length_take]
          omega
        · rw [etk, List.filter_append, List.filter_cons_of_pos (p := fun t : Tri => decide (0 < t.1)) (a := (b, k, z)) (decide_eq_true hb), List.filter_nil]
          refine paired_snoc (Paired.mapP hp4 fun v mm => ?_) ⟨p, rfl, ?_⟩
          · rintro ⟨zz, rfl, hz⟩
            exact ⟨zz, rfl, by rw [upd_ne (ne_of hz h4 (by intro z; cases z))]; exact hz⟩
          · rw [upd_ne (ne_of hp' h4 (by intro z; cases z))]
            exact hp'
      · refine onF (decide_eq_false hb) ⟨s4, acc, h4, ?_⟩
        rw [etk, List.filter_append, List.filter_cons_of_neg (p := fun t : Tri => decide (0 < t.1)) (a := (b, k, z)) (by rw [decide_eq_false hb]; decide), List.filter_nil, List.append_nil]
        exact hp4
    rintro H4 ⟨s4, acc, h4, hp4⟩
    rw [take_all (paired_len hp1)] at hp4
    have hC4 := hC3.same s4
    have nf4 : ¬ a.own D2 := by
      rintro (z | z | z)
      · rw [z, hC3.pd] at nD2; cases nD2
      · rw [z, hC3.pp] at nD2; cases nD2
      · obtain ⟨j, hj, e2⟩ := List.getElem_of_mem z
        rw [hC3.es j D2 (by rw [List.getElem?_eq_getElem hj, e2])] at nD2
        cases nD2
    intro sd nsd
    have nsd4 : H4 sd = none := nsd
    have s5 : Same H4 (upd H4 sd (SeenO P w sd [])) := sameN nsd4
    have nsdown : ¬ a.own sd := by
      rintro (z | z | z)
      · rw [z, hC4.pd] at nsd4; cases nsd4
      · rw [z, hC4.pp] at nsd4; cases nsd4
      · obtain ⟨j, hj, e2⟩ := List.getElem_of_mem z
        rw [hC4.es j sd (by rw [List.getElem?_eq_getElem hj, e2])] at nsd4
        cases nsd4
    have sH5 : Same H (upd H4 sd (SeenO P w sd [])) := sH3.trans (s4.trans s5)
    have nsdH : H sd = none := noneOf (sH3.trans s4) nsd4
    have hlen0 : ∀ t, (KX.runR (KX.sysB (KX.mcs Mh Ms)) m D S (KX.P0B D) t).bits.length = t := KX.runR_len D S (KX.P0B D)
    refine while_by (fun σ Hi => ∃ (t fa : Nat) (l : List Tri) (xs : SeenX) (x7 x8 x9 : Option V), σ = [some (.ref e), some (.ref lb), some (.ref wa), some (.ref sa), some (.ref fa), some (.ref a.c), some (.ref sd), x7, x8, x9, none] ∧ Same H Hi ∧
        CoAt U Hi a m (KX.runR (KX.sysB (KX.mcs Mh Ms)) m D S (KX.P0B D) t) ∧ TrisL Hi fa l ∧ ¬ a.own fa ∧ l.Nodup ∧ l.length ≤ 20000 ∧ (∀ x, x ∈ l ↔ x ∈ trisOf D S ∧ (t : Int) < x.1) ∧ t ≤ Tt ∧
        Hi sd = some (SeenO P w sd xs) ∧ SeenK Hi xs ∧ xs.length ≤ t ∧ ∀ x ∈ xs, ∃ s, s < t ∧ (∀ f ∈ D ++ S, f.1 ≤ s) ∧ x.1 = stateK m (KX.runR (KX.sysB (KX.mcs Mh Ms)) m D S (KX.P0B D) s).P) (fun _ Hi => Tt - lenAt Hi a.pp)
      ⟨0, D2, l1.filter fun t => decide (0 < t.1), [], _, _, _, rfl, sH5, hC4.same s5, TrisL.same ⟨acc, h4, hp4⟩ s5, nf4, List.Pairwise.filter _ hnd1, Nat.le_trans (List.length_filter_le _ _) hll1, fun x => ?_, Nat.zero_le _, upd_same, fun x hx => absurd hx List.not_mem_nil, Nat.le_refl _, fun x hx => absurd hx List.not_mem_nil⟩ ?_ ?_
    · rw [List.mem_filter, hmem1, decide_eq_true_eq]
      rfl
    · clear hC4 nD2 nf4 hp4 h4 s4 nsd4 s5 nsd sH5
      rintro σ Hi ⟨t, fa, l, xs, x7, x8, x9, rfl, sHi, hC, hl, nfa, hnd, hll, hmem, htT, hsd, hsk, hxl, hseen⟩
      have hbits := hlen0 t
      refine ⟨_, rfl, a.c, a.dx, _, rfl, hC.c, rfl, a, m, _, rfl, hC, hm, fun H6 pg s6 npg hg => ⟨by show 0 ≤ sizeLine; decide, fun p6 np6 => ?_⟩⟩
      have s7 : Same H6 (upd H6 p6 (.lst [])) := sameN np6
      refine ⟨.list ((goingL m (KX.runR (KX.sysB (KX.mcs Mh Ms)) m D S (KX.P0B D) t).P).map fun n => PyData.int (n : Nat)), .list [], .lst (.inl (.inl (s7 _ _ hg))) (dp_ints _), .lst (.inl (.inl upd_same)) .nil, (gd_ints _).sh (by decide), gd_nil.sh (by decide), _, rfl, ?_⟩
      rw [eqv_nil]
      generalize upd H6 p6 (.lst []) = H7 at s7
      have sHi7 : Same Hi H7 := s6.trans s7
      have hC7 := hC.same sHi7
      have hl7 := hl.same sHi7
      have hsd7 := sHi7 _ _ hsd
      have hsk7 : SeenK H7 xs := fun x hx => sHi7 _ _ (hsk x hx)
      have sH7 := sHi.trans sHi7
      have hpplen : lenAt Hi a.pp = t := by
        unfold lenAt
        rw [hC.pp]
        show (List.map bV _).length = t
        rw [List.length_map, hlen0]
      clear hC hl hsd hsk sHi
      cases hany : KX.anyL (KX.sysB (KX.mcs Mh Ms)) m (KX.runR (KX.sysB (KX.mcs Mh Ms)) m D S (KX.P0B D) t).P with
      | false =>
        have hg0 := going_any.mpr hany
        refine onF (by rw [hg0]; rfl) ?_
        have htT2 : t = Tt := by
          by_cases h : t < Tt
          · have := hF.on t h
            rw [hany] at this
            cases this
          · omega
        subst htT2
        have hl0 : l = [] := by
          rw [List.eq_nil_iff_forall_not_mem]
          intro x hx
          obtain ⟨h1, h2⟩ := (hmem x).mp hx
          obtain ⟨b, k, z, rfl⟩ := tris_form h1
          have h2' : (t : Int) < (b : Int) := h2
          obtain ⟨b', rfl⟩ : ∃ b', b = b' + 1 := ⟨b - 1, by omega⟩
          rcases mem_tris.mp h1 with ⟨_, h3⟩ | ⟨_, h3⟩
          · have := (hF.d1 b' k h3).1
            omega
          · have := (hF.q1 b' k h3).1
            omega
        subst hl0
        obtain ⟨ys, hy1, hy2⟩ := hl7
        refine ⟨_, rfl, by show 0 ≤ sizeLine; decide, fun p8 np8 => ?_⟩
        have s8 : Same H7 (upd H7 p8 (.lst [])) := sameN np8
        refine ⟨.list (([] : List Tri).map triD), .list [], .lst (.inl (.inl (s8 _ _ hy1))) (dp_tris (Paired.mapP hy2 fun _ _ z => z.same s8)), .lst (.inl (.inl upd_same)) .nil, (gd_tris []).sh (by decide), gd_nil.sh (by decide), _, rfl, ?_⟩
        rw [eqv_nil]
        refine onF rfl ⟨_, rfl, q _ a (sH7.trans s8) (hC7.same s8)⟩
      | true =>
        have hg1 : (goingL m (KX.runR (KX.sysB (KX.mcs Mh Ms)) m D S (KX.P0B D) t).P).length ≠ 0 := fun h => by
          have := (going_any (M := KX.mcs Mh Ms)).mp (List.eq_nil_of_length_eq_zero h)
          rw [hany] at this
          cases this
        refine onT (by rw [decide_eq_false hg1]; rfl) ?_
        have htT2 : t < Tt := by
          by_cases h : t < Tt
          · exact h
          · have : t = Tt := by omega
            subst this
            rw [hF.fin] at hany
            cases hany
        refine ⟨fun σ Hm => ∃ (xs' : SeenX) (x7 : Option V), σ = [some (.ref e), some (.ref lb), some (.ref wa), some (.ref sa), some (.ref fa), some (.ref a.c), some (.ref sd), x7, x8, x9, none] ∧ Same H Hm ∧
            CoAt U Hm a m (KX.runR (KX.sysB (KX.mcs Mh Ms)) m D S (KX.P0B D) t) ∧ TrisL Hm fa l ∧ Hm sd = some (SeenO P w sd xs') ∧ SeenK Hm xs' ∧ xs'.length ≤ t + 1 ∧
            ∀ x ∈ xs', ∃ s, s < t + 1 ∧ (∀ f ∈ D ++ S, f.1 ≤ s) ∧ x.1 = stateK m (KX.runR (KX.sysB (KX.mcs Mh Ms)) m D S (KX.P0B D) s).P, ?_, ?_⟩
        · obtain ⟨ys, hy1, hy2⟩ := id hl7
          refine ⟨_, rfl, by show 0 ≤ sizeLine; decide, fun p8 np8 => ?_⟩
          have s8 : Same H7 (upd H7 p8 (.lst [])) := sameN np8
          refine ⟨.list (l.map triD), .list [], .lst (.inl (.inl (s8 _ _ hy1))) (dp_tris (Paired.mapP hy2 fun _ _ z => z.same s8)), .lst (.inl (.inl upd_same)) .nil, (gd_tris l).sh (by decide), gd_nil.sh (by decide), _, rfl, ?_⟩
          rw [eqv_nil]
          generalize upd H7 p8 (.lst []) = H8 at s8
          have hC8 := hC7.same s8
          by_cases hl0 : l.length = 0
          · refine onT (decide_eq_true hl0) ?_
            have hl0' : l = [] := List.eq_nil_of_length_eq_zero hl0
            subst hl0'
            have hnone : ∀ f ∈ D ++ S, f.1 ≤ t := fun f hf => by
              by_cases h : f.1 ≤ t
              · exact h
              · have : ((f.1 : Int), (f.2 : Int), decide (f ∈ S ∧ f ∉ D)) ∈ ([] : List Tri) := by
                  refine (hmem _).mpr ⟨mem_tris.mpr ?_, by show (t : Int) < (f.1 : Int); omega⟩
                  by_cases hd : f ∈ D
                  · exact .inl ⟨decide_eq_false fun z => z.2 hd, hd⟩
                  · rcases List.mem_append.mp hf with z | z
                    · exact absurd z hd
                    · exact .inr ⟨decide_eq_true ⟨z, hd⟩, z⟩
                cases this
            refine ⟨_, rfl, a.c, a.dx, _, rfl, hC8.c, rfl, a, m, _, rfl, hC8, hm, fun H9 pl s9 npl hpl => ?_⟩
            rw [stateV_K] at hpl
            have s89 := s8.trans s9
            have hsd9 := s89 _ _ hsd7
            have hsk9 : SeenK H9 xs := fun x hx => s89 _ _ (hsk7 x hx)
            have hC9 := hC8.same s9
            have hnot : stateK m (KX.runR (KX.sysB (KX.mcs Mh Ms)) m D S (KX.P0B D) t).P ∉ xs.map (·.1) := fun hin => by
              obtain ⟨x, hx, ex⟩ := List.mem_map.mp hin
              obtain ⟨s, hs1, hs2, hs3⟩ := hseen x hx
              exact KX.never_again hs1 htT hs2 hF.fin hF.on (stateK_inj (hs3.symm.trans ex))
            refine ⟨_, rfl, _, rfl, sd, pl, xs, _, rfl, rfl, hsd9, hsk9, hpl, hnot, _, rfl, iteF ?_⟩
            refine ⟨_, rfl, a.c, U, _, _, _, rfl, hC9.c, T.cl, T.n5, rfl, a.pp, _, rfl, .inl (.inl (.inl hC9.pp)), _, rfl, _, rfl, sd, pl, xs, _, rfl, rfl, hsd9, hsk9, hpl, hnot, by have := hF.small; omega, fun u => ?_⟩
            have off : ∀ b o, b ≠ sd → H9 b = some o → (upd H9 sd (SeenO P w sd (xs ++ [(stateK m (KX.runR (KX.sysB (KX.mcs Mh Ms)) m D S (KX.P0B D) t).P, pl, u)]))) b = some o := fun b o hb he => by rw [upd_ne hb]; exact he
            have seenNot : ∀ o, H9 sd = some o → o = SeenO P w sd xs := fun o ho => by rw [hsd9] at ho; exact (Option.some.inj ho).symm
            have sdlst : ∀ b v, H9 b = some (.lst v) → b ≠ sd := fun b v hb z => by rw [z, hsd9] at hb; cases hb
            have sddk : ∀ b v, H9 b = some (.dK v) → b ≠ sd := fun b v hb z => by rw [z, hsd9] at hb; cases hb
            have sdtup : ∀ b v, H9 b = some (.tup v) → b ≠ sd := fun b v hb z => by rw [z, hsd9] at hb; cases hb
            have sdins : ∀ b C d v, H9 b = some (.ins C d v) → b ≠ sd := fun b C d v hb z => by rw [z, hsd9] at hb; cases hb
            refine ⟨_, _, rfl, ?_, ?_, ?_, upd_same, ?_, ?_, ?_⟩
            · exact sameU (sH7.trans s89) nsdH
            · exact ⟨off _ _ (sdins _ _ _ _ hC9.c) hC9.c, off _ _ (sdlst _ _ hC9.lb) hC9.lb, off _ _ (sddk _ _ hC9.pd) hC9.pd, off _ _ (sddk _ _ hC9.ed) hC9.ed, off _ _ (sdlst _ _ hC9.pp) hC9.pp, fun k x hx => off _ _ (sdlst _ _ (hC9.es k x hx)) (hC9.es k x hx), hC9.el, hC9.en, hC9.pe, hC9.le, hC9.lp, hC9.de⟩
            · obtain ⟨zs, hz1, hz2⟩ := hl7.same s89
              exact ⟨zs, off _ _ (sdlst _ _ hz1) hz1, Paired.mapP hz2 fun _ _ ⟨p, e1, e2⟩ => ⟨p, e1, off _ _ (sdtup _ _ e2) e2⟩⟩
            · intro x hx
              rcases List.mem_append.mp hx with hx | hx
              · exact off _ _ (sdtup _ _ (hsk9 x hx)) (hsk9 x hx)
              · cases List.mem_singleton.mp hx
                exact off _ _ (sdtup _ _ hpl) hpl
            · rw [List.length_append]
              exact Nat.succ_le_succ hxl
            · intro x hx
              rcases List.mem_append.mp hx with hx | hx
              · obtain ⟨s, h1, h2, h3⟩ := hseen x hx
                exact ⟨s, by omega, h2, h3⟩
              · cases List.mem_singleton.mp hx
                exact ⟨t, Nat.lt_succ_self t, hnone, rfl⟩
          · refine onF (decide_eq_false hl0) ?_
            refine ⟨_, rfl, a.c, U, _, _, _, rfl, hC8.c, T.cl, T.n5, rfl, a.pp, _, rfl, .inl (.inl (.inl hC8.pp)), rfl, _, rfl, ?_⟩
            refine onF (decide_eq_false (by rw [List.length_map, hbits]; intro z; injection z with z; have := hF.small; omega)) ?_
            exact ⟨xs, _, rfl, sH7.trans s8, hC8, hl7.same s8, s8 _ _ hsd7, fun x hx => s8 _ _ (hsk7 x hx), by omega, fun x hx => by obtain ⟨s, h1, h2, h3⟩ := hseen x hx; exact ⟨s, by omega, h2, h3⟩⟩
        · clear hl7 hsd7 hsk7 hC7 sH7 sHi7 s7 s6 hg npg np6 hseen hxl
          rintro σ' H8 ⟨xs', y7, rfl, sH8, hC8, hl8, hsd8, hsk8, hxl8, hseen8⟩
          have hdue : ∀ tt ∈ l, tt.1 = ((KX.runR (KX.sysB (KX.mcs Mh Ms)) m D S (KX.P0B D) t).bits.length : Int) + 1 → ∃ k : Nat, tt.2.1 = k ∧ k < m ∧ goes ((KX.runR (KX.sysB (KX.mcs Mh Ms)) m D S (KX.P0B D) t).P k) = true ∧ (tt.1, (k : Int), !tt.2.2) ∉ l := by
            intro tt htt hb1
            obtain ⟨h1, h2⟩ := (hmem tt).mp htt
            obtain ⟨b, k, z, rfl⟩ := tris_form h1
            rw [hbits] at hb1
            have hb : b = t + 1 := by have : (b : Int) = (t : Int) + 1 := hb1; omega
            subst hb
            have excl : (t + 1, k) ∈ D → (t + 1, k) ∈ S → False := fun hd hs => by
              have hl := (hF.d1 t k hd).2.2
              have e : KX.hush (KX.sysB (KX.mcs Mh Ms)) (KX.atB S (t + 1)) (KX.runR (KX.sysB (KX.mcs Mh Ms)) m D S (KX.P0B D) t).P k = none := by
                unfold KX.hush
                rw [if_pos (show KX.atB S (t + 1) k = true from decide_eq_true hs)]
                rfl
              rw [e] at hl
              cases hl
            rcases mem_tris.mp h1 with ⟨rfl, hd⟩ | ⟨rfl, hs⟩
            · have h3 := hF.d1 t k hd
              refine ⟨k, rfl, h3.2.1, ?_, fun hx => ?_⟩
              · have hl := h3.2.2
                unfold KX.hush at hl
                rw [if_neg (show ¬ KX.atB S (t + 1) k = true from fun z => excl hd (of_decide_eq_true z)), live_goes] at hl
                exact hl
              · rcases mem_tris.mp ((hmem _).mp hx).1 with ⟨z, _⟩ | ⟨_, z⟩
                · cases z
                · exact excl hd z
            · have h3 := hF.q1 t k hs
              refine ⟨k, rfl, h3.2.1, ?_, fun hx => ?_⟩
              · rw [← live_goes (KX.mcs Mh Ms)]
                exact h3.2.2
              · rcases mem_tris.mp ((hmem _).mp hx).1 with ⟨_, z⟩ | ⟨z, _⟩
                · exact excl z hs
                · cases z
          refine ⟨_, rfl, _, rfl, a, fa, m, _, l, rfl, hC8, hl8, hnd, hll, hdue, fun H9 pt pw ps wl sl s9 hpt npw nps hpw hps hwl hsl => ?_⟩
          refine ⟨pt, _, rfl, .inl (.inl hpt), rfl, _, _, rfl, _, _, rfl, rfl, ?_⟩
          have hC9 := hC8.same s9
          obtain ⟨ys, hy1, hy2⟩ := hl8.same s9
          have notOwn : ∀ {Hq : Hp} {rq : KX.Run (Option KX.Pl)} {y : Addr}, CoAt U Hq a m rq → Hq y = none → ¬ a.own y := fun {Hq rq y} hCq hy => by
            rintro (z | z | z)
            · rw [z, hCq.pd] at hy; cases hy
            · rw [z, hCq.pp] at hy; cases hy
            · obtain ⟨j, hj, e2⟩ := List.getElem_of_mem z
              rw [hCq.es j y (by rw [List.getElem?_eq_getElem hj, e2])] at hy
              cases hy
          have nwo := notOwn hC8 npw
          have nso := notOwn hC8 nps
          refine ⟨_, rfl, fa, rfl, ⟨_, .inl (.inl hy1)⟩, fun D9 nD9 => ?_⟩
          refine lc_it walk_list (fun i Ha => Same H9 Ha ∧ ∃ acc, Ha D9 = some (.lst acc) ∧ Paired (IsTri Ha) acc ((l.take i).filter fun x => decide (((t + 1 : Nat) : Int) < x.1))) ⟨sameN nD9, [], upd_same, .nil⟩ (fun i Ha _ p => .inl (.inl (p.1 _ _ hy1))) ?_ ?_
          · rintro i v Ha_ Ha hi ⟨sa9, acc, h4, hp4⟩ ⟨rfl, ev⟩
            obtain ⟨⟨b, k, z⟩, hf1, p, rfl, hp⟩ := paired_get hy2 ev
            have hp' := sa9 _ _ hp
            have hCa := hC9.same sa9
            have hil : i < l.length := by have : i < ys.length := hi; rw [paired_len hy2] at this; exact this
            refine ⟨rfl, _, rfl, p, _, _, _, rfl, rfl, .inl (.inl hp'), atI_nat (j := 0) rfl, _, rfl, a.c, U, _, _, _, rfl, hCa.c, T.cl, T.n5, rfl, a.pp, _, rfl, .inl (.inl (.inl hCa.pp)), _, _, rfl, rfl, _, _, rfl, rfl, _, rfl, ?_⟩
            rw [List.length_map, hbits]
            have etk : l.take (i + 1) = l.take i ++ [(b, k, z)] := by rw [List.take_add_one, hf1]; rfl
            by_cases hb : (t : Int) + 1 < b
            · refine onT (decide_eq_true hb) ⟨_, rfl, acc, h4, ?_, sameU sa9 nD9, _, upd_same, ?_⟩
              · refine small_len (n := 20000) ?_
                rw [paired_len hp4]
                refine Nat.le_trans (List.length_filter_le _ _) ?_
                rw [List.length_take]
                omega
              · rw [etk, List.filter_append, List.filter_cons_of_pos (p := fun x : Tri => decide (((t + 1 : Nat) : Int) < x.1)) (a := (b, k, z)) (decide_eq_true (by show ((t + 1 : Nat) : Int) < b; omega)), List.filter_nil]
                refine paired_snoc (Paired.mapP hp4 fun v mm => ?_) ⟨p, rfl, ?_⟩
                · rintro ⟨zz, rfl, hz⟩
                  exact ⟨zz, rfl, by rw [upd_ne (ne_of hz h4 (by intro z; cases z))]; exact hz⟩
                · rw [upd_ne (ne_of hp' h4 (by intro z; cases z))]
                  exact hp'
            · refine onF (decide_eq_false hb) ⟨sa9, acc, h4, ?_⟩
              rw [etk, List.filter_append, List.filter_cons_of_neg (p := fun x : Tri => decide (((t + 1 : Nat) : Int) < x.1)) (a := (b, k, z)) (by intro z; have := of_decide_eq_true z; have h2 : ((t + 1 : Nat) : Int) < b := this; omega), List.filter_nil, List.append_nil]
              exact hp4
          rintro Ha ⟨sa9, acc, h4, hp4⟩
          rw [take_all (paired_len hy2)] at hp4
          have hCa := hC9.same sa9
          have sHa : Same H Ha := sH8.trans (s9.trans sa9)
          have nfa9 := notOwn hC9 nD9
          have hEa := hE.same sHa
          refine ⟨_, rfl, a.c, a.dx, _, rfl, hCa.c, rfl, _, rfl, _, rfl, ?_⟩
          have ed : (fun k => decide (k ∈ sl)) = KX.atB S (t + 1) := by
            funext k
            refine decide_eq_decide.mpr ((hsl k).trans ?_)
            rw [hbits]
            have e0 : ((t : Int) + 1, (k : Int), true) ∈ trisOf D S ↔ (true = false ∧ (t + 1, k) ∈ D) ∨ (true = true ∧ (t + 1, k) ∈ S) := mem_tris (b := t + 1)
            refine (hmem _).trans ((and_congr_left' e0).trans ?_)
            exact ⟨fun h => h.1.elim (fun z => (nomatch z.1)) fun z => z.2, fun h => ⟨Or.inr ⟨rfl, h⟩, by show (t : Int) < (t : Int) + 1; omega⟩⟩
          have ew : (fun k => decide (k ∈ wl)) = KX.atB D (t + 1) := by
            funext k
            refine decide_eq_decide.mpr ((hwl k).trans ?_)
            rw [hbits]
            have e0 : ((t : Int) + 1, (k : Int), false) ∈ trisOf D S ↔ (false = false ∧ (t + 1, k) ∈ D) ∨ (false = true ∧ (t + 1, k) ∈ S) := mem_tris (b := t + 1)
            refine (hmem _).trans ((and_congr_left' e0).trans ?_)
            exact ⟨fun h => h.1.elim (fun z => z.2) fun z => (nomatch z.1), fun h => ⟨Or.inl ⟨rfl, h⟩, by show (t : Int) < (t : Int) + 1; omega⟩⟩
          have hsm := hF.small
          have hae : a.e = e := eae
          refine ⟨a, pw, ps, m, _, Mh, Ms, wl, sl, rfl, hCa, hae ▸ hEa, hV, sa9 _ _ hpw, sa9 _ _ hps, nwo, nso, fun k hk => ?_, fun k i hk hi => ?_, hm, by rw [hbits]; omega, fun k => by have := run_ears (G := KX.sysB (KX.mcs Mh Ms)) (m := m) (D := D) (S := S) (P0 := KX.P0B D) t k; omega, fun Hb bb hCb => ?_⟩
          · have : decide (k ∈ sl) = KX.atB S (t + 1) k := congrFun ed k
            rw [decide_eq_true hk] at this
            exact (hF.q1 t k (of_decide_eq_true this.symm)).2.1
          · exact run_ix hV (fun k hk => (hF.d0 k hk).1) t k (.ix i) hi
          have sHb : Same H Hb := fun b o hb => bb b o (fun hy => by rw [hownH b hy] at hb; cases hb) (sHa b o hb)
          have hCb' : CoAt U Hb a m (KX.runR (KX.sysB (KX.mcs Mh Ms)) m D S (KX.P0B D) (t + 1)) := by
            rw [ed, ew] at hCb
            exact hCb
          have tupNot : ∀ y v, Ha y = some (.tup v) → ¬ a.own y := fun y v hy hz => by
            rcases hz with z | z | z
            · rw [z, hCa.pd] at hy; cases hy
            · rw [z, hCa.pp] at hy; cases hy
            · obtain ⟨j, hj, e2⟩ := List.getElem_of_mem z
              rw [hCa.es j y (by rw [List.getElem?_eq_getElem hj, e2])] at hy
              cases hy
          refine ⟨⟨t + 1, D9, l.filter fun x => decide (((t + 1 : Nat) : Int) < x.1), xs', _, _, _, rfl, sHb, hCb', ⟨acc, bb _ _ nfa9 h4, Paired.mapP hp4 fun _ _ ⟨p, e1, e2⟩ => ⟨p, e1, bb _ _ (tupNot _ _ e2) e2⟩⟩, nfa9, List.Pairwise.filter _ hnd, Nat.le_trans (List.length_filter_le _ _) hll, fun x => ?_, htT2, bb _ _ nsdown (sa9 _ _ (s9 _ _ hsd8)), fun x hx => ?_, hxl8, hseen8⟩, ?_⟩
          · rw [List.mem_filter, hmem, decide_eq_true_eq]
            exact ⟨fun h => ⟨h.1.1, h.2⟩, fun h => ⟨⟨h.1, by have := h.2; omega⟩, h.2⟩⟩
          · have := sa9 _ _ (s9 _ _ (hsk8 x hx))
            exact bb _ _ (tupNot _ _ this) this
          · have e1 : lenAt Hb a.pp = t + 1 := by
              unfold lenAt
              rw [hCb'.pp]
              show (List.map bV _).length = t + 1
              rw [List.length_map, hlen0]
            have e2 : lenAt Hi a.pp = t := hpplen
            show Tt - lenAt Hb a.pp < Tt - lenAt Hi a.pp
            rw [e1, e2]
            omega
    · rintro σ H2 Q1 Q2 hQ ⟨v, h1, a', dx, fs, h2, h3, h4, a2, m2, r2, h5, h6, h7, h8⟩
      refine ⟨v, h1, a', dx, fs, h2, h3, h4, a2, m2, r2, h5, h6, h7, fun H' p s n ep => ?_⟩
      obtain ⟨h9, h10⟩ := h8 H' p s n ep
      refine ⟨h9, fun l nl => ?_⟩
      obtain ⟨d, e, h11, h12, h13, h14, k, h15, h16⟩ := h10 l nl
      exact ⟨d, e, h11, h12, h13, h14, k, h15, hQ _ _ h16⟩
end
end SB
end
section
set_option maxRecDepth 100000
set_option maxHeartbeats 4000000
/-! Walks: the class Sending, sending. -/
namespace SB
open PySem PySem.Spec PyProof.Rows L2

/-- a Sending as it stands -/
structure SdAt (W : Addr) (H : Hp) (x : Addr) (m : Nat) (r : KX.Run (Option KX.Pl)) : Prop where
  ex : ∃ (dx p1 p2 p3 : Addr) (es : List Addr), H x = some (.ins W dx [("bits", .ref p1), ("told", .ref p2), ("ears", .ref p3)]) ∧ H p1 = some (.tup (r.bits.map bV)) ∧ H p2 = some (.tup (stateV m r.P)) ∧ H p3 = some (.tup (es.map V.ref)) ∧ es.length = m ∧
    ∀ k y, es[k]? = some y → H y = some (.tup ((r.ears k).map bV))
theorem SdAt.same {W : Addr} {H H' : Hp} {x m : Nat} {r : KX.Run (Option KX.Pl)} (h : SdAt W H x m r) (s : Same H H') : SdAt W H' x m r := by
  obtain ⟨dx, p1, p2, p3, es, h1, h2, h3, h4, h5, h6⟩ := h.ex
  exact ⟨dx, p1, p2, p3, es, s _ _ h1, s _ _ h2, s _ _ h3, s _ _ h4, h5, fun k y e => s _ _ (h6 k y e)⟩
structure TxS (K : PySem.W.Frag) (mg : Str → Option Value) (W : Addr) : Prop where
  cl : Cls K W
  n1 : NoAttr K W "bits"
  n2 : NoAttr K W "told"
  n3 : NoAttr K W "ears"
section
variable {P : Program} {w : World} {K : PySem.W.Frag} {mg : Str → Option Value} {base : Heap} {E U W : Addr}
abbrev s_sd_init : Stmt := inClass (top 38) 0
abbrev n_sd_init : List Str := ["self", "line", "words", "heard", "row"]
abbrev p_sd_init : List Str := ["self", "line", "words", "heard"]
theorem sc_sd_init : FnScope n_sd_init p_sd_init (defScope s_sd_init) := ⟨rfl, rfl, rfl, by decide +kernel, rfl, by decide +kernel, by decide +kernel⟩
def sp_sd_init (W : Addr) : Sp := fun vs H Q _ => ∃ (x l wd hd dx m : Nat) (es : List Addr) (r : KX.Run (Option KX.Pl)), vs = [.ref x, .ref l, .ref wd, .ref hd] ∧ H x = some (.ins W dx []) ∧ H l = some (.lst (r.bits.map bV)) ∧ H wd = some (.tup (stateV m r.P)) ∧ H hd = some (.lst (es.map V.ref)) ∧
  es.length = m ∧ m ≤ 100 ∧ (∀ k y, es[k]? = some y → H y = some (.lst ((r.ears k).map bV))) ∧ ∀ H', SameX x H H' → SdAt W H' x m r → Q .non H'
theorem ok_sd_init {f : Addr} {fd : FuncData} (F : Fun K "__init__" "Sending.__init__" s_sd_init f fd) (T : TxS K mg W) (G : Gb mg) : FnOk P w K mg base CX0 1 f fd p_sd_init (sp_sd_init W) := by
  refine F.ok sc_sd_init (fun vs H Q E h => ?_) (fun cdv A outer s H vs Q E' hr h => ?_)
  · obtain ⟨x, l, wd, hd, dx, m, es, r, rfl, _⟩ := h
    rfl
  · obtain ⟨x, l, wd, hd, dx, m, es, r, rfl, hx, hl, hwd, hhd, hel, hm, hes, q⟩ := h
    have nd := sc_sd_init.nd
    refine ⟨_, pss_cons (ps_fld (pv 0) (tupleS G (pv 1)) rfl)
      (pss_cons (ps_fld (pv 0) (tupleS G (pv 2)) rfl)
      (pss_one (ps_fld (pv 0) (tupleS G (pe_lc (own := [("row", 4)]) (g := gName 4) (tt := tYes) rfl nd (pi_list (pv 3)) (blkOk_by (N := n_sd_init) (sc := defScope s_sd_init) (by decide +kernel)) (fun _ _ _ _ _ => pg_name (i := 4) nd rfl (.inl rfl)) (fun _ _ _ _ _ => pts_nil)
        (te := tCB (fun xs H Q => ∃ p ys, xs = [.ref p] ∧ ((SqL K H p ys ∧ ∀ l, H l = none → Q (.ref l) (upd H l (.tup ys))) ∨ (SqT K H p ys ∧ Q (.ref p) H))) (tCons (tVar 4) tNil)) (fun _ _ _ _ _ => tupleS G (pv 4)))) rfl))), ?_⟩
    have hlx : l ≠ x := ne_of hl hx (by intro z; cases z)
    have hwx : wd ≠ x := ne_of hwd hx (by intro z; cases z)
    have hhx : hd ≠ x := ne_of hhd hx (by intro z; cases z)
    have hex : ∀ k y, es[k]? = some y → y ≠ x := fun k y e => ne_of (hes k y e) hx (by intro z; cases z)
    refine ⟨_, rfl, l, _, rfl, .inl ⟨.inl (.inl hl), fun p1 n1 => ?_⟩⟩
    have hp1x : p1 ≠ x := ne_of_none' n1 hx
    refine ⟨_, rfl, x, W, dx, [], rfl, (upd_ne hp1x.symm).trans hx, T.cl, T.n1, by show 0 < 1000; decide, ?_⟩
    have x1 : SameX x H (upd (upd H p1 (.tup (r.bits.map bV))) x (.ins W dx (putF "bits" (.ref p1) []))) := (sx (sameN n1)).trans SameX.at
    have h1 : (upd (upd H p1 (.tup (r.bits.map bV))) x (.ins W dx (putF "bits" (.ref p1) []))) x = some (.ins W dx [("bits", .ref p1)]) := upd_same
    have b1 : (upd (upd H p1 (.tup (r.bits.map bV))) x (.ins W dx (putF "bits" (.ref p1) []))) p1 = some (.tup (r.bits.map bV)) := by rw [upd_ne hp1x]; exact upd_same
    generalize upd (upd H p1 (.tup (r.bits.map bV))) x (.ins W dx (putF "bits" (.ref p1) [])) = H1 at x1 h1 b1
    have hw1 := x1 _ _ hwx hwd
    refine ⟨_, rfl, wd, _, rfl, .inr ⟨.inl (.inl hw1), ?_⟩⟩
    refine ⟨_, rfl, x, W, dx, _, rfl, h1, T.cl, T.n2, by show 1 < 1000; decide, ?_⟩
    have x2 : SameX x H (upd H1 x (.ins W dx (putF "told" (.ref wd) [("bits", .ref p1)]))) := x1.trans SameX.at
    have h2 : (upd H1 x (.ins W dx (putF "told" (.ref wd) [("bits", .ref p1)]))) x = some (.ins W dx [("bits", .ref p1), ("told", .ref wd)]) := upd_same
    have b2 : (upd H1 x (.ins W dx (putF "told" (.ref wd) [("bits", .ref p1)]))) p1 = some (.tup (r.bits.map bV)) := by rw [upd_ne hp1x]; exact b1
    generalize upd H1 x (.ins W dx (putF "told" (.ref wd) [("bits", .ref p1)])) = H2 at x2 h2 b2
    have hw2 := x2 _ _ hwx hwd
    have hh2 := x2 _ _ hhx hhd
    refine ⟨_, rfl, hd, rfl, ⟨_, .inl (.inl hh2)⟩, fun D nD => ?_⟩
    refine lc_it walk_list (fun i H3 => Same H2 H3 ∧ ∃ ts : List Addr, ts.length = i ∧ H3 D = some (.lst (ts.map V.ref)) ∧ ∀ k y, ts[k]? = some y → H3 y = some (.tup ((r.ears k).map bV))) ⟨sameN nD, [], rfl, upd_same, fun k y e => by simp at e⟩ (fun i H3 _ p => .inl (.inl (p.1 _ _ hh2))) ?_ ?_
    · rintro i v H3_ H3 hi ⟨s3, ts, e1, e2, e3⟩ ⟨rfl, ev⟩
      have hi' : i < es.length := by simpa using hi
      have hg : es[i]? = some es[i] := List.getElem?_eq_getElem hi'
      have ev2 : v = .ref es[i] := by
        rw [List.getElem?_map, hg] at ev
        exact (Option.some.inj ev).symm
      subst ev2
      have hei := s3 _ _ (x2 _ _ (hex i _ hg) (hes i _ hg))
      refine ⟨rfl, tyes ⟨_, rfl, es[i], _, rfl, .inl ⟨.inl (.inl hei), fun z nz => ⟨_, (upd_ne (ne_of_none e2 nz)).trans e2, small_len (n := 100) (by rw [List.length_map]; omega), sameU (sameN2 s3 nz) nD, ts ++ [z], by rw [List.length_append, e1]; rfl, by rw [upd_same, List.map_append]; rfl, fun k y hy => ?_⟩⟩⟩⟩
      have hzD : z ≠ D := ne_of_none' nz e2
      by_cases hk : k < ts.length
      · rw [List.getElem?_append_left hk] at hy
        have h3 := e3 k y hy
        rw [upd_ne (ne_of h3 e2 (by intro z; cases z)), upd_ne (ne_of_none h3 nz)]
        exact h3
      · have hk2 : k = ts.length := by
          have := (List.getElem?_eq_some_iff.mp hy).1
          rw [List.length_append] at this
          simp at this
          omega
        subst hk2
        have hyz : y = z := by simpa using hy.symm
        subst hyz
        rw [upd_ne hzD, upd_same, e1]
    rintro H3 ⟨s3, ts, e1, e2, e3⟩
    rw [List.length_map, hel] at e1
    refine ⟨D, _, rfl, .inl ⟨.inl (.inl e2), fun p3 n3 => ?_⟩⟩
    have s4 : Same H2 (upd H3 p3 (.tup (ts.map V.ref))) := sameN2 s3 n3
    have h4 := s4 _ _ h2
    have hp3x : p3 ≠ x := ne_of_none' n3 (s3 _ _ h2)
    refine ⟨_, rfl, x, W, dx, _, rfl, h4, T.cl, T.n3, by show 2 < 1000; decide, ?_⟩
    have off : ∀ b v, (upd H3 p3 (.tup (ts.map V.ref))) b = some (.tup v) → (upd (upd H3 p3 (.tup (ts.map V.ref))) x (.ins W dx (putF "ears" (.ref p3) [("bits", .ref p1), ("told", .ref wd)]))) b = some (.tup v) := fun b v hb => by
      rw [upd_ne (ne_of hb h4 (by intro z; cases z))]
      exact hb
    refine q _ ((x2.trans (sx s4)).trans SameX.at) ⟨dx, p1, wd, p3, ts, upd_same, off _ _ (s4 _ _ b2), off _ _ (s4 _ _ hw2), off _ _ upd_same, e1, fun k y hy => off _ _ ?_⟩
    have h3 := e3 k y hy
    rw [upd_ne (ne_of_none h3 n3)]
    exact h3
/-! line, words, heard, __len__ -/
abbrev s_line : Stmt := inClass (top 38) 1
abbrev s_words : Stmt := inClass (top 38) 2
abbrev s_heard : Stmt := inClass (top 38) 4
abbrev s_sd_len : Stmt := inClass (top 38) 5
theorem sc_line : FnScope ["self"] ["self"] (defScope s_line) := ⟨rfl, rfl, rfl, by decide +kernel, rfl, by decide +kernel, by decide +kernel⟩
theorem sc_words : FnScope ["self"] ["self"] (defScope s_words) := ⟨rfl, rfl, rfl, by decide +kernel, rfl, by decide +kernel, by decide +kernel⟩
theorem sc_heard : FnScope ["self", "station"] ["self", "station"] (defScope s_heard) := ⟨rfl, rfl, rfl, by decide +kernel, rfl, by decide +kernel, by decide +kernel⟩
theorem sc_sd_len : FnScope ["self"] ["self"] (defScope s_sd_len) := ⟨rfl, rfl, rfl, by decide +kernel, rfl, by decide +kernel, by decide +kernel⟩
def sp_line (W : Addr) : Sp := fun vs H Q _ => ∃ (x m : Nat) (r : KX.Run (Option KX.Pl)), vs = [.ref x] ∧ SdAt W H x m r ∧ ∀ p, H p = some (.tup (r.bits.map bV)) → Q (.ref p) H
def sp_words (W : Addr) : Sp := fun vs H Q _ => ∃ (x m : Nat) (r : KX.Run (Option KX.Pl)), vs = [.ref x] ∧ SdAt W H x m r ∧ ∀ p, H p = some (.tup (stateV m r.P)) → Q (.ref p) H
def sp_heard (W : Addr) : Sp := fun vs H Q _ => ∃ (x m k : Nat) (r : KX.Run (Option KX.Pl)), vs = [.ref x, .int k] ∧ SdAt W H x m r ∧ k < m ∧ ∀ p, H p = some (.tup ((r.ears k).map bV)) → Q (.ref p) H
def sp_sd_len (W : Addr) : Sp := fun vs H Q _ => ∃ (x m : Nat) (r : KX.Run (Option KX.Pl)), vs = [.ref x] ∧ SdAt W H x m r ∧ Q (.int r.bits.length) H
theorem ok_line {f : Addr} {fd : FuncData} (F : Fun K "line" "Sending.line" s_line f fd) (T : TxS K mg W) : FnOk P w K mg base CX0 1 f fd ["self"] (sp_line W) := by
  refine F.ok sc_line (fun vs H Q E h => ?_) (fun cdv A outer s H vs Q E hr h => ?_)
  · obtain ⟨x, m, r, rfl, _⟩ := h
    rfl
  · obtain ⟨x, m, r, rfl, ⟨dx, p1, p2, p3, es, h1, h2, h3, h4, h5, h6⟩, q⟩ := h
    exact ⟨_, pss_one (ps_ret (pe_fld (pv 0) rfl)), _, rfl, x, _, dx, _, _, rfl, h1, T.cl, T.n1, rfl, q p1 h2⟩
theorem ok_words {f : Addr} {fd : FuncData} (F : Fun K "words" "Sending.words" s_words f fd) (T : TxS K mg W) : FnOk P w K mg base CX0 1 f fd ["self"] (sp_words W) := by
  refine F.ok sc_words (fun vs H Q E h => ?_) (fun cdv A outer s H vs Q E hr h => ?_)
  · obtain ⟨x, m, r, rfl, _⟩ := h
    rfl
  · obtain ⟨x, m, r, rfl, ⟨dx, p1, p2, p3, es, h1, h2, h3, h4, h5, h6⟩, q⟩ := h
    exact ⟨_, pss_one (ps_ret (pe_fld (pv 0) rfl)), _, rfl, x, _, dx, _, _, rfl, h1, T.cl, T.n2, rfl, q p2 h3⟩
theorem ok_heard {f : Addr} {fd : FuncData} (F : Fun K "heard" "Sending.heard" s_heard f fd) (T : TxS K mg W) : FnOk P w K mg base CX0 1 f fd ["self", "station"] (sp_heard W) := by
  refine F.ok sc_heard (fun vs H Q E h => ?_) (fun cdv A outer s H vs Q E hr h => ?_)
  · obtain ⟨x, m, k, r, rfl, _⟩ := h
    rfl
  · obtain ⟨x, m, k, r, rfl, ⟨dx, p1, p2, p3, es, h1, h2, h3, h4, h5, h6⟩, hk, q⟩ := h
    have hg : es[k]? = some (es[k]'(by omega)) := List.getElem?_eq_getElem (by omega)
    exact ⟨_, pss_one (ps_ret (pe_ix ix_tup (pe_fld (pv 0) rfl) (pv 1) (fun _ _ => rfl))), _, rfl, x, _, dx, _, _, rfl, h1, T.cl, T.n3, rfl, _, rfl, p3, _, _, _, rfl, rfl, .inl (.inl h4), atI_nat (by rw [List.getElem?_map, hg]; rfl), q _ (h6 k _ hg)⟩
theorem ok_sd_len {f : Addr} {fd : FuncData} (F : Fun K "__len__" "Sending.__len__" s_sd_len f fd) (T : TxS K mg W) (G : Gb mg) : FnOk P w K mg base CX0 1 f fd ["self"] (sp_sd_len W) := by
  refine F.ok sc_sd_len (fun vs H Q E h => ?_) (fun cdv A outer s H vs Q E hr h => ?_)
  · obtain ⟨x, m, r, rfl, _⟩ := h
    rfl
  · obtain ⟨x, m, r, rfl, ⟨dx, p1, p2, p3, es, h1, h2, h3, h4, h5, h6⟩, q⟩ := h
    refine ⟨_, pss_one (ps_ret (lenS G (pe_fld (pv 0) rfl))), _, rfl, x, _, dx, _, _, rfl, h1, T.cl, T.n1, rfl, p1, _, rfl, .inr (.inl (.inl h2)), ?_⟩
    show Q (.int ((r.bits.map bV).length : Nat)) H
    rw [List.length_map]
    exact q
end
end SB
end
section
set_option maxRecDepth 100000
set_option maxHeartbeats 4000000
/-! Walks: sending. -/
namespace SB
open PySem PySem.Spec PyProof.Rows L2
theorem rgV_nat (n : Nat) : rgV 0 (n : Int) = (List.range n).map iv := by
  unfold rgV
  rw [show ((n : Int) - 0).toNat = n by omega]
  refine List.map_congr_left fun k _ => ?_
  show V.int (0 + (k : Int)) = V.int (k : Int)
  rw [Int.zero_add]
section
variable {P : Program} {w : World} {K : PySem.W.Frag} {mg : Str → Option Value} {base : Heap} {E U W : Addr}
abbrev n_sending : List Str := ["end", "hearers", "wrong", "silent", "course", "label"]
theorem sc_sending : FnScope n_sending p_sending (defScope s_sending) := ⟨rfl, rfl, rfl, by decide +kernel, rfl, by decide +kernel, by decide +kernel⟩
def sp_sending (E W : Addr) : Sp := fun vs H Q _ => ∃ (e n wa sa T : Nat) (D S : List KX.Ft) (Mh Ms : KX.Mc), vs = [.ref e, .int n, .ref wa, .ref sa] ∧ EndAt E H e Mh Ms ∧ KX.VE Mh Ms ∧ FtsL H wa D ∧ FtsL H sa S ∧
  KX.Fair (KX.sysB (KX.mcs Mh Ms)) (n + 1) (KX.P0B D) D S T ∧ n ≤ 50 ∧ D.length + S.length ≤ 20000 ∧
  ∀ H' x, Same H H' → SdAt W H' x (n + 1) (KX.runR (KX.sysB (KX.mcs Mh Ms)) (n + 1) D S (KX.P0B D) T) → Q (.ref x) H'
theorem ok_sending {f : Addr} {fd : FuncData} {kws : List (Str × V)} (F : FunK K "sending" s_sending kws f fd) (TU : TxU K mg U) (G : Gb mg) (C1 : Cal P w K mg base "run_sending" 5 p_run_sending (sp_run_sending E U))
    (C2 : CalM P w K mg base U "state" 1 ["self"] (sp_state U)) (C3 : CalC P w K mg base W "Sending" 1 p_sd_init (sp_sd_init W)) : FnOk P w K mg base CX0 6 f fd p_sending (sp_sending E W) := by
  refine FunD.ok F sc_sending (fun vs H Q E h => ?_) (fun cdv A outer s H vs Q E' hr h => ?_)
  · obtain ⟨e, n, wa, sa, T, D, S, Mh, Ms, rfl, _⟩ := h
    rfl
  · obtain ⟨e, n, wa, sa, T, D, S, Mh, Ms, rfl, hE, hV, hD, hS, hF, hn, hlen, q⟩ := h
    have nd := sc_sending.nd
    have hu := hu_of hr
    suffices hh : ∃ t, PSs (cxOf CX0 P w K mg base n_sending "sending" (defScope s_sending) f cdv A outer s H E').nox (defBody s_sending) t ∧ t { nx := fun _ H' => Q .non H', rt := Q } (start n_sending [.ref e, .int n, .ref wa, .ref sa]) H by
      obtain ⟨t, h1, h2⟩ := hh
      exact ⟨t, h1.nox, h2⟩
    refine ⟨_, pss_cons (ps_set (i := 4) nd rfl (.inr rfl) (cal C1 hr (pa_cons (pv 0) (pa_cons (pe_listRg rfl (by rfl) G.list (prg_1 (by rfl) G.range (pe_op op_add (pv 1) pe_int))) (pa_cons (pv 2) (pa_cons (pv 3) pa_nil))))))
      (pss_one (ps_ret (calC C3 (hr.mono (by decide)) (pa_cons (pe_fld (pv 4) rfl) (pa_cons (calM0 C2 TU.cl (hr.mono (by decide)) (pv 4)) (pa_cons (pe_lc (own := [("label", 5)]) (g := gName 5) (tt := tYes) rfl nd (pi_list (pe_fld (pv 4) rfl)) (blkOk_by (N := n_sending) (sc := defScope s_sending) (by decide +kernel)) (fun _ _ _ _ _ => pg_name (i := 5) nd rfl (.inl rfl)) (fun _ _ _ _ _ => pts_nil)
        (fun _ _ _ _ _ => pe_dget hu (fldK K (pv 4)) (pv 5) (fun _ _ => rfl))) pa_nil)))))), ?_⟩
    refine ⟨_, rfl, _, rfl, _, _, rfl, rfl, _, rfl, ?_⟩
    have e1 : ((n : Int) + 1) = ((n + 1 : Nat) : Int) := rfl
    rw [e1]
    refine ⟨by unfold RgOk; omega, fun lb nlb => ?_⟩
    rw [rgV_nat (n + 1)]
    have s1 : Same H (upd H lb (.lst ((List.range (n + 1)).map iv))) := sameN nlb
    refine ⟨_, rfl, _, rfl, e, lb, wa, sa, n + 1, T, D, S, Mh, Ms, rfl, hE.same s1, hV, upd_same, hD.same s1, hS.same s1, hF, by omega, hlen, fun H2 a s2 hC => ?_⟩
    have sH2 := s1.trans s2
    generalize hr0 : KX.runR (KX.sysB (KX.mcs Mh Ms)) (n + 1) D S (KX.P0B D) T = r at hC q
    refine ⟨_, rfl, a.c, U, _, _, _, rfl, hC.c, TU.cl, TU.n5, rfl, ?_⟩
    refine ⟨_, rfl, a.c, a.dx, _, rfl, hC.c, rfl, a, n + 1, r, rfl, hC, by omega, fun H3 pl s3 npl hpl => ?_⟩
    have hC3 := hC.same s3
    refine ⟨_, rfl, a.c, U, _, _, _, rfl, hC3.c, TU.cl, TU.n2, rfl, a.lb, rfl, ⟨_, .inl (.inl hC3.lb)⟩, fun D3 nD3 => ?_⟩
    refine lc_it walk_list (fun i H4 => Same H3 H4 ∧ H4 D3 = some (.lst ((a.es.take i).map V.ref))) ⟨sameN nD3, upd_same⟩ (fun i H4 _ p => .inl (.inl (p.1 _ _ hC3.lb))) ?_ ?_
    · rintro i v H4_ H4 hi ⟨s4, h4⟩ ⟨rfl, ev⟩
      have hi' : i < n + 1 := by simpa using hi
      have hr0 : (List.range (n + 1))[i]? = some i := List.getElem?_range hi'
      have ev2 : v = .int (i : Int) := by
        rw [List.getElem?_map, hr0] at ev
        exact (Option.some.inj ev).symm
      subst ev2
      have hC4 := hC3.same s4
      have hd : DGet H4 a.ed (kV (Sum.inl (i : Int))) _ := DGet.k hC4.ed
      rw [valV_kvF, if_pos hi'] at hd
      obtain ⟨xe, hxe⟩ : ∃ xe, a.es[i]? = some xe := ⟨_, List.getElem?_eq_getElem (show i < a.es.length by rw [hC4.el]; exact hi')⟩
      have hge : a.es.getD i 0 = xe := by rw [List.getD_eq_getElem?_getD, hxe]; rfl
      rw [hge] at hd
      refine ⟨rfl, tyes ⟨_, rfl, a.c, U, _, _, _, rfl, hC4.c, TU.cl, TU.n4, rfl, _, rfl, a.ed, _, rfl, hd, _, h4, ?_, sameU s4 nD3, ?_⟩⟩
      · exact small_len (n := 100) (by rw [List.length_map, List.length_take]; omega)
      · rw [upd_same, take_step V.ref hxe]
    rintro H4 ⟨s4, h4⟩
    rw [take_all (by rw [List.length_map, List.length_range, hC3.el])] at h4
    have hC4 := hC3.same s4
    intro x dx nx ndx hne
    have mv : ∀ b o, H4 b = some o → (upd (upd H4 dx (.own x)) x (.ins W dx [])) b = some o := fun b o hb => by rw [upd_ne (ne_of_none hb nx), upd_ne (ne_of_none hb ndx)]; exact hb
    refine ⟨x, a.pp, pl, D3, dx, n + 1, a.es, r, rfl, upd_same, mv _ _ hC4.pp, mv _ _ (s4 _ _ hpl), mv _ _ h4, hC4.el, by omega, fun k y e => mv _ _ (hC4.es k y e), fun H5 s5 hsd => ⟨rfl, q H5 x (sH2.trans (s3.trans (s4.trans (s5.made nx ndx)))) hsd⟩⟩
end
end SB
end
section
set_option maxRecDepth 100000
set_option maxHeartbeats 4000000
/-! Walks: the law's bag. -/
namespace SB
open PySem PySem.Spec PyProof.Rows L2
def BagAt (H : Hp) (b : Addr) (C : Nat) : Prop := ∃ d s c : Nat, H b = some (.lst [.int d, .int s, .int c]) ∧ s < 2147483647 ∧ c ≤ C
theorem BagAt.mono {H : Hp} {b C C' : Nat} (h : BagAt H b C) (l : C ≤ C') : BagAt H b C' := let ⟨d, s, c, h1, h2, h3⟩ := h; ⟨d, s, c, h1, h2, Nat.le_trans h3 l⟩
theorem BagAt.same {H H' : Hp} {b C : Nat} (h : BagAt H b C) (s : Same H H') : BagAt H' b C := let ⟨d, s', c, h1, h2, h3⟩ := h; ⟨d, s', c, s _ _ h1, h2, h3⟩
section
variable {P : Program} {w : World} {K : PySem.W.Frag} {mg : Str → Option Value} {base : Heap}
abbrev s_law_bag : Stmt := top 46
abbrev n_law_bag : List Str := ["_law_script", "_law_at", "_law_cell", "_law_digits"]
theorem sc_law_bag : FnScope n_law_bag ["_law_script", "_law_at"] (defScope s_law_bag) := ⟨rfl, rfl, rfl, by decide +kernel, rfl, by decide +kernel, by decide +kernel⟩
def sp_law_bag (K : PySem.W.Frag) : Sp := fun vs H Q _ => ∃ (a i : Nat) (ns : List Int), vs = [.ref a, .int i] ∧ SqL K H a (ns.map V.int) ∧ i ≤ 100 ∧ ∀ H' b, Same H H' → H b = none → BagAt H' b 0 → Q (.ref b) H'
theorem ok_law_bag {f : Addr} {fd : FuncData} (F : Fun K "_law_bag" "_law_bag" s_law_bag f fd) (G : Gb mg) : FnOk P w K mg base CX0 1 f fd ["_law_script", "_law_at"] (sp_law_bag K) := by
  refine F.ok sc_law_bag (fun vs H Q E h => ?_) (fun cdv A outer s H vs Q E' hr h => ?_)
  · obtain ⟨a, i, ns, rfl, _⟩ := h
    rfl
  · obtain ⟨a, i, ns, rfl, ha, hi, q⟩ := h
    have nd := sc_law_bag.nd
    refine ⟨_, C8.pss_cut (ps_set (i := 2) nd rfl (.inl rfl) (pe_ifExp (pt_cmpR op_lt (pv 1) (lenS G (pv 0)) (nomark _)) (pe_ix ix_list (pv 0) (pv 1) (fun _ _ => rfl)) pe_int))
      (C8.pss_cut (ps_set (i := 3) nd rfl (.inl rfl) (pe_ifExp (pt_cmpR op_ge (pe_callB call_abs (by rfl) G.abs (by decide +kernel) (pa_cons (pv 2) pa_nil) (by decide) (by decide)) (pe_op op_pow pe_int pe_int) (nomark _)) (pe_callB call_abs (by rfl) G.abs (by decide +kernel) (pa_cons (pv 2) pa_nil) (by decide) (by decide)) pe_int))
      (pss_one (ps_ret (pe_lst (pa_cons (pv 3) (pa_cons (pe_op op_mod (pe_callTy call_int1 (by rfl) G.int (by decide +kernel) (pa_cons (pe_op op_add (pe_op op_add (pe_op op_add (pe_op op_mul (pv 2) pe_int) (pe_op op_mul (pe_op op_mul pe_int (pv 1)) (pv 1))) (pe_op op_mul pe_int (pv 1))) pe_int) pa_nil)) pe_int) (pa_cons pe_int pa_nil))))))), ?_⟩
    refine ⟨fun σ' H' => ∃ n : Int, σ' = [some (.ref a), some (.int i), some (.int n), none] ∧ H' = H, ?_, ?_⟩
    · refine ⟨_, rfl, _, rfl, a, _, rfl, .inl ha, _, _, rfl, rfl, _, rfl, ?_⟩
      by_cases hlt : i < ns.length
      · refine onT (decide_eq_true (by rw [List.length_map]; omega)) ⟨_, rfl, _, rfl, a, _, _, .int ns[i], rfl, rfl, ha, atI_nat (by rw [List.getElem?_map, List.getElem?_eq_getElem hlt]; rfl), ⟨_, rfl, rfl⟩⟩
      · exact onF (decide_eq_false (by rw [List.length_map]; omega)) ⟨0, rfl, rfl⟩
    · rintro σ' H' ⟨n, rfl, rfl⟩
      refine ⟨fun σ' H1 => ∃ d : Nat, σ' = [some (.ref a), some (.int i), some (.int n), some (.int d)] ∧ H1 = H', ?_, ?_⟩
      · have eabs : (if n < 0 then -n else n) = ((n.natAbs : Nat) : Int) := by split <;> omega
        refine ⟨_, rfl, _, rfl, ?_⟩
        refine ⟨_, _, rfl, rfl, ⟨by decide, by decide, by decide⟩, _, _, rfl, rfl, _, rfl, ?_⟩
        rw [eabs]
        cases e : decide ((10 : Int) ^ (18 : Int).toNat ≤ ((n.natAbs : Nat) : Int)) with
        | true => exact iteT ⟨_, rfl, _, rfl, by rw [eabs]; exact ⟨n.natAbs, rfl, rfl⟩⟩
        | false => exact iteF ⟨0, rfl, rfl⟩
      · rintro σ' H1 ⟨d, rfl, rfl⟩
        refine ⟨_, rfl, _, rfl, _, _, rfl, rfl, .inr ⟨by decide, by decide⟩, ?_⟩
        refine ⟨_, rfl, _, _, rfl, rfl, .inl ⟨by decide, by decide⟩, _, rfl, _, _, rfl, rfl, .inr ⟨by omega, by omega⟩, _, _, rfl, rfl, ?_⟩
        refine ⟨_, rfl, _, _, rfl, rfl, .inl ⟨by decide, by decide⟩, _, _, rfl, rfl, _, _, rfl, rfl, .inl ⟨_, rfl, _, _, rfl, rfl, by show (0 : Int) < 2147483629; decide, ?_⟩⟩
        generalize n * 58427 + 6871 * (i : Int) * (i : Int) + 113 * (i : Int) + 29 = z
        have hz1 : 0 ≤ z % 2147483629 := Int.emod_nonneg _ (by decide)
        have hz2 : z % 2147483629 < 2147483629 := Int.emod_lt_of_pos _ (by decide)
        obtain ⟨s, hs⟩ : ∃ s : Nat, z % 2147483629 = (s : Int) := ⟨(z % 2147483629).toNat, by omega⟩
        refine ⟨by show 3 ≤ sizeLine; decide, fun b nb => q _ b (sameN nb) nb ⟨d, s, 0, ?_, by omega, Nat.le_refl _⟩⟩
        rw [upd_same]
        show some (HO.lst [V.int d, V.int (z % 2147483629), V.int 0]) = _
        rw [hs]
        rfl
end
end SB
end
section
set_option maxRecDepth 100000
set_option maxHeartbeats 4000000
/-! Walks: the law's draws. -/
namespace SB
open PySem PySem.Spec PyProof.Rows L2
section
variable {P : Program} {w : World} {K : PySem.W.Frag} {mg : Str → Option Value} {base : Heap}
abbrev s_law_take : Stmt := top 47
abbrev n_law_take : List Str := ["_law_bag_here", "_law_many", "_law_digit", "_law_mixed"]
theorem sc_law_take : FnScope n_law_take ["_law_bag_here", "_law_many"] (defScope s_law_take) := ⟨rfl, rfl, rfl, by decide +kernel, rfl, by decide +kernel, by decide +kernel⟩
def sp_law_take : Sp := fun vs H Q _ => ∃ (b many C : Nat), vs = [.ref b, .int many] ∧ BagAt H b C ∧ 1 ≤ many ∧ many ≤ 1000 ∧ C ≤ 1000000 ∧ ∀ H' v, But (fun x => x = b) H H' → BagAt H' b (C + 1) → v < many → Q (.int (v : Nat)) H'
theorem ok_law_take {f : Addr} {fd : FuncData} (F : Fun K "_law_take" "_law_take" s_law_take f fd) (G : Gb mg) : FnOk P w K mg base CX0 1 f fd ["_law_bag_here", "_law_many"] sp_law_take := by
  refine F.ok sc_law_take (fun vs H Q E h => ?_) (fun cdv A outer s H vs Q E' hr h => ?_)
  · obtain ⟨b, many, C, rfl, _⟩ := h
    rfl
  · obtain ⟨b, many, C, rfl, ⟨d, s0, c, hb, hs, hc⟩, hm1, hm2, hC, q⟩ := h
    have nd := sc_law_take.nd
    have ix : ∀ (i : Nat) (v : Int), True := fun _ _ => trivial
    refine ⟨_, pss_cons (ps_if (pt_cmpR op_gt (pe_ix ix_list (pv 0) pe_int (fun _ _ => rfl)) pe_int (nomark _))
        (pss_cons (ps_set (i := 2) nd rfl (.inl rfl) (pe_op op_mod (pe_callTy call_int1 (by rfl) G.int (by decide +kernel) (pa_cons (pe_ix ix_list (pv 0) pe_int (fun _ _ => rfl)) pa_nil)) (pv 1)))
        (pss_cons (ps_asg (pe_op op_fdiv (pe_ix ix_list (pv 0) pe_int (fun _ _ => rfl)) (pv 1)) (pg_sub (pv 0) pe_int set_list))
        (pss_one (ps_ret (pv 2))))) pss_nil)
      (pss_cons (ps_asg (pe_op op_add (pe_ix ix_list (pv 0) pe_int (fun _ _ => rfl)) pe_int) (pg_sub (pv 0) pe_int set_list))
      (pss_cons (ps_asg (pe_op op_mod (pe_callTy call_int1 (by rfl) G.int (by decide +kernel) (pa_cons (pe_op op_add (pe_op op_add (pe_op op_mul (pe_ix ix_list (pv 0) pe_int (fun _ _ => rfl)) pe_int) (pe_op op_mul (pe_op op_mul pe_int (pe_ix ix_list (pv 0) pe_int (fun _ _ => rfl))) (pe_ix ix_list (pv 0) pe_int (fun _ _ => rfl)))) pe_int) pa_nil)) pe_int) (pg_sub (pv 0) pe_int set_list))
      (pss_cons (ps_set (i := 3) nd rfl (.inl rfl) (pe_op op_mod (pe_callTy call_int1 (by rfl) G.int (by decide +kernel) (pa_cons (pe_op op_add (pe_op op_pow (pe_op op_fdiv (pe_ix ix_list (pv 0) pe_int (fun _ _ => rfl)) pe_int) pe_int) (pe_op op_mul pe_int (pe_ix ix_list (pv 0) pe_int (fun _ _ => rfl)))) pa_nil)) pe_int))
      (pss_one (ps_ret (pe_op op_mod (pe_callTy call_int1 (by rfl) G.int (by decide +kernel) (pa_cons (pe_op op_fdiv (pv 3) pe_int) pa_nil)) (pv 1))))))), ?_⟩
    have hm0 : (0 : Int) < (many : Int) := by omega
    refine ⟨_, rfl, b, _, _, _, rfl, rfl, .inl (.inl hb), atI_nat (j := 0) rfl, _, _, rfl, rfl, _, rfl, ?_⟩
    by_cases hd : 0 < d
    · refine onT (decide_eq_true (by omega)) ?_
      refine ⟨_, rfl, b, _, _, _, rfl, rfl, .inl (.inl hb), atI_nat (j := 0) rfl, .inl ⟨_, rfl, _, rfl, _, _, rfl, rfl, hm0, ?_⟩⟩
      refine ⟨_, rfl, b, _, _, _, rfl, rfl, .inl (.inl hb), atI_nat (j := 0) rfl, _, rfl, _, _, rfl, rfl, ⟨hm0, by omega⟩, ?_⟩
      refine ⟨_, rfl, b, _, 0, 0, rfl, rfl, hb, rfl, ?_⟩
      have e1 : (d : Int) / (many : Int) = ((d / many : Nat) : Int) := (Int.natCast_ediv _ _).symm
      have e2 : (d : Int) % (many : Int) = ((d % many : Nat) : Int) := (Int.natCast_emod _ _).symm
      refine ⟨_, rfl, ?_⟩
      show Q (V.int ((d : Int) % (many : Int))) _
      rw [e2]
      refine q _ _ (But.at rfl) ⟨d / many, s0, c, ?_, hs, by omega⟩ (Nat.mod_lt _ (by omega))
      rw [upd_same]
      show some (HO.lst [V.int ((d : Int) / (many : Int)), V.int s0, V.int c]) = _
      rw [e1]
    · refine onF (decide_eq_false (by omega)) ?_
      refine ⟨_, rfl, b, _, _, _, rfl, rfl, .inl (.inl hb), atI_nat (j := 2) rfl, _, _, rfl, rfl, ?_⟩
      refine ⟨_, rfl, b, _, 2, 2, rfl, rfl, hb, rfl, ?_⟩
      have hb1 : (upd H b (.lst ([V.int d, V.int s0, V.int c].set 2 (.int ((c : Int) + 1))))) b = some (.lst [.int d, .int s0, .int ((c + 1 : Nat) : Int)]) := upd_same
      have bb1 : But (fun x => x = b) H (upd H b (.lst ([V.int d, V.int s0, V.int c].set 2 (.int ((c : Int) + 1))))) := But.at rfl
      generalize upd H b (.lst ([V.int d, V.int s0, V.int c].set 2 (.int ((c : Int) + 1)))) = H1 at hb1 bb1
      refine ⟨_, rfl, b, _, _, _, rfl, rfl, .inl (.inl hb1), atI_nat (j := 1) rfl, _, _, rfl, rfl, .inr ⟨by decide, by decide⟩, ?_⟩
      refine ⟨_, rfl, b, _, _, _, rfl, rfl, .inl (.inl hb1), atI_nat (j := 2) rfl, _, _, rfl, rfl, .inl ⟨by decide, by decide⟩, ?_⟩
      refine ⟨_, rfl, b, _, _, _, rfl, rfl, .inl (.inl hb1), atI_nat (j := 2) rfl, _, _, rfl, rfl, .inr ⟨by omega, by omega⟩, _, _, rfl, rfl, _, _, rfl, rfl, .inl ⟨_, rfl, _, _, rfl, rfl, by show (0 : Int) < 2147483647; decide, ?_⟩⟩
      generalize (s0 : Int) * 48271 + 6871 * ((c + 1 : Nat) : Int) * ((c + 1 : Nat) : Int) + 17 = z
      have hz1 : 0 ≤ z % 2147483647 := Int.emod_nonneg _ (by decide)
      have hz2 : z % 2147483647 < 2147483647 := Int.emod_lt_of_pos _ (by decide)
      obtain ⟨s1, hs1⟩ : ∃ s1 : Nat, z % 2147483647 = (s1 : Int) := ⟨(z % 2147483647).toNat, by omega⟩
      dsimp only
      rw [hs1]
      refine ⟨_, rfl, b, _, 1, 1, rfl, rfl, hb1, rfl, ?_⟩
      have hb2 : (upd H1 b (.lst ([V.int d, V.int s0, V.int ((c + 1 : Nat) : Int)].set 1 (.int s1)))) b = some (.lst [.int d, .int s1, .int ((c + 1 : Nat) : Int)]) := upd_same
      have bb2 : But (fun x => x = b) H (upd H1 b (.lst ([V.int d, V.int s0, V.int ((c + 1 : Nat) : Int)].set 1 (.int s1)))) := bb1.trans (But.at rfl)
      generalize upd H1 b (.lst ([V.int d, V.int s0, V.int ((c + 1 : Nat) : Int)].set 1 (.int s1))) = H2 at hb2 bb2
      have hs1b : s1 < 2147483647 := by omega
      refine ⟨_, rfl, b, _, _, _, rfl, rfl, .inl (.inl hb2), atI_nat (j := 1) rfl, _, _, rfl, rfl, ⟨by decide, by decide⟩, _, _, rfl, rfl, ⟨by decide, by decide, by omega⟩, ?_⟩
      refine ⟨_, rfl, b, _, _, _, rfl, rfl, .inl (.inl hb2), atI_nat (j := 2) rfl, _, _, rfl, rfl, .inl ⟨by decide, by decide⟩, _, _, rfl, rfl, .inl ⟨_, rfl, _, _, rfl, rfl, by show (0 : Int) < 2147483549; decide, ?_⟩⟩
      generalize ((s1 : Int) / 32) ^ (2 : Int).toNat + 113 * ((c + 1 : Nat) : Int) = y
      have hy1 : 0 ≤ y % 2147483549 := Int.emod_nonneg _ (by decide)
      have hy2 : y % 2147483549 < 2147483549 := Int.emod_lt_of_pos _ (by decide)
      obtain ⟨v, hv⟩ : ∃ v : Nat, y % 2147483549 = (v : Int) := ⟨(y % 2147483549).toNat, by omega⟩
      dsimp only
      rw [hv]
      refine ⟨_, rfl, _, _, rfl, rfl, ⟨by decide, by decide⟩, .inl ⟨_, rfl, _, rfl, _, _, rfl, rfl, hm0, ?_⟩⟩
      have e3 : ((v : Int) / 8) % (many : Int) = ((v / 8 % many : Nat) : Int) := by
        rw [Int.natCast_emod, Int.natCast_ediv]
        rfl
      show Q (.int (((v : Int) / 8) % (many : Int))) H2
      rw [e3]
      exact q _ _ bb2 ⟨d, s1, c + 1, hb2, hs1b, by omega⟩ (Nat.mod_lt _ (by omega))
end
end SB
end
section
set_option maxRecDepth 100000
set_option maxHeartbeats 4000000
/-! Walks: the law's stations. -/
namespace SB
open PySem PySem.Spec PyProof.Rows L2
/-- a station as it stands -/
def StaAt (H : Hp) (v : V) : KX.LS → Prop
  | .sil => v = .non
  | .wd w => v = .str w
  | .en n => ∃ p, v = .ref p ∧ H p = some (.lst [.int 0, .int n, .non])
  | .fl n w => ∃ p, v = .ref p ∧ H p = some (.lst [.int 1, .int n, .str w])
  | .gp n w => ∃ p, v = .ref p ∧ H p = some (.lst [.int 2, .int n, .str w])
theorem StaAt.same {H H' : Hp} {v : V} {st : KX.LS} (h : StaAt H v st) (s : Same H H') : StaAt H' v st := by
  cases st with
  | sil => exact h
  | wd w => exact h
  | en n => obtain ⟨p, e, h⟩ := h; exact ⟨p, e, s _ _ h⟩
  | fl n w => obtain ⟨p, e, h⟩ := h; exact ⟨p, e, s _ _ h⟩
  | gp n w => obtain ⟨p, e, h⟩ := h; exact ⟨p, e, s _ _ h⟩
section
variable {P : Program} {w : World} {K : PySem.W.Frag} {mg : Str → Option Value} {base : Heap}
abbrev s_law_next : Stmt := top 48
abbrev n_law_next : List Str := ["_law_state", "_law_numbers", "_law_limit", "_law_words", "_law_ear", "_law_bits", "_law_flags", "_law_gaps", "_law_mode", "_law_number", "_law_word"]
abbrev p_law_next : List Str := ["_law_state", "_law_numbers", "_law_limit", "_law_words", "_law_ear"]
theorem sc_law_next : FnScope n_law_next p_law_next (defScope s_law_next) := ⟨rfl, rfl, rfl, by decide +kernel, rfl, by decide +kernel, by decide +kernel⟩
def sp_law_next : Sp := fun vs H Q _ => ∃ (x : V) (na wa : Addr) (c : KX.CP) (st : KX.LS) (eb : Bool), vs = [x, .ref na, .int c.limit, .ref wa, bV eb] ∧ StaAt H x st ∧ st.live = true ∧ H na = some (.tup [.int c.bits, .int c.flag, .int c.gap]) ∧ H wa = some (.lst [.str c.early, .str c.late]) ∧
  ∀ H' v, Same H H' → StaAt H' v (c.next st eb) → (v = x ∨ ∀ p, v = .ref p → H p = none) → Q v H'
theorem ok_law_next {f : Addr} {fd : FuncData} (F : Fun K "_law_next" "_law_next" s_law_next f fd) : FnOk P w K mg base CX0 1 f fd p_law_next sp_law_next := by
  refine F.ok sc_law_next (fun vs H Q E h => ?_) (fun cdv A outer s H vs Q E' hr h => ?_)
  · obtain ⟨x, na, wa, c, st, eb, rfl, _⟩ := h
    rfl
  · obtain ⟨x, na, wa, c, st, eb, rfl, hx, hlive, hna, hwa, q⟩ := h
    have nd := sc_law_next.nd
    refine ⟨_, pss_cons (ps_asg (pv 1) (pg_tup rfl (pgs_cons (pg_name (i := 5) nd rfl (.inl rfl)) (pgs_cons (pg_name (i := 6) nd rfl (.inl rfl)) (pgs_cons (pg_name (i := 7) nd rfl (.inl rfl)) pgs_nil)))))
      (pss_cons (ps_asg (pv 0) (pg_lst rfl (pgs_cons (pg_name (i := 8) nd rfl (.inl rfl)) (pgs_cons (pg_name (i := 9) nd rfl (.inl rfl)) (pgs_cons (pg_name (i := 10) nd rfl (.inl rfl)) pgs_nil)))))
      (pss_cons (ps_if (PW.pt (pw_and (pt_cmpR op_eq (pv 8) pe_int (nomark _)) (pw_and1 (pt_cmpR op_eq (pv 4) pe_int (nomark _)))))
        (pss_one (ps_ret (pe_lst (pa_cons pe_int (pa_cons (pv 6) (pa_cons (pe_ifExp (pt_cmpR op_le (pv 9) (pv 2) (nomark _)) (pe_ix ix_list (pv 3) pe_int (fun _ _ => rfl)) (pe_ix ix_list (pv 3) pe_int (fun _ _ => rfl))) pa_nil)))))) pss_nil)
      (pss_cons (ps_if (pt_cmpR op_eq (pv 8) pe_int (nomark _))
        (pss_one (ps_ret (pe_ifExp (pt_cmpR op_eq (pv 9) (pv 5) (nomark _)) (pe_ix ix_list (pv 3) pe_int (fun _ _ => rfl)) (pe_lst (pa_cons pe_int (pa_cons (pe_op op_add (pv 9) pe_int) (pa_cons (pv 10) pa_nil))))))) pss_nil)
      (pss_cons (ps_if (pt_cmpR op_eq (pv 8) pe_int (nomark _))
        (pss_one (ps_ret (pe_ifExp (pt_cmpR op_gt (pv 9) pe_int (nomark _)) (pe_lst (pa_cons pe_int (pa_cons (pe_op op_sub (pv 9) pe_int) (pa_cons (pv 10) pa_nil)))) (pe_lst (pa_cons pe_int (pa_cons pe_int (pa_cons (pv 10) pa_nil))))))) pss_nil)
      (pss_cons (ps_if (pt_cmpR op_eq (pv 4) pe_int (nomark _))
        (pss_one (ps_ret (pe_ifExp (pt_cmpR op_eq (pe_op op_add (pv 9) pe_int) (pv 7) (nomark _)) (pv 10) (pe_lst (pa_cons pe_int (pa_cons (pe_op op_add (pv 9) pe_int) (pa_cons (pv 10) pa_nil))))))) pss_nil)
      (pss_one (ps_ret (pe_ifExp (pt_cmpR op_gt (pv 9) pe_int (nomark _)) (pe_lst (pa_cons pe_int (pa_cons (pv 6) (pa_cons (pv 10) pa_nil)))) (pv 0))))))))), ?_⟩
    refine ⟨_, rfl, na, _, rfl, .inl (.inl hna), rfl, _, _, rfl, _, _, rfl, _, _, rfl, rfl, ?_⟩
    have l0 : [V.str c.early, V.str c.late][0]? = some (.str c.early) := rfl
    have l1 : [V.str c.early, V.str c.late][1]? = some (.str c.late) := rfl
    cases st with
    | sil => cases hlive
    | wd z => cases hlive
    | en n =>
      obtain ⟨p, rfl, hp⟩ := hx
      refine ⟨_, rfl, p, _, rfl, .inl (.inl hp), rfl, _, _, rfl, _, _, rfl, _, _, rfl, rfl, ?_⟩
      refine ⟨_, rfl, rfl, _, rfl, iteT ⟨_, rfl, ?_⟩⟩
      cases eb with
      | false =>
        refine ⟨rfl, _, rfl, onT rfl ⟨_, rfl, ?_⟩⟩
        refine ⟨_, rfl, _, rfl, _, _, rfl, rfl, _, rfl, ?_⟩
        by_cases hle : n ≤ c.limit
        · have en : c.next (.en n) false = .fl c.flag c.early := by show KX.LS.fl c.flag (if n ≤ c.limit then c.early else c.late) = _; rw [if_pos hle]
          refine onT (decide_eq_true (by omega)) ⟨_, rfl, wa, _, _, _, rfl, rfl, .inl (.inl hwa), atI_nat (j := 0) l0, by show 3 ≤ sizeLine; decide, fun t nt => q _ _ (sameN nt) ?_ (.inr fun p e => by cases e; exact nt)⟩
          rw [en]
          exact ⟨t, rfl, upd_same⟩
        · have en : c.next (.en n) false = .fl c.flag c.late := by show KX.LS.fl c.flag (if n ≤ c.limit then c.early else c.late) = _; rw [if_neg hle]
          refine onF (decide_eq_false (by omega)) ⟨_, rfl, wa, _, _, _, rfl, rfl, .inl (.inl hwa), atI_nat (j := 1) l1, by show 3 ≤ sizeLine; decide, fun t nt => q _ _ (sameN nt) ?_ (.inr fun p e => by cases e; exact nt)⟩
          rw [en]
          exact ⟨t, rfl, upd_same⟩
      | true =>
        refine ⟨rfl, _, rfl, onF rfl ?_⟩
        refine ⟨_, rfl, rfl, _, rfl, onT rfl ?_⟩
        refine ⟨_, rfl, _, rfl, rfl, _, rfl, ?_⟩
        by_cases hb : n = c.bits
        · have en : c.next (.en n) true = .wd c.late := by show (if n = c.bits then KX.LS.wd c.late else .en (n + 1)) = _; rw [if_pos hb]
          refine onT (decide_eq_true (by rw [hb])) ⟨_, rfl, wa, _, _, _, rfl, rfl, .inl (.inl hwa), atI_nat (j := 1) l1, q _ _ (fun _ _ h => h) ?_ (.inr fun p e => by cases e)⟩
          rw [en]
          rfl
        · have en : c.next (.en n) true = .en (n + 1) := by show (if n = c.bits then KX.LS.wd c.late else .en (n + 1)) = _; rw [if_neg hb]
          refine onF (decide_eq_false (by intro z; injection z with z; omega)) ⟨_, rfl, _, _, rfl, rfl, _, rfl, by show 3 ≤ sizeLine; decide, fun t nt => q _ _ (sameN nt) ?_ (.inr fun p e => by cases e; exact nt)⟩
          rw [en]
          exact ⟨t, rfl, upd_same⟩
    | fl n z =>
      obtain ⟨p, rfl, hp⟩ := hx
      have en : c.next (.fl n z) eb = if 1 < n then KX.LS.fl (n - 1) z else .gp 0 z := by cases eb <;> rfl
      refine ⟨_, rfl, p, _, rfl, .inl (.inl hp), rfl, _, _, rfl, _, _, rfl, _, _, rfl, rfl, ?_⟩
      refine ⟨_, rfl, rfl, _, rfl, onF rfl (onF rfl ?_)⟩
      refine ⟨_, rfl, rfl, _, rfl, onF rfl ?_⟩
      refine ⟨_, rfl, rfl, _, rfl, onT rfl ?_⟩
      refine ⟨_, rfl, _, _, rfl, rfl, _, rfl, ?_⟩
      by_cases h1 : 1 < n
      · rw [if_pos h1] at en
        refine onT (decide_eq_true (by omega)) ⟨_, rfl, _, _, rfl, rfl, _, rfl, by show 3 ≤ sizeLine; decide, fun t nt => q _ _ (sameN nt) ?_ (.inr fun p e => by cases e; exact nt)⟩
        rw [en]
        refine ⟨t, rfl, ?_⟩
        rw [upd_same]
        show some (HO.lst [V.int 1, V.int ((n : Int) - 1), V.str z]) = some (.lst [.int 1, .int ((n - 1 : Nat) : Int), .str z])
        rw [show (n : Int) - 1 = ((n - 1 : Nat) : Int) by omega]
      · rw [if_neg h1] at en
        refine onF (decide_eq_false (by omega)) ⟨_, rfl, by show 3 ≤ sizeLine; decide, fun t nt => q _ _ (sameN nt) ?_ (.inr fun p e => by cases e; exact nt)⟩
        rw [en]
        exact ⟨t, rfl, upd_same⟩
    | gp n z =>
      obtain ⟨p, rfl, hp⟩ := hx
      refine ⟨_, rfl, p, _, rfl, .inl (.inl hp), rfl, _, _, rfl, _, _, rfl, _, _, rfl, rfl, ?_⟩
      refine ⟨_, rfl, rfl, _, rfl, onF rfl (onF rfl ?_)⟩
      refine ⟨_, rfl, rfl, _, rfl, onF rfl ?_⟩
      refine ⟨_, rfl, rfl, _, rfl, onF rfl ?_⟩
      cases eb with
      | true =>
        refine ⟨_, rfl, rfl, _, rfl, onT rfl ?_⟩
        refine ⟨_, rfl, _, _, rfl, rfl, _, rfl, rfl, _, rfl, ?_⟩
        by_cases hg : n + 1 = c.gap
        · have en : c.next (.gp n z) true = .wd z := by show (if n + 1 = c.gap then KX.LS.wd z else .gp (n + 1) z) = _; rw [if_pos hg]
          refine onT (decide_eq_true (by rw [← hg]; rfl)) ⟨_, rfl, q _ _ (fun _ _ h => h) ?_ (.inr fun p e => by cases e)⟩
          rw [en]
          rfl
        · have en : c.next (.gp n z) true = .gp (n + 1) z := by show (if n + 1 = c.gap then KX.LS.wd z else .gp (n + 1) z) = _; rw [if_neg hg]
          refine onF (decide_eq_false (by intro z; injection z with z; omega)) ⟨_, rfl, _, _, rfl, rfl, _, rfl, by show 3 ≤ sizeLine; decide, fun t nt => q _ _ (sameN nt) ?_ (.inr fun p e => by cases e; exact nt)⟩
          rw [en]
          exact ⟨t, rfl, upd_same⟩
      | false =>
        refine ⟨_, rfl, rfl, _, rfl, onF rfl ?_⟩
        refine ⟨_, rfl, _, _, rfl, rfl, _, rfl, ?_⟩
        by_cases h0 : 0 < n
        · have en : c.next (.gp n z) false = .fl c.flag z := by show (if 0 < n then KX.LS.fl c.flag z else .gp n z) = _; rw [if_pos h0]
          refine onT (decide_eq_true (by omega)) ⟨_, rfl, _, rfl, by show 3 ≤ sizeLine; decide, fun t nt => q _ _ (sameN nt) ?_ (.inr fun p e => by cases e; exact nt)⟩
          rw [en]
          exact ⟨t, rfl, upd_same⟩
        · have en : c.next (.gp n z) false = .gp n z := by show (if 0 < n then KX.LS.fl c.flag z else .gp n z) = _; rw [if_neg h0]
          refine onF (decide_eq_false (by omega)) ⟨_, rfl, q _ _ (fun _ _ h => h) ?_ (.inl rfl)⟩
          rw [en]
          exact ⟨p, rfl, hp⟩
end
end SB
end
section
set_option maxRecDepth 100000
set_option maxHeartbeats 4000000
/-! Walks: the law's sending, what stands while it runs. -/
namespace SB
open PySem PySem.Spec PyProof.Rows L2
section
variable {S : Addr → Prop} {H H1 : Hp} {p : Addr} {o : HO}
theorem But.new (s : But S H H1) (h : H p = none) : But S H (upd H1 p o) := fun b u n e => by
  rw [upd_ne (ne_of_none e h)]
  exact s b u n e
theorem But.sub {S' : Addr → Prop} (s : But S H H1) (h : ∀ x, S x → S' x) : But S' H H1 := fun b u n e => s b u (fun z => n (h b z)) e
end
/-- the places of a sending by the law -/
structure SnA where
  b : Addr
  na : Addr
  la : Addr
  ps : Addr
  pq : Addr
  pb : Addr
  ph : Addr
  hs : List Addr
def SnA.S (a : SnA) (x : Addr) : Prop := x = a.b ∨ x = a.ps ∨ x = a.pq ∨ x = a.pb ∨ x ∈ a.hs
structure SnA.Ds (a : SnA) : Prop where
  h1 : a.b ≠ a.ps
  h2 : a.b ≠ a.pq
  h3 : a.b ≠ a.pb
  h4 : a.b ∉ a.hs
  h5 : a.ps ≠ a.pq
  h6 : a.ps ≠ a.pb
  h7 : a.ps ∉ a.hs
  h8 : a.pq ≠ a.pb
  h9 : a.pq ∉ a.hs
  h10 : a.pb ∉ a.hs
  h11 : a.hs.Nodup
def StaS (S : Addr → Prop) (H : Hp) (x : V) (st : KX.LS) : Prop := StaAt H x st ∧ ∀ p, x = .ref p → ¬ S p
structure Snt (a : SnA) (l : KX.LP) (H : Hp) (pd : Addr) (C : Nat) (r : KX.Run KX.LS) (D Q : List KX.Ft) : Prop where
  bag : BagAt H a.b C
  na : H a.na = some (.tup [.int l.bits, .int l.flag, .int l.gap])
  la : H a.la = some (.tup [.int l.lh, .int l.ls])
  s : ∃ xs, H a.ps = some (.lst xs) ∧ xs.length = l.m ∧ ∀ k x, xs[k]? = some x → StaS a.S H x (r.P k)
  q : FtsL H a.pq Q
  d : FtsL H pd D
  nd : ¬ a.S pd
  b : H a.pb = some (.lst (r.bits.map bV))
  ph : H a.ph = some (.lst (a.hs.map V.ref))
  nph : ¬ a.S a.ph
  hl : a.hs.length = l.m
  e : ∀ k y, a.hs[k]? = some y → H y = some (.lst ((r.ears k).map bV))
section
variable {a : SnA} {l : KX.LP} {H H' : Hp} {pd C C' : Nat} {r : KX.Run KX.LS} {D Q : List KX.Ft}
theorem Snt.isL (h : Snt a l H pd C r D Q) {x : Addr} (hx : a.S x) : ∃ xs, H x = some (.lst xs) := by
  rcases hx with rfl | rfl | rfl | rfl | hx
  · obtain ⟨d, s, c, h1, _⟩ := h.bag; exact ⟨_, h1⟩
  · obtain ⟨xs, h1, _⟩ := h.s; exact ⟨_, h1⟩
  · obtain ⟨xs, h1, _⟩ := h.q; exact ⟨_, h1⟩
  · exact ⟨_, h.b⟩
  · obtain ⟨j, hj, e⟩ := List.getElem_of_mem hx
    exact ⟨_, h.e j x (by rw [List.getElem?_eq_getElem hj, e])⟩
theorem Snt.noT (h : Snt a l H pd C r D Q) {x : Addr} {xs : List V} (hx : H x = some (.tup xs)) : ¬ a.S x := fun hs => by
  obtain ⟨ys, hy⟩ := h.isL hs
  rw [hx] at hy
  cases hy
theorem Snt.noN (h : Snt a l H pd C r D Q) {x : Addr} (hx : H x = none) : ¬ a.S x := fun hs => by
  obtain ⟨ys, hy⟩ := h.isL hs
  rw [hx] at hy
  cases hy
theorem StaS.but {S : Addr → Prop} {H H' : Hp} {x : V} {st : KX.LS} (h : StaS S H x st) (B : But S H H') : StaS S H' x st := by
  refine ⟨?_, h.2⟩
  obtain ⟨h1, h2⟩ := h
  cases st with
  | sil => exact h1
  | wd w => exact h1
  | en n => obtain ⟨p, rfl, h⟩ := h1; exact ⟨p, rfl, B _ _ (h2 p rfl) h⟩
  | fl n w => obtain ⟨p, rfl, h⟩ := h1; exact ⟨p, rfl, B _ _ (h2 p rfl) h⟩
  | gp n w => obtain ⟨p, rfl, h⟩ := h1; exact ⟨p, rfl, B _ _ (h2 p rfl) h⟩
theorem Snt.fts (h : Snt a l H pd C r D Q) (B : But a.S H H') {xs : List V} {F : List KX.Ft} (hp : Paired (FtAt H) xs F) : Paired (FtAt H') xs F := Paired.mapP hp fun _ _ ⟨p, e1, e2⟩ => ⟨p, e1, B _ _ (h.noT e2) e2⟩
/-- what the sending's own places do not hold stands -/
theorem Snt.next (h : Snt a l H pd C r D Q) (B : But a.S H H') {r' : KX.Run KX.LS} {Q' : List KX.Ft} (bag : BagAt H' a.b C') (s : ∃ xs, H' a.ps = some (.lst xs) ∧ xs.length = l.m ∧ ∀ k x, xs[k]? = some x → StaS a.S H' x (r'.P k)) (q : FtsL H' a.pq Q') (b : H' a.pb = some (.lst (r'.bits.map bV)))
    (e : ∀ k y, a.hs[k]? = some y → H' y = some (.lst ((r'.ears k).map bV))) : Snt a l H' pd C' r' D Q' :=
  ⟨bag, B _ _ (h.noT h.na) h.na, B _ _ (h.noT h.la) h.la, s, q, (by obtain ⟨xs, h1, h2⟩ := h.d; exact ⟨xs, B _ _ h.nd h1, h.fts B h2⟩), h.nd, b, B _ _ h.nph h.ph, h.nph, h.hl, e⟩
theorem Snt.same (h : Snt a l H pd C r D Q) (s : Same H H') : Snt a l H' pd C r D Q := by
  have B : But a.S H H' := bs s
  obtain ⟨xs, h1, h2, h3⟩ := h.s
  exact h.next B (h.bag.same s) ⟨xs, s _ _ h1, h2, fun k x e => (h3 k x e).but B⟩ (h.q.same s) (s _ _ h.b) fun k y e => s _ _ (h.e k y e)
theorem Snt.congr (h : Snt a l H pd C r D Q) {r' : KX.Run KX.LS} (hP : ∀ k, k < l.m → r.P k = r'.P k) (hb : r.bits = r'.bits) (he : ∀ k, k < l.m → r.ears k = r'.ears k) : Snt a l H pd C r' D Q := by
  obtain ⟨xs, h1, h2, h3⟩ := h.s
  refine h.next (fun _ _ _ e => e) h.bag ⟨xs, h1, h2, fun k x e => ?_⟩ h.q (hb ▸ h.b) fun k y e => ?_
  · rw [← hP k (by have := (List.getElem?_eq_some_iff.mp e).1; omega)]
    exact h3 k x e
  · rw [← he k (by have := (List.getElem?_eq_some_iff.mp e).1; have := h.hl; omega)]
    exact h.e k y e
/-- after a draw -/
theorem Snt.drawn (h : Snt a l H pd C r D Q) (hd : a.Ds) (B : But (fun x => x = a.b) H H') (bag : BagAt H' a.b C') : Snt a l H' pd C' r D Q := by
  have B' : But a.S H H' := B.sub fun x e => .inl e
  obtain ⟨xs, h1, h2, h3⟩ := h.s
  obtain ⟨ys, q1, q2⟩ := h.q
  refine h.next B' bag ⟨xs, B _ _ hd.h1.symm h1, h2, fun k x e => (h3 k x e).but B'⟩ ⟨ys, B _ _ hd.h2.symm q1, h.fts B' q2⟩ (B _ _ hd.h3.symm h.b) fun k y e => B _ _ (fun z => hd.h4 (z ▸ List.mem_of_getElem? e)) (h.e k y e)
/-- a station changes -/
theorem Snt.setS (h : Snt a l H pd C r D Q) (hd : a.Ds) {xs : List V} (hx : H a.ps = some (.lst xs)) {k : Nat} {v : V} {st : KX.LS} (hv : StaS a.S H v st) : Snt a l (upd H a.ps (.lst (xs.set k v))) pd C { r with P := fun j => if j = k then st else r.P j } D Q := by
  have B : But a.S H (upd H a.ps (.lst (xs.set k v))) := But.at (.inr (.inl rfl))
  obtain ⟨xs', h1, h2, h3⟩ := h.s
  rw [hx] at h1
  cases h1
  obtain ⟨ys, q1, q2⟩ := h.q
  obtain ⟨bd, bs', bc, b1, b2⟩ := h.bag
  refine h.next B ⟨bd, bs', bc, by rw [upd_ne hd.h1]; exact b1, b2⟩ ⟨_, upd_same, by rw [List.length_set]; exact h2, fun j x e => ?_⟩ ⟨ys, by rw [upd_ne hd.h5.symm]; exact q1, h.fts B q2⟩ (by rw [upd_ne hd.h6.symm]; exact h.b) fun j y e => ?_
  · show StaS a.S _ x (if j = k then st else r.P j)
    by_cases ej : j = k
    · subst ej
      have hlt := (List.getElem?_eq_some_iff.mp e).1
      rw [List.length_set] at hlt
      rw [List.getElem?_set_self hlt] at e
      cases e
      rw [if_pos rfl]
      exact hv.but B
    · rw [List.getElem?_set_ne (fun z => ej z.symm)] at e
      rw [if_neg ej]
      exact (h3 j x e).but B
  · rw [upd_ne (show y ≠ a.ps from fun z => hd.h7 (z ▸ List.mem_of_getElem? e))]
    exact h.e j y e
theorem Snt.addQ (h : Snt a l H pd C r D Q) (hd : a.Ds) {ys : List V} (hy : H a.pq = some (.lst ys)) {v : V} {f : KX.Ft} (hv : FtAt H v f) (hq : Paired (FtAt H) ys Q) : Snt a l (upd H a.pq (.lst (ys ++ [v]))) pd C r D (Q ++ [f]) := by
  have B : But a.S H (upd H a.pq (.lst (ys ++ [v]))) := But.at (.inr (.inr (.inl rfl)))
  obtain ⟨xs, h1, h2, h3⟩ := h.s
  obtain ⟨bd, bs', bc, b1, b2⟩ := h.bag
  have hv' : FtAt (upd H a.pq (.lst (ys ++ [v]))) v f := by
    obtain ⟨p, e1, e2⟩ := hv
    exact ⟨p, e1, B _ _ (h.noT e2) e2⟩
  exact h.next B ⟨bd, bs', bc, by rw [upd_ne hd.h2]; exact b1, b2⟩ ⟨xs, by rw [upd_ne hd.h5]; exact h1, h2, fun k x e => (h3 k x e).but B⟩ ⟨_, upd_same, paired_snoc (h.fts B hq) hv'⟩ (by rw [upd_ne hd.h8.symm]; exact h.b) fun j y e => by
    rw [upd_ne (show y ≠ a.pq from fun z => hd.h9 (z ▸ List.mem_of_getElem? e))]
    exact h.e j y e
theorem Snt.addB (h : Snt a l H pd C r D Q) (hd : a.Ds) (b : Bool) : Snt a l (upd H a.pb (.lst ((r.bits ++ [b]).map bV))) pd C { r with bits := r.bits ++ [b] } D Q := by
  have B : But a.S H (upd H a.pb (.lst ((r.bits ++ [b]).map bV))) := But.at (.inr (.inr (.inr (.inl rfl))))
  obtain ⟨xs, h1, h2, h3⟩ := h.s
  obtain ⟨ys, q1, q2⟩ := h.q
  obtain ⟨bd, bs', bc, b1, b2⟩ := h.bag
  exact h.next B ⟨bd, bs', bc, by rw [upd_ne hd.h3]; exact b1, b2⟩ ⟨xs, by rw [upd_ne hd.h6]; exact h1, h2, fun k x e => (h3 k x e).but B⟩ ⟨ys, by rw [upd_ne hd.h8]; exact q1, h.fts B q2⟩ upd_same fun j y e => by
    rw [upd_ne (show y ≠ a.pb from fun z => hd.h10 (z ▸ List.mem_of_getElem? e))]
    exact h.e j y e
theorem Snt.addE (h : Snt a l H pd C r D Q) (hd : a.Ds) {k : Nat} {y : Addr} (hk : a.hs[k]? = some y) (e : Bool) : Snt a l (upd H y (.lst ((r.ears k ++ [e]).map bV))) pd C { r with ears := fun j => if j = k then r.ears k ++ [e] else r.ears j } D Q := by
  have hm := List.mem_of_getElem? hk
  have B : But a.S H (upd H y (.lst ((r.ears k ++ [e]).map bV))) := But.at (.inr (.inr (.inr (.inr hm))))
  obtain ⟨xs, h1, h2, h3⟩ := h.s
  obtain ⟨ys, q1, q2⟩ := h.q
  obtain ⟨bd, bs', bc, b1, b2⟩ := h.bag
  refine h.next B ⟨bd, bs', bc, by rw [upd_ne (show a.b ≠ y from fun z => hd.h4 (z ▸ hm))]; exact b1, b2⟩ ⟨xs, by rw [upd_ne (show a.ps ≠ y from fun z => hd.h7 (z ▸ hm))]; exact h1, h2, fun k x e => (h3 k x e).but B⟩
    ⟨ys, by rw [upd_ne (show a.pq ≠ y from fun z => hd.h9 (z ▸ hm))]; exact q1, h.fts B q2⟩ (by rw [upd_ne (show a.pb ≠ y from fun z => hd.h10 (z ▸ hm))]; exact h.b) fun j z ez => ?_
  show _ = some (HO.lst ((if j = k then r.ears k ++ [e] else r.ears j).map bV))
  by_cases ej : j = k
  · subst ej
    rw [hk] at ez
    cases ez
    rw [if_pos rfl, upd_same]
  · rw [if_neg ej, upd_ne]
    · exact h.e j z ez
    · intro zz
      subst zz
      obtain ⟨g1, g2⟩ := List.getElem?_eq_some_iff.mp hk
      obtain ⟨g3, g4⟩ := List.getElem?_eq_some_iff.mp ez
      exact ej ((List.getElem_inj hd.h11).mp (g4.trans g2.symm))
/-- another list of wrong bits -/
theorem Snt.setD (h : Snt a l H pd C r D Q) {pd' : Addr} {D' : List KX.Ft} (hd : FtsL H pd' D') (hn : ¬ a.S pd') : Snt a l H pd' C r D' Q := ⟨h.bag, h.na, h.la, h.s, h.q, hd, hn, h.b, h.ph, h.nph, h.hl, h.e⟩
end
/-! ### stations as data -/
def stD : KX.LS → PyData
  | .sil => .none
  | .wd w => .str w
  | .en n => .list [.int 0, .int n, .none]
  | .fl n w => .list [.int 1, .int n, .str w]
  | .gp n w => .list [.int 2, .int n, .str w]
theorem dp_sta {K : PySem.W.Frag} {H : Hp} {x : V} {st : KX.LS} (h : StaAt H x st) : Dp K H x (stD st) := by
  cases st with
  | sil => cases h; exact .non
  | wd w => cases h; exact .str _
  | en n => obtain ⟨p, rfl, h⟩ := h; exact .lst (.inl (.inl h)) (.cons (.int _) (.cons (.int _) (.cons .non .nil)))
  | fl n w => obtain ⟨p, rfl, h⟩ := h; exact .lst (.inl (.inl h)) (.cons (.int _) (.cons (.int _) (.cons (.str _) .nil)))
  | gp n w => obtain ⟨p, rfl, h⟩ := h; exact .lst (.inl (.inl h)) (.cons (.int _) (.cons (.int _) (.cons (.str _) .nil)))
theorem wdN_ok {v : Nat} (h : v < 4) : PyData.strOk (KX.wdN v) = true := by
  rcases (show v = 0 ∨ v = 1 ∨ v = 2 ∨ v = 3 by omega) with rfl | rfl | rfl | rfl <;> decide +kernel
theorem gd_sta {l : KX.LP} (hl : l.Ok) {k : Nat} {st : KX.LS} (h : l.okS k st) : Gd (stD st) 1 := by
  have hw : ∀ w, (l.c k).Wd w → PyData.strOk w = true := fun w hw => by
    have hc := hl.c k
    rcases hw.h with rfl | rfl
    · exact wdN_ok hc.hv
    · exact wdN_ok hc.hw
  have three : ∀ (i j : Int) (w : Str), PyData.strOk w = true → Gd (.list [.int i, .int j, .str w]) 1 := fun i j w hw => .lst fun d hd => by
    simp only [List.mem_cons, List.not_mem_nil, or_false] at hd
    rcases hd with rfl | rfl | rfl
    · exact .int _
    · exact .int _
    · exact .str hw
  rcases h with rfl | h
  · exact Gd.non.mono (by decide)
  · cases st with
    | sil => exact h.elim
    | wd w => exact (Gd.str (hw w h)).mono (by decide)
    | en n =>
      exact .lst fun d hd => by
        simp only [List.mem_cons, List.not_mem_nil, or_false] at hd
        rcases hd with rfl | rfl | rfl
        · exact .int _
        · exact .int _
        · exact .non
    | fl n w => exact three _ _ _ (hw w h.2.2)
    | gp n w => exact three _ _ _ (hw w h.2)
end SB
end
section
set_option maxRecDepth 100000
set_option maxHeartbeats 4000000
/-! Walks: _law_sent. -/
namespace SB
open PySem PySem.Spec PyProof.Rows L2
/-- the number that stands ahead in a live station -/
def modeN : KX.LS → Nat
  | .fl _ _ => 1
  | .gp _ _ => 2
  | _ => 0
theorem sta_live {S : Addr → Prop} {H : Hp} {x : V} {st : KX.LS} (h : StaS S H x st) (hl : st.live = true) : ∃ p b c, x = .ref p ∧ ¬ S p ∧ H p = some (.lst [.int (modeN st), b, c]) := by
  obtain ⟨h1, h2⟩ := h
  cases st with
  | sil => cases hl
  | wd w => cases hl
  | en n => obtain ⟨p, rfl, h⟩ := h1; exact ⟨p, _, _, rfl, h2 p rfl, h⟩
  | fl n w => obtain ⟨p, rfl, h⟩ := h1; exact ⟨p, _, _, rfl, h2 p rfl, h⟩
  | gp n w => obtain ⟨p, rfl, h⟩ := h1; exact ⟨p, _, _, rfl, h2 p rfl, h⟩
theorem put_mode {st : KX.LS} (hl : st.live = true) : st.put = 0 ↔ modeN st = 1 := by
  cases st with
  | sil => cases hl
  | wd w => cases hl
  | en n => exact ⟨fun h => (nomatch h), fun h => (nomatch h)⟩
  | fl n w => exact ⟨fun _ => rfl, fun _ => rfl⟩
  | gp n w => exact ⟨fun h => (nomatch h), fun h => (nomatch h)⟩
theorem line_modes {l : KX.LP} {P1 : Nat → KX.LS} : (1 ∈ ((List.range l.m).filter fun k => (P1 k).live).map fun k => modeN (P1 k)) ↔ KX.lineB l.sys l.m P1 = false := by
  rw [KX.lineB_false, List.mem_map]
  constructor
  · rintro ⟨k, hk, e⟩
    obtain ⟨h1, h2⟩ := List.mem_filter.mp hk
    exact ⟨k, List.mem_range.mp h1, h2, (put_mode h2).mpr e⟩
  · rintro ⟨k, hk, hl, e⟩
    exact ⟨k, List.mem_filter.mpr ⟨List.mem_range.mpr hk, hl⟩, (put_mode hl).mp e⟩
/-- where the law's sending is, at the head of its loop -/
structure LInv (a : SnA) (l : KX.LP) (H0 H : Hp) (most C : Nat) (pd : Addr) (D Q : List KX.Ft) (t C' : Nat) : Prop where
  snt : Snt a l H pd C' (KX.runR l.sys l.m D Q (l.P0 D) t) D Q
  part : KX.Part l.sys l.m (l.P0 D) D Q t
  but : But (fun x => x = a.b) H0 H
  ml : D.length ≤ most
  ql : Q.length ≤ t * l.m
  fuel : C' + 10 * l.mu (most - D.length) (KX.runR l.sys l.m D Q (l.P0 D) t).P ≤ C + 18100
  tmu : t + l.mu (most - D.length) (KX.runR l.sys l.m D Q (l.P0 D) t).P ≤ 1808
def ftD (f : KX.Ft) : PyData := .tuple [.int f.1, .int f.2]
theorem dp_fts {K : PySem.W.Frag} {H : Hp} : ∀ {xs : List V} {F : List KX.Ft}, Paired (FtAt H) xs F → DpAll K H xs (F.map ftD)
  | _, _, .nil => .nil
  | _, _, .cons ⟨t, e, h⟩ r => .cons (by subst e; exact .tup (.inl (.inl h)) (.cons (.int _) (.cons (.int _) .nil))) (dp_fts r)
theorem gd_ft (f : KX.Ft) : Gd (ftD f) 1 := .tup fun d hd => by
  simp only [List.mem_cons, List.not_mem_nil, or_false] at hd
  rcases hd with rfl | rfl
  · exact .int _
  · exact .int _
theorem gd_fts (F : List KX.Ft) : Gd (.list (F.map ftD)) 2 := .lst fun d hd => by
  obtain ⟨f, _, rfl⟩ := List.mem_map.mp hd
  exact gd_ft f
theorem any_ft (F : List KX.Ft) (f : KX.Ft) : ((F.map ftD).any fun z => PyData.eqv z (ftD f)) = decide (f ∈ F) := by
  rw [List.any_map, Bool.eq_iff_iff, List.any_eq_true, decide_eq_true_eq]
  have key : ∀ g : KX.Ft, PyData.eqv (ftD g) (ftD f) = true ↔ g = f := fun ⟨a, b⟩ => by
    obtain ⟨c, d⟩ := f
    unfold ftD
    simp only [PyData.eqv, PyData.eqvAll, Bool.and_true, Bool.and_eq_true, beq_iff_eq, Prod.mk.injEq]
    omega
  constructor
  · rintro ⟨g, hg, e⟩
    exact (key g).mp e ▸ hg
  · exact fun h => ⟨f, h, (key f).mpr rfl⟩
/-- the sending that a law's draw gives, as it stands -/
structure Told (l : KX.LP) (H : Hp) (p : Addr) (D Q : List KX.Ft) (T : Nat) : Prop where
  ex : ∃ (pd pq pb ps ph : Addr) (xs : List V) (hs : List Addr), H p = some (.tup [.ref pd, .ref pq, .ref pb, .ref ps, .ref ph]) ∧ FtsL H pd D ∧ FtsL H pq Q ∧ H pb = some (.lst ((KX.runR l.sys l.m D Q (l.P0 D) T).bits.map bV)) ∧ H ps = some (.lst xs) ∧ xs.length = l.m ∧
    (∀ k x, xs[k]? = some x → StaAt H x ((KX.runR l.sys l.m D Q (l.P0 D) T).P k)) ∧ H ph = some (.lst (hs.map V.ref)) ∧ hs.length = l.m ∧ ∀ k y, hs[k]? = some y → H y = some (.lst (((KX.runR l.sys l.m D Q (l.P0 D) T).ears k).map bV))
theorem ixN_nat {n j : Nat} (h : j < n) : ixN n (j : Int) = some j := by
  unfold ixN
  rw [if_pos (by omega)]
  simp [h]
theorem paired_take {α β : Type} {R : α → β → Prop} : ∀ {xs : List α} {ys : List β} (n : Nat), Paired R xs ys → Paired R (xs.take n) (ys.take n)
  | _, _, 0, _ => .nil
  | _, _, _ + 1, .nil => .nil
  | _, _, n + 1, .cons r t => .cons r (paired_take n t)
theorem cut_take (xs : List V) (n : Nat) : cutV xs none (some (n : Int)) = xs.take n := by
  unfold cutV
  rw [HT.sIx_none, HT.sIx_nat, List.drop_zero, Nat.sub_zero]
  by_cases h : n ≤ xs.length
  · rw [Nat.min_eq_left h]
  · rw [Nat.min_eq_right (by omega), List.take_of_length_le (Nat.le_refl _), List.take_of_length_le (by omega)]
theorem sta_isi {K : PySem.W.Frag} {H : Hp} {x : V} {st : KX.LS} (h : StaAt H x st) : ∃ T, TyX K H x T ∧ PySem.W.kitOne K T (.type "list") = some st.live := by
  cases st with
  | sil => cases h; exact ⟨_, tx_non, k_nl⟩
  | wd w => cases h; exact ⟨_, tx_str _, k_sl⟩
  | en n => obtain ⟨p, rfl, h⟩ := h; exact ⟨_, tx_lst h, k_ll⟩
  | fl n w => obtain ⟨p, rfl, h⟩ := h; exact ⟨_, tx_lst h, k_ll⟩
  | gp n w => obtain ⟨p, rfl, h⟩ := h; exact ⟨_, tx_lst h, k_ll⟩
theorem But.noneH {H H' : Hp} {b p : Addr} (B : But (fun x => x = b) H H') (h : H' p = none) (hb : ∃ v, H' b = some v) : H p = none := by
  cases e : H p with
  | none => rfl
  | some o =>
    by_cases hp : p = b
    · subst hp
      obtain ⟨v, hv⟩ := hb
      rw [h] at hv
      cases hv
    · rw [B _ _ hp e] at h
      cases h
theorem fts_but {H H' : Hp} {b C : Nat} {xs : List V} {F : List KX.Ft} (h : Paired (FtAt H) xs F) (hb : BagAt H b C) (B : But (fun x => x = b) H H') : Paired (FtAt H') xs F := Paired.mapP h fun _ _ ⟨p, e1, e2⟩ => ⟨p, e1, B _ _ (fun z => by obtain ⟨d, s, c, h1, _⟩ := hb; have z' : p = b := z; rw [z', h1] at e2; cases e2) e2⟩
section
variable {P : Program} {w : World} {K : PySem.W.Frag} {mg : Str → Option Value} {base : Heap}
abbrev s_law_sent : Stmt := top 49
abbrev n_law_sent : List Str := ["_law_bag_here", "_law_numbers", "_law_limits", "_law_many", "_law_most", "_law_is_quiet", "_law_deaf", "_law_states", "_law_quiet", "_law_bits", "_law_heard", "_law_k", "_law_going", "_law_is_wrong", "_law_words", "_law_state"]
abbrev p_law_sent : List Str := ["_law_bag_here", "_law_numbers", "_law_limits", "_law_many", "_law_most", "_law_is_quiet"]
theorem sc_law_sent : FnScope n_law_sent p_law_sent (defScope s_law_sent) := ⟨rfl, rfl, rfl, by decide +kernel, rfl, by decide +kernel, by decide +kernel⟩
def sp_law_sent : Sp := fun vs H Q _ => ∃ (b na la many most C : Nat) (isq : Bool) (l : KX.LP), vs = [.ref b, .ref na, .ref la, .int many, .int most, .bl isq] ∧ l.Ok ∧ l.m = many + 1 ∧ H na = some (.tup [.int l.bits, .int l.flag, .int l.gap]) ∧ H la = some (.tup [.int l.lh, .int l.ls]) ∧
  BagAt H b C ∧ most ≤ 3 ∧ C ≤ 500000 ∧ ∀ H' p D S T, But (fun x => x = b) H H' → BagAt H' b (C + 20000) → Told l H' p D S T → KX.Fair l.sys l.m (l.P0 D) D S T → D.length + S.length ≤ 20000 → Q (.ref p) H'
theorem ok_law_sent {f : Addr} {fd : FuncData} (F : Fun K "_law_sent" "_law_sent" s_law_sent f fd) (G : Gb mg) (C1 : Cal P w K mg base "_law_take" 1 ["_law_bag_here", "_law_many"] sp_law_take) (C2 : Cal P w K mg base "_law_next" 1 p_law_next sp_law_next) : FnOk P w K mg base CX0 2 f fd p_law_sent sp_law_sent := by
  refine F.ok sc_law_sent (fun vs H Q E h => ?_) (fun cdv A outer s H vs Q E' hr h => ?_)
  · obtain ⟨b, na, la, many, most, C, isq, l, rfl, _⟩ := h
    rfl
  · obtain ⟨b, na, la, many, most, C, isq, l, rfl, hO, hmn, hna, hla, hbag, hmost, hC, q⟩ := h
    have nd := sc_law_sent.nd
    have hu := hu_of hr
    have hu65 : (A.deeper (envOfC "_law_sent" (defScope s_law_sent) s.heap.objs.size f cdv)).units + 65 < cLine := by have := hr.un; omega
    refine ⟨_, C8.pss_cut (ps_set (i := 6) nd rfl (.inl rfl) (pe_slice sl_list (pe_lc (own := [("_law_k", 11)]) (g := gName 11) (tt := tTest (tOp rEq (tCall sp_law_take [] E0 (tCons (tVar 0) (tCons (tC (.int 9)) tNil))) (tC (.int 0)))) rfl nd (pi_range2 (by rfl) G.range (pa_cons pe_int (pa_cons (pe_op op_add (pv 3) pe_int) pa_nil))) (blkOk_by (N := n_law_sent) (sc := defScope s_law_sent) (by decide +kernel)) (fun _ _ _ _ _ => pg_name (i := 11) nd rfl (.inl rfl)) (fun _ _ _ _ _ => pts_one (pt_cmpR op_eq (cal C1 hr (pa_cons (pv 0) (pa_cons pe_int pa_nil))) pe_int (nomark _))) (fun _ _ _ _ _ => pe_tup (pa_cons pe_int (pa_cons (pv 11) pa_nil)))) po_none (po_some (pv 4))))
      (C8.pss_cut (ps_asg (pe_tup (pa_cons (pe_lst (pa_cons (pe_lst (pa_cons pe_int (pa_cons pe_int (pa_cons pe_non pa_nil)))) pa_nil)) (pa_cons (pe_lst pa_nil) (pa_cons (pe_lst pa_nil) (pa_cons (pe_lc (own := [("_law_k", 11)]) (g := gName 11) (tt := tYes) rfl nd (pi_range1 (by rfl) G.range (pa_cons (pe_op op_add (pv 3) pe_int) pa_nil)) (blkOk_by (N := n_law_sent) (sc := defScope s_law_sent) (by decide +kernel)) (fun _ _ _ _ _ => pg_name (i := 11) nd rfl (.inl rfl)) (fun _ _ _ _ _ => pts_nil) (fun _ _ _ _ _ => pe_lst pa_nil)) pa_nil))))) (pg_tup rfl (pgs_cons (pg_name (i := 7) nd rfl (.inr rfl)) (pgs_cons (pg_name (i := 8) nd rfl (.inl rfl)) (pgs_cons (pg_name (i := 9) nd rfl (.inl rfl)) (pgs_cons (pg_name (i := 10) nd rfl (.inl rfl)) pgs_nil))))))
      (C8.pss_cut (ps_for PassesOwn.never rfl (pi_range2 (by rfl) G.range (pa_cons pe_int (pa_cons (pe_op op_add (pv 3) pe_int) pa_nil))) (pg_name (i := 11) nd rfl (.inl rfl)) (pss_one (apnd (pv 7) (pe_ifExp (pt_cmpR (op_inD hu65) (pe_tup (pa_cons pe_int (pa_cons (pv 11) pa_nil))) (pv 6) rfl) (pe_lst (pa_cons pe_int (pa_cons (pe_ix ix_tup (pv 1) pe_int (fun _ _ => rfl)) (pa_cons pe_str pa_nil)))) (pe_lst (pa_cons pe_int (pa_cons pe_int (pa_cons pe_non pa_nil))))))))
      (C8.pss_cut (ps_while PassesOwn.never (pt_cmpR (op_neD hr.units) (pe_lc (own := [("_law_state", 15)]) (g := gName 15) (tt := tB (tCB (rIsi K) (tCons (tVar 15) (tCons (tC (.ty "list")) tNil)))) rfl nd (pi_list (pv 7)) (blkOk_by (N := n_law_sent) (sc := defScope s_law_sent) (by decide +kernel)) (fun _ _ _ _ _ => pg_name (i := 15) nd rfl (.inl rfl)) (fun _ _ _ _ _ => pts_one (pt_val (isiK K G (pa_cons (pv 15) (pa_cons (eList G) pa_nil))))) (fun _ _ _ _ _ => pv 15)) (pe_lst pa_nil) (nomark _))
        (C8.pss_cut (ps_for PassesOwn.never rfl (pi_range1 (by rfl) G.range (pa_cons (pe_op op_add (pv 3) pe_int) pa_nil)) (pg_name (i := 11) nd rfl (.inl rfl)) (pss_one (ps_if (PW.pt (pw_and (pt_val (isi G (pa_cons (pe_ix ix_list (pv 7) (pv 11) (fun _ _ => rfl)) (pa_cons (eList G) pa_nil)))) (pw_and (pt_val (pv 5)) (pw_and1 (pt_cmpR op_eq (cal C1 hr (pa_cons (pv 0) (pa_cons pe_int pa_nil))) pe_int (nomark _)))))) (pss_cons (apnd (pv 8) (pe_tup (pa_cons (pe_op op_add (lenS G (pv 9)) pe_int) (pa_cons (pv 11) pa_nil)))) (pss_one (ps_asg pe_non (pg_sub (pv 7) (pv 11) set_list)))) pss_nil)))
        (C8.pss_cut (ps_setLc (i := 12) (own := [("_law_k", 11)]) (g := gName 11) (tt := tB (tCB (rIsi K) (tCons (tOp (rIxL K) (tVar 7) (tVar 11)) (tCons (tC (.ty "list")) tNil)))) rfl nd rfl rfl (sw_true rfl rfl rfl rfl) (pi_range1 (by rfl) G.range (pa_cons (pe_op op_add (pv 3) pe_int) pa_nil)) (blkOk_by (N := n_law_sent) (sc := defScope s_law_sent) (by decide +kernel)) (fun _ _ _ _ _ => pg_name (i := 11) nd rfl (.inl rfl)) (fun _ _ _ _ _ => pts_one (pt_val (isiK K G (pa_cons (ixLK K (pv 7) (pv 11)) (pa_cons (eList G) pa_nil))))) (fun _ _ _ _ _ => pv 11))
        (C8.pss_cut (apnd (pv 9) (pe_ifExp (pt_cmpR op_in_seq pe_int (pe_lc (own := [("_law_k", 11)]) (g := gName 11) (tt := tYes) rfl nd (pi_list (pv 12)) (blkOk_by (N := n_law_sent) (sc := defScope s_law_sent) (by decide +kernel)) (fun _ _ _ _ _ => pg_name (i := 11) nd rfl (.inl rfl)) (fun _ _ _ _ _ => pts_nil) (fun _ _ _ _ _ => ixLK K (ixLK K (pv 7) (pv 11)) pe_int)) rfl) pe_int pe_int))
        (pss_one (ps_for PassesOwn.never rfl (pi_list (pv 12)) (pg_name (i := 11) nd rfl (.inl rfl))
            (C8.pss_cut (ps_set (i := 13) nd rfl (.inl rfl) (pe_and (pe_cmpR op_lt (lenS G (pv 6)) (pv 4) (nomark _)) (pe_one (pe_cmpR op_eq (cal C1 hr (pa_cons (pv 0) (pa_cons pe_int pa_nil))) pe_int (nomark _)))))
            (pss_cons (ps_set (i := 6) nd rfl (.inl rfl) (pe_op op_cat (pv 6) (pe_op op_rep (pe_lst (pa_cons (pe_tup (pa_cons (lenS G (pv 9)) (pa_cons (pv 11) pa_nil))) pa_nil)) (pe_callTy call_int1 (by rfl) G.int (by decide +kernel) (pa_cons (pv 13) pa_nil)))))
            (pss_cons (apnd (pe_ix ix_list (pv 10) (pv 11) (fun _ _ => rfl)) (pe_ifV (pt_val (pv 13)) (pe_op op_sub pe_int (pe_ix ix_list (pv 9) (pe_un un_neg pe_int) (fun _ _ => rfl))) (pe_ix ix_list (pv 9) (pe_un un_neg pe_int) (fun _ _ => rfl)) (mono_v 13)))
            (C8.pss_cut (ps_set (i := 14) nd rfl (.inl rfl) (pe_ifExp (pt_cmpR op_eq (pv 11) pe_int (nomark _)) (pe_lst (pa_cons pe_str (pa_cons pe_str pa_nil))) (pe_lst (pa_cons pe_str (pa_cons pe_str pa_nil)))))
            (pss_one (ps_asg (cal C2 hr (pa_cons (pe_ix ix_list (pv 7) (pv 11) (fun _ _ => rfl)) (pa_cons (pv 1) (pa_cons (pe_ix ix_tup (pv 2) (pe_callTy call_int1 (by rfl) G.int (by decide +kernel) (pa_cons (pe_cmpR op_eq (pv 11) pe_int (nomark _)) pa_nil)) (fun _ _ => rfl)) (pa_cons (pv 14) (pa_cons (pe_ix ix_list (pe_ix ix_list (pv 10) (pv 11) (fun _ _ => rfl)) (pe_un un_neg pe_int) (fun _ _ => rfl)) pa_nil)))))) (pg_sub (pv 7) (pv 11) set_list)))))))))))))
      (pss_one (ps_ret (pe_tup (pa_cons (pv 6) (pa_cons (pv 8) (pa_cons (pv 9) (pa_cons (pv 7) (pa_cons (pv 10) pa_nil))))))))))), ?_⟩
    have hbH : ∃ v, H b = some (.lst v) := by obtain ⟨d, s, c, h1, _⟩ := hbag; exact ⟨_, h1⟩
    obtain ⟨bv, hbv⟩ := hbH
    have b0 : ((many : Int) + 1 - 1).toNat = many := by omega
    have hm5 := hO.m2
    refine ⟨fun σ H1 => ∃ (pd : Addr) (D : List KX.Ft), σ = [some (.ref b), some (.ref na), some (.ref la), some (.int many), some (.int most), some (.bl isq), some (.ref pd), none, none, none, none, none, none, none, none, none] ∧ But (fun x => x = b) H H1 ∧ BagAt H1 b (C + many) ∧ FtsL H1 pd D ∧ H pd = none ∧
      D.length ≤ most ∧ D.Nodup ∧ (∀ f ∈ D, ∃ k, f = (0, k) ∧ 1 ≤ k ∧ k < l.m), ?_, ?_⟩
    · refine ⟨_, rfl, _, _, rfl, rfl, 1, _, rfl, ⟨by omega, by omega, by omega, by omega⟩, fun D0 nD0 => ?_⟩
      rw [b0]
      have nD0' : H D0 = none := nD0
      have hDb : D0 ≠ b := ne_of_none' nD0' hbv
      refine lc_it walk_range (fun i H2 => But (fun x => x = b) H H2 ∧ BagAt H2 b (C + i) ∧ ∃ acc F, H2 D0 = some (.lst acc) ∧ Paired (FtAt H2) acc F ∧ F.length ≤ i ∧ F.Nodup ∧ ∀ f ∈ F, ∃ k, f = (0, k) ∧ 1 ≤ k ∧ k ≤ i)
        ⟨bs (sameN nD0'), hbag.same (sameN nD0'), [], [], upd_same, .nil, Nat.le_refl _, List.nodup_nil, fun f hf => absurd hf List.not_mem_nil⟩ (fun _ _ _ _ => True.intro) ?_ ?_
      · rintro i x H2_ H2 hi ⟨B2, bag2, acc, F0, h2, hp, hl, hnd, hF⟩ ⟨rfl, ex⟩
        have ex2 : x = .int ((i + 1 : Nat) : Int) := ex.trans (congrArg V.int (show (1 : Int) + (i : Nat) = ((i + 1 : Nat) : Int) by omega))
        subst ex2
        refine ⟨rfl, _, rfl, b, 9, C + i, rfl, bag2, by decide, by decide, by omega, fun H3 v B3 bag3 hv => ⟨rfl, _, rfl, ?_⟩⟩
        have h3 := B3 _ _ hDb h2
        have hp3 := fts_but hp bag2 B3
        by_cases hv0 : v = 0
        · refine onT (decide_eq_true (by rw [hv0]; rfl)) ⟨_, rfl, by show 2 ≤ sizeLine; decide, fun t nt => ⟨acc, ?_, ?_, ?_, ?_, ?_⟩⟩
          · rw [upd_ne (ne_of_none h3 nt)]; exact h3
          · refine small_len (n := 10) ?_
            rw [paired_len hp]
            omega
          · exact But.new ((B2.trans B3).new (But.noneH (B2.trans B3) nt (by obtain ⟨d, s, c, h1, _⟩ := bag3; exact ⟨_, h1⟩))) nD0'
          · obtain ⟨d, s, c, g1, g2⟩ := bag3
            refine ⟨d, s, c, ?_, g2⟩
            rw [upd_ne hDb.symm, upd_ne (ne_of_none g1 nt)]
            exact g1
          · refine ⟨_, F0 ++ [(0, i + 1)], upd_same, paired_snoc (Paired.mapP hp3 fun _ _ ⟨p, e1, e2⟩ => ⟨p, e1, ?_⟩) ⟨t, rfl, ?_⟩, by rw [List.length_append]; exact Nat.succ_le_succ hl, KX.nodup_snoc hnd fun hm => ?_, fun f hf => ?_⟩
            · rw [upd_ne (ne_of e2 h3 (by intro z; cases z)), upd_ne (ne_of_none e2 nt)]
              exact e2
            · rw [upd_ne (ne_of_none h3 nt).symm, upd_same]
              rfl
            · obtain ⟨k, e1, _, e3⟩ := hF _ hm
              injection e1 with _ e1
              omega
            · rcases List.mem_append.mp hf with hf | hf
              · obtain ⟨k, e1, e2, e3⟩ := hF f hf
                exact ⟨k, e1, e2, by omega⟩
              · cases List.mem_singleton.mp hf
                exact ⟨i + 1, rfl, by omega, Nat.le_refl _⟩
        · refine onF (decide_eq_false (by intro z; injection z with z; omega)) ⟨B2.trans B3, bag3, acc, F0, h3, hp3, by omega, hnd, fun f hf => ?_⟩
          obtain ⟨k, e1, e2, e3⟩ := hF f hf
          exact ⟨k, e1, e2, by omega⟩
      · rintro H2 ⟨B2, bag2, acc, F0, h2, hp, hl, hnd, hF⟩
        refine ⟨_, rfl, _, rfl, D0, acc, rfl, .inl (.inl h2), fun pd npd => ?_⟩
        rw [cut_take]
        have hpdb : H pd = none := But.noneH B2 npd (by obtain ⟨d, s, c, h1, _⟩ := bag2; exact ⟨_, h1⟩)
        refine ⟨pd, F0.take most, rfl, B2.new hpdb, bag2.same (sameN npd), ⟨_, upd_same, paired_take most (Paired.mapP hp fun _ _ ⟨p, e1, e2⟩ => ⟨p, e1, by rw [upd_ne (ne_of_none e2 npd)]; exact e2⟩)⟩, hpdb, by rw [List.length_take]; omega, hnd.sublist (List.take_sublist _ _), fun f hf => ?_⟩
        obtain ⟨k, e1, e2, e3⟩ := hF f (List.mem_of_mem_take hf)
        exact ⟨k, e1, e2, by omega⟩
    · rintro σ' H1 ⟨pd, D, rfl, B1, bag1, hD, npd, hDl, hDn, hDk⟩
      obtain ⟨bv1, hbv1⟩ : ∃ v, H1 b = some (.lst v) := by obtain ⟨d, s, c, h1, _⟩ := bag1; exact ⟨_, h1⟩
      refine ⟨fun σ H2 => ∃ (a : SnA) (p0 : Addr), a.b = b ∧ a.na = na ∧ a.la = la ∧ σ = [some (.ref b), some (.ref na), some (.ref la), some (.int many), some (.int most), some (.bl isq), some (.ref pd), some (.ref a.ps), some (.ref a.pq), some (.ref a.pb), some (.ref a.ph), none, none, none, none, none] ∧
          Same H1 H2 ∧ a.Ds ∧ (∀ x, a.S x → x = b ∨ H1 x = none) ∧ H2 a.ps = some (.lst [.ref p0]) ∧ H2 p0 = some (.lst [.int 0, .int 1, .non]) ∧ ¬ a.S p0 ∧ H2 a.pq = some (.lst []) ∧ H2 a.pb = some (.lst []) ∧ H2 a.ph = some (.lst (a.hs.map V.ref)) ∧ ¬ a.S a.ph ∧ a.hs.length = l.m ∧ ∀ y ∈ a.hs, H2 y = some (.lst []), ?_, ?_⟩
      · refine ⟨by show 3 ≤ sizeLine; decide, fun p0 np0 => ⟨by show 1 ≤ sizeLine; decide, fun ps nps => ⟨by show 0 ≤ sizeLine; decide, fun pq npq => ⟨by show 0 ≤ sizeLine; decide, fun pb npb => ?_⟩⟩⟩⟩
        have s1 : Same H1 (upd H1 p0 (.lst [.int 0, .int 1, .non])) := sameN np0
        have g1 : (upd H1 p0 (.lst [.int 0, .int 1, .non])) p0 = some (.lst [.int 0, .int 1, .non]) := upd_same
        have np0' : H1 p0 = none := np0
        generalize upd H1 p0 (.lst [.int 0, .int 1, .non]) = Ha at nps npq npb s1 g1 ⊢
        have nps' : H1 ps = none := noneOf s1 nps
        have s2 : Same Ha (upd Ha ps (.lst [.ref p0])) := sameN nps
        have g2 : (upd Ha ps (.lst [.ref p0])) ps = some (.lst [.ref p0]) := upd_same
        have d1 : p0 ≠ ps := ne_of_none g1 nps
        have g1b := s2 _ _ g1
        have s12 := s1.trans s2
        generalize upd Ha ps (.lst [.ref p0]) = Hb at npq npb s2 g2 g1b s12 ⊢
        have npq' : H1 pq = none := noneOf s12 npq
        have s3 : Same Hb (upd Hb pq (.lst [])) := sameN npq
        have g3 : (upd Hb pq (.lst [])) pq = some (.lst []) := upd_same
        have d2 : ps ≠ pq := ne_of_none g2 npq
        have d3 : p0 ≠ pq := ne_of_none g1b npq
        have g2c := s3 _ _ g2
        have g1c := s3 _ _ g1b
        have s13 := s12.trans s3
        generalize upd Hb pq (.lst []) = Hc at npb s3 g3 g2c g1c s13 ⊢
        have npb' : H1 pb = none := noneOf s13 npb
        have s4 : Same Hc (upd Hc pb (.lst [])) := sameN npb
        have g4 : (upd Hc pb (.lst [])) pb = some (.lst []) := upd_same
        have d4 : ps ≠ pb := ne_of_none g2c npb
        have d5 : pq ≠ pb := ne_of_none g3 npb
        have d6 : p0 ≠ pb := ne_of_none g1c npb
        have g3d := s4 _ _ g3
        have g2d := s4 _ _ g2c
        have g1d := s4 _ _ g1c
        have s14 := s13.trans s4
        generalize upd Hc pb (.lst []) = Hd at s4 g4 g3d g2d g1d s14 ⊢
        refine ⟨_, rfl, _, _, rfl, rfl, _, rfl, by omega, by omega, fun ph nph => ?_⟩
        have b1 : (((many : Int) + 1)).toNat = l.m := by omega
        rw [b1]
        have nph' : H1 ph = none := noneOf s14 nph
        refine lc_it walk_range (fun i H2 => Same Hd H2 ∧ ∃ hs : List Addr, hs.length = i ∧ hs.Nodup ∧ H2 ph = some (.lst (hs.map V.ref)) ∧ ∀ y ∈ hs, H2 y = some (.lst []) ∧ Hd y = none) ⟨sameN nph, [], rfl, List.nodup_nil, upd_same, fun y hy => absurd hy List.not_mem_nil⟩ (fun _ _ _ _ => True.intro) ?_ ?_
        · rintro i x H2_ H2 hi ⟨s5, hs, e1, e2, e3, e4⟩ ⟨rfl, ex⟩
          have hi' : i < l.m := hi
          have notz : ∀ z, H2 z = none → z ∉ hs := fun z nz hz => by rw [(e4 z hz).1] at nz; cases nz
          refine ⟨rfl, tyes ⟨by show 0 ≤ sizeLine; decide, fun z nz => ⟨hs.map V.ref, (upd_ne (ne_of_none e3 nz)).trans e3, small_len (n := 100) (by rw [List.length_map]; omega), sameU (sameN2 s5 nz) nph, hs ++ [z], by rw [List.length_append, e1]; rfl, KX.nodup_snoc e2 (notz z nz), by rw [upd_same, List.map_append]; rfl, fun y hy => ?_⟩⟩⟩
          have hzp : ph ≠ z := ne_of_none e3 nz
          rcases List.mem_append.mp hy with hy | hy
          · have hyp : y ≠ ph := ne_of (H := H2) (e4 y hy).1 e3 (fun z => by have : hs = [] := List.map_eq_nil_iff.mp (HO.lst.inj z).symm; rw [this] at hy; cases hy)
            rw [upd_ne hyp, upd_ne (ne_of_none (e4 y hy).1 nz)]
            exact e4 y hy
          · cases List.mem_singleton.mp hy
            rw [upd_ne hzp.symm]
            exact ⟨upd_same, noneOf s5 nz⟩
        · rintro H2 ⟨s5, hs, e1, e2, e3, e4⟩
          refine ⟨by show 4 ≤ sizeLine; decide, fun tt ntt => ⟨tt, _, rfl, .inl (.inl upd_same), rfl, _, _, rfl, _, _, rfl, _, _, rfl, _, _, rfl, rfl, ?_⟩⟩
          have s6 : Same H2 (upd H2 tt (.tup [.ref ps, .ref pq, .ref pb, .ref ph])) := sameN ntt
          have s56 := s5.trans s6
          have hnot : ∀ y, Hd y = some (.lst []) ∨ (∃ v, Hd y = some v) → y ∉ hs := fun y hy hm => by
            have := (e4 y hm).2
            rcases hy with h | ⟨v, h⟩ <;> rw [h] at this <;> cases this
          have hsH1 : ∀ y ∈ hs, H1 y = none := fun y hy => noneOf s14 (e4 y hy).2
          have hbn : b ∉ hs := fun hm => by
            have := hsH1 _ hm
            rw [hbv1] at this
            cases this
          have hS : ∀ x, SnA.S ⟨b, na, la, ps, pq, pb, ph, hs⟩ x → x = b ∨ H1 x = none := fun x hx => by
            rcases hx with h | h | h | h | h
            · exact .inl h
            · exact .inr (h ▸ nps')
            · exact .inr (h ▸ npq')
            · exact .inr (h ▸ npb')
            · exact .inr (hsH1 x h)
          refine ⟨⟨b, na, la, ps, pq, pb, ph, hs⟩, p0, rfl, rfl, rfl, rfl, s14.trans s56, ⟨ne_of_none hbv1 nps', ne_of_none hbv1 npq', ne_of_none hbv1 npb', hbn, d2, d4, hnot _ (.inr ⟨_, g2d⟩), d5, hnot _ (.inl g3d), hnot _ (.inl g4), e2⟩, hS, s56 _ _ g2d, s56 _ _ g1d, ?_, s56 _ _ g3d, s56 _ _ g4, s6 _ _ e3, ?_, e1, fun y hy => s6 _ _ (e4 y hy).1⟩
          · rintro (h | h | h | h | h)
            · exact ne_of_none hbv1 np0' h.symm
            · exact d1 h
            · exact d3 h
            · exact d6 h
            · exact hnot _ (.inr ⟨_, g1d⟩) h
          · rintro (h | h | h | h | h)
            · exact ne_of_none hbv1 nph' h.symm
            · exact ne_of_none g2d nph h.symm
            · exact ne_of_none g3d nph h.symm
            · exact ne_of_none g4 nph h.symm
            · have h0 := (e4 ph h).1
              rw [e3] at h0
              have : hs = [] := List.map_eq_nil_iff.mp (HO.lst.inj (Option.some.inj h0))
              have h' : ph ∈ hs := h
              rw [this] at h'
              cases h'
      · rintro σ' H2 ⟨a, p0, rfl, rfl, rfl, rfl, s2, hds, hS, k1, k2, k3, k4, k5, k6, k7, k8, k9⟩
        have nSpd : ¬ a.S pd := fun hs => by
          obtain ⟨xs, h1, _⟩ := hD
          rcases hS pd hs with h | h
          · rw [h, hbv] at npd; cases npd
          · rw [h1] at h; cases h
        have B2 : But (fun x => x = a.b) H H2 := B1.trans (bs s2)
        have bag2 := bag1.same s2
        have hD2 := hD.same s2
        have hnot1 : ∀ {x : Addr} {xs : List V}, H x = some (.tup xs) → H2 x = some (.tup xs) := fun {x xs} hx => B2 _ _ (fun z => by have z' : x = a.b := z; rw [z', hbv] at hx; cases hx) hx
        have hna2 := hnot1 hna
        have hla2 := hnot1 hla
        have hSH : ∀ x, a.S x → x = a.b ∨ H x = none := fun x hx => (hS x hx).imp id fun h => But.noneH B1 h ⟨_, hbv1⟩
        have fin0 : ∀ k, (0, k) ∈ D → 1 ≤ k ∧ k < l.m := fun k hk => by
          obtain ⟨j, e1, e2⟩ := hDk _ hk
          injection e1 with _ e1
          exact e1 ▸ e2
        refine ⟨fun σ Hi => ∃ (pd : Addr) (D S : List KX.Ft) (t C' : Nat) (x11 x12 x13 x14 : Option V), σ = [some (.ref a.b), some (.ref a.na), some (.ref a.la), some (.int many), some (.int most), some (.bl isq), some (.ref pd), some (.ref a.ps), some (.ref a.pq), some (.ref a.pb), some (.ref a.ph), x11, x12, x13, x14, none] ∧
            LInv a l H Hi most C pd D S t C', ?_, ?_⟩
        · refine ⟨_, rfl, _, _, rfl, rfl, 1, _, rfl, ⟨by omega, by omega, by omega, by omega⟩, ?_⟩
          rw [b0]
          refine for_it walk_range (fun i σ H3 => (∃ x11 : Option V, σ = [some (.ref a.b), some (.ref a.na), some (.ref a.la), some (.int many), some (.int most), some (.bl isq), some (.ref pd), some (.ref a.ps), some (.ref a.pq), some (.ref a.pb), some (.ref a.ph), x11, none, none, none, none]) ∧ But (fun x => x = a.ps) H2 H3 ∧
              ∃ xs, H3 a.ps = some (.lst xs) ∧ xs.length = i + 1 ∧ ∀ k x, xs[k]? = some x → StaS a.S H3 x (l.P0 D k))
            ⟨⟨_, rfl⟩, fun _ _ _ e => e, [.ref p0], k1, rfl, fun k x e => ?_⟩ (fun _ _ _ _ _ => True.intro) ?_ ?_
          · have hk : k = 0 := by have := (List.getElem?_eq_some_iff.mp e).1; simp at this; omega
            subst hk
            cases (Option.some.inj e)
            have e0 : l.P0 D 0 = .en 1 := if_neg fun hm => by have := (fin0 0 hm).1; omega
            rw [e0]
            exact ⟨⟨p0, rfl, k2⟩, fun p hp => by cases hp; exact k3⟩
          · rintro i x σ H3_ H3 hi ⟨⟨x11, rfl⟩, B3, xs, h3, hxl, hst⟩ ⟨rfl, ex⟩
            have ex2 : x = .int ((i + 1 : Nat) : Int) := ex.trans (congrArg V.int (show (1 : Int) + (i : Nat) = ((i + 1 : Nat) : Int) by omega))
            subst ex2
            have hSps : a.S a.ps := .inr (.inl rfl)
            have ntup : ∀ {x : Addr} {xs' : List V}, H2 x = some (.tup xs') → H3 x = some (.tup xs') := fun {x xs'} hx => B3 _ _ (fun z => by have z' : x = a.ps := z; rw [z', k1] at hx; cases hx) hx
            obtain ⟨ds, hd1, hd2⟩ := hD2
            have hd1' := B3 _ _ (fun z : pd = a.ps => nSpd (z ▸ hSps)) hd1
            have hd2' : Paired (FtAt H3) ds D := Paired.mapP hd2 fun _ _ ⟨p, e1, e2⟩ => ⟨p, e1, ntup e2⟩
            refine ⟨_, rfl, .inl ⟨rfl, _, .inl (.inl h3)⟩, _, rfl, by show 2 ≤ sizeLine; decide, fun t nt => ?_⟩
            have st : Same H3 (upd H3 t (.tup [.int 0, .int ((i + 1 : Nat) : Int)])) := sameN nt
            refine ⟨_, rfl, ftD (0, i + 1), D.map ftD, .tup (.inl (.inl upd_same)) (.cons (.int _) (.cons (.int _) .nil)), .lst (.inl (.inl (st _ _ hd1'))) (dp_fts (Paired.mapP hd2' fun _ _ ⟨p, e1, e2⟩ => ⟨p, e1, st _ _ e2⟩)), (gd_ft _).sh (by decide), (gd_fts D).sh (by decide), _, rfl, ?_⟩
            rw [any_ft]
            have hn3 := st _ _ (ntup hna2)
            have h4 := st _ _ h3
            generalize upd H3 t (.tup [.int 0, .int ((i + 1 : Nat) : Int)]) = H4 at st hn3 h4
            have fin : ∀ (p : Addr) (o : HO) (st' : KX.LS), H4 p = none → l.P0 D (i + 1) = st' → StaAt (upd (upd H4 p o) a.ps (.lst (xs ++ [.ref p]))) (.ref p) st' →
                (∃ x11 : Option V, [some (V.ref a.b), some (.ref a.na), some (.ref a.la), some (.int many), some (.int most), some (.bl isq), some (.ref pd), some (.ref a.ps), some (.ref a.pq), some (.ref a.pb), some (.ref a.ph), some (.int ((i + 1 : Nat) : Int)), none, none, none, none] = [some (.ref a.b), some (.ref a.na), some (.ref a.la), some (.int many), some (.int most), some (.bl isq), some (.ref pd), some (.ref a.ps), some (.ref a.pq), some (.ref a.pb), some (.ref a.ph), x11, none, none, none, none]) ∧
                But (fun x => x = a.ps) H2 (upd (upd H4 p o) a.ps (.lst (xs ++ [.ref p]))) ∧ ∃ xs', (upd (upd H4 p o) a.ps (.lst (xs ++ [.ref p]))) a.ps = some (.lst xs') ∧ xs'.length = i + 1 + 1 ∧ ∀ k x, xs'[k]? = some x → StaS a.S (upd (upd H4 p o) a.ps (.lst (xs ++ [.ref p]))) x (l.P0 D k) := by
              intro p o st' np e1 e2
              have B4 : But a.S H3 (upd (upd H4 p o) a.ps (.lst (xs ++ [.ref p]))) := (bs (st.trans (sameN np))).trans (But.at hSps)
              refine ⟨⟨_, rfl⟩, (B3.trans (bs (st.trans (sameN np)))).trans (But.at rfl), _, upd_same, by rw [List.length_append, hxl]; rfl, fun k x e => ?_⟩
              by_cases hk : k < xs.length
              · rw [List.getElem?_append_left hk] at e
                exact (hst k x e).but B4
              · have hk2 : k = xs.length := by
                  have := (List.getElem?_eq_some_iff.mp e).1
                  rw [List.length_append] at this
                  simp at this
                  omega
                subst hk2
                have hxp : x = .ref p := by simpa using e.symm
                subst hxp
                rw [hxl, e1]
                refine ⟨e2, fun p' hp' hs => ?_⟩
                cases hp'
                have s23 : H2 p = none ∨ p = a.ps := by
                  by_cases hpp : p = a.ps
                  · exact .inr hpp
                  · refine .inl ?_
                    cases e5 : H2 p with
                    | none => rfl
                    | some o2 =>
                      have := st _ _ (B3 _ _ hpp e5)
                      rw [np] at this
                      cases this
                rcases s23 with h | h
                · have hold : ∀ y, a.S y → ∃ v, H2 y = some v := fun y hy => by
                    rcases hy with rfl | rfl | rfl | rfl | hy
                    · obtain ⟨d, s, c, h1, _⟩ := bag2; exact ⟨_, h1⟩
                    · exact ⟨_, k1⟩
                    · exact ⟨_, k4⟩
                    · exact ⟨_, k5⟩
                    · exact ⟨_, k9 y hy⟩
                  obtain ⟨v, hv⟩ := hold p hs
                  rw [h] at hv
                  cases hv
                · rw [h, h4] at np; cases np
            by_cases hm : ((0 : Nat), i + 1) ∈ D
            · refine onT (decide_eq_true hm) ⟨_, rfl, a.na, _, _, _, rfl, rfl, .inl (.inl hn3), atI_nat (j := 1) rfl, by show 3 ≤ sizeLine; decide, fun p np => ?_⟩
              refine ⟨a.ps, xs, _, rfl, rfl, (upd_ne (ne_of_none h4 np)).trans h4, small_len (n := 100) (by rw [hxl]; omega), ?_⟩
              exact fin p _ (.fl l.flag KX.lostS) np (if_pos hm) ⟨p, rfl, by rw [upd_ne (ne_of_none h4 np).symm]; exact upd_same⟩
            · refine onF (decide_eq_false hm) ⟨by show 3 ≤ sizeLine; decide, fun p np => ?_⟩
              refine ⟨a.ps, xs, _, rfl, rfl, (upd_ne (ne_of_none h4 np)).trans h4, small_len (n := 100) (by rw [hxl]; omega), ?_⟩
              exact fin p _ (.en 1) np (if_neg hm) ⟨p, rfl, by rw [upd_ne (ne_of_none h4 np).symm]; exact upd_same⟩
          · rintro σ H3 ⟨⟨x11, rfl⟩, B3, xs, h3, hxl, hst⟩
            have hSps : a.S a.ps := .inr (.inl rfl)
            have ntup : ∀ {x : Addr} {xs' : List V}, H2 x = some (.tup xs') → H3 x = some (.tup xs') := fun {x xs'} hx => B3 _ _ (fun z => by have z' : x = a.ps := z; rw [z', k1] at hx; cases hx) hx
            obtain ⟨ds, hd1, hd2⟩ := hD2
            have hmu0 : l.mu (most - D.length) (l.P0 D) ≤ 1808 := KX.mu_le hO (fun k _ => KX.P0_ok hO fin0 k) (by omega)
            refine ⟨pd, D, [], 0, C + many, _, _, _, _, rfl, ⟨⟨?_, ntup hna2, ntup hla2, ⟨xs, h3, by omega, hst⟩, ⟨[], ?_, .nil⟩, ⟨ds, B3 _ _ (fun z : pd = a.ps => nSpd (z ▸ hSps)) hd1, Paired.mapP hd2 fun _ _ ⟨p, e1, e2⟩ => ⟨p, e1, ntup e2⟩⟩, nSpd, ?_, ?_, k7, k8, fun k y e => ?_⟩, ⟨hDn, List.nodup_nil, fin0, fun b k hm => ?_, fun k hm => absurd hm List.not_mem_nil, fun b k hm => absurd hm List.not_mem_nil, fun s hs => by omega⟩, ?_, hDl, Nat.zero_le _, ?_, ?_⟩⟩
            · obtain ⟨d, s, c, h1, h2⟩ := bag2
              exact ⟨d, s, c, B3 _ _ hds.h1 h1, h2⟩
            · exact B3 _ _ hds.h5.symm k4
            · exact B3 _ _ hds.h6.symm k5
            · exact B3 _ _ (fun z : a.ph = a.ps => k7 (z ▸ hSps)) k6
            · have hm := List.mem_of_getElem? e
              exact B3 _ _ (fun z : y = a.ps => hds.h7 (z ▸ hm)) (k9 y hm)
            · obtain ⟨j, e1, _⟩ := hDk _ hm
              injection e1 with e1 _
              cases e1
            · intro x o hx he
              have hx' : x ≠ a.ps := fun z => by
                rcases hSH a.ps hSps with h | h
                · exact hds.h1 h.symm
                · rw [z, h] at he; cases he
              exact B3 _ _ hx' (B2 _ _ hx he)
            · show C + many + 10 * l.mu (most - D.length) (l.P0 D) ≤ C + 18100
              omega
            · show 0 + l.mu (most - D.length) (l.P0 D) ≤ 1808
              omega
        · clear k1 k2 k3 k4 k5 k6 k7 k8 k9 s2 B2 bag2 hD2 hna2 hla2 fin0 hD npd hDl hDn hDk nSpd B1 bag1 hbv1
          rintro σ' H3 hHead
          refine ⟨fun σ Hi => ∃ (pd : Addr) (D S : List KX.Ft) (t C' : Nat) (x11 x12 x13 x14 : Option V), σ = [some (.ref a.b), some (.ref a.na), some (.ref a.la), some (.int many), some (.int most), some (.bl isq), some (.ref pd), some (.ref a.ps), some (.ref a.pq), some (.ref a.pb), some (.ref a.ph), x11, x12, x13, x14, none] ∧
            LInv a l H Hi most C pd D S t C' ∧ KX.anyL l.sys l.m (KX.runR l.sys l.m D S (l.P0 D) t).P = false, while_by (fun σ Hi => ∃ (pd : Addr) (D S : List KX.Ft) (t C' : Nat) (x11 x12 x13 x14 : Option V), σ = [some (.ref a.b), some (.ref a.na), some (.ref a.la), some (.int many), some (.int most), some (.bl isq), some (.ref pd), some (.ref a.ps), some (.ref a.pq), some (.ref a.pb), some (.ref a.ph), x11, x12, x13, x14, none] ∧
            LInv a l H Hi most C pd D S t C') (fun _ Hi => 1809 - lenAt Hi a.pb) hHead ?_ ?_, ?_⟩
          · clear hHead
            rintro σ Hi ⟨pd, D, S, t, C', x11, x12, x13, x14, rfl, hI⟩
            have hpart := hI.part
            have hok : ∀ k, l.okS k ((KX.runR l.sys l.m D S (l.P0 D) t).P k) := KX.run_ok hO (fun k => KX.P0_ok hO hpart.d0 k) t
            have hbl : (KX.runR l.sys l.m D S (l.P0 D) t).bits.length = t := KX.runR_len D S (l.P0 D) t
            have hpbl : lenAt Hi a.pb = t := by
              unfold lenAt
              rw [hI.snt.b]
              show (List.map bV _).length = t
              rw [List.length_map, hbl]
            have htmu := hI.tmu
            have hfuel := hI.fuel
            generalize hr0 : KX.runR l.sys l.m D S (l.P0 D) t = r at *
            obtain ⟨xs0, hx1, hx2, hx3⟩ := hI.snt.s
            rw [hr0] at hx3
            refine ⟨_, rfl, a.ps, rfl, ⟨_, .inl (.inl hx1)⟩, fun D9 nD9 => ?_⟩
            refine lc_it walk_list (fun i H4 => Same Hi H4 ∧ ∃ acc, H4 D9 = some (.lst acc) ∧ Paired (StaAt Hi) acc ((((List.range l.m).take i).filter fun k => (r.P k).live).map r.P)) ⟨sameN nD9, [], upd_same, .nil⟩ (fun i H4 _ p => .inl (.inl (p.1 _ _ hx1))) ?_ ?_
            · rintro i x H4_ H4 hi ⟨s4, acc, h4, hp4⟩ ⟨rfl, ex⟩
              have hi' : i < l.m := by rw [← hx2]; exact hi
              obtain ⟨T, ty, kt⟩ := sta_isi (K := K) ((hx3 i x ex).1.same s4)
              refine ⟨rfl, _, rfl, _, _, _, _, _, rfl, .ty _, ty, kt, _, rfl, ?_⟩
              have etk : (List.range l.m).take (i + 1) = (List.range l.m).take i ++ [i] := by rw [List.take_add_one, List.getElem?_range hi']; rfl
              by_cases hl : (r.P i).live = true
              · refine onT hl ⟨_, rfl, acc, h4, ?_, sameU s4 nD9, _, upd_same, ?_⟩
                · refine small_len (n := 10) ?_
                  rw [paired_len hp4, List.length_map]
                  refine Nat.le_trans (List.length_filter_le _ _) ?_
                  rw [List.length_take, List.length_range]
                  omega
                · rw [etk, List.filter_append, List.filter_cons_of_pos (p := fun k => (r.P k).live) (a := i) hl, List.filter_nil, List.map_append]
                  exact paired_snoc hp4 (hx3 i x ex).1
              · refine onF (by simpa using hl) ⟨s4, acc, h4, ?_⟩
                rw [etk, List.filter_append, List.filter_cons_of_neg (p := fun k => (r.P k).live) (a := i) hl, List.filter_nil, List.append_nil]
                exact hp4
            · rintro H4 ⟨s4, acc, h4, hp4⟩
              have htk : (List.range l.m).take xs0.length = List.range l.m := take_all (by rw [List.length_range]; exact hx2)
              rw [htk] at hp4
              refine ⟨by show 0 ≤ sizeLine; decide, fun p5 np5 => ?_⟩
              have s5 : Same H4 (upd H4 p5 (.lst [])) := sameN np5
              have s45 := s4.trans s5
              have dpl : ∀ {xs : List V} {sts : List KX.LS}, Paired (StaAt (upd H4 p5 (.lst []))) xs sts → DpAll K (upd H4 p5 (.lst [])) xs (sts.map stD) := fun {xs sts} h => by
                induction h with
                | nil => exact .nil
                | cons r _ ih => exact .cons (dp_sta r) ih
              refine ⟨.list ((((List.range l.m).filter fun k => (r.P k).live).map r.P).map stD), .list [], .lst (.inl (.inl (s5 _ _ h4))) (dpl (Paired.mapP hp4 fun _ _ z => z.same s45)), .lst (.inl (.inl upd_same)) .nil, (Gd.lst fun d hd => ?_ : Gd _ 2).sh (by decide), gd_nil.sh (by decide), _, rfl, ?_⟩
              · obtain ⟨st, hst, rfl⟩ := List.mem_map.mp hd
                obtain ⟨k, _, rfl⟩ := List.mem_map.mp hst
                exact gd_sta hO (hok k)
              rw [eqv_nil]
              have hI5 : Snt a l (upd H4 p5 (.lst [])) pd C' r D S := hr0 ▸ hI.snt.same s45
              have B5 := hI.but.trans (bs s45)
              generalize upd H4 p5 (.lst []) = H5 at hI5 B5
              have hlen : (((List.range l.m).filter fun k => (r.P k).live).map r.P).length = 0 ↔ KX.anyL l.sys l.m r.P = false := by
                rw [List.length_map, List.length_eq_zero_iff, List.filter_eq_nil_iff]
                constructor
                · intro h
                  cases e : KX.anyL l.sys l.m r.P with
                  | false => rfl
                  | true =>
                    obtain ⟨k, hk, hl⟩ := KX.anyL_iff.mp e
                    exact absurd hl (h k (List.mem_range.mpr hk))
                · intro h k hk hl
                  have : KX.anyL l.sys l.m r.P = true := KX.anyL_iff.mpr ⟨k, List.mem_range.mp hk, hl⟩
                  rw [h] at this
                  cases this
              cases hany : KX.anyL l.sys l.m r.P with
              | false =>
                refine onF (by rw [decide_eq_true (hlen.mpr hany)]; rfl) ?_
                exact ⟨pd, D, S, t, C', _, _, _, _, rfl, ⟨hr0 ▸ hI5, hpart, B5, hI.ml, hI.ql, hI.fuel, hI.tmu⟩, by rw [hr0]; exact hany⟩
              | true =>
                refine onT (by rw [decide_eq_false (fun z => by rw [hlen.mp z] at hany; cases hany)]; rfl) ?_
                have hql := hI.ql
                have hml := hI.ml
                have hC'b : C' ≤ 520000 := by omega
                clear hlen dpl hp4 h4 s5 np5 s45 nD9 htk hx1 hx2 hx3 s4 acc
                refine ⟨fun σ Hm => ∃ (qn : List Nat) (C1 : Nat) (x11 : Option V), σ = [some (.ref a.b), some (.ref a.na), some (.ref a.la), some (.int many), some (.int most), some (.bl isq), some (.ref pd), some (.ref a.ps), some (.ref a.pq), some (.ref a.pb), some (.ref a.ph), x11, x12, x13, x14, none] ∧
                    Snt a l Hm pd C1 { r with P := KX.hush l.sys (fun k => decide (k ∈ qn)) r.P } D (S ++ qn.map fun k => (t + 1, k)) ∧ But (fun x => x = a.b) H Hm ∧ C1 ≤ C' + l.m ∧ qn.Nodup ∧ ∀ k ∈ qn, k < l.m ∧ (r.P k).live = true, ?_, ?_⟩
                · refine ⟨_, rfl, _, _, rfl, rfl, _, rfl, by omega, by omega, ?_⟩
                  have b1 : (((many : Int) + 1)).toNat = l.m := by omega
                  rw [b1]
                  refine for_it walk_range (fun i σ Hm => ∃ (qn : List Nat) (C1 : Nat) (x11 : Option V), σ = [some (.ref a.b), some (.ref a.na), some (.ref a.la), some (.int many), some (.int most), some (.bl isq), some (.ref pd), some (.ref a.ps), some (.ref a.pq), some (.ref a.pb), some (.ref a.ph), x11, x12, x13, x14, none] ∧
                    Snt a l Hm pd C1 { r with P := KX.hush l.sys (fun k => decide (k ∈ qn)) r.P } D (S ++ qn.map fun k => (t + 1, k)) ∧ But (fun x => x = a.b) H Hm ∧ C1 ≤ C' + i ∧ qn.Nodup ∧ ∀ k ∈ qn, k < i ∧ (r.P k).live = true)
                    ⟨[], C', _, rfl, ?_, B5, Nat.le_refl _, List.nodup_nil, fun k hk => absurd hk List.not_mem_nil⟩ (fun _ _ _ _ _ => True.intro) ?_ ?_
                  · rw [List.map_nil, List.append_nil]
                    exact hI5.congr (fun k _ => (if_neg (t := KX.LS.sil) (show ¬ decide (k ∈ ([] : List Nat)) = true by simp)).symm) rfl fun _ _ => rfl
                  · rintro i x σ Hm_ Hm hi ⟨qn, C1, y11, rfl, hs, Bm, hc1, hqn, hqk⟩ ⟨rfl, ex⟩
                    have hi' : i < l.m := hi
                    have ex2 : x = .int (i : Int) := ex.trans (congrArg V.int (show (0 : Int) + (i : Nat) = (i : Int) by omega))
                    subst ex2
                    obtain ⟨xs, h1, h2, h3⟩ := hs.s
                    obtain ⟨x, hx⟩ : ∃ x, xs[i]? = some x := ⟨_, List.getElem?_eq_getElem (by omega)⟩
                    obtain ⟨T, ty, kt⟩ := sta_isi (K := K) (h3 i x hx).1
                    have hiq : i ∉ qn := fun h => by have := (hqk i h).1; omega
                    have hPi : (KX.hush l.sys (fun k => decide (k ∈ qn)) r.P) i = r.P i := if_neg (show ¬ decide (i ∈ qn) = true by rw [decide_eq_false hiq]; decide)
                    have keep : ∀ {Hz : Hp} {C2 : Nat}, Snt a l Hz pd C2 { r with P := KX.hush l.sys (fun k => decide (k ∈ qn)) r.P } D (S ++ qn.map fun k => (t + 1, k)) → But (fun x => x = a.b) H Hz → C2 ≤ C' + (i + 1) →
                        ∃ (qn : List Nat) (C1 : Nat) (x11 : Option V), [some (V.ref a.b), some (.ref a.na), some (.ref a.la), some (.int many), some (.int most), some (.bl isq), some (.ref pd), some (.ref a.ps), some (.ref a.pq), some (.ref a.pb), some (.ref a.ph), some (.int (i : Int)), x12, x13, x14, none] = [some (.ref a.b), some (.ref a.na), some (.ref a.la), some (.int many), some (.int most), some (.bl isq), some (.ref pd), some (.ref a.ps), some (.ref a.pq), some (.ref a.pb), some (.ref a.ph), x11, x12, x13, x14, none] ∧
                          Snt a l Hz pd C1 { r with P := KX.hush l.sys (fun k => decide (k ∈ qn)) r.P } D (S ++ qn.map fun k => (t + 1, k)) ∧ But (fun x => x = a.b) H Hz ∧ C1 ≤ C' + (i + 1) ∧ qn.Nodup ∧ ∀ k ∈ qn, k < i + 1 ∧ (r.P k).live = true :=
                      fun g1 g2 g3 => ⟨qn, _, _, rfl, g1, g2, g3, hqn, fun k hk => ⟨Nat.lt_succ_of_lt (hqk k hk).1, (hqk k hk).2⟩⟩
                    refine ⟨_, rfl, _, rfl, a.ps, xs, _, x, rfl, rfl, .inl (.inl h1), atI_nat hx, _, _, _, _, _, rfl, .ty _, ty, kt, _, rfl, ?_⟩
                    by_cases hl : ((KX.hush l.sys (fun k => decide (k ∈ qn)) r.P) i).live = true
                    · refine onT hl ⟨_, rfl, _, rfl, ?_⟩
                      cases isq with
                      | false => exact iteF (iteF (keep hs Bm (by omega)))
                      | true =>
                        refine iteT ⟨_, rfl, a.b, 40, C1, rfl, hs.bag, by decide, by decide, by omega, fun H6 v B6 bag6 hv => ⟨rfl, _, rfl, ?_⟩⟩
                        have hs6 := hs.drawn hds B6 bag6
                        have Bm6 := Bm.trans B6
                        by_cases hv0 : v = 0
                        · refine onT (decide_eq_true (by rw [hv0]; rfl)) ?_
                          obtain ⟨ys, q1, q2⟩ := hs6.q
                          refine ⟨_, rfl, .inl ⟨rfl, _, .inl (.inl q1)⟩, _, rfl, a.pb, _, rfl, .inl (.inl (.inl hs6.b)), _, _, rfl, rfl, _, rfl, by show 2 ≤ sizeLine; decide, fun tt ntt => ?_⟩
                          have s7 : Same H6 (upd H6 tt (.tup [.int (((r.bits.map bV).length : Nat) + 1 : Int), .int (i : Int)])) := sameN ntt
                          have hs7 := hs6.same s7
                          have q17 := s7 _ _ q1
                          have q27 : Paired (FtAt (upd H6 tt (.tup [.int (((r.bits.map bV).length : Nat) + 1 : Int), .int (i : Int)]))) ys (S ++ qn.map fun k => (t + 1, k)) := Paired.mapP q2 fun _ _ ⟨p, e1, e2⟩ => ⟨p, e1, s7 _ _ e2⟩
                          have hft : FtAt (upd H6 tt (.tup [.int (((r.bits.map bV).length : Nat) + 1 : Int), .int (i : Int)])) (.ref tt) (t + 1, i) := ⟨tt, rfl, by rw [upd_same, List.length_map, hbl]; rfl⟩
                          refine ⟨a.pq, ys, _, rfl, rfl, q17, small_len (n := 20000) ?_, ?_⟩
                          · rw [paired_len q2, List.length_append, List.length_map]
                            have hq5 : qn.length ≤ 5 := by
                              have := KX.sub_of_len (xs := qn) (ys := List.range l.m) hqn fun k hk => List.mem_range.mpr (by have := (hqk k hk).1; omega)
                              rw [List.length_range] at this
                              omega
                            have : t * l.m ≤ 1808 * 5 := Nat.mul_le_mul (by omega) hm5
                            omega
                          have hs8 := hs7.addQ hds q17 hft q27
                          obtain ⟨xs8, e1, e2, e3⟩ := hs8.s
                          refine ⟨_, rfl, _, rfl, a.ps, xs8, _, i, rfl, rfl, e1, ixN_nat (by omega), ?_⟩
                          have hs9 := hs8.setS hds e1 (k := i) (v := .non) (st := .sil) ⟨rfl, fun p hp => by cases hp⟩
                          have B9 : But (fun x => x = a.b) H (upd (upd (upd H6 tt (.tup [.int (((r.bits.map bV).length : Nat) + 1 : Int), .int (i : Int)])) a.pq (.lst (ys ++ [.ref tt]))) a.ps (.lst (xs8.set i .non))) := by
                            have hSn : ∀ x, a.S x → x ≠ a.b → H x = none := fun x hx hn => (hSH x hx).elim (fun z => absurd z hn) id
                            exact ((Bm6.trans (bs s7)).new (hSn _ (.inr (.inr (.inl rfl))) hds.h2.symm)).new (hSn _ (.inr (.inl rfl)) hds.h1.symm)
                          refine ⟨qn ++ [i], C1 + 1, _, rfl, ?_, B9, by omega, KX.nodup_snoc hqn hiq, fun k hk => ?_⟩
                          · rw [List.map_append, ← List.append_assoc]
                            refine hs9.congr (fun k _ => ?_) rfl fun _ _ => rfl
                            show (if k = i then KX.LS.sil else if decide (k ∈ qn) = true then .sil else r.P k) = if decide (k ∈ qn ++ [i]) = true then .sil else r.P k
                            by_cases e4 : k = i
                            · rw [if_pos e4, if_pos (by rw [e4]; exact decide_eq_true (List.mem_append_right _ (by simp)))]
                            · rw [if_neg e4]
                              by_cases e5 : k ∈ qn
                              · rw [if_pos (decide_eq_true e5), if_pos (decide_eq_true (List.mem_append_left _ e5))]
                              · rw [if_neg (by rw [decide_eq_false e5]; decide), if_neg (by rw [decide_eq_false (by intro z; rcases List.mem_append.mp z with z | z; exact e5 z; exact e4 (by simpa using z))]; decide)]
                          · rcases List.mem_append.mp hk with hk | hk
                            · exact ⟨Nat.lt_succ_of_lt (hqk k hk).1, (hqk k hk).2⟩
                            · cases List.mem_singleton.mp hk
                              rw [hPi] at hl
                              exact ⟨Nat.lt_succ_self _, hl⟩
                        · exact onF (decide_eq_false (by intro z; injection z with z; omega)) (keep hs6 Bm6 (by omega))
                    · exact onF (by simpa using hl) (iteF (keep hs Bm (by omega)))
                  · rintro σ Hm ⟨qn, C1, y11, rfl, hs, Bm, hc1, hqn, hqk⟩
                    exact ⟨qn, C1, _, rfl, hs, Bm, hc1, hqn, hqk⟩
                · clear hI5 B5 H5
                  rintro σ' Hm ⟨qn, C1, y11, rfl, hs, Bm, hc1, hqn, hqk⟩
                  have hC1b : C1 ≤ 520005 := by omega
                  generalize hP1 : KX.hush l.sys (fun k => decide (k ∈ qn)) r.P = P1 at hs
                  refine ⟨fun σ Hz => ∃ (pg : Addr) (x11 : Option V), σ = [some (.ref a.b), some (.ref a.na), some (.ref a.la), some (.int many), some (.int most), some (.bl isq), some (.ref pd), some (.ref a.ps), some (.ref a.pq), some (.ref a.pb), some (.ref a.ph), x11, some (.ref pg), x13, x14, none] ∧
                      Snt a l Hz pd C1 { r with P := P1 } D (S ++ qn.map fun k => (t + 1, k)) ∧ But (fun x => x = a.b) H Hz ∧ Hz pg = some (.lst (((List.range l.m).filter fun k => (P1 k).live).map iv)) ∧ ¬ a.S pg, ?_, ?_⟩
                  · refine ⟨_, rfl, _, _, rfl, rfl, _, rfl, by omega, by omega, fun pg npg => ?_⟩
                    have b1 : (((many : Int) + 1)).toNat = l.m := by omega
                    rw [b1]
                    refine lc_it walk_range (fun i H4 => Same Hm H4 ∧ H4 pg = some (.lst ((((List.range l.m).take i).filter fun k => (P1 k).live).map iv))) ⟨sameN npg, upd_same⟩ (fun _ _ _ _ => True.intro) ?_ ?_
                    · rintro i x H4_ H4 hi ⟨s4, h4⟩ ⟨rfl, ex⟩
                      have hi' : i < l.m := hi
                      have ex2 : x = .int (i : Int) := ex.trans (congrArg V.int (show (0 : Int) + (i : Nat) = (i : Int) by omega))
                      subst ex2
                      have hs4 := hs.same s4
                      obtain ⟨xs, h1, h2, h3⟩ := hs4.s
                      obtain ⟨x, hx⟩ : ∃ x, xs[i]? = some x := ⟨_, List.getElem?_eq_getElem (by omega)⟩
                      obtain ⟨T, ty, kt⟩ := sta_isi (K := K) (h3 i x hx).1
                      have etk : (List.range l.m).take (i + 1) = (List.range l.m).take i ++ [i] := by rw [List.take_add_one, List.getElem?_range hi']; rfl
                      refine ⟨rfl, _, rfl, _, rfl, a.ps, xs, _, x, rfl, rfl, .inl (.inl h1), atI_nat hx, _, _, _, _, _, rfl, .ty _, ty, kt, _, rfl, ?_⟩
                      by_cases hl : (P1 i).live = true
                      · refine onT hl ⟨_, rfl, _, h4, ?_, sameU s4 npg, ?_⟩
                        · refine small_len (n := 10) ?_
                          rw [List.length_map]
                          refine Nat.le_trans (List.length_filter_le _ _) ?_
                          rw [List.length_take, List.length_range]
                          omega
                        · rw [upd_same, etk, List.filter_append, List.filter_cons_of_pos (p := fun k => (P1 k).live) (a := i) hl, List.filter_nil, List.map_append]
                          rfl
                      · refine onF (by simpa using hl) ⟨s4, ?_⟩
                        rw [etk, List.filter_append, List.filter_cons_of_neg (p := fun k => (P1 k).live) (a := i) hl, List.filter_nil, List.append_nil]
                        exact h4
                    · rintro H4 ⟨s4, h4⟩
                      rw [take_all (by rw [List.length_range])] at h4
                      exact ⟨pg, _, rfl, hs.same s4, Bm.trans (bs s4), h4, hs.noN npg⟩
                  · clear hs Bm Hm
                    rintro σ' Hm ⟨pg, z11, rfl, hs, Bm, hpg, nSpg⟩
                    generalize hL : ((List.range l.m).filter fun k => (P1 k).live) = L at hpg
                    have hLm : ∀ k ∈ L, k < l.m ∧ (P1 k).live = true := fun k hk => by
                      rw [← hL] at hk
                      obtain ⟨h1, h2⟩ := List.mem_filter.mp hk
                      exact ⟨List.mem_range.mp h1, h2⟩
                    have hLn : L.Nodup := by rw [← hL]; exact List.Pairwise.filter _ List.nodup_range
                    have hLl : L.length ≤ 5 := by
                      have := KX.sub_of_len (xs := L) (ys := List.range l.m) hLn fun k hk => List.mem_range.mpr (hLm k hk).1
                      rw [List.length_range] at this
                      omega
                    generalize hbb : KX.lineB l.sys l.m P1 = bb
                    refine ⟨fun σ Hz => ∃ (x11 : Option V), σ = [some (.ref a.b), some (.ref a.na), some (.ref a.la), some (.int many), some (.int most), some (.bl isq), some (.ref pd), some (.ref a.ps), some (.ref a.pq), some (.ref a.pb), some (.ref a.ph), x11, some (.ref pg), x13, x14, none] ∧
                        Snt a l Hz pd C1 { r with P := P1, bits := r.bits ++ [bb] } D (S ++ qn.map fun k => (t + 1, k)) ∧ But (fun x => x = a.b) H Hz ∧ Hz pg = some (.lst (L.map iv)), ?_, ?_⟩
                    · refine ⟨_, rfl, .inl ⟨rfl, _, .inl (.inl hs.b)⟩, _, rfl, pg, rfl, ⟨_, .inl (.inl hpg)⟩, fun D9 nD9 => ?_⟩
                      refine lc_it walk_list (fun i H4 => Same Hm H4 ∧ H4 D9 = some (.lst (((L.map fun k => modeN (P1 k)).take i).map iv))) ⟨sameN nD9, upd_same⟩ (fun i H4 _ p => .inl (.inl (p.1 _ _ hpg))) ?_ ?_
                      · rintro i x H4_ H4 hi ⟨s4, h4⟩ ⟨rfl, ex⟩
                        have hi' : i < L.length := by simpa using hi
                        have hg : L[i]? = some L[i] := List.getElem?_eq_getElem hi'
                        have ex2 : x = .int ((L[i] : Nat) : Int) := by
                          rw [List.getElem?_map, hg] at ex
                          exact (Option.some.inj ex).symm
                        subst ex2
                        obtain ⟨hk1, hk2⟩ := hLm _ (List.getElem_mem hi')
                        have hs4 := hs.same s4
                        obtain ⟨xs, h1, h2, h3⟩ := hs4.s
                        obtain ⟨x, hx⟩ : ∃ x, xs[L[i]]? = some x := ⟨_, List.getElem?_eq_getElem (show L[i] < xs.length by omega)⟩
                        obtain ⟨p, b', c', rfl, _, hp⟩ := sta_live (h3 _ x hx) hk2
                        refine ⟨rfl, tyes ⟨_, rfl, _, rfl, a.ps, xs, _, _, rfl, rfl, .inl (.inl h1), atI_nat hx, p, _, _, _, rfl, rfl, .inl (.inl hp), atI_nat (j := 0) rfl, _, h4, ?_, sameU s4 nD9, ?_⟩⟩
                        · exact small_len (n := 10) (by rw [List.length_map, List.length_take, List.length_map]; omega)
                        · rw [upd_same, take_step iv (show (L.map fun k => modeN (P1 k))[i]? = some (modeN (P1 L[i])) by rw [List.getElem?_map, hg]; rfl)]
                      · rintro H4 ⟨s4, h4⟩
                        rw [take_all (by rw [List.length_map, List.length_map])] at h4
                        refine ⟨D9, _, rfl, .inl (.inl (.inl h4)), rfl, flat_int, _, rfl, ?_⟩
                        show if inV (.int ((1 : Nat) : Int)) ((L.map fun k => modeN (P1 k)).map iv) = true then _ else _
                        rw [inv_int]
                        have hs4 := hs.same s4
                        have hpg4 := s4 _ _ hpg
                        have fin : ∀ v, v = bV bb → ∃ (l_1 : Addr) (xs : List V) (y : V), V.ref a.pb = .ref l_1 ∧ [v] = [y] ∧ H4 l_1 = some (.lst xs) ∧ xs.length < sizeLine ∧ ∃ (x11 : Option V), [some (V.ref a.b), some (.ref a.na), some (.ref a.la), some (.int many), some (.int most), some (.bl isq), some (.ref pd), some (.ref a.ps), some (.ref a.pq), some (.ref a.pb), some (.ref a.ph), z11, some (.ref pg), x13, x14, none] = [some (.ref a.b), some (.ref a.na), some (.ref a.la), some (.int many), some (.int most), some (.bl isq), some (.ref pd), some (.ref a.ps), some (.ref a.pq), some (.ref a.pb), some (.ref a.ph), x11, some (.ref pg), x13, x14, none] ∧
                            Snt a l (upd H4 l_1 (.lst (xs ++ [y]))) pd C1 { r with P := P1, bits := r.bits ++ [bb] } D (S ++ qn.map fun k => (t + 1, k)) ∧ But (fun x => x = a.b) H (upd H4 l_1 (.lst (xs ++ [y]))) ∧ (upd H4 l_1 (.lst (xs ++ [y]))) pg = some (.lst (L.map iv)) := by
                          rintro v rfl
                          refine ⟨a.pb, _, _, rfl, rfl, hs4.b, small_len (n := 20000) ?_, _, rfl, ?_⟩
                          · rw [List.length_map]
                            show r.bits.length ≤ 20000
                            omega
                          · have e1 : (({ r with P := P1 } : KX.Run KX.LS).bits.map bV ++ [bV bb]) = (r.bits ++ [bb]).map bV := by rw [List.map_append]; rfl
                            rw [e1]
                            have hne : pg ≠ a.pb := fun z => nSpg (z ▸ .inr (.inr (.inr (.inl rfl))))
                            exact ⟨hs4.addB hds bb, (Bm.trans (bs s4)).new ((hSH a.pb (.inr (.inr (.inr (.inl rfl))))).elim (fun z => absurd z hds.h3.symm) id), by rw [upd_ne hne]; exact hpg4⟩
                        by_cases hin : 1 ∈ L.map fun k => modeN (P1 k)
                        · have : bb = false := by rw [← hbb]; rw [← hL] at hin; exact line_modes.mp hin
                          subst this
                          exact onT (decide_eq_true hin) (fin _ rfl)
                        · have : bb = true := by
                            cases hb2 : bb with
                            | true => rfl
                            | false =>
                              rw [hb2] at hbb
                              rw [← hL] at hin
                              exact absurd (line_modes.mpr hbb) hin
                          subst this
                          exact onF (decide_eq_false hin) (fin _ rfl)
                    · clear hs Bm hpg Hm
                      rintro σ' Hm ⟨y11, rfl, hs, Bm, hpg⟩
                      let eb : List Nat → Nat → Bool := fun dn k => KX.earB bb (fun j => decide (j ∈ dn)) k
                      let rI : List Nat → Nat → KX.Run KX.LS := fun dn i => ⟨fun k => if k ∈ L.take i then (l.c k).next (P1 k) (eb dn k) else P1 k, r.bits ++ [bb], fun k => if k ∈ L.take i then r.ears k ++ [eb dn k] else r.ears k⟩
                      refine ⟨_, rfl, pg, rfl, ⟨_, .inl (.inl hpg)⟩, ?_⟩
                      refine for_it walk_list (fun i σ Hz => ∃ (pd' : Addr) (dn : List Nat) (C2 : Nat) (x11 x13 x14 : Option V), σ = [some (.ref a.b), some (.ref a.na), some (.ref a.la), some (.int many), some (.int most), some (.bl isq), some (.ref pd'), some (.ref a.ps), some (.ref a.pq), some (.ref a.pb), some (.ref a.ph), x11, some (.ref pg), x13, x14, none] ∧ Snt a l Hz pd' C2 (rI dn i) (D ++ dn.map fun k => (t + 1, k)) (S ++ qn.map fun k => (t + 1, k)) ∧ But (fun x => x = a.b) H Hz ∧ Hz pg = some (.lst (L.map iv)) ∧
                          C2 ≤ C1 + i ∧ dn.Nodup ∧ (∀ k ∈ dn, k ∈ L.take i) ∧ D.length + dn.length ≤ most)
                        ⟨pd, [], C1, _, _, _, rfl, ?_, Bm, hpg, Nat.le_refl _, List.nodup_nil, fun k hk => absurd hk List.not_mem_nil, by simpa using hml⟩ (fun i σ Hz _ ⟨_, _, _, _, _, _, _, _, _, hp, _⟩ => .inl (.inl hp)) ?_ ?_
                      · rw [List.map_nil, List.append_nil]
                        exact hs.congr (fun k _ => (if_neg (t := (l.c k).next (P1 k) (eb [] k)) (show k ∉ L.take 0 by simp)).symm) rfl fun k _ => (if_neg (t := r.ears k ++ [eb [] k]) (show k ∉ L.take 0 by simp)).symm
                      · rintro i x σ Hz_ Hz hi ⟨pd', dn, C2, w11, w13, w14, rfl, hz, Bz, hpgz, hc2, hdn, hdk, hdl⟩ ⟨rfl, ex⟩
                        have hi' : i < L.length := by simpa using hi
                        have hg : L[i]? = some L[i] := List.getElem?_eq_getElem hi'
                        have ex2 : x = .int ((L[i] : Nat) : Int) := by
                          rw [List.getElem?_map, hg] at ex
                          exact (Option.some.inj ex).symm
                        subst ex2
                        obtain ⟨hk1, hk2⟩ := hLm _ (List.getElem_mem hi')
                        have hnk : L[i] ∉ L.take i := fun hm2 => by
                          obtain ⟨j, hj, e6⟩ := List.getElem_of_mem hm2
                          rw [List.length_take] at hj
                          rw [List.getElem_take] at e6
                          have := (List.getElem_inj hLn).mp e6
                          omega
                        have etk : L.take (i + 1) = L.take i ++ [L[i]] := by rw [List.take_add_one, hg]; rfl
                        generalize L[i] = k at hg hk1 hk2 hnk etk
                        have hkd : k ∉ dn := fun h => hnk (hdk k h)
                        have hdlen : (D ++ dn.map fun k => (t + 1, k)).length = D.length + dn.length := by rw [List.length_append, List.length_map]
                        have hkpg : a.S pg → False := nSpg
                        -- is it wrong?
                        refine ⟨fun σ Hy => ∃ (wr : Bool) (C3 : Nat), σ = [some (.ref a.b), some (.ref a.na), some (.ref a.la), some (.int many), some (.int most), some (.bl isq), some (.ref pd'), some (.ref a.ps), some (.ref a.pq), some (.ref a.pb), some (.ref a.ph), some (.int (k : Int)), some (.ref pg), some (.bl wr), w14, none] ∧ Snt a l Hy pd' C3 (rI dn i) (D ++ dn.map fun k => (t + 1, k)) (S ++ qn.map fun k => (t + 1, k)) ∧ But (fun x => x = a.b) H Hy ∧ Hy pg = some (.lst (L.map iv)) ∧ C3 ≤ C2 + 1 ∧ (wr = true → D.length + dn.length < most), ?_, ?_⟩
                        · obtain ⟨ds, d1, d2⟩ := hz.d
                          refine ⟨_, rfl, pd', ds, rfl, .inl (.inl (.inl d1)), _, rfl, _, _, rfl, rfl, _, rfl, ?_⟩
                          have hdsl : ds.length = D.length + dn.length := (paired_len d2).trans hdlen
                          by_cases hlt : D.length + dn.length < most
                          · refine onT (decide_eq_true (by omega)) ⟨_, rfl, a.b, 12, C2, rfl, hz.bag, by decide, by decide, by omega, fun H6 v B6 bag6 hv => ⟨rfl, ?_⟩⟩
                            have hpg6 : H6 pg = some (.lst (L.map iv)) := B6 _ _ (fun z : pg = a.b => nSpg (z ▸ .inl rfl)) hpgz
                            exact ⟨_, C2 + 1, rfl, hz.drawn hds B6 bag6, Bz.trans B6, hpg6, Nat.le_refl _, fun _ => hlt⟩
                          · exact onF (decide_eq_false (by omega)) ⟨false, C2, rfl, hz, Bz, hpgz, Nat.le_succ _, fun z => by cases z⟩
                        · clear hz Bz hpgz Hz
                          rintro σ' Hz ⟨wr, C3, rfl, hz, Bz, hpgz, hc3, hwr⟩
                          -- the list of wrong bits
                          obtain ⟨ds, d1, d2⟩ := hz.d
                          refine ⟨_, rfl, _, rfl, a.pb, _, rfl, .inl (.inl (.inl hz.b)), _, rfl, by show 2 ≤ sizeLine; decide, fun tt ntt => ⟨by show 1 ≤ sizeLine; decide, fun l1 nl1 => ?_⟩⟩
                          have s1 : Same Hz (upd Hz tt (.tup [.int (((rI dn i).bits.map bV).length : Nat), .int (k : Int)])) := sameN ntt
                          have g1 : (upd Hz tt (.tup [.int (((rI dn i).bits.map bV).length : Nat), .int (k : Int)])) tt = some (.tup [.int ((t + 1 : Nat) : Int), .int (k : Int)]) := by
                            rw [upd_same, List.length_map]
                            show some (HO.tup [V.int (((r.bits ++ [bb]).length : Nat) : Int), V.int (k : Int)]) = _
                            rw [List.length_append, hbl]
                            rfl
                          have nl1' : (upd Hz tt (.tup [.int (((rI dn i).bits.map bV).length : Nat), .int (k : Int)])) l1 = none := nl1
                          generalize upd Hz tt (.tup [.int (((rI dn i).bits.map bV).length : Nat), .int (k : Int)]) = Ha at s1 g1 nl1'
                          have s2 : Same Ha (upd Ha l1 (.lst [.ref tt])) := sameN nl1'
                          have g2 : (upd Ha l1 (.lst [.ref tt])) l1 = some (.lst [.ref tt]) := upd_same
                          have g1b := s2 _ _ g1
                          have s12 := s1.trans s2
                          generalize upd Ha l1 (.lst [.ref tt]) = Hb at s2 g2 g1b s12
                          have hrep : (List.replicate (if wr = true then (1 : Int) else 0).toNat [V.ref tt]).flatten = if wr = true then [.ref tt] else [] := by cases wr <;> rfl
                          refine ⟨_, rfl, .inr ⟨_, rfl, l1, _, _, rfl, rfl, g2, by split <;> decide, by split <;> decide, by rw [show ([V.ref tt]).length = 1 from rfl]; split <;> decide, fun l2 nl2 => ?_⟩⟩
                          rw [hrep]
                          have s3 : Same Hb (upd Hb l2 (.lst (if wr = true then [.ref tt] else []))) := sameN nl2
                          have s13 := s12.trans s3
                          have g3 : (upd Hb l2 (.lst (if wr = true then [.ref tt] else []))) l2 = some (.lst (if wr = true then [.ref tt] else [])) := upd_same
                          have g1c := s3 _ _ g1b
                          generalize upd Hb l2 (.lst (if wr = true then [.ref tt] else [])) = Hc at s3 s13 g3 g1c
                          have hdsl : ds.length = D.length + dn.length := (paired_len d2).trans hdlen
                          refine ⟨pd', l2, _, _, rfl, rfl, s13 _ _ d1, g3, Nat.le_trans (show _ ≤ 100 by cases wr <;> simp <;> omega) (by decide), fun pd2 npd2 => ?_⟩
                          have s4 : Same Hc (upd Hc pd2 (.lst (ds ++ if wr = true then [.ref tt] else []))) := sameN npd2
                          have s14 := s13.trans s4
                          have g4 : (upd Hc pd2 (.lst (ds ++ if wr = true then [.ref tt] else []))) pd2 = some (.lst (ds ++ if wr = true then [.ref tt] else [])) := upd_same
                          have g1d := s4 _ _ g1c
                          have npd2z : Hz pd2 = none := noneOf s13 npd2
                          generalize upd Hc pd2 (.lst (ds ++ if wr = true then [.ref tt] else [])) = Hd at s4 s14 g4 g1d
                          have hz4 := hz.same s14
                          have nSpd2 : ¬ a.S pd2 := hz.noN npd2z
                          let dn' : List Nat := if wr = true then dn ++ [k] else dn
                          have hD' : FtsL Hd pd2 (D ++ dn'.map fun k => (t + 1, k)) := by
                            refine ⟨_, g4, ?_⟩
                            have d2' : Paired (FtAt Hd) ds (D ++ dn.map fun k => (t + 1, k)) := Paired.mapP d2 fun _ _ ⟨p, e1, e2⟩ => ⟨p, e1, s14 _ _ e2⟩
                            cases wr with
                            | true =>
                              show Paired (FtAt Hd) (ds ++ [.ref tt]) (D ++ (dn ++ [k]).map fun k => (t + 1, k))
                              rw [List.map_append, ← List.append_assoc]
                              exact paired_snoc d2' ⟨tt, rfl, g1d⟩
                            | false =>
                              show Paired (FtAt Hd) (ds ++ []) (D ++ dn.map fun k => (t + 1, k))
                              rw [List.append_nil]
                              exact d2'
                          have hz5 := hz4.setD hD' nSpd2
                          have Bz5 := Bz.trans (bs s14)
                          have hpg5 := s14 _ _ hpgz
                          clear hz4 hz d1 d2 s14 s13 s12 g4 g1d g1c g1b g3 g2 g1
                          have hd'mem : ∀ j, j ∈ dn' ↔ j ∈ dn ∨ (wr = true ∧ j = k) := fun j => by
                            show j ∈ (if wr = true then dn ++ [k] else dn) ↔ _
                            cases wr with
                            | true => simp
                            | false => simp
                          have hd'old : ∀ j, j ≠ k → eb dn' j = eb dn j := fun j hj => by
                            show KX.earB bb _ j = KX.earB bb _ j
                            unfold KX.earB
                            have : decide (j ∈ dn') = decide (j ∈ dn) := decide_eq_decide.mpr ((hd'mem j).trans ⟨fun h => h.elim id fun z => absurd z.2 hj, .inl⟩)
                            show (if decide (j ∈ dn') = true then _ else _) = if decide (j ∈ dn) = true then _ else _
                            rw [this]
                          have hek : eb dn' k = if wr = true then !bb else bb := by
                            show (if decide (k ∈ dn') = true then !bb else bb) = _
                            have : decide (k ∈ dn') = wr := by
                              rw [Bool.eq_iff_iff, decide_eq_true_eq, hd'mem]
                              exact ⟨fun h => h.elim (fun z => absurd z hkd) fun z => z.1, fun h => .inr ⟨h, rfl⟩⟩
                            rw [this]
                          generalize hee : eb dn' k = e at hek
                          -- what it hears
                          obtain ⟨y, hy⟩ : ∃ y, a.hs[k]? = some y := ⟨_, List.getElem?_eq_getElem (show k < a.hs.length by rw [hz5.hl]; exact hk1)⟩
                          have hyH := hz5.e k y hy
                          have hears : (rI dn i).ears k = r.ears k := if_neg hnk
                          have hlast : atI ((rI dn i).bits.map bV) (-1) = some (bV bb) := by
                            show atI ((r.bits ++ [bb]).map bV) (-1) = _
                            rw [List.map_append]
                            exact atI_last _ _
                          have hearlen : (r.ears k).length ≤ t := by
                            rw [← hr0]
                            exact run_ears t k
                          refine ⟨_, rfl, _, rfl, a.ph, _, _, .ref y, rfl, rfl, .inl (.inl hz5.ph), atI_nat (by rw [List.getElem?_map, hy]; rfl), .inl ⟨rfl, _, .inl (.inl hyH)⟩, ?_⟩
                          refine ⟨_, rfl, _, rfl, .int (if e = true then 1 else 0), fun hc R rr => ?_, fun hc R rr => ?_, ?_⟩
                          · refine ⟨_, rfl, _, rfl, a.pb, _, _, _, rfl, rfl, .inl (.inl hz5.b), hlast, _, _, rfl, rfl, ?_⟩
                            have : (1 : Int) - (if bb = true then 1 else 0) = if e = true then 1 else 0 := by
                              rw [hek, hc]
                              cases bb <;> rfl
                            show R (.int ((1 : Int) - (if bb = true then 1 else 0))) Hd
                            rw [this]
                            exact rr
                          · refine ⟨_, rfl, _, rfl, a.pb, _, _, _, rfl, rfl, .inl (.inl hz5.b), hlast, ?_⟩
                            have : e = bb := by rw [hek, hc]; rfl
                            rw [this] at rr
                            exact rr
                          refine ⟨y, _, _, rfl, rfl, hyH, small_len (n := 20000) (by rw [List.length_map, hears]; omega), ?_⟩
                          have ea : (((rI dn i).ears k).map bV ++ [V.int (if e = true then 1 else 0)]) = ((rI dn i).ears k ++ [e]).map bV := by rw [List.map_append]; rfl
                          rw [ea]
                          have hSy : a.S y := .inr (.inr (.inr (.inr (List.mem_of_getElem? hy))))
                          have hz6 := hz5.addE hds hy e
                          have Bz6 : But (fun x => x = a.b) H (upd Hd y (.lst (((rI dn i).ears k ++ [e]).map bV))) := Bz5.new ((hSH y hSy).elim (fun z => absurd (z ▸ List.mem_of_getElem? hy) hds.h4) id)
                          have hpg6 : (upd Hd y (.lst (((rI dn i).ears k ++ [e]).map bV))) pg = some (.lst (L.map iv)) := by rw [upd_ne (show pg ≠ y from fun z => nSpg (z ▸ hSy))]; exact hpg5
                          generalize upd Hd y (.lst (((rI dn i).ears k ++ [e]).map bV)) = He at hz6 Bz6 hpg6
                          -- the words
                          generalize hr6 : ({ rI dn i with ears := fun j => if j = k then (rI dn i).ears k ++ [e] else (rI dn i).ears j } : KX.Run KX.LS) = r6 at hz6
                          refine ⟨fun σ Hy => ∃ pw : Addr, σ = [some (.ref a.b), some (.ref a.na), some (.ref a.la), some (.int many), some (.int most), some (.bl isq), some (.ref pd2), some (.ref a.ps), some (.ref a.pq), some (.ref a.pb), some (.ref a.ph), some (.int (k : Int)), some (.ref pg), some (.bl wr), some (.ref pw), none] ∧ Snt a l Hy pd2 C3 r6 (D ++ dn'.map fun k => (t + 1, k)) (S ++ qn.map fun k => (t + 1, k)) ∧ But (fun x => x = a.b) H Hy ∧ Hy pg = some (.lst (L.map iv)) ∧ Hy pw = some (.lst [.str (l.c k).early, .str (l.c k).late]), ?_, ?_⟩
                          · refine ⟨_, rfl, rfl, _, rfl, ?_⟩
                            by_cases hk0 : k = 0
                            · refine onT (decide_eq_true (by rw [hk0]; rfl)) ⟨by show 2 ≤ sizeLine; decide, fun pw npw => ⟨pw, rfl, hz6.same (sameN npw), Bz6.trans (bs (sameN npw)), sameN npw _ _ hpg6, ?_⟩⟩
                              have : l.c k = l.cs := if_pos hk0
                              rw [this]
                              exact upd_same
                            · refine onF (decide_eq_false (by intro z; injection z with z; omega)) ⟨by show 2 ≤ sizeLine; decide, fun pw npw => ⟨pw, rfl, hz6.same (sameN npw), Bz6.trans (bs (sameN npw)), sameN npw _ _ hpg6, ?_⟩⟩
                              have : l.c k = l.ch := if_neg hk0
                              rw [this]
                              exact upd_same
                          · clear hz6 Bz6 hpg6 He
                            rintro σ' He ⟨pw, rfl, hz6, Bz6, hpg6, hpw⟩
                            obtain ⟨xs, h1, h2, h3⟩ := hz6.s
                            obtain ⟨x, hx⟩ : ∃ x, xs[k]? = some x := ⟨_, List.getElem?_eq_getElem (show k < xs.length by omega)⟩
                            have hsta := h3 k x hx
                            have hPk : r6.P k = P1 k := by
                              rw [← hr6]
                              exact if_neg hnk
                            rw [hPk] at hsta
                            have hyE : He y = some (.lst ((r.ears k ++ [e]).map bV)) := by
                              have := hz6.e k y hy
                              rw [← hr6] at this
                              have h' : He y = some (.lst ((if k = k then (rI dn i).ears k ++ [e] else (rI dn i).ears k).map bV)) := this
                              rw [if_pos rfl, hears] at h'
                              exact h'
                            have hear : atI ((r.ears k ++ [e]).map bV) (-1) = some (bV e) := by
                              rw [List.map_append]
                              exact atI_last _ _
                            have hlim : atI [V.int l.lh, V.int l.ls] (if decide (V.int (k : Int) = V.int 0) = true then 1 else 0) = some (.int (l.c k).limit) := by
                              by_cases hk0 : k = 0
                              · rw [if_pos (decide_eq_true (by rw [hk0]; rfl)), show l.c k = l.cs from if_pos hk0]
                                exact atI_nat (xs := [V.int l.lh, V.int l.ls]) (j := 1) rfl
                              · rw [if_neg (by rw [decide_eq_false (by intro z; injection z with z; omega)]; decide), show l.c k = l.ch from if_neg hk0]
                                exact atI_nat (xs := [V.int l.lh, V.int l.ls]) (j := 0) rfl
                            refine ⟨_, rfl, _, rfl, a.ps, xs, _, x, rfl, rfl, .inl (.inl h1), atI_nat hx, _, rfl, _, rfl, _, rfl, rfl, .inr ⟨_, rfl, a.la, _, _, _, rfl, rfl, .inl (.inl hz6.la), hlim, ?_⟩⟩
                            refine ⟨_, rfl, _, rfl, _, rfl, a.ph, _, _, .ref y, rfl, rfl, .inl (.inl hz6.ph), atI_nat (by rw [List.getElem?_map, hy]; rfl), _, rfl, y, _, _, _, rfl, rfl, .inl (.inl hyE), hear, ?_⟩
                            have hna6 : He a.na = some (.tup [.int (l.c k).bits, .int (l.c k).flag, .int (l.c k).gap]) := by
                              rw [KX.c_bits, KX.c_flag, KX.c_gap]
                              exact hz6.na
                            refine ⟨x, a.na, pw, l.c k, P1 k, e, rfl, hsta.1, hk2, hna6, hpw, fun H7 v s7 hv hnew => ?_⟩
                            have hz7 := hz6.same s7
                            refine ⟨_, rfl, _, rfl, a.ps, xs, _, k, rfl, rfl, s7 _ _ h1, ixN_nat (by omega), ?_⟩
                            have hvS : StaS a.S H7 v ((l.c k).next (P1 k) e) := by
                              refine ⟨hv, fun p hp => ?_⟩
                              rcases hnew with h | h
                              · exact hsta.2 p (h ▸ hp)
                              · exact hz6.noN (h p hp)
                            have hz8 := hz7.setS hds (s7 _ _ h1) (k := k) hvS
                            have hSps : a.S a.ps := .inr (.inl rfl)
                            refine ⟨pd2, dn', C3, _, _, _, rfl, hz8.congr (fun j _ => ?_) ?_ (fun j _ => ?_), (Bz6.trans (bs s7)).new ((hSH a.ps hSps).elim (fun z => absurd z.symm hds.h1) id), ?_, by omega, ?_, fun j hj => ?_, ?_⟩
                            · show (if j = k then (l.c k).next (P1 k) e else r6.P j) = if j ∈ L.take (i + 1) then (l.c j).next (P1 j) (eb dn' j) else P1 j
                              rw [etk]
                              by_cases hj : j = k
                              · rw [if_pos hj, if_pos (by rw [hj]; exact List.mem_append_right _ (by simp)), hj, hee]
                              · rw [if_neg hj, ← hr6]
                                show (if j ∈ L.take i then (l.c j).next (P1 j) (eb dn j) else P1 j) = _
                                by_cases hji : j ∈ L.take i
                                · rw [if_pos hji, if_pos (List.mem_append_left _ hji), hd'old j hj]
                                · rw [if_neg hji, if_neg (by intro z; rcases List.mem_append.mp z with z | z; exact hji z; exact hj (by simpa using z))]
                            · rw [← hr6]
                            · show r6.ears j = if j ∈ L.take (i + 1) then r.ears j ++ [eb dn' j] else r.ears j
                              rw [etk, ← hr6]
                              show (if j = k then (rI dn i).ears k ++ [e] else (rI dn i).ears j) = _
                              by_cases hj : j = k
                              · rw [if_pos hj, if_pos (by rw [hj]; exact List.mem_append_right _ (by simp)), hj, hee, hears]
                              · rw [if_neg hj]
                                show (if j ∈ L.take i then r.ears j ++ [eb dn j] else r.ears j) = _
                                by_cases hji : j ∈ L.take i
                                · rw [if_pos hji, if_pos (List.mem_append_left _ hji), hd'old j hj]
                                · rw [if_neg hji, if_neg (by intro z; rcases List.mem_append.mp z with z | z; exact hji z; exact hj (by simpa using z))]
                            · rw [upd_ne (show pg ≠ a.ps from fun z => nSpg (z ▸ hSps))]
                              exact s7 _ _ hpg6
                            · show (if wr = true then dn ++ [k] else dn).Nodup
                              split
                              · exact KX.nodup_snoc hdn hkd
                              · exact hdn
                            · rw [etk]
                              rcases (hd'mem j).mp hj with h | h
                              · exact List.mem_append_left _ (hdk j h)
                              · rw [h.2]
                                exact List.mem_append_right _ (by simp)
                            · show D.length + (if wr = true then dn ++ [k] else dn).length ≤ most
                              cases hw : wr with
                              | true =>
                                have := hwr hw
                                rw [if_pos rfl, List.length_append]
                                simp
                                omega
                              | false =>
                                rw [if_neg (by decide)]
                                exact hdl
                      · rintro σ Hz ⟨pd', dn, C2, w11, w13, w14, rfl, hz, Bz, hpgz, hc2, hdn, hdk, hdl⟩
                        have htkL : L.take (L.map iv).length = L := take_all (List.length_map _)
                        have hdL : ∀ k ∈ dn, k ∈ L := fun k hk => List.mem_of_mem_take (hdk k hk)
                        have hliveP1 : ∀ k, k < l.m → ((P1 k).live = true ↔ k ∈ L) := fun k hk => by
                          rw [← hL]
                          exact ⟨fun h => List.mem_filter.mpr ⟨List.mem_range.mpr hk, h⟩, fun h => (List.mem_filter.mp h).2⟩
                        obtain ⟨hp2, hrun⟩ := hpart.nextBit (by rw [hr0]; exact hany) hdn hqn (fun k hk => by rw [hr0]; exact hqk k hk) (fun k hk => by rw [hr0, hP1]; exact hLm k (hdL k hk))
                        rw [hr0] at hrun
                        have hP0n : l.P0 (D ++ dn.map fun k => (t + 1, k)) = l.P0 D := KX.P0_new l D dn t
                        have hrun' : KX.runR l.sys l.m (D ++ dn.map fun k => (t + 1, k)) (S ++ qn.map fun k => (t + 1, k)) (l.P0 (D ++ dn.map fun k => (t + 1, k))) (t + 1) = KX.stepR l.sys l.m (fun k => decide (k ∈ qn)) (fun k => decide (k ∈ dn)) r := by
                          rw [hP0n]
                          exact hrun
                        have hqm : qn.length ≤ l.m := by
                          have := KX.sub_of_len (xs := qn) (ys := List.range l.m) hqn fun k hk => List.mem_range.mpr (hqk k hk).1
                          rwa [List.length_range] at this
                        have hmu := (KX.mu_step hO (P := r.P) (fun k _ => hok k) hany (q := fun k => decide (k ∈ qn)) (d := fun k => decide (k ∈ dn)) (L := most - D.length) (L' := most - (D ++ dn.map fun k => (t + 1, k)).length) (fun k _ h => (hqk k (of_decide_eq_true h)).2) (by
                          rw [List.length_append, List.length_map]
                          cases dn with
                          | nil => exact .inr ⟨by simp, fun k _ _ => by simp⟩
                          | cons z zs =>
                            simp only [List.length_cons] at hdl ⊢
                            exact .inl (by omega))).1
                        have hmu' : l.mu (most - (D ++ dn.map fun k => (t + 1, k)).length) (KX.runR l.sys l.m (D ++ dn.map fun k => (t + 1, k)) (S ++ qn.map fun k => (t + 1, k)) (l.P0 (D ++ dn.map fun k => (t + 1, k))) (t + 1)).P < l.mu (most - D.length) r.P := by
                          rw [hrun']
                          exact hmu
                        have hLlen : (L.map iv).length ≤ 5 := by rw [List.length_map]; exact hLl
                        refine ⟨⟨pd', (D ++ dn.map fun k => (t + 1, k)), (S ++ qn.map fun k => (t + 1, k)), t + 1, C2, _, _, _, _, rfl, ⟨?_, ?_, Bz, ?_, ?_, by omega, by omega⟩⟩, ?_⟩
                        · rw [hrun']
                          refine hz.congr (fun k hk => ?_) ?_ fun k hk => ?_
                          · show (if k ∈ L.take (L.map iv).length then (l.c k).next (P1 k) (eb dn k) else P1 k) = KX.stepP l.sys l.m _ _ r.P k
                            unfold KX.stepP KX.moveP
                            rw [hP1, hbb, htkL]
                            by_cases hkL : k ∈ L
                            · rw [if_pos hkL, if_pos (show l.sys.live (P1 k) = true from (hliveP1 k hk).mpr hkL)]
                              rfl
                            · rw [if_neg hkL, if_neg (show ¬ l.sys.live (P1 k) = true from fun z => hkL ((hliveP1 k hk).mp z))]
                          · show r.bits ++ [bb] = r.bits ++ [KX.lineB l.sys l.m (KX.hush l.sys _ r.P)]
                            rw [hP1, hbb]
                          · show (if k ∈ L.take (L.map iv).length then r.ears k ++ [eb dn k] else r.ears k) = (if l.sys.live (KX.hush l.sys _ r.P k) = true then r.ears k ++ [KX.earB (KX.lineB l.sys l.m (KX.hush l.sys _ r.P)) _ k] else r.ears k)
                            rw [hP1, hbb, htkL]
                            by_cases hkL : k ∈ L
                            · rw [if_pos hkL, if_pos (show l.sys.live (P1 k) = true from (hliveP1 k hk).mpr hkL)]
                            · rw [if_neg hkL, if_neg (show ¬ l.sys.live (P1 k) = true from fun z => hkL ((hliveP1 k hk).mp z))]
                        · rw [hP0n]
                          exact hp2
                        · rw [List.length_append, List.length_map]
                          exact hdl
                        · rw [List.length_append, List.length_map, Nat.succ_mul]
                          omega
                        · have e1 : lenAt Hz a.pb = t + 1 := by
                            unfold lenAt
                            rw [hz.b]
                            show (List.map bV (r.bits ++ [bb])).length = t + 1
                            rw [List.length_map, List.length_append, hbl]
                            rfl
                          show 1809 - lenAt Hz a.pb < 1809 - lenAt Hi a.pb
                          rw [e1, hpbl]
                          omega
          · rintro σ Hx Q1 Q2 hQ ⟨v, h1, a', e, hS', h⟩
            refine ⟨v, h1, a', e, hS', fun D nD => ?_⟩
            obtain ⟨W, hW, hs⟩ := h D nD
            refine ⟨W, hW, fun i m H' hw => ?_⟩
            rcases hs i m H' hw with ⟨h3, h4, h5⟩ | h6
            · refine .inl ⟨h3, h4, fun ll nl => ?_⟩
              obtain ⟨d, e, h11, h12, h13, h14, k, h15, h16⟩ := h5 ll nl
              exact ⟨d, e, h11, h12, h13, h14, k, h15, hQ _ _ h16⟩
            · exact .inr h6
          · rintro σ' H4 ⟨pd, D, S, t, C', x11, x12, x13, x14, rfl, hI, hany⟩
            obtain ⟨xs, h1, h2, h3⟩ := hI.snt.s
            have htmu := hI.tmu
            have hfuel := hI.fuel
            have hql := hI.ql
            have hml := hI.ml
            have : t * l.m ≤ 1808 * 5 := Nat.mul_le_mul (by omega) hm5
            refine ⟨_, rfl, _, rfl, _, rfl, _, rfl, _, rfl, by show 5 ≤ sizeLine; decide, fun p np => ?_⟩
            have s5 : Same H4 (upd H4 p (.tup [.ref pd, .ref a.pq, .ref a.pb, .ref a.ps, .ref a.ph])) := sameN np
            exact q _ p D S t (hI.but.trans (bs s5)) ((hI.snt.bag.same s5).mono (by omega))
              ⟨pd, a.pq, a.pb, a.ps, a.ph, xs, a.hs, upd_same, hI.snt.d.same s5, hI.snt.q.same s5, s5 _ _ hI.snt.b, s5 _ _ h1, h2, fun k x e => (h3 k x e).1.same s5, s5 _ _ hI.snt.ph, hI.snt.hl, fun k y e => s5 _ _ (hI.snt.e k y e)⟩
              ⟨hI.part, hany, by omega⟩ (by omega)
end
end SB
end
section
set_option maxRecDepth 100000
set_option maxHeartbeats 4000000
/-! Walks: what the law compares. -/
namespace SB
open PySem PySem.Spec PyProof.Rows L2
/-! own len, str, ==, != -/
structure CalLen (P : Program) (w : World) (K : PySem.W.Frag) (mg : Str → Option Value) (base : Heap) (C : Addr) (k : Nat) (sp : Sp) : Prop where
  ex : ∃ f fd, FnOk P w K mg base CX0 k f fd ["self"] sp ∧ Binds K fd ["self"] [] ∧ PySem.W.findIn K (.ref C) "__len__" = some (some (.ref f)) ∧ PySem.W.isFn K (.ref f) = true
structure CalStr (P : Program) (w : World) (K : PySem.W.Frag) (mg : Str → Option Value) (base : Heap) (C : Addr) (k : Nat) (sp : Sp) : Prop where
  ex : ∃ f fd, FnOk P w K mg base CX0 k f fd ["self"] sp ∧ Binds K fd ["self"] [] ∧ PySem.W.findIn K (.ref C) "__str__" = some (some (.ref f)) ∧ PySem.W.isFn K (.ref f) = true
structure CalEq (P : Program) (w : World) (K : PySem.W.Frag) (mg : Str → Option Value) (base : Heap) (C : Addr) (k : Nat) (R : Addr → Addr → Hp → Prop) : Prop where
  ex : ∃ f fd, FnOk P w K mg base CX0 k f fd ["self", "other"] (spEqv R) ∧ Binds K fd ["self", "other"] [] ∧ PySem.W.plainOver K C = true ∧ PySem.W.findIn K (.ref C) "__ne__" = some (some (.builtin "object.__ne__")) ∧ PySem.W.findIn K (.ref C) "__eq__" = some (some (.ref f)) ∧ PySem.W.isFn K (.ref f) = true
section
variable {X : Cx} {C : Addr} {k : Nat} {sp : Sp} {R : Addr → Addr → Hp → Prop}
theorem ownLen (c : CalLen X.prog X.w X.K X.mg X.base C k sp) (hr : Room (k + 1) X.A) : CallR X (.builtin "len") (rLenOwn C sp) := by
  obtain ⟨f, fd, F, hb, hs, hf⟩ := c.ex
  exact cr_lenOwn F hb hr hs hf
theorem ownStr (c : CalStr X.prog X.w X.K X.mg X.base C k sp) (hr : Room (k + 2) X.A) : CallR X (.type "str") (rStrOwn C sp) := by
  obtain ⟨f, fd, F, hb, hs, hf⟩ := c.ex
  exact cr_strOwn F hb hr hs hf
theorem ownNe (c : CalEq X.prog X.w X.K X.mg X.base C k R) (hr : Room (k + 2) X.A) : OpR X (compareOp .NotEq) (rEqOwn C R false) := by
  obtain ⟨f, fd, F, hb, hp, hn, hs, hf⟩ := c.ex
  exact op_neOwn F hb hr hp hn hs hf
theorem ownEq (c : CalEq X.prog X.w X.K X.mg X.base C k R) (hr : Room (k + 1) X.A) : OpR X (compareOp .Eq) (rEqOwn C R true) := by
  obtain ⟨f, fd, F, hb, hp, hn, hs, hf⟩ := c.ex
  exact op_eqOwn F hb hr hs hf
end
theorem SqL.but {K : PySem.W.Frag} {H H' : Hp} {a : Addr} {xs : List V} (h : SqL K H a xs) (B : ∀ o, H a = some o → H' a = some o) : SqL K H' a xs := by
  rcases h with h | h
  · refine .inl ?_
    rcases h with h | h
    · exact .inl (B _ h)
    · obtain ⟨o, h⟩ := h
      exact .inr ⟨o, B _ h⟩
  · exact .inr h
def bD (b : Bool) : PyData := .int (if b = true then 1 else 0)
theorem dp_bits {K : PySem.W.Frag} {H : Hp} : ∀ bs : List Bool, DpAll K H (bs.map bV) (bs.map bD)
  | [] => .nil
  | b :: bs => .cons (.int _) (dp_bits bs)
theorem gd_bits (bs : List Bool) : Gd (.tuple (bs.map bD)) 1 := .tup fun d hd => by
  obtain ⟨b, _, rfl⟩ := List.mem_map.mp hd
  exact .int _
def wordD : Option Str → PyData
  | none => .none
  | some w => .str w
theorem dp_wordL {K : PySem.W.Frag} {H : Hp} {x : V} {st : KX.LS} (h : StaAt H x st) (hl : st.live = false) : Dp K H x (wordD (KX.wordL st)) := by
  cases st with
  | sil => cases h; exact .non
  | wd w => cases h; exact .str _
  | en n => cases hl
  | fl n w => cases hl
  | gp n w => cases hl
theorem dp_wordB {K : PySem.W.Frag} {H : Hp} {M : Nat → KX.Mc} {p : Option KX.Pl} (hl : (KX.sysB M).live p = false) : Dp K H (poV p) (wordD (KX.wordB p)) := by
  cases p with
  | none => exact .non
  | some p =>
    cases p with
    | ix i => cases hl
    | wd w => exact .str _
theorem dp_list {K : PySem.W.Frag} {H : Hp} {xs : List V} {ds : List PyData} (hl : xs.length = ds.length) (h : ∀ (k : Nat) (x : V) (d : PyData), xs[k]? = some x → ds[k]? = some d → Dp K H x d) : DpAll K H xs ds := by
  induction xs generalizing ds with
  | nil =>
    cases ds with
    | nil => exact .nil
    | cons d ds => cases hl
  | cons x xs ih =>
    cases ds with
    | nil => cases hl
    | cons d ds => exact .cons (h 0 x d rfl rfl) (ih (Nat.succ.inj hl) fun k y e hy he => h (k + 1) y e (by simpa using hy) (by simpa using he))
def txt1 : Str := "1 lost taken, 0 lost lost | 1 again done"
def txt2 : Str := "1 2 3, 0 4 4, 1 lost taken, 1 taken taken, 0 lost lost | 1 1 2, 1 again done, 1 done done"
theorem end_txt1 : endT (KX.leastRows (vpH 1 1 1).hm 2) (KX.leastRows (vpS 1 1 1).sm 1) = txt1 := by
  rw [show (vpH 1 1 1) = KX.vp1 KX.lostS KX.takenS from rfl, show (vpS 1 1 1) = KX.vp1 KX.againS KX.doneS from rfl, KX.vp1_h, KX.vp1_s]
  decide +kernel
theorem end_txt2 : endT (KX.leastRows (vpH 2 2 1).hm 2) (KX.leastRows (vpS 2 2 1).sm 1) = txt2 := by
  rw [show (vpH 2 2 1) = KX.vp2 KX.lostS KX.takenS from rfl, show (vpS 2 2 1) = KX.vp2 KX.againS KX.doneS from rfl, KX.vp2_h, KX.vp2_s]
  decide +kernel
structure EndTx (Mh Ms : KX.Mc) : Prop where
  h : TxtOk Mh
  s : TxtOk Ms
  l : ([machT Mh, machT Ms].map (·.length)).sum + 2 * (" | " : Str).length ≤ 16777216
theorem end_tx1 : EndTx (KX.leastRows (vpH 1 1 1).hm 2) (KX.leastRows (vpS 1 1 1).sm 1) := by
  rw [show (vpH 1 1 1) = KX.vp1 KX.lostS KX.takenS from rfl, show (vpS 1 1 1) = KX.vp1 KX.againS KX.doneS from rfl, KX.vp1_h, KX.vp1_s]
  exact ⟨⟨by decide +kernel, by decide +kernel⟩, ⟨by decide +kernel, by decide +kernel⟩, by decide +kernel⟩
theorem end_tx2 : EndTx (KX.leastRows (vpH 2 2 1).hm 2) (KX.leastRows (vpS 2 2 1).sm 1) := by
  rw [show (vpH 2 2 1) = KX.vp2 KX.lostS KX.takenS from rfl, show (vpS 2 2 1) = KX.vp2 KX.againS KX.doneS from rfl, KX.vp2_h, KX.vp2_s]
  exact ⟨⟨by decide +kernel, by decide +kernel⟩, ⟨by decide +kernel, by decide +kernel⟩, by decide +kernel⟩
end SB
end
section
set_option maxRecDepth 100000
set_option maxHeartbeats 4000000
/-! Walks: the law. -/
namespace SB
open PySem PySem.Spec PyProof.Rows L2
section
variable {X : Cx} {k : Nat} {sp : Sp} {nm : Str} {p pos : Pos}
theorem cal0 (c : Cal X.prog X.w X.K X.mg X.base nm k [] sp) (hr : Room k X.A) (hg : Gl X nm := by rfl) (hdb : (nm == ("__debug__" : Str)) = false := by decide) : PE X (.Call (.Name nm p) [] [] pos) (tCall sp [] E0 tNil) := by
  obtain ⟨f, fd, F, hm, hk, hb⟩ := c.ex
  exact pe_call0 F hr hg hm hk hb .nil pass0 hdb
end
section
variable {P : Program} {w : World} {K : PySem.W.Frag} {mg : Str → Option Value} {base : Heap} {E U W : Addr}
abbrev s_law : Stmt := top 50
abbrev n_law : List Str := ["_law_script", "_law_at", "_law_bag_here", "_law_turn", "_law_many", "_law_top", "_law_numbers", "_law_limits", "_law_made", "_law_told", "_law_deaf", "_law_quiet", "_law_bits", "_law_states", "_law_heard", "_law_found", "_law_turns", "_law_texts", "_law_k", "_law_row"]
theorem sc_law : FnScope n_law ["_law_script"] (defScope s_law) := ⟨rfl, rfl, rfl, by decide +kernel, rfl, by decide +kernel, by decide +kernel⟩
def sp_law (K : PySem.W.Frag) : Sp := fun vs H Q _ => ∃ (a : Nat) (ns : List Int), vs = [.ref a] ∧ SqL K H a (ns.map V.int) ∧ ∀ H', Q (.bl true) H'
theorem sql_step {K : PySem.W.Frag} {H H' : Hp} {a b : Addr} {xs : List V} (h : SqL K H a xs) (hA : a ≠ b ∨ ∀ H', SqL K H' a xs) (B : But (fun x => x = b) H H') : SqL K H' a xs := by
  rcases hA with hA | hA
  · exact SqL.but h fun o e => B _ _ hA e
  · exact hA H'
theorem sql_new {K : PySem.W.Frag} {H : Hp} {a b : Addr} {xs : List V} (h : SqL K H a xs) (nb : H b = none) : a ≠ b ∨ ∀ H', SqL K H' a xs := by
  rcases h with h | h
  · refine .inl fun e => ?_
    subst e
    rcases h with h | ⟨o, h⟩ <;> rw [nb] at h <;> cases h
  · exact .inr fun H' => .inr h
theorem EndAt.but {E : Addr} {H H' : Hp} {x b C : Addr} {Mh Ms : KX.Mc} (h : EndAt E H x Mh Ms) (hb : BagAt H b C) (B : But (fun x => x = b) H H') : EndAt E H' x Mh Ms := by
  obtain ⟨d, s, c, hb1, _⟩ := hb
  have tup : ∀ {y xs}, H y = some (.tup xs) → H' y = some (.tup xs) := fun {y xs} hy => B _ _ (fun z => by have z' : y = b := z; rw [z', hb1] at hy; cases hy) hy
  have rows : ∀ {xs M}, RowsV H xs M → RowsV H' xs M := fun h => Paired.mapP h fun _ _ ⟨p, e1, e2⟩ => ⟨p, e1, tup e2⟩
  obtain ⟨dx, p1, p2, p3, h1, ⟨xs1, h2, h2'⟩, ⟨xs2, h3, h3'⟩⟩ := h
  exact ⟨dx, p1, p2, p3, B _ _ (fun z => by have z' : x = b := z; rw [z', hb1] at h1; cases h1) h1, ⟨xs1, tup h2, rows h2'⟩, ⟨xs2, tup h3, rows h3'⟩⟩
theorem tup_but {H H' : Hp} {y b C : Addr} {xs : List V} (hy : H y = some (.tup xs)) (hb : BagAt H b C) (B : But (fun x => x = b) H H') : H' y = some (.tup xs) := by
  obtain ⟨d, s, c, hb1, _⟩ := hb
  exact B _ _ (fun z => by have z' : y = b := z; rw [z', hb1] at hy; cases hy) hy
theorem least_same {E : Addr} {H : Hp} {y z : Addr} {Mh Ms : KX.Mc} (hV : KX.VE Mh Ms) (h1 : EndAt E H y (KX.leastRows (KX.leastRows Mh 2) 2) (KX.leastRows (KX.leastRows Ms 1) 1)) (h2 : EndAt E H z (KX.leastRows Mh 2) (KX.leastRows Ms 1)) : SameEnd E y z H := by
  rw [KX.leastRows_again hV.h.wf hV.h2, KX.leastRows_again hV.s.wf hV.s1] at h1
  exact ⟨_, _, h1, h2, hV.least⟩
/-- all that the law calls -/
structure LawC (P : Program) (w : World) (K : PySem.W.Frag) (mg : Str → Option Value) (base : Heap) (E U W : Addr) : Prop where
  bag : Cal P w K mg base "_law_bag" 1 ["_law_script", "_law_at"] (sp_law_bag K)
  take : Cal P w K mg base "_law_take" 1 ["_law_bag_here", "_law_many"] sp_law_take
  sent : Cal P w K mg base "_law_sent" 2 p_law_sent sp_law_sent
  cnt : CalN P w K mg base "counted_end" 8 p_counted_end (sp_counted_end E) 1 ["hearer", "sender", "flag", "gap"] (fun vs zs => vs ++ zs)
  snd : CalN P w K mg base "sending" 6 p_sending (sp_sending E W) 2 ["wrong", "silent"] (fun vs zs => vs ++ zs)
  vo2 : CalN P w K mg base "voting_end" 8 p_voting_end (sp_voting_end E) 1 ["needed", "rounds"] (fun vs zs => vs ++ zs)
  vo1 : CalN P w K mg base "voting_end" 8 p_voting_end (sp_voting_end E) 1 ["needed"] (fun vs zs => vs ++ (zs ++ [.int 1]))
  lst : Cal P w K mg base "least" 7 ["end"] (sp_least E)
  std : Cal P w K mg base "standard_end" 9 [] (sp_standard_end E)
  line : CalP P w K mg base W "line" 1 (sp_line W)
  words : CalP P w K mg base W "words" 1 (sp_words W)
  heard : CalM P w K mg base W "heard" 1 ["self", "station"] (sp_heard W)
  len : CalLen P w K mg base W 1 (sp_sd_len W)
  str : CalStr P w K mg base E 2 (sp_end_str E)
  eq : CalEq P w K mg base E 1 (SameEnd E)
  cw : Cls K W
theorem ok_law {f : Addr} {fd : FuncData} (F : Fun K "law" "law" s_law f fd) (G : Gb mg) (L : LawC P w K mg base E U W) : FnOk P w K mg base CX0 10 f fd ["_law_script"] (sp_law K) := by
  refine F.ok sc_law (fun vs H Q E h => ?_) (fun cdv A outer s H vs Q E' hr h => ?_)
  · obtain ⟨a, ns, rfl, _⟩ := h
    rfl
  · obtain ⟨a, ns, rfl, ha, q⟩ := h
    have nd := sc_law.nd
    have hu := hu_of hr
    have r1 := hr.mono (show 1 ≤ 9 by decide)
    refine ⟨_, C8.pss_cut (ps_for PassesOwn.never rfl (pi_range1 (by rfl) G.range (pa_cons (pe_callB (call_max2 rfl) (by rfl) G.max (by decide +kernel) (pa_cons pe_int (pa_cons (pe_callB (call_min2 rfl) (by rfl) G.min (by decide +kernel) (pa_cons pe_int (pa_cons (lenS G (pv 0)) pa_nil)) (by decide) (by decide)) pa_nil)) (by decide) (by decide)) pa_nil)) (pg_name (i := 1) nd rfl (.inl rfl))
        (C8.pss_cut (ps_set (i := 2) nd rfl (.inl rfl) (cal L.bag r1 (pa_cons (pv 0) (pa_cons (pv 1) pa_nil))))
        (C8.pss_cut (ps_for PassesOwn.never rfl (pi_range1 (by rfl) G.range (pa_cons pe_int pa_nil)) (pg_name (i := 3) nd rfl (.inl rfl))
          (C8.pss_cut (ps_par (i := 4) (j := 5) rfl nd rfl rfl (by decide) rfl rfl (pa_cons (pe_op op_add pe_int (cal L.take r1 (pa_cons (pv 2) (pa_cons pe_int pa_nil)))) (pa_cons (pe_op op_add pe_int (cal L.take r1 (pa_cons (pv 2) (pa_cons pe_int pa_nil)))) pa_nil)) rfl)
          (C8.pss_cut (ps_set (i := 6) nd rfl (.inl rfl) (pe_tup (pa_cons (pv 5) (pa_cons (pe_op op_add pe_int (cal L.take r1 (pa_cons (pv 2) (pa_cons pe_int pa_nil)))) (pa_cons (pe_op op_add pe_int (cal L.take r1 (pa_cons (pv 2) (pa_cons pe_int pa_nil)))) pa_nil)))))
          (C8.pss_cut (ps_set (i := 7) nd rfl (.inl rfl) (pe_tup (pa_cons (pe_op op_add pe_int (cal L.take r1 (pa_cons (pv 2) (pa_cons (pv 5) pa_nil)))) (pa_cons (pe_op op_add pe_int (cal L.take r1 (pa_cons (pv 2) (pa_cons (pv 5) pa_nil)))) pa_nil))))
          (C8.pss_cut (ps_set (i := 8) nd rfl (.inl rfl) (calN L.cnt (hr.mono (by decide)) (pa_cons (pv 5) pa_nil) (pk_cons (pe_ix ix_tup (pv 7) pe_int (fun _ _ => rfl)) (pk_cons (pe_ix ix_tup (pv 7) pe_int (fun _ _ => rfl)) (pk_cons (pe_ix ix_tup (pv 6) pe_int (fun _ _ => rfl)) (pk_cons (pe_ix ix_tup (pv 6) pe_int (fun _ _ => rfl)) pk_nil))))))
          (C8.pss_cut (ps_set (i := 9) nd rfl (.inl rfl) (cal L.sent (hr.mono (by decide)) (pa_cons (pv 2) (pa_cons (pv 6) (pa_cons (pv 7) (pa_cons (pv 4) (pa_cons (cal L.take r1 (pa_cons (pv 2) (pa_cons pe_int pa_nil))) (pa_cons (pe_cmpR op_eq (cal L.take r1 (pa_cons (pv 2) (pa_cons pe_int pa_nil))) pe_int (nomark _)) pa_nil))))))))
          (C8.pss_cut (ps_asg (pv 9) (pg_tup rfl (pgs_cons (pg_name (i := 10) nd rfl (.inl rfl)) (pgs_cons (pg_name (i := 11) nd rfl (.inl rfl)) (pgs_cons (pg_name (i := 12) nd rfl (.inl rfl)) (pgs_cons (pg_name (i := 13) nd rfl (.inl rfl)) (pgs_cons (pg_name (i := 14) nd rfl (.inl rfl)) pgs_nil)))))))
          (C8.pss_cut (ps_set (i := 15) nd rfl (.inr rfl) (calN L.snd (hr.mono (by decide)) (pa_cons (pv 8) (pa_cons (pv 4) pa_nil)) (pk_cons (pv 10) (pk_cons (pv 11) pk_nil))))
          (C8.pss_cut (ps_if (PW.pt (pw_or (pt_cmpR (op_neD hr.units) (calP L.line L.cw (hr.mono (by decide)) (pv 15)) (tupleS G (pv 12)) (nomark _)) (pw_or1 (pt_cmpR (op_neD hr.units) (calP L.words L.cw (hr.mono (by decide)) (pv 15)) (tupleS G (pv 13)) (nomark _))))) (pss_one ps_never) pss_nil)
          (C8.pss_cut (ps_if (pt_cmpR (op_neD hr.units) (pe_lc (own := [("_law_k", 18)]) (g := gName 18) (tt := tYes) rfl nd (pi_range1 (by rfl) G.range (pa_cons (pe_op op_add (pv 4) pe_int) pa_nil)) (blkOk_by (N := n_law) (sc := defScope s_law) (by decide +kernel)) (fun _ _ _ _ _ => (pg_name (i := 18) nd rfl (.inl rfl))) (fun _ _ _ _ _ => pts_nil) (fun _ _ _ _ _ => calM L.heard L.cw r1 (pv 15) (pa_cons (pv 18) pa_nil))) (pe_lc (own := [("_law_row", 19)]) (g := gName 19) (tt := tYes) rfl nd (pi_list (pv 14)) (blkOk_by (N := n_law) (sc := defScope s_law) (by decide +kernel)) (fun _ _ _ _ _ => (pg_name (i := 19) nd rfl (.inl rfl))) (fun _ _ _ _ _ => pts_nil) (te := tCB (fun xs H Q => ∃ p ys, xs = [.ref p] ∧ ((SqL K H p ys ∧ ∀ l, H l = none → Q (.ref l) (upd H l (.tup ys))) ∨ (SqT K H p ys ∧ Q (.ref p) H))) (tCons (tVar 19) tNil)) (fun _ _ _ _ _ => tupleS G (pv 19))) (nomark _)) (pss_one ps_never) pss_nil)
          (pss_one (ps_if (PW.pt (pw_or (pt_cmpR (ownNe L.eq (hr.mono (by decide))) (cal L.lst (hr.mono (by decide)) (pa_cons (pv 8) pa_nil)) (pv 8) (nomark _)) (pw_or1 (pt_cmpR op_ne (pe_callB (ownLen L.len (hr.mono (by decide))) (by rfl) G.len PySem.boot_len (pa_cons (pv 15) pa_nil) (by decide) (by decide)) (lenS G (pv 12)) (nomark _))))) (pss_one ps_never) pss_nil))))))))))))
        (C8.pss_cut (ps_par (i := 4) (j := 16) rfl nd rfl rfl (by decide) rfl rfl (pa_cons (pe_op op_add pe_int (cal L.take r1 (pa_cons (pv 2) (pa_cons pe_int pa_nil)))) (pa_cons (pe_op op_add pe_int (cal L.take r1 (pa_cons (pv 2) (pa_cons pe_int pa_nil)))) pa_nil)) rfl)
        (C8.pss_cut (ps_set (i := 8) nd rfl (.inl rfl) (calN L.vo2 (hr.mono (by decide)) (pa_cons (pv 4) pa_nil) (pk_cons (pe_op op_add pe_int (cal L.take r1 (pa_cons (pv 2) (pa_cons (pv 4) pa_nil)))) (pk_cons (pv 16) pk_nil))))
        (pss_one (ps_if (pt_cmpR (ownNe L.eq (hr.mono (by decide))) (cal L.lst (hr.mono (by decide)) (pa_cons (pv 8) pa_nil)) (pv 8) (nomark _)) (pss_one ps_never) pss_nil)))))))
      (pss_cons (ps_set (i := 17) nd rfl (.inl rfl) (pe_lst (pa_cons pe_str pa_nil)))
      (pss_cons (apnd (pv 17) pe_str)
      (C8.pss_cut (ps_for PassesOwn.never rfl (pi_range1 (by rfl) G.range (pa_cons pe_int pa_nil)) (pg_name (i := 4) nd rfl (.inl rfl)) (pss_one (ps_if (pt_cmpR op_ne (pe_callTy (ownStr L.str (hr.mono (by decide))) (by rfl) G.str (by decide +kernel) (pa_cons (calN L.vo1 (hr.mono (by decide)) (pa_cons (pe_op op_add (pv 4) pe_int) pa_nil) (pk_cons (pe_op op_add (pv 4) pe_int) pk_nil)) pa_nil)) (pe_ix ix_list (pv 17) (pv 4) (fun _ _ => rfl)) (nomark _)) (pss_one ps_never) pss_nil)))
      (pss_one (ps_ret (pe_cmpR (ownEq L.eq (hr.mono (by decide))) (cal L.lst (hr.mono (by decide)) (pa_cons (cal0 L.std hr) pa_nil)) (cal0 L.std hr) (nomark _))))))), ?_⟩
    refine ⟨fun σ Hz => ∃ (x1 x2 x3 x4 x5 x6 x7 x8 x9 x10 x11 x12 x13 x14 x15 x16 x17 : Option V), σ = [some (.ref a), x1, x2, x3, x4, x5, x6, x7, x8, x9, x10, x11, x12, x13, x14, x15, x16, x17, none, none] ∧ SqL K Hz a (ns.map V.int), ?_, ?_⟩
    · have hmx : ∀ z : Int, z = (if (if ((ns.map V.int).length : Int) < 4 then ((ns.map V.int).length : Int) else 4) > 2 then (if ((ns.map V.int).length : Int) < 4 then ((ns.map V.int).length : Int) else 4) else 2) → z.toNat ≤ 4 ∧ 0 ≤ z ∧ z ≤ 4 := fun z hz => by
        subst hz
        split <;> split <;> omega
      refine ⟨_, rfl, a, _, rfl, .inl ha, _, _, rfl, _, _, rfl, _, rfl, ?_⟩
      obtain ⟨m1, m2, m3⟩ := hmx _ rfl
      refine ⟨by omega, by omega, ?_⟩
      refine for_it walk_range (fun i σ Hz => ∃ (x1 x2 x3 x4 x5 x6 x7 x8 x9 x10 x11 x12 x13 x14 x15 x16 x17 : Option V), σ = [some (.ref a), x1, x2, x3, x4, x5, x6, x7, x8, x9, x10, x11, x12, x13, x14, x15, x16, x17, none, none] ∧ SqL K Hz a (ns.map V.int)) ⟨_, _, _, _, _, _, _, _, _, _, _, _, _, _, _, _, _, rfl, ha⟩ (fun _ _ _ _ _ => True.intro) ?_ ?_
      · rintro i x σ Hz_ Hz hi ⟨x1, x2, x3, x4, x5, x6, x7, x8, x9, x10, x11, x12, x13, x14, x15, x16, x17, rfl, hA⟩ ⟨rfl, exx⟩
        have hi4 : i < 4 := Nat.lt_of_lt_of_le hi m1
        have ex2 : x = .int (i : Int) := exx.trans (congrArg V.int (show (0 : Int) + (i : Nat) = (i : Int) by omega))
        subst ex2
        -- the bag
        refine ⟨fun σ Hy => ∃ b : Addr, σ = [some (.ref a), some (.int (i : Nat)), some (.ref b), x3, x4, x5, x6, x7, x8, x9, x10, x11, x12, x13, x14, x15, x16, x17, none, none] ∧ SqL K Hy a (ns.map V.int) ∧ BagAt Hy b 0 ∧ (a ≠ b ∨ ∀ H', SqL K H' a (ns.map V.int)), ?_, ?_⟩
        · refine ⟨_, rfl, _, rfl, a, i, ns, rfl, hA, by omega, fun H1 b s1 nb bag => ?_⟩
          exact ⟨b, rfl, SqL.ext hA s1, bag, sql_new hA nb⟩
        rintro σ' H1 ⟨b, rfl, hA1, bag1, hab⟩
        clear hA
        -- three turns
        refine ⟨fun σ Hy => ∃ (x3 x4 x5 x6 x7 x8 x9 x10 x11 x12 x13 x14 x15 x16 x17 : Option V), σ = [some (.ref a), some (.int (i : Nat)), some (.ref b), x3, x4, x5, x6, x7, x8, x9, x10, x11, x12, x13, x14, x15, x16, x17, none, none] ∧ SqL K Hy a (ns.map V.int) ∧ BagAt Hy b 70000, ?_, ?_⟩
        · refine ⟨3, rfl, by decide, by decide, ?_⟩
          refine for_it walk_range (fun j σ Hy => ∃ (x3 x4 x5 x6 x7 x8 x9 x10 x11 x12 x13 x14 x15 x16 x17 : Option V), σ = [some (.ref a), some (.int (i : Nat)), some (.ref b), x3, x4, x5, x6, x7, x8, x9, x10, x11, x12, x13, x14, x15, x16, x17, none, none] ∧ SqL K Hy a (ns.map V.int) ∧ BagAt Hy b (j * 20100)) ⟨_, _, _, _, _, _, _, _, _, _, _, _, _, _, _, rfl, hA1, by simpa using bag1⟩ (fun _ _ _ _ _ => True.intro) ?_ ?_
          · rintro j v σ Hy_ Hy hj ⟨x3, x4, x5, x6, x7, x8, x9, x10, x11, x12, x13, x14, x15, x16, x17, rfl, hA2, bag2⟩ ⟨rfl, -⟩
            have hj3 : j < 3 := hj
            refine ⟨fun σ Hy => ∃ (v1 v2 : Nat), σ = [some (.ref a), some (.int (i : Nat)), some (.ref b), some v, some (.int ((1 + v1 : Nat) : Int)), some (.int ((1 + v2 : Nat) : Int)), x6, x7, x8, x9, x10, x11, x12, x13, x14, x15, x16, x17, none, none] ∧ SqL K Hy a (ns.map V.int) ∧ BagAt Hy b (j * 20100 + 2) ∧ v1 < 4 ∧ v2 < 10, ?_, ?_⟩
            · refine ⟨_, rfl, b, 4, _, rfl, bag2, by decide, by decide, by omega, fun H3 v1 B3 bag3 hv1 => ⟨_, _, rfl, rfl, ?_⟩⟩
              refine ⟨_, rfl, b, 10, _, rfl, bag3, by decide, by decide, by omega, fun H4 v2 B4 bag4 hv2 => ⟨_, _, rfl, rfl, _, _, rfl, ?_⟩⟩
              exact ⟨v1, v2, rfl, sql_step (sql_step hA2 hab B3) hab B4, bag4, hv1, hv2⟩
            clear hA2 bag2
            rintro σ' H3 ⟨v1, v2, rfl, hA3, bag3, hv1, hv2⟩
            refine ⟨fun σ Hy => ∃ (f g : Nat) (pn : Addr), σ = [some (.ref a), some (.int (i : Nat)), some (.ref b), some v, some (.int ((1 + v1 : Nat) : Int)), some (.int ((1 + v2 : Nat) : Int)), some (.ref pn), x7, x8, x9, x10, x11, x12, x13, x14, x15, x16, x17, none, none] ∧ SqL K Hy a (ns.map V.int) ∧ BagAt Hy b (j * 20100 + 4) ∧ f < 8 ∧ g < 8 ∧ Hy pn = some (.tup [.int ((1 + v2 : Nat) : Int), .int ((1 + f : Nat) : Int), .int ((1 + g : Nat) : Int)]), ?_, ?_⟩
            · refine ⟨_, rfl, _, rfl, b, 8, _, rfl, bag3, by decide, by decide, by omega, fun H4 f B4 bag4 hf => ⟨_, _, rfl, rfl, ?_⟩⟩
              refine ⟨_, rfl, b, 8, _, rfl, bag4, by decide, by decide, by omega, fun H5 g B5 bag5 hg => ⟨_, _, rfl, rfl, by show 3 ≤ sizeLine; decide, fun pn npn => ?_⟩⟩
              exact ⟨f, g, pn, rfl, SqL.ext (sql_step (sql_step hA3 hab B4) hab B5) (sameN npn), bag5.same (sameN npn), hf, hg, upd_same⟩
            clear hA3 bag3
            rintro σ' H4 ⟨f, g, pn, rfl, hA4, bag4, hf, hg, hpn⟩
            refine ⟨fun σ Hy => ∃ (lh ls : Nat) (pl : Addr), σ = [some (.ref a), some (.int (i : Nat)), some (.ref b), some v, some (.int ((1 + v1 : Nat) : Int)), some (.int ((1 + v2 : Nat) : Int)), some (.ref pn), some (.ref pl), x8, x9, x10, x11, x12, x13, x14, x15, x16, x17, none, none] ∧ SqL K Hy a (ns.map V.int) ∧ BagAt Hy b (j * 20100 + 6) ∧ Hy pn = some (.tup [.int ((1 + v2 : Nat) : Int), .int ((1 + f : Nat) : Int), .int ((1 + g : Nat) : Int)]) ∧ Hy pl = some (.tup [.int ((1 + lh : Nat) : Int), .int ((1 + ls : Nat) : Int)]), ?_, ?_⟩
            · refine ⟨_, rfl, _, rfl, b, 1 + v2, _, rfl, bag4, by omega, by omega, by omega, fun H5 lh B5 bag5 hlh => ⟨_, _, rfl, rfl, ?_⟩⟩
              refine ⟨_, rfl, _, rfl, b, 1 + v2, _, rfl, bag5, by omega, by omega, by omega, fun H6 ls B6 bag6 hls => ⟨_, _, rfl, rfl, by show 2 ≤ sizeLine; decide, fun pl npl => ?_⟩⟩
              exact ⟨lh, ls, pl, rfl, SqL.ext (sql_step (sql_step hA4 hab B5) hab B6) (sameN npl), bag6.same (sameN npl), sameN npl _ _ (tup_but (tup_but hpn bag4 B5) bag5 B6), upd_same⟩
            clear hA4 bag4 hpn
            rintro σ' H5 ⟨lh, ls, pl, rfl, hA5, bag5, hpn, hpl⟩
            generalize hl : KX.LP.mk (1 + v2) (1 + f) (1 + g) (1 + lh) (1 + ls) (1 + v1 + 1) = l
            have hO : l.Ok := by
              rw [← hl]
              exact ⟨by show 1 ≤ 1 + v2; omega, by show 1 + v2 ≤ 10; omega, by show 1 ≤ 1 + f; omega, by show 1 + f ≤ 8; omega, by show 1 ≤ 1 + g; omega, by show 1 + g ≤ 8; omega, by show 1 + v1 + 1 ≤ 5; omega, by show 1 ≤ 1 + v1 + 1; omega⟩
            have hVE := KX.ve_count hO
            have hSh := KX.shows_count hO
            have ech : KX.cpH (1 + v2) (1 + lh) (1 + f) (1 + g) = l.ch := by rw [← hl]; rfl
            have ecs : KX.cpS (1 + v2) (1 + ls) (1 + f) (1 + g) = l.cs := by rw [← hl]; rfl
            have elm : l.m = (1 + v1) + 1 := by rw [← hl]
            have hpn' : H5 pn = some (.tup [.int l.bits, .int l.flag, .int l.gap]) := by rw [← hl]; exact hpn
            have hpl' : H5 pl = some (.tup [.int l.lh, .int l.ls]) := by rw [← hl]; exact hpl
            refine ⟨fun σ Hy => ∃ (y : Addr), σ = [some (.ref a), some (.int (i : Nat)), some (.ref b), some v, some (.int ((1 + v1 : Nat) : Int)), some (.int ((1 + v2 : Nat) : Int)), some (.ref pn), some (.ref pl), some (.ref y), x9, x10, x11, x12, x13, x14, x15, x16, x17, none, none] ∧ SqL K Hy a (ns.map V.int) ∧ BagAt Hy b (j * 20100 + 6) ∧ Hy pn = some (.tup [.int l.bits, .int l.flag, .int l.gap]) ∧ Hy pl = some (.tup [.int l.lh, .int l.ls]) ∧ EndAt E Hy y (KX.leastRows l.ch.hm 2) (KX.leastRows l.cs.sm 1), ?_, ?_⟩
            · refine ⟨_, rfl, _, rfl, pl, _, _, _, rfl, rfl, .inl (.inl hpl), atI_nat (j := 0) rfl, _, rfl, pl, _, _, _, rfl, rfl, .inl (.inl hpl), atI_nat (j := 1) rfl, _, rfl, pn, _, _, _, rfl, rfl, .inl (.inl hpn), atI_nat (j := 1) rfl, _, rfl, pn, _, _, _, rfl, rfl, .inl (.inl hpn), atI_nat (j := 2) rfl, rfl, rfl, ?_⟩
              refine ⟨1 + v2, 1 + lh, 1 + ls, 1 + f, 1 + g, rfl, ⟨by omega, by omega, by omega, by omega, by omega, by omega⟩, fun H6 y s6 hE => ?_⟩
              rw [ech, ecs] at hE
              exact ⟨y, rfl, SqL.ext hA5 s6, bag5.same s6, s6 _ _ hpn', s6 _ _ hpl', hE⟩
            clear hA5 bag5 hpn hpl hpn' hpl'
            rintro σ' H6 ⟨y, rfl, hA6, bag6, hpn, hpl, hE6⟩
            refine ⟨fun σ Hy => ∃ (pt : Addr) (D S : List KX.Ft) (T : Nat), σ = [some (.ref a), some (.int (i : Nat)), some (.ref b), some v, some (.int ((1 + v1 : Nat) : Int)), some (.int ((1 + v2 : Nat) : Int)), some (.ref pn), some (.ref pl), some (.ref y), some (.ref pt), x10, x11, x12, x13, x14, x15, x16, x17, none, none] ∧ SqL K Hy a (ns.map V.int) ∧ BagAt Hy b (j * 20100 + 20008) ∧ EndAt E Hy y (KX.leastRows l.ch.hm 2) (KX.leastRows l.cs.sm 1) ∧ Told l Hy pt D S T ∧ KX.Fair l.sys l.m (l.P0 D) D S T ∧ D.length + S.length ≤ 20000, ?_, ?_⟩
            · refine ⟨_, rfl, _, rfl, _, rfl, _, rfl, _, rfl, b, 4, _, rfl, bag6, by decide, by decide, by omega, fun H7 most B7 bag7 hmost => ?_⟩
              refine ⟨_, rfl, b, 2, _, rfl, bag7, by decide, by decide, by omega, fun H8 w0 B8 bag8 hw0 => ⟨rfl, ?_⟩⟩
              refine ⟨b, pn, pl, 1 + v1, most, _, _, l, rfl, hO, elm, tup_but (tup_but hpn bag6 B7) bag7 B8, tup_but (tup_but hpl bag6 B7) bag7 B8, bag8, by omega, by omega, fun H9 p D S T B9 bag9 told fair hlen => ?_⟩
              exact ⟨p, D, S, T, rfl, sql_step (sql_step (sql_step hA6 hab B7) hab B8) hab B9, bag9, ((hE6.but bag6 B7).but bag7 B8).but bag8 B9, told, fair, hlen⟩
            clear hA6 bag6 hpn hpl hE6
            rintro σ' H7 ⟨pt, D, S, T, rfl, hA7, bag7, hE7, ⟨pd, pq, pb, ps, ph, xs, hs, t1, t2, t3, t4, t5, t6, t7, t8, t9, t10⟩, fair, hlen⟩
            have fairB := KX.fair_B hO hVE hSh fair
            obtain ⟨se1, se2⟩ := KX.same_end hO hVE hSh fair
            generalize hrL : KX.runR l.sys l.m D S (l.P0 D) T = rL at t4 t7 t10 se1 se2
            generalize hrB : KX.runR (KX.sysB (KX.mcs (KX.leastRows l.ch.hm 2) (KX.leastRows l.cs.sm 1))) l.m D S (KX.P0B D) T = rB at se1 se2
            refine ⟨fun σ Hy => σ = [some (.ref a), some (.int (i : Nat)), some (.ref b), some v, some (.int ((1 + v1 : Nat) : Int)), some (.int ((1 + v2 : Nat) : Int)), some (.ref pn), some (.ref pl), some (.ref y), some (.ref pt), some (.ref pd), some (.ref pq), some (.ref pb), some (.ref ps), some (.ref ph), x15, x16, x17, none, none] ∧ Hy = H7, ?_, ?_⟩
            · exact ⟨_, rfl, pt, _, rfl, .inl (.inl t1), rfl, _, _, rfl, _, _, rfl, _, _, rfl, _, _, rfl, _, _, rfl, rfl, rfl, rfl⟩
            rintro σ' H7' ⟨rfl, rfl⟩
            refine ⟨fun σ Hy => ∃ (x : Addr), σ = [some (.ref a), some (.int (i : Nat)), some (.ref b), some v, some (.int ((1 + v1 : Nat) : Int)), some (.int ((1 + v2 : Nat) : Int)), some (.ref pn), some (.ref pl), some (.ref y), some (.ref pt), some (.ref pd), some (.ref pq), some (.ref pb), some (.ref ps), some (.ref ph), some (.ref x), x16, x17, none, none] ∧ Same H7' Hy ∧ SdAt W Hy x l.m rB, ?_, ?_⟩
            · refine ⟨_, rfl, _, rfl, _, rfl, _, rfl, rfl, rfl, ?_⟩
              refine ⟨y, 1 + v1, pd, pq, T, D, S, _, _, rfl, hE7, hVE, t2, t3, elm ▸ fairB, by omega, hlen, fun H8 x s8 hx => ?_⟩
              rw [← elm, hrB] at hx
              exact ⟨x, rfl, s8, hx⟩
            rintro σ' H8 ⟨x, rfl, s8, hx⟩
            have hTl : rB.bits.length = T := by rw [← hrB]; exact KX.runR_len D S (KX.P0B D) T
            have hpb8 := s8 _ _ t4
            have hps8 := s8 _ _ t5
            have hph8 := s8 _ _ t8
            rw [se1] at hpb8
            obtain ⟨dx, p1, p2, p3, es, x1, x2, x3, x4, x5, x6⟩ := id hx.ex
            refine ⟨fun σ Hy => σ = [some (.ref a), some (.int (i : Nat)), some (.ref b), some v, some (.int ((1 + v1 : Nat) : Int)), some (.int ((1 + v2 : Nat) : Int)), some (.ref pn), some (.ref pl), some (.ref y), some (.ref pt), some (.ref pd), some (.ref pq), some (.ref pb), some (.ref ps), some (.ref ph), some (.ref x), x16, x17, none, none] ∧ Same H8 Hy, ?_, ?_⟩
            · refine ⟨_, rfl, x, dx, _, rfl, x1, x, l.m, rB, rfl, hx, fun pl1 hpl1 => ⟨_, rfl, pb, _, rfl, .inl ⟨.inl (.inl hpb8), fun t nt => ?_⟩⟩⟩
              have g1 : Same H8 (upd H8 t (.tup (rB.bits.map bV))) := sameN nt
              refine ⟨.tuple (rB.bits.map bD), .tuple (rB.bits.map bD), .tup (.inl (.inl (g1 _ _ hpl1))) (dp_bits _), .tup (.inl (.inl upd_same)) (dp_bits _), (gd_bits _).sh (by decide), (gd_bits _).sh (by decide), _, rfl, ?_⟩
              rw [SeqAt.eqv_refl _ (gd_bits _).c]
              refine iteF ?_
              generalize upd H8 t (.tup (rB.bits.map bV)) = H9 at g1
              refine ⟨_, rfl, x, dx, _, rfl, g1 _ _ x1, x, l.m, rB, rfl, hx.same g1, fun pl2 hpl2 => ⟨_, rfl, ps, _, rfl, .inl ⟨.inl (.inl (g1 _ _ hps8)), fun t' nt' => ?_⟩⟩⟩
              have g2 : Same H9 (upd H9 t' (.tup xs)) := sameN nt'
              have gdw : Gd (.tuple ((List.range l.m).map fun k => wordD (KX.wordB (rB.P k)))) 1 := .tup fun d hd => by
                obtain ⟨k, hk, rfl⟩ := List.mem_map.mp hd
                have hkm := List.mem_range.mp hk
                rw [← (se2 k hkm).2.1]
                have hok := KX.run_ok hO (D := D) (Q := S) (fun k => KX.P0_ok hO fair.d0 k) T k
                rw [hrL] at hok
                have hnl := (se2 k hkm).2.2.1
                generalize rL.P k = st at hok hnl
                cases st with
                | sil => exact .non
                | wd w0 =>
                  have := gd_sta hO hok
                  exact ⟨this.c, Nat.le_refl _⟩
                | en n => cases hnl
                | fl n z => cases hnl
                | gp n z => cases hnl
              refine ⟨.tuple ((List.range l.m).map fun k => wordD (KX.wordB (rB.P k))), .tuple ((List.range l.m).map fun k => wordD (KX.wordB (rB.P k))), .tup (.inl (.inl (g2 _ _ hpl2))) (dp_list (by unfold stateV; rw [List.length_map, List.length_map]) fun k v d e1 e2 => ?_), .tup (.inl (.inl upd_same)) (dp_list (by rw [List.length_map, List.length_range]; exact t6) fun k v d e1 e2 => ?_), gdw.sh (by decide), gdw.sh (by decide), _, rfl, ?_⟩
              · have hkm : k < l.m := by
                  have := (List.getElem?_eq_some_iff.mp e1).1
                  unfold stateV at this
                  rw [List.length_map, List.length_range] at this
                  exact this
                unfold stateV at e1
                rw [List.getElem?_map, List.getElem?_range hkm] at e1 e2
                cases (Option.some.inj e1)
                cases (Option.some.inj e2)
                exact dp_wordB (se2 k hkm).2.2.2
              · have hkm : k < l.m := by
                  have := (List.getElem?_eq_some_iff.mp e1).1
                  omega
                rw [List.getElem?_map, List.getElem?_range hkm] at e2
                cases (Option.some.inj e2)
                show Dp _ _ v (wordD (KX.wordB (rB.P k)))
                rw [← (se2 k hkm).2.1]
                exact dp_wordL (((t7 k v e1).same s8).same (fun b o h => g2 b o (g1 b o h))) (se2 k hkm).2.2.1
              · rw [SeqAt.eqv_refl _ gdw.c]
                exact iteF ⟨rfl, fun b o h => g2 b o (g1 b o h)⟩
            rintro σ' H9 ⟨rfl, s9⟩
            refine ⟨fun σ Hy => σ = [some (.ref a), some (.int (i : Nat)), some (.ref b), some v, some (.int ((1 + v1 : Nat) : Int)), some (.int ((1 + v2 : Nat) : Int)), some (.ref pn), some (.ref pl), some (.ref y), some (.ref pt), some (.ref pd), some (.ref pq), some (.ref pb), some (.ref ps), some (.ref ph), some (.ref x), x16, x17, none, none] ∧ Same H8 Hy, ?_, ?_⟩
            · refine ⟨_, rfl, _, _, rfl, rfl, _, rfl, by omega, by omega, fun D1 nD1 => ?_⟩
              have b1 : (((1 + v1 : Nat) : Int) + 1).toNat = l.m := by omega
              rw [b1]
              refine lc_it walk_range (fun i Hq => Same H9 Hq ∧ ∃ qs : List Addr, qs.length = i ∧ Hq D1 = some (.lst (qs.map V.ref)) ∧ ∀ k p, qs[k]? = some p → Hq p = some (.tup ((rB.ears k).map bV))) ⟨sameN nD1, [], rfl, upd_same, fun k p e => by simp at e⟩ (fun _ _ _ _ => True.intro) ?_ ?_
              · rintro i z Hq_ Hq hi ⟨s10, qs, e1, e2, e3⟩ ⟨rfl, ez⟩
                have hi' : i < l.m := hi
                have ez2 : z = .int (i : Int) := ez.trans (congrArg V.int (show (0 : Int) + (i : Nat) = (i : Int) by omega))
                subst ez2
                have s90 := s9.trans s10
                have hges : es[i]? = some (es[i]'(by omega)) := List.getElem?_eq_getElem (by omega)
                refine ⟨rfl, tyes ⟨_, rfl, x, dx, _, rfl, s90 _ _ x1, rfl, _, rfl, x, l.m, i, rB, rfl, hx.same s90, hi', fun p hp => ?_⟩⟩
                refine ⟨qs.map V.ref, e2, small_len (n := 10) (by rw [List.length_map]; have := hO.m2; omega), sameU s10 nD1, qs ++ [p], by rw [List.length_append, e1]; rfl, by rw [upd_same, List.map_append]; rfl, fun k p' hp' => ?_⟩
                by_cases hk : k < qs.length
                · rw [List.getElem?_append_left hk] at hp'
                  have h3 := e3 k p' hp'
                  rw [upd_ne (ne_of h3 e2 (by intro z; cases z))]
                  exact h3
                · have hk2 : k = qs.length := by
                    have := (List.getElem?_eq_some_iff.mp hp').1
                    rw [List.length_append] at this
                    simp at this
                    omega
                  subst hk2
                  have hpp : p' = p := by simpa using hp'.symm
                  subst hpp
                  rw [upd_ne (ne_of hp e2 (by intro z; cases z)), e1]
                  exact hp
              · rintro Hq ⟨s10, qs, e1, e2, e3⟩
                have hphq := s10 _ _ (s9 _ _ hph8)
                refine ⟨_, rfl, ph, rfl, ⟨_, .inl (.inl hphq)⟩, fun D2 nD2 => ?_⟩
                refine lc_it walk_list (fun i H3 => Same Hq H3 ∧ ∃ ts : List Addr, ts.length = i ∧ H3 D2 = some (.lst (ts.map V.ref)) ∧ ∀ k y, ts[k]? = some y → H3 y = some (.tup ((rB.ears k).map bV))) ⟨sameN nD2, [], rfl, upd_same, fun k y e => by simp at e⟩ (fun i H3 _ p => .inl (.inl (p.1 _ _ hphq))) ?_ ?_
                · rintro i v0 H3_ H3 hi ⟨s3, ts, f1, f2, f3⟩ ⟨rfl, ev⟩
                  have hi' : i < hs.length := by simpa using hi
                  have hg : hs[i]? = some hs[i] := List.getElem?_eq_getElem hi'
                  have ev2 : v0 = .ref hs[i] := by
                    rw [List.getElem?_map, hg] at ev
                    exact (Option.some.inj ev).symm
                  subst ev2
                  have hei0 := t10 i _ hg
                  rw [(se2 i (by omega)).1] at hei0
                  have hei := s3 _ _ (s10 _ _ (s9 _ _ (s8 _ _ hei0)))
                  refine ⟨rfl, tyes ⟨_, rfl, hs[i], _, rfl, .inl ⟨.inl (.inl hei), fun z nz => ⟨_, (upd_ne (ne_of_none f2 nz)).trans f2, small_len (n := 10) (by rw [List.length_map]; have := hO.m2; omega), sameU (sameN2 s3 nz) nD2, ts ++ [z], by rw [List.length_append, f1]; rfl, by rw [upd_same, List.map_append]; rfl, fun k y0 hy => ?_⟩⟩⟩⟩
                  have hzD : z ≠ D2 := ne_of_none' nz f2
                  by_cases hk : k < ts.length
                  · rw [List.getElem?_append_left hk] at hy
                    have h3 := f3 k y0 hy
                    rw [upd_ne (ne_of h3 f2 (by intro z; cases z)), upd_ne (ne_of_none h3 nz)]
                    exact h3
                  · have hk2 : k = ts.length := by
                      have := (List.getElem?_eq_some_iff.mp hy).1
                      rw [List.length_append] at this
                      simp at this
                      omega
                    subst hk2
                    have hyz : y0 = z := by simpa using hy.symm
                    subst hyz
                    rw [upd_ne hzD, upd_same, f1]
                · rintro H3 ⟨s3, ts, f1, f2, f3⟩
                  rw [List.length_map, t9] at f1
                  have gde : Gd (.list ((List.range l.m).map fun k => .tuple ((rB.ears k).map bD))) 2 := .lst fun d hd => by
                    obtain ⟨k, _, rfl⟩ := List.mem_map.mp hd
                    exact gd_bits _
                  have dpe : ∀ {as : List Addr}, as.length = l.m → (∀ k p, as[k]? = some p → H3 p = some (.tup ((rB.ears k).map bV))) → DpAll K H3 (as.map V.ref) ((List.range l.m).map fun k => .tuple ((rB.ears k).map bD)) := fun {as} hl ha' => dp_list (by rw [List.length_map, List.length_map, List.length_range]; exact hl) fun k v0 d h1 h2 => by
                    rw [List.getElem?_map] at h1
                    cases e5 : as[k]? with
                    | none => rw [e5] at h1; cases h1
                    | some p =>
                      rw [e5] at h1
                      cases (Option.some.inj h1)
                      have hkm : k < l.m := by
                        have := (List.getElem?_eq_some_iff.mp e5).1
                        omega
                      rw [List.getElem?_map, List.getElem?_range hkm] at h2
                      cases (Option.some.inj h2)
                      exact .tup (.inl (.inl (ha' k p e5))) (dp_bits _)
                  refine ⟨.list ((List.range l.m).map fun k => .tuple ((rB.ears k).map bD)), .list ((List.range l.m).map fun k => .tuple ((rB.ears k).map bD)), .lst (.inl (.inl (s3 _ _ e2))) (dpe e1 fun k p hp => s3 _ _ (e3 k p hp)), .lst (.inl (.inl f2)) (dpe f1 f3), gde.sh (by decide), gde.sh (by decide), _, rfl, ?_⟩
                  rw [SeqAt.eqv_refl _ gde.c]
                  exact iteF ⟨rfl, fun b o h => s3 b o (s10 b o (s9 b o h))⟩
            rintro σ' H10 ⟨rfl, s10⟩
            have hE10 : EndAt E H10 y (KX.leastRows l.ch.hm 2) (KX.leastRows l.cs.sm 1) := (hE7.same s8).same s10
            obtain ⟨dy, q1, q2, q3, g1, g2, g3⟩ := id hE10
            refine ⟨_, rfl, y, _, _, rfl, hE10, hVE, fun H11 z s11 hE11 => ?_⟩
            obtain ⟨dz, w1, w2, w3, k1, k2, k3⟩ := id hE11
            have hV0 := KX.count_ve hO.h hO.s rfl rfl rfl rfl
            refine ⟨_, rfl, z, y, dz, dy, _, _, rfl, rfl, k1, s11 _ _ g1, least_same hV0 hE11 (hE10.same s11), fun H12 s12 => ⟨_, rfl, iteF ?_⟩⟩
            have sA : Same H8 H12 := fun b o h => s12 b o (s11 b o (s10 b o h))
            have hsm := fair.small
            refine ⟨_, rfl, x, dx, _, rfl, sA _ _ x1, x, l.m, rB, rfl, hx.same sA, rB.bits.length, rfl, by omega, ?_⟩
            refine ⟨_, rfl, pb, _, rfl, .inl (.inl (.inl (sA _ _ hpb8))), rfl, _, rfl, ?_⟩
            refine onF (by rw [List.length_map]; simp) ?_
            have s7z : Same H7' H12 := s8.trans sA
            exact ⟨_, _, _, _, _, _, _, _, _, _, _, _, _, _, _, rfl, SqL.ext hA7 s7z, (bag7.same s7z).mono (by rw [Nat.succ_mul]; omega)⟩
          · rintro σ Hy ⟨x3, x4, x5, x6, x7, x8, x9, x10, x11, x12, x13, x14, x15, x16, x17, rfl, hA2, bag2⟩
            exact ⟨_, _, _, _, _, _, _, _, _, _, _, _, _, _, _, rfl, hA2, bag2.mono (by show 3 * 20100 ≤ 70000; decide)⟩
        rintro σ' Hy ⟨x3, x4, x5, x6, x7, x8, x9, x10, x11, x12, x13, x14, x15, x16, x17, rfl, hA2, bag2⟩
        -- a voting end
        refine ⟨fun σ Hz => ∃ (v1 v2 : Nat), σ = [some (.ref a), some (.int (i : Nat)), some (.ref b), x3, some (.int ((1 + v1 : Nat) : Int)), x5, x6, x7, x8, x9, x10, x11, x12, x13, x14, x15, some (.int ((1 + v2 : Nat) : Int)), x17, none, none] ∧ SqL K Hz a (ns.map V.int) ∧ BagAt Hz b 70010 ∧ v1 < 6 ∧ v2 < 3, ?_, ?_⟩
        · refine ⟨_, rfl, b, 6, _, rfl, bag2, by decide, by decide, by decide, fun H3 v1 B3 bag3 hv1 => ⟨_, _, rfl, rfl, ?_⟩⟩
          refine ⟨_, rfl, b, 3, _, rfl, bag3, by decide, by decide, by decide, fun H4 v2 B4 bag4 hv2 => ⟨_, _, rfl, rfl, _, _, rfl, ?_⟩⟩
          exact ⟨v1, v2, rfl, sql_step (sql_step hA2 hab B3) hab B4, bag4.mono (by decide), hv1, hv2⟩
        rintro σ' H3 ⟨v1, v2, rfl, hA3, bag3, hv1, hv2⟩
        refine ⟨fun σ Hz => ∃ (y : Addr) (Mh Ms : KX.Mc), σ = [some (.ref a), some (.int (i : Nat)), some (.ref b), x3, some (.int ((1 + v1 : Nat) : Int)), x5, x6, x7, some (.ref y), x9, x10, x11, x12, x13, x14, x15, some (.int ((1 + v2 : Nat) : Int)), x17, none, none] ∧ SqL K Hz a (ns.map V.int) ∧ EndAt E Hz y (KX.leastRows Mh 2) (KX.leastRows Ms 1) ∧ KX.VE Mh Ms, ?_, ?_⟩
        · refine ⟨_, rfl, _, rfl, _, rfl, b, 1 + v1, _, rfl, bag3, by omega, by omega, by decide, fun H4 v3 B4 bag4 hv3 => ⟨_, _, rfl, rfl, _, rfl, rfl, rfl, ?_⟩⟩
          have hok : (vpH (1 + v1) (1 + v3) (1 + v2)).Ok := ⟨by show 1 ≤ 1 + v1; omega, by show 1 + v1 ≤ 6; omega, by show 1 ≤ 1 + v3; omega, by show 1 + v3 ≤ 1 + v1; omega, by show 1 ≤ 1 + v2; omega, by show 1 + v2 ≤ 3; omega⟩
          have hokS : (vpS (1 + v1) (1 + v3) (1 + v2)).Ok := ⟨hok.v1, hok.v2, hok.n1, hok.n2, hok.r1, hok.r2⟩
          exact ⟨1 + v1, 1 + v3, 1 + v2, rfl, hok, fun H5 y s5 hE => ⟨y, _, _, rfl, SqL.ext (sql_step hA3 hab B4) s5, hE, KX.vote_ve hok hokS rfl rfl rfl rfl⟩⟩
        rintro σ' H4 ⟨y, Mh, Ms, rfl, hA4, hE4, hV4⟩
        obtain ⟨dy, q1, q2, q3, g1, g2, g3⟩ := id hE4
        refine ⟨_, rfl, y, _, _, rfl, hE4, hV4.least, fun H5 z s5 hE5 => ?_⟩
        obtain ⟨dz, w1, w2, w3, k1, k2, k3⟩ := id hE5
        refine ⟨_, rfl, z, y, dz, dy, _, _, rfl, rfl, k1, s5 _ _ g1, least_same hV4 hE5 (hE4.same s5), fun H6 s6 => ⟨_, rfl, iteF ?_⟩⟩
        exact ⟨_, _, _, _, _, _, _, _, _, _, _, _, _, _, _, _, _, rfl, SqL.ext hA4 (fun b o e => s6 b o (s5 b o e))⟩
      · rintro σ Hz ⟨x1, x2, x3, x4, x5, x6, x7, x8, x9, x10, x11, x12, x13, x14, x15, x16, x17, rfl, hA⟩
        exact ⟨_, _, _, _, _, _, _, _, _, _, _, _, _, _, _, _, _, rfl, hA⟩
    rintro σ' Hz ⟨x1, x2, x3, x4, x5, x6, x7, x8, x9, x10, x11, x12, x13, x14, x15, x16, x17, rfl, hA⟩
    refine ⟨by show 1 ≤ sizeLine; decide, fun pt npt => ?_⟩
    refine ⟨_, rfl, .inl ⟨rfl, _, .inl (.inl upd_same)⟩, pt, _, _, rfl, rfl, upd_same, by show 1 < sizeLine; decide, ?_⟩
    have hpt : (upd (upd Hz pt (.lst [.str "1 lost taken, 0 lost lost | 1 again done"])) pt (.lst ([V.str "1 lost taken, 0 lost lost | 1 again done"] ++ [.str "1 2 3, 0 4 4, 1 lost taken, 1 taken taken, 0 lost lost | 1 1 2, 1 again done, 1 done done"]))) pt = some (.lst [.str txt1, .str txt2]) := upd_same
    generalize upd (upd Hz pt (.lst [.str "1 lost taken, 0 lost lost | 1 again done"])) pt (.lst ([V.str "1 lost taken, 0 lost lost | 1 again done"] ++ [.str "1 2 3, 0 4 4, 1 lost taken, 1 taken taken, 0 lost lost | 1 1 2, 1 again done, 1 done done"])) = H2 at hpt
    refine ⟨fun _ _ => True, ?_, fun σ' H3 _ => ?_⟩
    · refine ⟨2, rfl, by decide, by decide, ?_⟩
      refine for_it walk_range (fun i σ Hy => (∃ x4 : Option V, σ = [some (.ref a), x1, x2, x3, x4, x5, x6, x7, x8, x9, x10, x11, x12, x13, x14, x15, x16, some (.ref pt), none, none]) ∧ Hy pt = some (.lst [.str txt1, .str txt2])) ⟨⟨_, rfl⟩, hpt⟩ (fun _ _ _ _ _ => True.intro) ?_ (fun _ _ _ => True.intro)
      rintro i v σ Hy_ Hy hi ⟨⟨y4, rfl⟩, hy⟩ ⟨rfl, ex⟩
      have hi2 : i < 2 := hi
      have ex2 : v = .int (i : Int) := ex.trans (congrArg V.int (show (0 : Int) + (i : Nat) = (i : Int) by omega))
      subst ex2
      have hok : (vpH (i + 1) (i + 1) 1).Ok := ⟨by show 1 ≤ i + 1; omega, by show i + 1 ≤ 6; omega, by show 1 ≤ i + 1; omega, by show i + 1 ≤ i + 1; omega, by show 1 ≤ 1; omega, by show 1 ≤ 3; omega⟩
      have hokS : (vpS (i + 1) (i + 1) 1).Ok := ⟨hok.v1, hok.v2, hok.n1, hok.n2, hok.r1, hok.r2⟩
      have hV := (KX.vote_ve hok hokS rfl rfl rfl rfl).least
      refine ⟨_, rfl, _, _, rfl, rfl, _, rfl, _, _, rfl, rfl, rfl, rfl, i + 1, i + 1, 1, rfl, hok, fun H3 y s3 hE => ?_⟩
      obtain ⟨dy, w1, w2, w3, k1, k2, k3⟩ := id hE
      have htx : EndTx (KX.leastRows (vpH (i + 1) (i + 1) 1).hm 2) (KX.leastRows (vpS (i + 1) (i + 1) 1).sm 1) ∧ ∃ tx, [V.str txt1, V.str txt2][i]? = some (.str tx) ∧ endT (KX.leastRows (vpH (i + 1) (i + 1) 1).hm 2) (KX.leastRows (vpS (i + 1) (i + 1) 1).sm 1) = tx := by
        rcases (show i = 0 ∨ i = 1 by omega) with rfl | rfl
        · exact ⟨end_tx1, _, rfl, end_txt1⟩
        · exact ⟨end_tx2, _, rfl, end_txt2⟩
      obtain ⟨tx1, tx, e1, e2⟩ := htx
      refine ⟨y, dy, _, rfl, k1, y, _, _, rfl, hE, hV, tx1.h, tx1.s, tx1.l, fun H4 s4 => ⟨_, rfl, ?_⟩⟩
      have hy4 := s4 _ _ (s3 _ _ hy)
      refine ⟨_, rfl, _, rfl, pt, _, _, _, rfl, rfl, .inl (.inl hy4), atI_nat e1, rfl, _, rfl, ?_⟩
      refine onF (by rw [e2]; simp) ⟨⟨_, rfl⟩, hy4⟩
    · have v0 := KX.count_ve (KX.cpH_ok (limit := 6) (show 1 ≤ 7 by decide) (by decide) (show 1 ≤ 6 by decide) (by decide) (show 1 ≤ 8 by decide) (by decide)) (KX.cpS_ok (limit := 7) (show 1 ≤ 7 by decide) (by decide) (show 1 ≤ 6 by decide) (by decide) (show 1 ≤ 8 by decide) (by decide)) rfl rfl rfl rfl
      refine ⟨rfl, fun H4 y s4 hE4 => ⟨y, _, _, rfl, hE4, v0.least, fun H5 z s5 hE5 => ⟨rfl, fun H6 y6 s6 hE6 => ?_⟩⟩⟩
      obtain ⟨dz, w1, w2, w3, k1, k2, k3⟩ := id (hE5.same s6)
      obtain ⟨dy, u1, u2, u3, g1, g2, g3⟩ := id hE6
      exact ⟨z, y6, dz, dy, _, _, rfl, rfl, k1, g1, least_same v0 (hE5.same s6) hE6, fun H' _ => q H'⟩
end
end SB
end
section
set_option maxRecDepth 100000
set_option maxHeartbeats 4000000
/-! The join. -/
namespace SB
open PySem PySem.Spec PyProof.Rows L2
theorem all_mk {l : PySem.W.OpenLaw} {w : World} {K : PySem.W.Frag} {h : Heap} {mg : Str → Option Value} {fa E U W Tw : Addr} (X : K.In h) (G : h.Ns mainGlobals mg) (hfa : mg "law" = some (.ref fa))
    {f_isInt f_isBit f_isNext f_isRow f_chk f_wds f_einit f_hear p_hear f_send p_send f_eeq f_mtx f_estr f_kat f_kof f_lrows f_lst f_num f_flr f_enr f_cnt D_cnt f_std f_vor f_vot D_vot f_uinit f_isg f_gng f_rof f_sta f_stp f_sfl f_wbd f_dfl f_run f_winit f_lin p_lin f_wrd p_wrd f_hrd f_wlen f_snd D_snd f_bag f_tak f_nxt f_lsn f_law A_HEARER_WORDS A_SENDER_WORDS : Addr}
    {od_isInt an_isInt od_isBit an_isBit od_isNext an_isNext od_isRow an_isRow od_chk an_chk od_wds an_wds od_einit an_einit od_hear an_hear od_send an_send od_eeq an_eeq od_mtx an_mtx od_estr an_estr od_kat an_kat od_kof an_kof od_lrows an_lrows od_lst an_lst od_num an_num od_flr an_flr od_enr an_enr od_cnt an_cnt od_std an_std od_vor an_vor od_vot an_vot od_uinit an_uinit od_isg an_isg od_gng an_gng od_rof an_rof od_sta an_sta od_stp an_stp od_sfl an_sfl od_wbd an_wbd od_dfl an_dfl od_run an_run od_winit an_winit od_lin an_lin od_wrd an_wrd od_hrd an_hrd od_wlen an_wlen od_snd an_snd od_bag an_bag od_tak an_tak od_nxt an_nxt od_lsn an_lsn od_law an_law od_HEARER_WORDS od_SENDER_WORDS : Option Addr}
    {sl_isInt sl_isBit sl_isNext sl_isRow sl_chk sl_wds sl_einit sl_hear sl_send sl_eeq sl_mtx sl_estr sl_kat sl_kof sl_lrows sl_lst sl_num sl_flr sl_enr sl_cnt sl_std sl_vor sl_vot sl_uinit sl_isg sl_gng sl_rof sl_sta sl_stp sl_sfl sl_wbd sl_dfl sl_run sl_winit sl_lin sl_wrd sl_hrd sl_wlen sl_snd sl_bag sl_tak sl_nxt sl_lsn sl_law sl_HEARER_WORDS sl_SENDER_WORDS : Array (Option Value)}
    {oc_isInt kV_isInt dc_isInt pm_isInt cd_isInt ct_isInt oc_isBit kV_isBit dc_isBit pm_isBit cd_isBit ct_isBit oc_isNext kV_isNext dc_isNext pm_isNext cd_isNext ct_isNext oc_isRow kV_isRow dc_isRow pm_isRow cd_isRow ct_isRow oc_chk kV_chk dc_chk pm_chk cd_chk ct_chk oc_wds kV_wds dc_wds pm_wds cd_wds ct_wds oc_einit kV_einit dc_einit pm_einit cd_einit ct_einit oc_hear kV_hear dc_hear pm_hear cd_hear ct_hear oc_send kV_send dc_send pm_send cd_send ct_send oc_eeq kV_eeq dc_eeq pm_eeq cd_eeq ct_eeq oc_mtx kV_mtx dc_mtx pm_mtx cd_mtx ct_mtx oc_estr kV_estr dc_estr pm_estr cd_estr ct_estr oc_kat kV_kat dc_kat pm_kat cd_kat ct_kat oc_kof kV_kof dc_kof pm_kof cd_kof ct_kof oc_lrows kV_lrows dc_lrows pm_lrows cd_lrows ct_lrows oc_lst kV_lst dc_lst pm_lst cd_lst ct_lst oc_num kV_num dc_num pm_num cd_num ct_num oc_flr kV_flr dc_flr pm_flr cd_flr ct_flr oc_enr kV_enr dc_enr pm_enr cd_enr ct_enr oc_cnt dc_cnt pm_cnt cd_cnt ct_cnt oc_std kV_std dc_std pm_std cd_std ct_std oc_vor kV_vor dc_vor pm_vor cd_vor ct_vor oc_vot dc_vot pm_vot cd_vot ct_vot oc_uinit kV_uinit dc_uinit pm_uinit cd_uinit ct_uinit oc_isg kV_isg dc_isg pm_isg cd_isg ct_isg oc_gng kV_gng dc_gng pm_gng cd_gng ct_gng oc_rof kV_rof dc_rof pm_rof cd_rof ct_rof oc_sta kV_sta dc_sta pm_sta cd_sta ct_sta oc_stp kV_stp dc_stp pm_stp cd_stp ct_stp oc_sfl kV_sfl dc_sfl pm_sfl cd_sfl ct_sfl oc_wbd kV_wbd dc_wbd pm_wbd cd_wbd ct_wbd oc_dfl kV_dfl dc_dfl pm_dfl cd_dfl ct_dfl oc_run kV_run dc_run pm_run cd_run ct_run oc_winit kV_winit dc_winit pm_winit cd_winit ct_winit oc_lin kV_lin dc_lin pm_lin cd_lin ct_lin oc_wrd kV_wrd dc_wrd pm_wrd cd_wrd ct_wrd oc_hrd kV_hrd dc_hrd pm_hrd cd_hrd ct_hrd oc_wlen kV_wlen dc_wlen pm_wlen cd_wlen ct_wlen oc_snd dc_snd pm_snd cd_snd ct_snd oc_bag kV_bag dc_bag pm_bag cd_bag ct_bag oc_tak kV_tak dc_tak pm_tak cd_tak ct_tak oc_nxt kV_nxt dc_nxt pm_nxt cd_nxt ct_nxt oc_lsn kV_lsn dc_lsn pm_lsn cd_lsn ct_lsn oc_law kV_law dc_law pm_law cd_law ct_law : Value}
    {r_hear r_send r_lin r_wrd : List Value} {n_HEARER_WORDS n_SENDER_WORDS : Nat}
    {w_cnt0t w_cnt1t w_vot0t t_WEAK t_MOST_BIT t_most t_HEARER t_SENDER t0_HEARER_WORDS t1_HEARER_WORDS t0_SENDER_WORDS t1_SENDER_WORDS : Tok}
    (aE : PySem.W.nsIn K mainGlobals "End" = some (some (.ref E)))
    (pgE : PySem.W.plainGet K E Str.empty = true)
    (hdE : PySem.W.hasDictIn K E = true)
    (poE : PySem.W.plainOver K E = true)
    (saE : PySem.W.findIn K (.ref E) "__setattr__" = some (some (.builtin "object.__setattr__")))
    (mkE : PySem.W.makesIn K E = true)
    (kcE : PySem.W.keepIn K (.ref E) = true)
    (aU : PySem.W.nsIn K mainGlobals "Course" = some (some (.ref U)))
    (pgU : PySem.W.plainGet K U Str.empty = true)
    (hdU : PySem.W.hasDictIn K U = true)
    (poU : PySem.W.plainOver K U = true)
    (saU : PySem.W.findIn K (.ref U) "__setattr__" = some (some (.builtin "object.__setattr__")))
    (mkU : PySem.W.makesIn K U = true)
    (kcU : PySem.W.keepIn K (.ref U) = true)
    (aW : PySem.W.nsIn K mainGlobals "Sending" = some (some (.ref W)))
    (pgW : PySem.W.plainGet K W Str.empty = true)
    (hdW : PySem.W.hasDictIn K W = true)
    (poW : PySem.W.plainOver K W = true)
    (saW : PySem.W.findIn K (.ref W) "__setattr__" = some (some (.builtin "object.__setattr__")))
    (mkW : PySem.W.makesIn K W = true)
    (kcW : PySem.W.keepIn K (.ref W) = true)
    (a_isInt : PySem.W.nsIn K mainGlobals "is_integer" = some (some (.ref f_isInt)))
    (l_isInt : K.lookup f_isInt = some ⟨oc_isInt, od_isInt, .func (PySem.W.fnOf "is_integer" "is_integer" (defArgs s_is_integer) (defBody s_is_integer) (defScope s_is_integer) .none kV_isInt dc_isInt pm_isInt an_isInt cd_isInt ct_isInt), sl_isInt⟩)
    (c_isInt : PySem.W.codeIn K cd_isInt "is_integer" = true)
    (k_isInt : PySem.W.keepIn K (.ref f_isInt) = true)
    (a_isBit : PySem.W.nsIn K mainGlobals "is_bit" = some (some (.ref f_isBit)))
    (l_isBit : K.lookup f_isBit = some ⟨oc_isBit, od_isBit, .func (PySem.W.fnOf "is_bit" "is_bit" (defArgs s_is_bit) (defBody s_is_bit) (defScope s_is_bit) .none kV_isBit dc_isBit pm_isBit an_isBit cd_isBit ct_isBit), sl_isBit⟩)
    (c_isBit : PySem.W.codeIn K cd_isBit "is_bit" = true)
    (k_isBit : PySem.W.keepIn K (.ref f_isBit) = true)
    (a_isNext : PySem.W.nsIn K mainGlobals "is_next" = some (some (.ref f_isNext)))
    (l_isNext : K.lookup f_isNext = some ⟨oc_isNext, od_isNext, .func (PySem.W.fnOf "is_next" "is_next" (defArgs s_is_next) (defBody s_is_next) (defScope s_is_next) .none kV_isNext dc_isNext pm_isNext an_isNext cd_isNext ct_isNext), sl_isNext⟩)
    (c_isNext : PySem.W.codeIn K cd_isNext "is_next" = true)
    (k_isNext : PySem.W.keepIn K (.ref f_isNext) = true)
    (a_isRow : PySem.W.nsIn K mainGlobals "is_row_of" = some (some (.ref f_isRow)))
    (l_isRow : K.lookup f_isRow = some ⟨oc_isRow, od_isRow, .func (PySem.W.fnOf "is_row_of" "is_row_of" (defArgs s_is_row_of) (defBody s_is_row_of) (defScope s_is_row_of) .none kV_isRow dc_isRow pm_isRow an_isRow cd_isRow ct_isRow), sl_isRow⟩)
    (c_isRow : PySem.W.codeIn K cd_isRow "is_row_of" = true)
    (k_isRow : PySem.W.keepIn K (.ref f_isRow) = true)
    (a_chk : PySem.W.nsIn K mainGlobals "checked_rows" = some (some (.ref f_chk)))
    (l_chk : K.lookup f_chk = some ⟨oc_chk, od_chk, .func (PySem.W.fnOf "checked_rows" "checked_rows" (defArgs s_checked_rows) (defBody s_checked_rows) (defScope s_checked_rows) .none kV_chk dc_chk pm_chk an_chk cd_chk ct_chk), sl_chk⟩)
    (c_chk : PySem.W.codeIn K cd_chk "checked_rows" = true)
    (k_chk : PySem.W.keepIn K (.ref f_chk) = true)
    (a_wds : PySem.W.nsIn K mainGlobals "words_from" = some (some (.ref f_wds)))
    (l_wds : K.lookup f_wds = some ⟨oc_wds, od_wds, .func (PySem.W.fnOf "words_from" "words_from" (defArgs s_words_from) (defBody s_words_from) (defScope s_words_from) .none kV_wds dc_wds pm_wds an_wds cd_wds ct_wds), sl_wds⟩)
    (c_wds : PySem.W.codeIn K cd_wds "words_from" = true)
    (k_wds : PySem.W.keepIn K (.ref f_wds) = true)
    (a_einit : PySem.W.findIn K (.ref E) "__init__" = some (some (.ref f_einit)))
    (i_einit : PySem.W.isFn K (.ref f_einit) = true)
    (l_einit : K.lookup f_einit = some ⟨oc_einit, od_einit, .func (PySem.W.fnOf "__init__" "End.__init__" (defArgs s_end_init) (defBody s_end_init) (defScope s_end_init) .none kV_einit dc_einit pm_einit an_einit cd_einit ct_einit), sl_einit⟩)
    (c_einit : PySem.W.codeIn K cd_einit "End.__init__" = true)
    (k_einit : PySem.W.keepIn K (.ref f_einit) = true)
    (a_hear : PySem.W.findIn K (.ref E) "hearer" = some (some (.ref p_hear)))
    (g_hear : PySem.W.specialIn K (.ref p_hear) "__get__" = some (some (.builtin "property.__get__")))
    (t_hear : PySem.W.takesIn K (.ref p_hear) = some true)
    (r_hearh : PySem.W.recIn K p_hear "property" = some (.ref f_hear :: r_hear))
    (l_hear : K.lookup f_hear = some ⟨oc_hear, od_hear, .func (PySem.W.fnOf "hearer" "End.hearer" (defArgs s_hearer) (defBody s_hearer) (defScope s_hearer) .none kV_hear dc_hear pm_hear an_hear cd_hear ct_hear), sl_hear⟩)
    (c_hear : PySem.W.codeIn K cd_hear "End.hearer" = true)
    (k_hear : PySem.W.keepIn K (.ref f_hear) = true)
    (a_send : PySem.W.findIn K (.ref E) "sender" = some (some (.ref p_send)))
    (g_send : PySem.W.specialIn K (.ref p_send) "__get__" = some (some (.builtin "property.__get__")))
    (t_send : PySem.W.takesIn K (.ref p_send) = some true)
    (r_sendh : PySem.W.recIn K p_send "property" = some (.ref f_send :: r_send))
    (l_send : K.lookup f_send = some ⟨oc_send, od_send, .func (PySem.W.fnOf "sender" "End.sender" (defArgs s_sender) (defBody s_sender) (defScope s_sender) .none kV_send dc_send pm_send an_send cd_send ct_send), sl_send⟩)
    (c_send : PySem.W.codeIn K cd_send "End.sender" = true)
    (k_send : PySem.W.keepIn K (.ref f_send) = true)
    (a_eeq : PySem.W.findIn K (.ref E) "__eq__" = some (some (.ref f_eeq)))
    (i_eeq : PySem.W.isFn K (.ref f_eeq) = true)
    (l_eeq : K.lookup f_eeq = some ⟨oc_eeq, od_eeq, .func (PySem.W.fnOf "__eq__" "End.__eq__" (defArgs s_end_eq) (defBody s_end_eq) (defScope s_end_eq) .none kV_eeq dc_eeq pm_eeq an_eeq cd_eeq ct_eeq), sl_eeq⟩)
    (c_eeq : PySem.W.codeIn K cd_eeq "End.__eq__" = true)
    (k_eeq : PySem.W.keepIn K (.ref f_eeq) = true)
    (a_mtx : PySem.W.nsIn K mainGlobals "machine_text" = some (some (.ref f_mtx)))
    (l_mtx : K.lookup f_mtx = some ⟨oc_mtx, od_mtx, .func (PySem.W.fnOf "machine_text" "machine_text" (defArgs s_machine_text) (defBody s_machine_text) (defScope s_machine_text) .none kV_mtx dc_mtx pm_mtx an_mtx cd_mtx ct_mtx), sl_mtx⟩)
    (c_mtx : PySem.W.codeIn K cd_mtx "machine_text" = true)
    (k_mtx : PySem.W.keepIn K (.ref f_mtx) = true)
    (a_estr : PySem.W.findIn K (.ref E) "__str__" = some (some (.ref f_estr)))
    (i_estr : PySem.W.isFn K (.ref f_estr) = true)
    (l_estr : K.lookup f_estr = some ⟨oc_estr, od_estr, .func (PySem.W.fnOf "__str__" "End.__str__" (defArgs s_end_str) (defBody s_end_str) (defScope s_end_str) .none kV_estr dc_estr pm_estr an_estr cd_estr ct_estr), sl_estr⟩)
    (c_estr : PySem.W.codeIn K cd_estr "End.__str__" = true)
    (k_estr : PySem.W.keepIn K (.ref f_estr) = true)
    (a_kat : PySem.W.nsIn K mainGlobals "kind_at" = some (some (.ref f_kat)))
    (l_kat : K.lookup f_kat = some ⟨oc_kat, od_kat, .func (PySem.W.fnOf "kind_at" "kind_at" (defArgs s_kind_at) (defBody s_kind_at) (defScope s_kind_at) .none kV_kat dc_kat pm_kat an_kat cd_kat ct_kat), sl_kat⟩)
    (c_kat : PySem.W.codeIn K cd_kat "kind_at" = true)
    (k_kat : PySem.W.keepIn K (.ref f_kat) = true)
    (a_kof : PySem.W.nsIn K mainGlobals "kinds_of" = some (some (.ref f_kof)))
    (l_kof : K.lookup f_kof = some ⟨oc_kof, od_kof, .func (PySem.W.fnOf "kinds_of" "kinds_of" (defArgs s_kinds_of) (defBody s_kinds_of) (defScope s_kinds_of) .none kV_kof dc_kof pm_kof an_kof cd_kof ct_kof), sl_kof⟩)
    (c_kof : PySem.W.codeIn K cd_kof "kinds_of" = true)
    (k_kof : PySem.W.keepIn K (.ref f_kof) = true)
    (a_lrows : PySem.W.nsIn K mainGlobals "least_rows" = some (some (.ref f_lrows)))
    (l_lrows : K.lookup f_lrows = some ⟨oc_lrows, od_lrows, .func (PySem.W.fnOf "least_rows" "least_rows" (defArgs s_least_rows) (defBody s_least_rows) (defScope s_least_rows) .none kV_lrows dc_lrows pm_lrows an_lrows cd_lrows ct_lrows), sl_lrows⟩)
    (c_lrows : PySem.W.codeIn K cd_lrows "least_rows" = true)
    (k_lrows : PySem.W.keepIn K (.ref f_lrows) = true)
    (a_lst : PySem.W.nsIn K mainGlobals "least" = some (some (.ref f_lst)))
    (l_lst : K.lookup f_lst = some ⟨oc_lst, od_lst, .func (PySem.W.fnOf "least" "least" (defArgs s_least) (defBody s_least) (defScope s_least) .none kV_lst dc_lst pm_lst an_lst cd_lst ct_lst), sl_lst⟩)
    (c_lst : PySem.W.codeIn K cd_lst "least" = true)
    (k_lst : PySem.W.keepIn K (.ref f_lst) = true)
    (a_num : PySem.W.nsIn K mainGlobals "numbered" = some (some (.ref f_num)))
    (l_num : K.lookup f_num = some ⟨oc_num, od_num, .func (PySem.W.fnOf "numbered" "numbered" (defArgs s_numbered) (defBody s_numbered) (defScope s_numbered) .none kV_num dc_num pm_num an_num cd_num ct_num), sl_num⟩)
    (c_num : PySem.W.codeIn K cd_num "numbered" = true)
    (k_num : PySem.W.keepIn K (.ref f_num) = true)
    (a_flr : PySem.W.nsIn K mainGlobals "flag_rows" = some (some (.ref f_flr)))
    (l_flr : K.lookup f_flr = some ⟨oc_flr, od_flr, .func (PySem.W.fnOf "flag_rows" "flag_rows" (defArgs s_flag_rows) (defBody s_flag_rows) (defScope s_flag_rows) .none kV_flr dc_flr pm_flr an_flr cd_flr ct_flr), sl_flr⟩)
    (c_flr : PySem.W.codeIn K cd_flr "flag_rows" = true)
    (k_flr : PySem.W.keepIn K (.ref f_flr) = true)
    (a_enr : PySem.W.nsIn K mainGlobals "end_rows" = some (some (.ref f_enr)))
    (l_enr : K.lookup f_enr = some ⟨oc_enr, od_enr, .func (PySem.W.fnOf "end_rows" "end_rows" (defArgs s_end_rows) (defBody s_end_rows) (defScope s_end_rows) .none kV_enr dc_enr pm_enr an_enr cd_enr ct_enr), sl_enr⟩)
    (c_enr : PySem.W.codeIn K cd_enr "end_rows" = true)
    (k_enr : PySem.W.keepIn K (.ref f_enr) = true)
    (a_cnt : PySem.W.nsIn K mainGlobals "counted_end" = some (some (.ref f_cnt)))
    (l_cnt : K.lookup f_cnt = some ⟨oc_cnt, od_cnt, .func (PySem.W.fnOf "counted_end" "counted_end" (defArgs s_counted_end) (defBody s_counted_end) (defScope s_counted_end) .none (.ref D_cnt) dc_cnt pm_cnt an_cnt cd_cnt ct_cnt), sl_cnt⟩)
    (c_cnt : PySem.W.codeIn K cd_cnt "counted_end" = true)
    (k_cnt : PySem.W.keepIn K (.ref f_cnt) = true)
    (w_cnt0 : PySem.W.nsIn K D_cnt "flag" = some (some (.int 6 w_cnt0t)))
    (w_cnt1 : PySem.W.nsIn K D_cnt "gap" = some (some (.int 8 w_cnt1t)))
    (a_std : PySem.W.nsIn K mainGlobals "standard_end" = some (some (.ref f_std)))
    (l_std : K.lookup f_std = some ⟨oc_std, od_std, .func (PySem.W.fnOf "standard_end" "standard_end" (defArgs s_standard_end) (defBody s_standard_end) (defScope s_standard_end) .none kV_std dc_std pm_std an_std cd_std ct_std), sl_std⟩)
    (c_std : PySem.W.codeIn K cd_std "standard_end" = true)
    (k_std : PySem.W.keepIn K (.ref f_std) = true)
    (a_vor : PySem.W.nsIn K mainGlobals "vote_rows" = some (some (.ref f_vor)))
    (l_vor : K.lookup f_vor = some ⟨oc_vor, od_vor, .func (PySem.W.fnOf "vote_rows" "vote_rows" (defArgs s_vote_rows) (defBody s_vote_rows) (defScope s_vote_rows) .none kV_vor dc_vor pm_vor an_vor cd_vor ct_vor), sl_vor⟩)
    (c_vor : PySem.W.codeIn K cd_vor "vote_rows" = true)
    (k_vor : PySem.W.keepIn K (.ref f_vor) = true)
    (a_vot : PySem.W.nsIn K mainGlobals "voting_end" = some (some (.ref f_vot)))
    (l_vot : K.lookup f_vot = some ⟨oc_vot, od_vot, .func (PySem.W.fnOf "voting_end" "voting_end" (defArgs s_voting_end) (defBody s_voting_end) (defScope s_voting_end) .none (.ref D_vot) dc_vot pm_vot an_vot cd_vot ct_vot), sl_vot⟩)
    (c_vot : PySem.W.codeIn K cd_vot "voting_end" = true)
    (k_vot : PySem.W.keepIn K (.ref f_vot) = true)
    (w_vot0 : PySem.W.nsIn K D_vot "rounds" = some (some (.int 1 w_vot0t)))
    (a_uinit : PySem.W.findIn K (.ref U) "__init__" = some (some (.ref f_uinit)))
    (i_uinit : PySem.W.isFn K (.ref f_uinit) = true)
    (l_uinit : K.lookup f_uinit = some ⟨oc_uinit, od_uinit, .func (PySem.W.fnOf "__init__" "Course.__init__" (defArgs s_co_init) (defBody s_co_init) (defScope s_co_init) .none kV_uinit dc_uinit pm_uinit an_uinit cd_uinit ct_uinit), sl_uinit⟩)
    (c_uinit : PySem.W.codeIn K cd_uinit "Course.__init__" = true)
    (k_uinit : PySem.W.keepIn K (.ref f_uinit) = true)
    (a_isg : PySem.W.findIn K (.ref U) "is_going" = some (some (.ref f_isg)))
    (i_isg : PySem.W.isFn K (.ref f_isg) = true)
    (l_isg : K.lookup f_isg = some ⟨oc_isg, od_isg, .func (PySem.W.fnOf "is_going" "Course.is_going" (defArgs s_is_going) (defBody s_is_going) (defScope s_is_going) .none kV_isg dc_isg pm_isg an_isg cd_isg ct_isg), sl_isg⟩)
    (c_isg : PySem.W.codeIn K cd_isg "Course.is_going" = true)
    (k_isg : PySem.W.keepIn K (.ref f_isg) = true)
    (a_gng : PySem.W.findIn K (.ref U) "going" = some (some (.ref f_gng)))
    (i_gng : PySem.W.isFn K (.ref f_gng) = true)
    (l_gng : K.lookup f_gng = some ⟨oc_gng, od_gng, .func (PySem.W.fnOf "going" "Course.going" (defArgs s_going) (defBody s_going) (defScope s_going) .none kV_gng dc_gng pm_gng an_gng cd_gng ct_gng), sl_gng⟩)
    (c_gng : PySem.W.codeIn K cd_gng "Course.going" = true)
    (k_gng : PySem.W.keepIn K (.ref f_gng) = true)
    (a_rof : PySem.W.findIn K (.ref U) "row_of" = some (some (.ref f_rof)))
    (i_rof : PySem.W.isFn K (.ref f_rof) = true)
    (l_rof : K.lookup f_rof = some ⟨oc_rof, od_rof, .func (PySem.W.fnOf "row_of" "Course.row_of" (defArgs s_row_of) (defBody s_row_of) (defScope s_row_of) .none kV_rof dc_rof pm_rof an_rof cd_rof ct_rof), sl_rof⟩)
    (c_rof : PySem.W.codeIn K cd_rof "Course.row_of" = true)
    (k_rof : PySem.W.keepIn K (.ref f_rof) = true)
    (a_sta : PySem.W.findIn K (.ref U) "state" = some (some (.ref f_sta)))
    (i_sta : PySem.W.isFn K (.ref f_sta) = true)
    (l_sta : K.lookup f_sta = some ⟨oc_sta, od_sta, .func (PySem.W.fnOf "state" "Course.state" (defArgs s_state) (defBody s_state) (defScope s_state) .none kV_sta dc_sta pm_sta an_sta cd_sta ct_sta), sl_sta⟩)
    (c_sta : PySem.W.codeIn K cd_sta "Course.state" = true)
    (k_sta : PySem.W.keepIn K (.ref f_sta) = true)
    (a_stp : PySem.W.findIn K (.ref U) "step" = some (some (.ref f_stp)))
    (i_stp : PySem.W.isFn K (.ref f_stp) = true)
    (l_stp : K.lookup f_stp = some ⟨oc_stp, od_stp, .func (PySem.W.fnOf "step" "Course.step" (defArgs s_step) (defBody s_step) (defScope s_step) .none kV_stp dc_stp pm_stp an_stp cd_stp ct_stp), sl_stp⟩)
    (c_stp : PySem.W.codeIn K cd_stp "Course.step" = true)
    (k_stp : PySem.W.keepIn K (.ref f_stp) = true)
    (a_sfl : PySem.W.nsIn K mainGlobals "sorted_faults" = some (some (.ref f_sfl)))
    (l_sfl : K.lookup f_sfl = some ⟨oc_sfl, od_sfl, .func (PySem.W.fnOf "sorted_faults" "sorted_faults" (defArgs s_sorted_faults) (defBody s_sorted_faults) (defScope s_sorted_faults) .none kV_sfl dc_sfl pm_sfl an_sfl cd_sfl ct_sfl), sl_sfl⟩)
    (c_sfl : PySem.W.codeIn K cd_sfl "sorted_faults" = true)
    (k_sfl : PySem.W.keepIn K (.ref f_sfl) = true)
    (a_wbd : PySem.W.nsIn K mainGlobals "wrong_bodies" = some (some (.ref f_wbd)))
    (l_wbd : K.lookup f_wbd = some ⟨oc_wbd, od_wbd, .func (PySem.W.fnOf "wrong_bodies" "wrong_bodies" (defArgs s_wrong_bodies) (defBody s_wrong_bodies) (defScope s_wrong_bodies) .none kV_wbd dc_wbd pm_wbd an_wbd cd_wbd ct_wbd), sl_wbd⟩)
    (c_wbd : PySem.W.codeIn K cd_wbd "wrong_bodies" = true)
    (k_wbd : PySem.W.keepIn K (.ref f_wbd) = true)
    (a_dfl : PySem.W.nsIn K mainGlobals "due_faults" = some (some (.ref f_dfl)))
    (l_dfl : K.lookup f_dfl = some ⟨oc_dfl, od_dfl, .func (PySem.W.fnOf "due_faults" "due_faults" (defArgs s_due_faults) (defBody s_due_faults) (defScope s_due_faults) .none kV_dfl dc_dfl pm_dfl an_dfl cd_dfl ct_dfl), sl_dfl⟩)
    (c_dfl : PySem.W.codeIn K cd_dfl "due_faults" = true)
    (k_dfl : PySem.W.keepIn K (.ref f_dfl) = true)
    (a_run : PySem.W.nsIn K mainGlobals "run_sending" = some (some (.ref f_run)))
    (l_run : K.lookup f_run = some ⟨oc_run, od_run, .func (PySem.W.fnOf "run_sending" "run_sending" (defArgs s_run_sending) (defBody s_run_sending) (defScope s_run_sending) .none kV_run dc_run pm_run an_run cd_run ct_run), sl_run⟩)
    (c_run : PySem.W.codeIn K cd_run "run_sending" = true)
    (k_run : PySem.W.keepIn K (.ref f_run) = true)
    (a_winit : PySem.W.findIn K (.ref W) "__init__" = some (some (.ref f_winit)))
    (i_winit : PySem.W.isFn K (.ref f_winit) = true)
    (l_winit : K.lookup f_winit = some ⟨oc_winit, od_winit, .func (PySem.W.fnOf "__init__" "Sending.__init__" (defArgs s_sd_init) (defBody s_sd_init) (defScope s_sd_init) .none kV_winit dc_winit pm_winit an_winit cd_winit ct_winit), sl_winit⟩)
    (c_winit : PySem.W.codeIn K cd_winit "Sending.__init__" = true)
    (k_winit : PySem.W.keepIn K (.ref f_winit) = true)
    (a_lin : PySem.W.findIn K (.ref W) "line" = some (some (.ref p_lin)))
    (g_lin : PySem.W.specialIn K (.ref p_lin) "__get__" = some (some (.builtin "property.__get__")))
    (t_lin : PySem.W.takesIn K (.ref p_lin) = some true)
    (r_linh : PySem.W.recIn K p_lin "property" = some (.ref f_lin :: r_lin))
    (l_lin : K.lookup f_lin = some ⟨oc_lin, od_lin, .func (PySem.W.fnOf "line" "Sending.line" (defArgs s_line) (defBody s_line) (defScope s_line) .none kV_lin dc_lin pm_lin an_lin cd_lin ct_lin), sl_lin⟩)
    (c_lin : PySem.W.codeIn K cd_lin "Sending.line" = true)
    (k_lin : PySem.W.keepIn K (.ref f_lin) = true)
    (a_wrd : PySem.W.findIn K (.ref W) "words" = some (some (.ref p_wrd)))
    (g_wrd : PySem.W.specialIn K (.ref p_wrd) "__get__" = some (some (.builtin "property.__get__")))
    (t_wrd : PySem.W.takesIn K (.ref p_wrd) = some true)
    (r_wrdh : PySem.W.recIn K p_wrd "property" = some (.ref f_wrd :: r_wrd))
    (l_wrd : K.lookup f_wrd = some ⟨oc_wrd, od_wrd, .func (PySem.W.fnOf "words" "Sending.words" (defArgs s_words) (defBody s_words) (defScope s_words) .none kV_wrd dc_wrd pm_wrd an_wrd cd_wrd ct_wrd), sl_wrd⟩)
    (c_wrd : PySem.W.codeIn K cd_wrd "Sending.words" = true)
    (k_wrd : PySem.W.keepIn K (.ref f_wrd) = true)
    (a_hrd : PySem.W.findIn K (.ref W) "heard" = some (some (.ref f_hrd)))
    (i_hrd : PySem.W.isFn K (.ref f_hrd) = true)
    (l_hrd : K.lookup f_hrd = some ⟨oc_hrd, od_hrd, .func (PySem.W.fnOf "heard" "Sending.heard" (defArgs s_heard) (defBody s_heard) (defScope s_heard) .none kV_hrd dc_hrd pm_hrd an_hrd cd_hrd ct_hrd), sl_hrd⟩)
    (c_hrd : PySem.W.codeIn K cd_hrd "Sending.heard" = true)
    (k_hrd : PySem.W.keepIn K (.ref f_hrd) = true)
    (a_wlen : PySem.W.findIn K (.ref W) "__len__" = some (some (.ref f_wlen)))
    (i_wlen : PySem.W.isFn K (.ref f_wlen) = true)
    (l_wlen : K.lookup f_wlen = some ⟨oc_wlen, od_wlen, .func (PySem.W.fnOf "__len__" "Sending.__len__" (defArgs s_sd_len) (defBody s_sd_len) (defScope s_sd_len) .none kV_wlen dc_wlen pm_wlen an_wlen cd_wlen ct_wlen), sl_wlen⟩)
    (c_wlen : PySem.W.codeIn K cd_wlen "Sending.__len__" = true)
    (k_wlen : PySem.W.keepIn K (.ref f_wlen) = true)
    (a_snd : PySem.W.nsIn K mainGlobals "sending" = some (some (.ref f_snd)))
    (l_snd : K.lookup f_snd = some ⟨oc_snd, od_snd, .func (PySem.W.fnOf "sending" "sending" (defArgs s_sending) (defBody s_sending) (defScope s_sending) .none (.ref D_snd) dc_snd pm_snd an_snd cd_snd ct_snd), sl_snd⟩)
    (c_snd : PySem.W.codeIn K cd_snd "sending" = true)
    (k_snd : PySem.W.keepIn K (.ref f_snd) = true)
    (w_snd0 : PySem.W.nsIn K D_snd "wrong" = some (some (.ref Tw)))
    (a_bag : PySem.W.nsIn K mainGlobals "_law_bag" = some (some (.ref f_bag)))
    (l_bag : K.lookup f_bag = some ⟨oc_bag, od_bag, .func (PySem.W.fnOf "_law_bag" "_law_bag" (defArgs s_law_bag) (defBody s_law_bag) (defScope s_law_bag) .none kV_bag dc_bag pm_bag an_bag cd_bag ct_bag), sl_bag⟩)
    (c_bag : PySem.W.codeIn K cd_bag "_law_bag" = true)
    (k_bag : PySem.W.keepIn K (.ref f_bag) = true)
    (a_tak : PySem.W.nsIn K mainGlobals "_law_take" = some (some (.ref f_tak)))
    (l_tak : K.lookup f_tak = some ⟨oc_tak, od_tak, .func (PySem.W.fnOf "_law_take" "_law_take" (defArgs s_law_take) (defBody s_law_take) (defScope s_law_take) .none kV_tak dc_tak pm_tak an_tak cd_tak ct_tak), sl_tak⟩)
    (c_tak : PySem.W.codeIn K cd_tak "_law_take" = true)
    (k_tak : PySem.W.keepIn K (.ref f_tak) = true)
    (a_nxt : PySem.W.nsIn K mainGlobals "_law_next" = some (some (.ref f_nxt)))
    (l_nxt : K.lookup f_nxt = some ⟨oc_nxt, od_nxt, .func (PySem.W.fnOf "_law_next" "_law_next" (defArgs s_law_next) (defBody s_law_next) (defScope s_law_next) .none kV_nxt dc_nxt pm_nxt an_nxt cd_nxt ct_nxt), sl_nxt⟩)
    (c_nxt : PySem.W.codeIn K cd_nxt "_law_next" = true)
    (k_nxt : PySem.W.keepIn K (.ref f_nxt) = true)
    (a_lsn : PySem.W.nsIn K mainGlobals "_law_sent" = some (some (.ref f_lsn)))
    (l_lsn : K.lookup f_lsn = some ⟨oc_lsn, od_lsn, .func (PySem.W.fnOf "_law_sent" "_law_sent" (defArgs s_law_sent) (defBody s_law_sent) (defScope s_law_sent) .none kV_lsn dc_lsn pm_lsn an_lsn cd_lsn ct_lsn), sl_lsn⟩)
    (c_lsn : PySem.W.codeIn K cd_lsn "_law_sent" = true)
    (k_lsn : PySem.W.keepIn K (.ref f_lsn) = true)
    (a_law : PySem.W.nsIn K mainGlobals "law" = some (some (.ref f_law)))
    (l_law : K.lookup f_law = some ⟨oc_law, od_law, .func (PySem.W.fnOf "law" "law" (defArgs s_law) (defBody s_law) (defScope s_law) .none kV_law dc_law pm_law an_law cd_law ct_law), sl_law⟩)
    (c_law : PySem.W.codeIn K cd_law "law" = true)
    (k_law : PySem.W.keepIn K (.ref f_law) = true)
    (nE_hearer_rows : PySem.W.findIn K (.ref E) "hearer_rows" = some none)
    (nE_sender_rows : PySem.W.findIn K (.ref E) "sender_rows" = some none)
    (nE_table : PySem.W.findIn K (.ref E) "table" = some none)
    (nU_end : PySem.W.findIn K (.ref U) "end" = some none)
    (nU_labels : PySem.W.findIn K (.ref U) "labels" = some none)
    (nU_places : PySem.W.findIn K (.ref U) "places" = some none)
    (nU_ears : PySem.W.findIn K (.ref U) "ears" = some none)
    (nU_passed : PySem.W.findIn K (.ref U) "passed" = some none)
    (nW_bits : PySem.W.findIn K (.ref W) "bits" = some none)
    (nW_told : PySem.W.findIn K (.ref W) "told" = some none)
    (nW_ears : PySem.W.findIn K (.ref W) "ears" = some none)
    (z_isinstance : PySem.W.nsIn K mainGlobals "isinstance" = some none)
    (z_int : PySem.W.nsIn K mainGlobals "int" = some none)
    (z_bool : PySem.W.nsIn K mainGlobals "bool" = some none)
    (z_str : PySem.W.nsIn K mainGlobals "str" = some none)
    (z_tuple : PySem.W.nsIn K mainGlobals "tuple" = some none)
    (z_list : PySem.W.nsIn K mainGlobals "list" = some none)
    (z_len : PySem.W.nsIn K mainGlobals "len" = some none)
    (z_set : PySem.W.nsIn K mainGlobals "set" = some none)
    (z_enumerate : PySem.W.nsIn K mainGlobals "enumerate" = some none)
    (z_range : PySem.W.nsIn K mainGlobals "range" = some none)
    (z_min : PySem.W.nsIn K mainGlobals "min" = some none)
    (z_max : PySem.W.nsIn K mainGlobals "max" = some none)
    (z_sorted : PySem.W.nsIn K mainGlobals "sorted" = some none)
    (z_abs : PySem.W.nsIn K mainGlobals "abs" = some none)
    (q_HEARER : PySem.W.nsIn K mainGlobals "HEARER" = some (some (.str "hearer" t_HEARER)))
    (q_SENDER : PySem.W.nsIn K mainGlobals "SENDER" = some (some (.str "sender" t_SENDER)))
    (q_WEAK : PySem.W.nsIn K mainGlobals "WEAK" = some (some (.int 1 t_WEAK)))
    (q_MOST_BIT : PySem.W.nsIn K mainGlobals "MOST_BIT" = some (some (.int 5000 t_MOST_BIT)))
    (q_HEARER_WORDS : PySem.W.nsIn K mainGlobals "HEARER_WORDS" = some (some (.ref A_HEARER_WORDS)))
    (ql_HEARER_WORDS : K.lookup A_HEARER_WORDS = some ⟨.type "tuple", od_HEARER_WORDS, .seq #[.str "taken" t0_HEARER_WORDS, .str "lost" t1_HEARER_WORDS] n_HEARER_WORDS, sl_HEARER_WORDS⟩)
    (q_SENDER_WORDS : PySem.W.nsIn K mainGlobals "SENDER_WORDS" = some (some (.ref A_SENDER_WORDS)))
    (ql_SENDER_WORDS : K.lookup A_SENDER_WORDS = some ⟨.type "tuple", od_SENDER_WORDS, .seq #[.str "done" t0_SENDER_WORDS, .str "again" t1_SENDER_WORDS] n_SENDER_WORDS, sl_SENDER_WORDS⟩)
    (neE : PySem.W.findIn K (.ref E) "__ne__" = some (some (.builtin "object.__ne__")))
    (mR : PySem.W.readsIn K E (.type "type") = true)
    (mG : PySem.W.specialIn K (.ref E) "__getattribute__" = some (some (.builtin "type.__getattribute__")))
    (mV : PySem.W.findCls K (.ref E) (.type "type") "MOST" = some (.val (.int 100 t_most)))
    (iC : PySem.W.findIn K (.ref E) "__class__" = some (some (.builtin "object.__class__")))
    (iG : PySem.W.specialIn K (.builtin "object.__class__") "__get__" = some (some (.builtin "getset_descriptor.__get__")))
    (iT : PySem.W.takesIn K (.builtin "object.__class__") = some true)
    (iM : PySem.W.mroIn K E (.type "object") = some true)
    (iK : PySem.W.kitOne K (.ref E) (.ref E) = some true)
    : ∃ fd : FuncData, (∀ (s : Shared) (v : Value), BindsTo s fd ⟨[v], []⟩ [("_law_script", v)]) ∧ ∀ base : Heap, K.In base → base.Ns mainGlobals mg → FnOk l.prog w K mg base CX0 10 fa fd ["_law_script"] (sp_law K) := by
  have e := hfa.symm.trans (PySem.W.mg_of X G a_law)
  cases e
  have Gv : Gb mg := ⟨PySem.W.mg_none_of X G z_isinstance, PySem.W.mg_none_of X G z_int, PySem.W.mg_none_of X G z_bool, PySem.W.mg_none_of X G z_str, PySem.W.mg_none_of X G z_tuple, PySem.W.mg_none_of X G z_list, PySem.W.mg_none_of X G z_len, PySem.W.mg_none_of X G z_set, PySem.W.mg_none_of X G z_enumerate, PySem.W.mg_none_of X G z_range, PySem.W.mg_none_of X G z_min, PySem.W.mg_none_of X G z_max, PySem.W.mg_none_of X G z_sorted, PySem.W.mg_none_of X G z_abs⟩
  have clE : Cls K E := ⟨pgE, hdE, poE, saE⟩
  have mgE := PySem.W.mg_of X G aE
  have clU : Cls K U := ⟨pgU, hdU, poU, saU⟩
  have mgU := PySem.W.mg_of X G aU
  have clW : Cls K W := ⟨pgW, hdW, poW, saW⟩
  have mgW := PySem.W.mg_of X G aW
  have TE : TxE K mg E := ⟨Gv, ⟨_, PySem.W.mg_of X G q_HEARER, _, rfl⟩, ⟨_, PySem.W.mg_of X G q_SENDER, _, rfl⟩,
    ⟨_, PySem.W.mg_of X G q_HEARER_WORDS, fun H => .inr ⟨_, _, _, ql_HEARER_WORDS, rfl, rfl, by show 2 ≤ sizeLine; decide, .cons ⟨_, rfl⟩ (.cons ⟨_, rfl⟩ .nil)⟩⟩,
    ⟨_, PySem.W.mg_of X G q_SENDER_WORDS, fun H => .inr ⟨_, _, _, ql_SENDER_WORDS, rfl, rfl, by show 2 ≤ sizeLine; decide, .cons ⟨_, rfl⟩ (.cons ⟨_, rfl⟩ .nil)⟩⟩,
    clE, nE_hearer_rows, nE_sender_rows, nE_table, mgE, kcE, ⟨.type "type", _, ⟨mR, mG⟩, mV, _, rfl⟩⟩
  have TU : TxU K mg U := ⟨clU, nU_end, nU_labels, nU_places, nU_ears, nU_passed, _, PySem.W.mg_of X G q_WEAK, _, rfl⟩
  have TW : TxS K mg W := ⟨clW, nW_bits, nW_told, nW_ears⟩
  have IC : C8.InsC K E := ⟨clE, iC, iG, iT, iM, iK⟩
  have F_isInt := fun_mk (st := s_is_integer) l_isInt c_isInt k_isInt
  have b_isInt := F_isInt.binds (ps := ["thing"]) fun _ _ _ _ _ _ us hl => match us, hl with | [_], _ => rfl
  have F_isBit := fun_mk (st := s_is_bit) l_isBit c_isBit k_isBit
  have b_isBit := F_isBit.binds (ps := ["thing"]) fun _ _ _ _ _ _ us hl => match us, hl with | [_], _ => rfl
  have F_isNext := fun_mk (st := s_is_next) l_isNext c_isNext k_isNext
  have b_isNext := F_isNext.binds (ps := ["thing", "many", "words"]) fun _ _ _ _ _ _ us hl => match us, hl with | [_, _, _], _ => rfl
  have F_isRow := fun_mk (st := s_is_row_of) l_isRow c_isRow k_isRow
  have b_isRow := F_isRow.binds (ps := ["thing", "many", "words"]) fun _ _ _ _ _ _ us hl => match us, hl with | [_, _, _], _ => rfl
  have F_chk := fun_mk (st := s_checked_rows) l_chk c_chk k_chk
  have b_chk := F_chk.binds (ps := ["part", "thing", "least", "most", "words"]) fun _ _ _ _ _ _ us hl => match us, hl with | [_, _, _, _, _], _ => rfl
  have F_wds := fun_mk (st := s_words_from) l_wds c_wds k_wds
  have b_wds := F_wds.binds (ps := ["rows", "first"]) fun _ _ _ _ _ _ us hl => match us, hl with | [_, _], _ => rfl
  have F_einit := fun_mk (st := s_end_init) l_einit c_einit k_einit
  have b_einit := F_einit.binds (ps := ["self", "hearer", "sender"]) fun _ _ _ _ _ _ us hl => match us, hl with | [_, _, _], _ => rfl
  have F_hear := fun_mk (st := s_hearer) l_hear c_hear k_hear
  have b_hear := F_hear.binds (ps := ["self"]) fun _ _ _ _ _ _ us hl => match us, hl with | [_], _ => rfl
  have F_send := fun_mk (st := s_sender) l_send c_send k_send
  have b_send := F_send.binds (ps := ["self"]) fun _ _ _ _ _ _ us hl => match us, hl with | [_], _ => rfl
  have F_eeq := fun_mk (st := s_end_eq) l_eeq c_eeq k_eeq
  have b_eeq := F_eeq.binds (ps := ["self", "other"]) fun _ _ _ _ _ _ us hl => match us, hl with | [_, _], _ => rfl
  have F_mtx := fun_mk (st := s_machine_text) l_mtx c_mtx k_mtx
  have b_mtx := F_mtx.binds (ps := ["rows"]) fun _ _ _ _ _ _ us hl => match us, hl with | [_], _ => rfl
  have F_estr := fun_mk (st := s_end_str) l_estr c_estr k_estr
  have b_estr := F_estr.binds (ps := ["self"]) fun _ _ _ _ _ _ us hl => match us, hl with | [_], _ => rfl
  have F_kat := fun_mk (st := s_kind_at) l_kat c_kat k_kat
  have b_kat := F_kat.binds (ps := ["kinds", "place"]) fun _ _ _ _ _ _ us hl => match us, hl with | [_, _], _ => rfl
  have F_kof := fun_mk (st := s_kinds_of) l_kof c_kof k_kof
  have b_kof := F_kof.binds (ps := ["rows"]) fun _ _ _ _ _ _ us hl => match us, hl with | [_], _ => rfl
  have F_lrows := fun_mk (st := s_least_rows) l_lrows c_lrows k_lrows
  have b_lrows := F_lrows.binds (ps := ["rows", "firsts"]) fun _ _ _ _ _ _ us hl => match us, hl with | [_, _], _ => rfl
  have F_lst := fun_mk (st := s_least) l_lst c_lst k_lst
  have b_lst := F_lst.binds (ps := ["end"]) fun _ _ _ _ _ _ us hl => match us, hl with | [_], _ => rfl
  have F_num := fun_mk (st := s_numbered) l_num c_num k_num
  have b_num := F_num.binds (ps := ["rows", "firsts"]) fun _ _ _ _ _ _ us hl => match us, hl with | [_, _], _ => rfl
  have F_flr := fun_mk (st := s_flag_rows) l_flr c_flr k_flr
  have b_flr := F_flr.binds (ps := ["word", "flag", "gap"]) fun _ _ _ _ _ _ us hl => match us, hl with | [_, _, _], _ => rfl
  have F_enr := fun_mk (st := s_end_rows) l_enr c_enr k_enr
  have b_enr := F_enr.binds (ps := ["bits", "limit", "early", "late"]) fun _ _ _ _ _ _ us hl => match us, hl with | [_, _, _, _], _ => rfl
  have W_cnt : ∀ q ∈ ([("flag", .int 6), ("gap", .int 8)] : List (Str × V)), ∃ u, PySem.W.nsIn K D_cnt q.1 = some (some u) ∧ RelV q.2 u := fun q hq => by
      rcases List.mem_cons.mp hq with e | hq
      · subst e
        exact ⟨_, w_cnt0, _, rfl⟩
      · rcases List.mem_cons.mp hq with e | hq
        · subst e
          exact ⟨_, w_cnt1, _, rfl⟩
        · cases hq
  have F_cnt : FunK K "counted_end" s_counted_end [("flag", .int 6), ("gap", .int 8)] f_cnt (PySem.W.fnOf "counted_end" "counted_end" (defArgs s_counted_end) (defBody s_counted_end) (defScope s_counted_end) .none (.ref D_cnt) dc_cnt pm_cnt an_cnt cd_cnt ct_cnt) :=
    ⟨⟨_, _, _, _, _, _, _, _, _, _, rfl, l_cnt, c_cnt, .inl ⟨rfl, rfl⟩, .inr ⟨D_cnt, rfl, W_cnt⟩⟩, k_cnt⟩
  have F_std := fun_mk (st := s_standard_end) l_std c_std k_std
  have b_std := F_std.binds (ps := []) fun _ _ _ _ _ _ us hl => match us, hl with | [], _ => rfl
  have F_vor := fun_mk (st := s_vote_rows) l_vor c_vor k_vor
  have b_vor := F_vor.binds (ps := p_vote_rows) fun _ _ _ _ _ _ us hl => match us, hl with | [_, _, _, _, _], _ => rfl
  have W_vot : ∀ q ∈ ([("rounds", .int 1)] : List (Str × V)), ∃ u, PySem.W.nsIn K D_vot q.1 = some (some u) ∧ RelV q.2 u := fun q hq => by
      rcases List.mem_cons.mp hq with e | hq
      · subst e
        exact ⟨_, w_vot0, _, rfl⟩
      · cases hq
  have F_vot : FunK K "voting_end" s_voting_end [("rounds", .int 1)] f_vot (PySem.W.fnOf "voting_end" "voting_end" (defArgs s_voting_end) (defBody s_voting_end) (defScope s_voting_end) .none (.ref D_vot) dc_vot pm_vot an_vot cd_vot ct_vot) :=
    ⟨⟨_, _, _, _, _, _, _, _, _, _, rfl, l_vot, c_vot, .inl ⟨rfl, rfl⟩, .inr ⟨D_vot, rfl, W_vot⟩⟩, k_vot⟩
  have F_uinit := fun_mk (st := s_co_init) l_uinit c_uinit k_uinit
  have b_uinit := F_uinit.binds (ps := p_co_init) fun _ _ _ _ _ _ us hl => match us, hl with | [_, _, _, _], _ => rfl
  have F_isg := fun_mk (st := s_is_going) l_isg c_isg k_isg
  have b_isg := F_isg.binds (ps := ["self", "label"]) fun _ _ _ _ _ _ us hl => match us, hl with | [_, _], _ => rfl
  have F_gng := fun_mk (st := s_going) l_gng c_gng k_gng
  have b_gng := F_gng.binds (ps := ["self"]) fun _ _ _ _ _ _ us hl => match us, hl with | [_], _ => rfl
  have F_rof := fun_mk (st := s_row_of) l_rof c_rof k_rof
  have b_rof := F_rof.binds (ps := ["self", "label"]) fun _ _ _ _ _ _ us hl => match us, hl with | [_, _], _ => rfl
  have F_sta := fun_mk (st := s_state) l_sta c_sta k_sta
  have b_sta := F_sta.binds (ps := ["self"]) fun _ _ _ _ _ _ us hl => match us, hl with | [_], _ => rfl
  have F_stp := fun_mk (st := s_step) l_stp c_stp k_stp
  have b_stp := F_stp.binds (ps := ["self", "wrong", "silent"]) fun _ _ _ _ _ _ us hl => match us, hl with | [_, _, _], _ => rfl
  have F_sfl := fun_mk (st := s_sorted_faults) l_sfl c_sfl k_sfl
  have b_sfl := F_sfl.binds (ps := ["wrong", "silent"]) fun _ _ _ _ _ _ us hl => match us, hl with | [_, _], _ => rfl
  have F_wbd := fun_mk (st := s_wrong_bodies) l_wbd c_wbd k_wbd
  have b_wbd := F_wbd.binds (ps := ["labels", "faults"]) fun _ _ _ _ _ _ us hl => match us, hl with | [_, _], _ => rfl
  have F_dfl := fun_mk (st := s_due_faults) l_dfl c_dfl k_dfl
  have b_dfl := F_dfl.binds (ps := ["course", "faults"]) fun _ _ _ _ _ _ us hl => match us, hl with | [_, _], _ => rfl
  have F_run := fun_mk (st := s_run_sending) l_run c_run k_run
  have b_run := F_run.binds (ps := p_run_sending) fun _ _ _ _ _ _ us hl => match us, hl with | [_, _, _, _], _ => rfl
  have F_winit := fun_mk (st := s_sd_init) l_winit c_winit k_winit
  have b_winit := F_winit.binds (ps := p_sd_init) fun _ _ _ _ _ _ us hl => match us, hl with | [_, _, _, _], _ => rfl
  have F_lin := fun_mk (st := s_line) l_lin c_lin k_lin
  have b_lin := F_lin.binds (ps := ["self"]) fun _ _ _ _ _ _ us hl => match us, hl with | [_], _ => rfl
  have F_wrd := fun_mk (st := s_words) l_wrd c_wrd k_wrd
  have b_wrd := F_wrd.binds (ps := ["self"]) fun _ _ _ _ _ _ us hl => match us, hl with | [_], _ => rfl
  have F_hrd := fun_mk (st := s_heard) l_hrd c_hrd k_hrd
  have b_hrd := F_hrd.binds (ps := ["self", "station"]) fun _ _ _ _ _ _ us hl => match us, hl with | [_, _], _ => rfl
  have F_wlen := fun_mk (st := s_sd_len) l_wlen c_wlen k_wlen
  have b_wlen := F_wlen.binds (ps := ["self"]) fun _ _ _ _ _ _ us hl => match us, hl with | [_], _ => rfl
  have W_snd : ∀ q ∈ ([("wrong", .ref Tw)] : List (Str × V)), ∃ u, PySem.W.nsIn K D_snd q.1 = some (some u) ∧ RelV q.2 u := fun q hq => by
      rcases List.mem_cons.mp hq with e | hq
      · subst e
        exact ⟨_, w_snd0, rfl⟩
      · cases hq
  have F_snd : FunK K "sending" s_sending [("wrong", .ref Tw)] f_snd (PySem.W.fnOf "sending" "sending" (defArgs s_sending) (defBody s_sending) (defScope s_sending) .none (.ref D_snd) dc_snd pm_snd an_snd cd_snd ct_snd) :=
    ⟨⟨_, _, _, _, _, _, _, _, _, _, rfl, l_snd, c_snd, .inl ⟨rfl, rfl⟩, .inr ⟨D_snd, rfl, W_snd⟩⟩, k_snd⟩
  have F_bag := fun_mk (st := s_law_bag) l_bag c_bag k_bag
  have b_bag := F_bag.binds (ps := ["_law_script", "_law_at"]) fun _ _ _ _ _ _ us hl => match us, hl with | [_, _], _ => rfl
  have F_tak := fun_mk (st := s_law_take) l_tak c_tak k_tak
  have b_tak := F_tak.binds (ps := ["_law_bag_here", "_law_many"]) fun _ _ _ _ _ _ us hl => match us, hl with | [_, _], _ => rfl
  have F_nxt := fun_mk (st := s_law_next) l_nxt c_nxt k_nxt
  have b_nxt := F_nxt.binds (ps := p_law_next) fun _ _ _ _ _ _ us hl => match us, hl with | [_, _, _, _, _], _ => rfl
  have F_lsn := fun_mk (st := s_law_sent) l_lsn c_lsn k_lsn
  have b_lsn := F_lsn.binds (ps := p_law_sent) fun _ _ _ _ _ _ us hl => match us, hl with | [_, _, _, _, _, _], _ => rfl
  have F_law := fun_mk (st := s_law) l_law c_law k_law
  refine ⟨PySem.W.fnOf "law" "law" (defArgs s_law) (defBody s_law) (defScope s_law) .none kV_law dc_law pm_law an_law cd_law ct_law, fun s v => .of_eq rfl, fun base _ _ => ?_⟩
  have C_isInt : Cal l.prog w K mg base "is_integer" 1 ["thing"] sp_is_integer := ⟨_, _, ok_is_integer F_isInt Gv, PySem.W.mg_of X G a_isInt, k_isInt, b_isInt⟩
  have C_isBit : Cal l.prog w K mg base "is_bit" 2 ["thing"] sp_is_bit := ⟨_, _, ok_is_bit F_isBit C_isInt, PySem.W.mg_of X G a_isBit, k_isBit, b_isBit⟩
  have C_isNext : Cal l.prog w K mg base "is_next" 2 ["thing", "many", "words"] (sp_is_next K) := ⟨_, _, ok_is_next F_isNext Gv C_isInt, PySem.W.mg_of X G a_isNext, k_isNext, b_isNext⟩
  have C_isRow : Cal l.prog w K mg base "is_row_of" 3 ["thing", "many", "words"] (sp_is_row_of K) := ⟨_, _, ok_is_row_of F_isRow Gv C_isBit C_isNext, PySem.W.mg_of X G a_isRow, k_isRow, b_isRow⟩
  have C_chk : Cal l.prog w K mg base "checked_rows" 4 ["part", "thing", "least", "most", "words"] (sp_checked_rows K) := ⟨_, _, ok_checked_rows F_chk Gv C_isRow, PySem.W.mg_of X G a_chk, k_chk, b_chk⟩
  have C_wds : Cal l.prog w K mg base "words_from" 1 ["rows", "first"] sp_words_from := ⟨_, _, ok_words_from F_wds Gv, PySem.W.mg_of X G a_wds, k_wds, b_wds⟩
  have C_einit : CalC l.prog w K mg base E "End" 5 ["self", "hearer", "sender"] (sp_end_init E) := ⟨_, _, ok_end_init F_einit TE C_chk C_wds, ⟨mkE, a_einit, i_einit, kcE⟩, mgE, b_einit⟩
  have C_hear : CalP l.prog w K mg base E "hearer" 1 (sp_hearer E) := ⟨_, _, _, ok_hearer F_hear TE, ⟨a_hear, g_hear, t_hear, _, r_hearh⟩, b_hear⟩
  have C_send : CalP l.prog w K mg base E "sender" 1 (sp_sender E) := ⟨_, _, _, ok_sender F_send TE, ⟨a_send, g_send, t_send, _, r_sendh⟩, b_send⟩
  have C_mtx : Cal l.prog w K mg base "machine_text" 1 ["rows"] sp_machine_text := ⟨_, _, ok_machine_text F_mtx Gv, PySem.W.mg_of X G a_mtx, k_mtx, b_mtx⟩
  have C_kat : Cal l.prog w K mg base "kind_at" 1 ["kinds", "place"] (sp_kind_at K) := ⟨_, _, ok_kind_at F_kat Gv, PySem.W.mg_of X G a_kat, k_kat, b_kat⟩
  have C_kof : Cal l.prog w K mg base "kinds_of" 2 ["rows"] sp_kinds_of := ⟨_, _, ok_kinds_of F_kof Gv C_kat, PySem.W.mg_of X G a_kof, k_kof, b_kof⟩
  have C_lrows : Cal l.prog w K mg base "least_rows" 3 ["rows", "firsts"] (sp_least_rows K) := ⟨_, _, ok_least_rows F_lrows Gv C_kof, PySem.W.mg_of X G a_lrows, k_lrows, b_lrows⟩
  have C_lst : Cal l.prog w K mg base "least" 7 ["end"] (sp_least E) := ⟨_, _, ok_least F_lst TE C_lrows C_hear C_send C_einit, PySem.W.mg_of X G a_lst, k_lst, b_lst⟩
  have C_num : Cal l.prog w K mg base "numbered" 1 ["rows", "firsts"] (sp_numbered K) := ⟨_, _, ok_numbered F_num Gv, PySem.W.mg_of X G a_num, k_num, b_num⟩
  have C_flr : Cal l.prog w K mg base "flag_rows" 1 ["word", "flag", "gap"] sp_flag_rows := ⟨_, _, ok_flag_rows F_flr Gv, PySem.W.mg_of X G a_flr, k_flr, b_flr⟩
  have C_enr : Cal l.prog w K mg base "end_rows" 1 ["bits", "limit", "early", "late"] sp_end_rows := ⟨_, _, ok_end_rows F_enr Gv, PySem.W.mg_of X G a_enr, k_enr, b_enr⟩
  obtain ⟨mv2, B2⟩ := kb_counted2 F_cnt
  obtain ⟨mv4, B4⟩ := kb_counted4 F_cnt (by simp)
  have O_cnt := ok_counted_end (P := l.prog) (w := w) (base := base) F_cnt TE C_enr C_flr C_num C_lst C_einit
  have N_cnt2 : CalN l.prog w K mg base "counted_end" 8 p_counted_end (sp_counted_end E) 1 ["hearer", "sender"] (fun vs zs => vs ++ (zs ++ [.int 6, .int 8])) := ⟨_, _, _, O_cnt, PySem.W.mg_of X G a_cnt, k_cnt, B2⟩
  have N_cnt4 : CalN l.prog w K mg base "counted_end" 8 p_counted_end (sp_counted_end E) 1 ["hearer", "sender", "flag", "gap"] (fun vs zs => vs ++ zs) := ⟨_, _, _, O_cnt, PySem.W.mg_of X G a_cnt, k_cnt, B4⟩
  have C_std : Cal l.prog w K mg base "standard_end" 9 [] (sp_standard_end E) := ⟨_, _, ok_standard_end F_std N_cnt2, PySem.W.mg_of X G a_std, k_std, b_std⟩
  have C_vor : Cal l.prog w K mg base "vote_rows" 1 p_vote_rows sp_vote_rows := ⟨_, _, ok_vote_rows F_vor Gv, PySem.W.mg_of X G a_vor, k_vor, b_vor⟩
  obtain ⟨mv5, B5⟩ := kb_voting2 F_vot (by simp)
  obtain ⟨mv6, B6⟩ := kb_voting1 F_vot
  have O_vot := ok_voting_end (P := l.prog) (w := w) (base := base) F_vot TE C_vor C_num C_lst C_einit
  have N_vot2 : CalN l.prog w K mg base "voting_end" 8 p_voting_end (sp_voting_end E) 1 ["needed", "rounds"] (fun vs zs => vs ++ zs) := ⟨_, _, _, O_vot, PySem.W.mg_of X G a_vot, k_vot, B5⟩
  have N_vot1 : CalN l.prog w K mg base "voting_end" 8 p_voting_end (sp_voting_end E) 1 ["needed"] (fun vs zs => vs ++ (zs ++ [.int 1])) := ⟨_, _, _, O_vot, PySem.W.mg_of X G a_vot, k_vot, B6⟩
  have C_uinit : CalC l.prog w K mg base U "Course" 1 p_co_init (sp_co_init U) := ⟨_, _, ok_co_init F_uinit TU Gv, ⟨mkU, a_uinit, i_uinit, kcU⟩, mgU, b_uinit⟩
  have C_isg : CalM l.prog w K mg base U "is_going" 1 ["self", "label"] (sp_is_going U) := ⟨_, _, ok_is_going F_isg TU Gv, ⟨a_isg, i_isg, k_isg⟩, b_isg⟩
  have C_gng : CalM l.prog w K mg base U "going" 2 ["self"] (sp_going U) := ⟨_, _, ok_going F_gng TU C_isg, ⟨a_gng, i_gng, k_gng⟩, b_gng⟩
  have C_rof : CalM l.prog w K mg base U "row_of" 3 ["self", "label"] (sp_row_of E U) := ⟨_, _, ok_row_of F_rof TU TE C_hear C_send, ⟨a_rof, i_rof, k_rof⟩, b_rof⟩
  have C_sta : CalM l.prog w K mg base U "state" 1 ["self"] (sp_state U) := ⟨_, _, ok_state F_sta TU Gv, ⟨a_sta, i_sta, k_sta⟩, b_sta⟩
  have C_stp : CalM l.prog w K mg base U "step" 4 ["self", "wrong", "silent"] (sp_step E U) := ⟨_, _, ok_step F_stp TU Gv C_rof C_gng, ⟨a_stp, i_stp, k_stp⟩, b_stp⟩
  have C_sfl : Cal l.prog w K mg base "sorted_faults" 1 ["wrong", "silent"] sp_sorted_faults := ⟨_, _, ok_sorted_faults F_sfl Gv, PySem.W.mg_of X G a_sfl, k_sfl, b_sfl⟩
  have C_wbd : Cal l.prog w K mg base "wrong_bodies" 1 ["labels", "faults"] sp_wrong_bodies := ⟨_, _, ok_wrong_bodies F_wbd, PySem.W.mg_of X G a_wbd, k_wbd, b_wbd⟩
  have C_dfl : Cal l.prog w K mg base "due_faults" 2 ["course", "faults"] (sp_due_faults U) := ⟨_, _, ok_due_faults F_dfl TU Gv C_isg, PySem.W.mg_of X G a_dfl, k_dfl, b_dfl⟩
  have C_run : Cal l.prog w K mg base "run_sending" 5 p_run_sending (sp_run_sending E U) := ⟨_, _, ok_run_sending F_run TU Gv C_sfl C_wbd C_uinit C_gng C_sta C_dfl C_stp ⟨_, PySem.W.mg_of X G q_MOST_BIT, _, rfl⟩, PySem.W.mg_of X G a_run, k_run, b_run⟩
  have C_winit : CalC l.prog w K mg base W "Sending" 1 p_sd_init (sp_sd_init W) := ⟨_, _, ok_sd_init F_winit TW Gv, ⟨mkW, a_winit, i_winit, kcW⟩, mgW, b_winit⟩
  have C_lin : CalP l.prog w K mg base W "line" 1 (sp_line W) := ⟨_, _, _, ok_line F_lin TW, ⟨a_lin, g_lin, t_lin, _, r_linh⟩, b_lin⟩
  have C_wrd : CalP l.prog w K mg base W "words" 1 (sp_words W) := ⟨_, _, _, ok_words F_wrd TW, ⟨a_wrd, g_wrd, t_wrd, _, r_wrdh⟩, b_wrd⟩
  have C_hrd : CalM l.prog w K mg base W "heard" 1 ["self", "station"] (sp_heard W) := ⟨_, _, ok_heard F_hrd TW, ⟨a_hrd, i_hrd, k_hrd⟩, b_hrd⟩
  obtain ⟨mv7, B7⟩ := kb_sending F_snd (by simp)
  have O_snd := ok_sending (P := l.prog) (w := w) (base := base) (E := E) F_snd TU Gv C_run C_sta C_winit
  have N_snd : CalN l.prog w K mg base "sending" 6 p_sending (sp_sending E W) 2 ["wrong", "silent"] (fun vs zs => vs ++ zs) := ⟨_, _, _, O_snd, PySem.W.mg_of X G a_snd, k_snd, B7⟩
  have C_bag : Cal l.prog w K mg base "_law_bag" 1 ["_law_script", "_law_at"] (sp_law_bag K) := ⟨_, _, ok_law_bag F_bag Gv, PySem.W.mg_of X G a_bag, k_bag, b_bag⟩
  have C_tak : Cal l.prog w K mg base "_law_take" 1 ["_law_bag_here", "_law_many"] sp_law_take := ⟨_, _, ok_law_take F_tak Gv, PySem.W.mg_of X G a_tak, k_tak, b_tak⟩
  have C_nxt : Cal l.prog w K mg base "_law_next" 1 p_law_next sp_law_next := ⟨_, _, ok_law_next F_nxt, PySem.W.mg_of X G a_nxt, k_nxt, b_nxt⟩
  have C_lsn : Cal l.prog w K mg base "_law_sent" 2 p_law_sent sp_law_sent := ⟨_, _, ok_law_sent F_lsn Gv C_tak C_nxt, PySem.W.mg_of X G a_lsn, k_lsn, b_lsn⟩
  have C_eeq : CalEq l.prog w K mg base E 1 (SameEnd E) := ⟨_, _, ok_end_eq F_eeq TE IC, b_eeq, poE, neE, a_eeq, i_eeq⟩
  have C_estr : CalStr l.prog w K mg base E 2 (sp_end_str E) := ⟨_, _, ok_end_str F_estr TE C_mtx, b_estr, a_estr, i_estr⟩
  have C_wlen : CalLen l.prog w K mg base W 1 (sp_sd_len W) := ⟨_, _, ok_sd_len F_wlen TW Gv, b_wlen, a_wlen, i_wlen⟩
  exact ok_law (E := E) (U := U) (W := W) F_law Gv ⟨C_bag, C_tak, C_lsn, N_cnt4, N_snd, N_vot2, N_vot1, C_lst, C_std, C_lin, C_wrd, C_hrd, C_wlen, C_estr, C_eeq, clW⟩
theorem walk {l : PySem.W.OpenLaw} {q : Program} {loose : List Str} {XP : (Str → Option Value) → Heap → Prop} {YP : World → Heap → Prop} {d : DefRec} {K : Params → PySem.W.Frag} (hn : l.most = some 63) (hdf : d.params.defaults = [])
    (hY : ∀ (w : World) (h : Heap), YP w h → (K w.params).In h)
    (F : ∀ (w : World) (mg : Str → Option Value) (fa : Addr) (h : Heap), (K w.params).In h → h.Ns mainGlobals mg → mg d.name = some (.ref fa) →
      ∃ fd : FuncData, (∀ (s : Shared) (u : Value), BindsTo s fd ⟨[u], []⟩ [("_law_script", u)]) ∧ ∀ base : Heap, (K w.params).In base → base.Ns mainGlobals mg → FnOk l.prog w (K w.params) mg base CX0 10 fa fd ["_law_script"] (sp_law (K w.params))) :
    PySem.W.WalkO q loose XP YP l.row.toRowW d [] (fun f vs => PySem.call f vs) :=
  L2.walk_of (n := 63) (k := 10) (x := "_law_script") (CX := fun _ => CX0) (sp := fun w => sp_law (K w.params)) hn (by decide) hdf ⟨rfl, by decide, by decide⟩ hY F (fun _ _ a ns hl _ hS => ⟨a, ns, rfl, hS, fun _ => rfl⟩) fun _ _ _ _ _ z => z
end SB
end

open PySem PySem.W PyProof.Rows in
set_option maxRecDepth 100000 in
set_option maxHeartbeats 0 in
theorem PySem.Challenge.cw_strongbit_k56_whole_counted_sendings_holds : PySem.Challenge.rw_strongbit_k56_whole_counted_sendings.Holds := by
  w_on; o_law; k_head; (case hw => w_witness2)
  k_fill
  refine SB.walk (l := PySem.Challenge.rw_strongbit_k56_whole_counted_sendings) rfl rfl (fun w h Y => PySem.W.kIn_of Y) ?F
  case F =>
    intro w mg fa h KX G hmg
    refine' SB.all_mk KX G hmg ?aE ?pgE ?hdE ?poE ?saE ?mkE ?kcE ?aU ?pgU ?hdU ?poU ?saU ?mkU ?kcU ?aW ?pgW ?hdW ?poW ?saW ?mkW ?kcW ?a_isInt ?l_isInt ?c_isInt ?k_isInt ?a_isBit ?l_isBit ?c_isBit ?k_isBit ?a_isNext ?l_isNext ?c_isNext ?k_isNext ?a_isRow ?l_isRow ?c_isRow ?k_isRow ?a_chk ?l_chk ?c_chk ?k_chk ?a_wds ?l_wds ?c_wds ?k_wds ?a_einit ?i_einit ?l_einit ?c_einit ?k_einit ?a_hear ?g_hear ?t_hear ?r_hearh ?l_hear ?c_hear ?k_hear ?a_send ?g_send ?t_send ?r_sendh ?l_send ?c_send ?k_send ?a_eeq ?i_eeq ?l_eeq ?c_eeq ?k_eeq ?a_mtx ?l_mtx ?c_mtx ?k_mtx ?a_estr ?i_estr ?l_estr ?c_estr ?k_estr ?a_kat ?l_kat ?c_kat ?k_kat ?a_kof ?l_kof ?c_kof ?k_kof ?a_lrows ?l_lrows ?c_lrows ?k_lrows ?a_lst ?l_lst ?c_lst ?k_lst ?a_num ?l_num ?c_num ?k_num ?a_flr ?l_flr ?c_flr ?k_flr ?a_enr ?l_enr ?c_enr ?k_enr ?a_cnt ?l_cnt ?c_cnt ?k_cnt ?w_cnt0 ?w_cnt1 ?a_std ?l_std ?c_std ?k_std ?a_vor ?l_vor ?c_vor ?k_vor ?a_vot ?l_vot ?c_vot ?k_vot ?w_vot0 ?a_uinit ?i_uinit ?l_uinit ?c_uinit ?k_uinit ?a_isg ?i_isg ?l_isg ?c_isg ?k_isg ?a_gng ?i_gng ?l_gng ?c_gng ?k_gng ?a_rof ?i_rof ?l_rof ?c_rof ?k_rof ?a_sta ?i_sta ?l_sta ?c_sta ?k_sta ?a_stp ?i_stp ?l_stp ?c_stp ?k_stp ?a_sfl ?l_sfl ?c_sfl ?k_sfl ?a_wbd ?l_wbd ?c_wbd ?k_wbd ?a_dfl ?l_dfl ?c_dfl ?k_dfl ?a_run ?l_run ?c_run ?k_run ?a_winit ?i_winit ?l_winit ?c_winit ?k_winit ?a_lin ?g_lin ?t_lin ?r_linh ?l_lin ?c_lin ?k_lin ?a_wrd ?g_wrd ?t_wrd ?r_wrdh ?l_wrd ?c_wrd ?k_wrd ?a_hrd ?i_hrd ?l_hrd ?c_hrd ?k_hrd ?a_wlen ?i_wlen ?l_wlen ?c_wlen ?k_wlen ?a_snd ?l_snd ?c_snd ?k_snd ?w_snd0 ?a_bag ?l_bag ?c_bag ?k_bag ?a_tak ?l_tak ?c_tak ?k_tak ?a_nxt ?l_nxt ?c_nxt ?k_nxt ?a_lsn ?l_lsn ?c_lsn ?k_lsn ?a_law ?l_law ?c_law ?k_law ?nE_hearer_rows ?nE_sender_rows ?nE_table ?nU_end ?nU_labels ?nU_places ?nU_ears ?nU_passed ?nW_bits ?nW_told ?nW_ears ?z_isinstance ?z_int ?z_bool ?z_str ?z_tuple ?z_list ?z_len ?z_set ?z_enumerate ?z_range ?z_min ?z_max ?z_sorted ?z_abs ?q_HEARER ?q_SENDER ?q_WEAK ?q_MOST_BIT ?q_HEARER_WORDS ?ql_HEARER_WORDS ?q_SENDER_WORDS ?ql_SENDER_WORDS ?neE ?mR ?mG ?mV ?iC ?iG ?iT ?iM ?iK
    (case aE => k_is)
    (case pgE => k_is)
    (case hdE => k_is)
    (case poE => k_is)
    (case saE => k_is)
    (case mkE => k_is)
    (case kcE => k_is)
    (case aU => k_is)
    (case pgU => k_is)
    (case hdU => k_is)
    (case poU => k_is)
    (case saU => k_is)
    (case mkU => k_is)
    (case kcU => k_is)
    (case aW => k_is)
    (case pgW => k_is)
    (case hdW => k_is)
    (case poW => k_is)
    (case saW => k_is)
    (case mkW => k_is)
    (case kcW => k_is)
    (case a_isInt => k_is)
    (case l_isInt => k_is)
    (case c_isInt => k_is)
    (case k_isInt => k_is)
    (case a_isBit => k_is)
    (case l_isBit => k_is)
    (case c_isBit => k_is)
    (case k_isBit => k_is)
    (case a_isNext => k_is)
    (case l_isNext => k_is)
    (case c_isNext => k_is)
    (case k_isNext => k_is)
    (case a_isRow => k_is)
    (case l_isRow => k_is)
    (case c_isRow => k_is)
    (case k_isRow => k_is)
    (case a_chk => k_is)
    (case l_chk => k_is)
    (case c_chk => k_is)
    (case k_chk => k_is)
    (case a_wds => k_is)
    (case l_wds => k_is)
    (case c_wds => k_is)
    (case k_wds => k_is)
    (case a_einit => k_is)
    (case i_einit => k_is)
    (case l_einit => k_is)
    (case c_einit => k_is)
    (case k_einit => k_is)
    (case a_hear => k_is)
    (case g_hear => k_is)
    (case t_hear => k_is)
    (case r_hearh => k_is)
    (case l_hear => k_is)
    (case c_hear => k_is)
    (case k_hear => k_is)
    (case a_send => k_is)
    (case g_send => k_is)
    (case t_send => k_is)
    (case r_sendh => k_is)
    (case l_send => k_is)
    (case c_send => k_is)
    (case k_send => k_is)
    (case a_eeq => k_is)
    (case i_eeq => k_is)
    (case l_eeq => k_is)
    (case c_eeq => k_is)
    (case k_eeq => k_is)
    (case a_mtx => k_is)
    (case l_mtx => k_is)
    (case c_mtx => k_is)
    (case k_mtx => k_is)
    (case a_estr => k_is)
    (case i_estr => k_is)
    (case l_estr => k_is)
    (case c_estr => k_is)
    (case k_estr => k_is)
    (case a_kat => k_is)
    (case l_kat => k_is)
    (case c_kat => k_is)
    (case k_kat => k_is)
    (case a_kof => k_is)
    (case l_kof => k_is)
    (case c_kof => k_is)
    (case k_kof => k_is)
    (case a_lrows => k_is)
    (case l_lrows => k_is)
    (case c_lrows => k_is)
    (case k_lrows => k_is)
    (case a_lst => k_is)
    (case l_lst => k_is)
    (case c_lst => k_is)
    (case k_lst => k_is)
    (case a_num => k_is)
    (case l_num => k_is)
    (case c_num => k_is)
    (case k_num => k_is)
    (case a_flr => k_is)
    (case l_flr => k_is)
    (case c_flr => k_is)
    (case k_flr => k_is)
    (case a_enr => k_is)
    (case l_enr => k_is)
    (case c_enr => k_is)
    (case k_enr => k_is)
    (case a_cnt => k_is)
    (case l_cnt => k_is)
    (case c_cnt => k_is)
    (case k_cnt => k_is)
    (case w_cnt0 => k_is)
    (case w_cnt1 => k_is)
    (case a_std => k_is)
    (case l_std => k_is)
    (case c_std => k_is)
    (case k_std => k_is)
    (case a_vor => k_is)
    (case l_vor => k_is)
    (case c_vor => k_is)
    (case k_vor => k_is)
    (case a_vot => k_is)
    (case l_vot => k_is)
    (case c_vot => k_is)
    (case k_vot => k_is)
    (case w_vot0 => k_is)
    (case a_uinit => k_is)
    (case i_uinit => k_is)
    (case l_uinit => k_is)
    (case c_uinit => k_is)
    (case k_uinit => k_is)
    (case a_isg => k_is)
    (case i_isg => k_is)
    (case l_isg => k_is)
    (case c_isg => k_is)
    (case k_isg => k_is)
    (case a_gng => k_is)
    (case i_gng => k_is)
    (case l_gng => k_is)
    (case c_gng => k_is)
    (case k_gng => k_is)
    (case a_rof => k_is)
    (case i_rof => k_is)
    (case l_rof => k_is)
    (case c_rof => k_is)
    (case k_rof => k_is)
    (case a_sta => k_is)
    (case i_sta => k_is)
    (case l_sta => k_is)
    (case c_sta => k_is)
    (case k_sta => k_is)
    (case a_stp => k_is)
    (case i_stp => k_is)
    (case l_stp => k_is)
    (case c_stp => k_is)
    (case k_stp => k_is)
    (case a_sfl => k_is)
    (case l_sfl => k_is)
    (case c_sfl => k_is)
    (case k_sfl => k_is)
    (case a_wbd => k_is)
    (case l_wbd => k_is)
    (case c_wbd => k_is)
    (case k_wbd => k_is)
    (case a_dfl => k_is)
    (case l_dfl => k_is)
    (case c_dfl => k_is)
    (case k_dfl => k_is)
    (case a_run => k_is)
    (case l_run => k_is)
    (case c_run => k_is)
    (case k_run => k_is)
    (case a_winit => k_is)
    (case i_winit => k_is)
    (case l_winit => k_is)
    (case c_winit => k_is)
    (case k_winit => k_is)
    (case a_lin => k_is)
    (case g_lin => k_is)
    (case t_lin => k_is)
    (case r_linh => k_is)
    (case l_lin => k_is)
    (case c_lin => k_is)
    (case k_lin => k_is)
    (case a_wrd => k_is)
    (case g_wrd => k_is)
    (case t_wrd => k_is)
    (case r_wrdh => k_is)
    (case l_wrd => k_is)
    (case c_wrd => k_is)
    (case k_wrd => k_is)
    (case a_hrd => k_is)
    (case i_hrd => k_is)
    (case l_hrd => k_is)
    (case c_hrd => k_is)
    (case k_hrd => k_is)
    (case a_wlen => k_is)
    (case i_wlen => k_is)
    (case l_wlen => k_is)
    (case c_wlen => k_is)
    (case k_wlen => k_is)
    (case a_snd => k_is)
    (case l_snd => k_is)
    (case c_snd => k_is)
    (case k_snd => k_is)
    (case w_snd0 => k_is)
    (case a_bag => k_is)
    (case l_bag => k_is)
    (case c_bag => k_is)
    (case k_bag => k_is)
    (case a_tak => k_is)
    (case l_tak => k_is)
    (case c_tak => k_is)
    (case k_tak => k_is)
    (case a_nxt => k_is)
    (case l_nxt => k_is)
    (case c_nxt => k_is)
    (case k_nxt => k_is)
    (case a_lsn => k_is)
    (case l_lsn => k_is)
    (case c_lsn => k_is)
    (case k_lsn => k_is)
    (case a_law => k_is)
    (case l_law => k_is)
    (case c_law => k_is)
    (case k_law => k_is)
    (case nE_hearer_rows => k_is)
    (case nE_sender_rows => k_is)
    (case nE_table => k_is)
    (case nU_end => k_is)
    (case nU_labels => k_is)
    (case nU_places => k_is)
    (case nU_ears => k_is)
    (case nU_passed => k_is)
    (case nW_bits => k_is)
    (case nW_told => k_is)
    (case nW_ears => k_is)
    (case z_isinstance => k_is)
    (case z_int => k_is)
    (case z_bool => k_is)
    (case z_str => k_is)
    (case z_tuple => k_is)
    (case z_list => k_is)
    (case z_len => k_is)
    (case z_set => k_is)
    (case z_enumerate => k_is)
    (case z_range => k_is)
    (case z_min => k_is)
    (case z_max => k_is)
    (case z_sorted => k_is)
    (case z_abs => k_is)
    (case q_HEARER => k_is)
    (case q_SENDER => k_is)
    (case q_WEAK => k_is)
    (case q_MOST_BIT => k_is)
    (case q_HEARER_WORDS => k_is)
    (case ql_HEARER_WORDS => k_is)
    (case q_SENDER_WORDS => k_is)
    (case ql_SENDER_WORDS => k_is)
    (case neE => k_is)
    (case mR => k_is)
    (case mG => k_is)
    (case mV => k_is)
    (case iC => k_is)
    (case iG => k_is)
    (case iT => k_is)
    (case iM => k_is)
    (case iK => first | rfl | k_is)
#print axioms PySem.Challenge.cw_strongbit_k56_whole_counted_sendings_holds
