import PyProof.Rows.All
import Wide.All
import OpenK.AllK
import Wide.FinOn
import Lean
import PySem.Challenge.RW_pc0252_01
set_option Elab.async false
set_option maxRecDepth 100000
set_option maxHeartbeats 8000000
set_option genInjectivity false
set_option genSizeOfSpec false
open PySem PySem.W PyProof.Rows
local macro_rules | `(tactic| walk_at $s:str) => `(tactic| k_extra $s)
local macro_rules | `(tactic| ktr_room) => `(tactic| walk_at "MyRoom")
local macro_rules | `(tactic| ktr_units) => `(tactic| walk_at "MyUnits")
local macro_rules | `(tactic| k_ne) => `(tactic| walk_at "MyNe")
section
open PySem PySem.W PyProof.Rows
namespace Mine
/-- a text's signs -/
noncomputable abbrev L (x : Str) : List Nat := x.cps.toList
noncomputable def dig (c : Nat) : Bool := decide (48 ≤ c) && decide (c ≤ 57)
noncomputable def blk (c : Nat) : Bool := c == 32 || (decide (9 ≤ c) && decide (c ≤ 13))
@[irreducible] noncomputable def dA (l : List Nat) (i : Int) : Bool := match l[i.toNat]? with
  | some c => dig c
  | none => false
@[irreducible] noncomputable def bA (l : List Nat) (i : Int) : Bool := match l[i.toNat]? with
  | some c => blk c
  | none => false
theorem item_at {x : Str} {i : Int} (h0 : 0 ≤ i) (h1 : i < x.length) : ∃ c, (L x)[i.toNat]? = some c ∧ Txt.item x i = ⟨#[c]⟩ := by
  have hl : i.toNat < (L x).length := by simp [L, Str.length] at *; lia
  refine ⟨(L x)[i.toNat], List.getElem?_eq_getElem hl, ?_⟩
  have hs : seqIndex? i x.length = some i.toNat := by
    simp [seqIndex?]
    lia
  simp only [Txt.item, Txt.charAt, hs, Option.bind_some]
  have : x.cps[i.toNat]? = some (L x)[i.toNat] := by
    rw [← Array.getElem?_toList]; exact List.getElem?_eq_getElem hl
  rw [this]; rfl
theorem lt_one' {c d : Nat} : ([c] : List Nat) < [d] ↔ c < d := by simp [List.cons_lt_cons_iff]
theorem lt_one {c d : Nat} : decide (([c] : List Nat) < [d]) = decide (c < d) := by
  congr 1
  simp [List.cons_lt_cons_iff]
theorem nlen {x : Str} {i : Int} (h1 : ¬ i < x.length) : (L x)[i.toNat]? = none := by
  refine List.getElem?_eq_none ?_
  simp [L, Str.length] at *; lia
theorem z0 : (PySem.Str.ofString "0").cps.toList = [48] := by decide +kernel
theorem z9 : (PySem.Str.ofString "9").cps.toList = [57] := by decide +kernel
theorem dg1 {x : Str} {i : Int} (h0 : 0 ≤ i) (h1 : i < x.length) (h2 : (Txt.item x i).cps.toList < (PySem.Str.ofString "0").cps.toList) :
    (!decide ((Txt.item x i).cps.toList < (PySem.Str.ofString "0").cps.toList)) = dA (L x) i := by
  obtain ⟨c, hc, hi⟩ := item_at h0 h1
  rw [hi, z0] at h2 ⊢
  rw [lt_one] 
  rw [lt_one'] at h2
  simp only [dA, hc, dig]
  simp [h2]
  lia
theorem dg2 {x : Str} {i : Int} (h0 : 0 ≤ i) (h1 : i < x.length) (h2 : ¬ (Txt.item x i).cps.toList < (PySem.Str.ofString "0").cps.toList) :
    (!decide ((PySem.Str.ofString "9").cps.toList < (Txt.item x i).cps.toList)) = dA (L x) i := by
  obtain ⟨c, hc, hi⟩ := item_at h0 h1
  rw [hi, z0] at h2
  rw [hi, z9, lt_one]
  rw [lt_one'] at h2
  simp only [dA, hc, dig]
  have h3 : 48 ≤ c := by lia
  by_cases h : c ≤ 57
  · have h' : ¬ 57 < c := by lia
    simp [h, h3]
  · have h' : 57 < c := by lia
    simp [h']
theorem dg3 {x : Str} {i : Int} (h1 : ¬ i < x.length) : decide (i < x.length) = dA (L x) i := by
  simp [dA, nlen h1, h1]
@[irreducible] noncomputable def dB (l : List Nat) (i : Int) : Int := i + ((l.drop i.toNat).takeWhile dig).length
@[irreducible] noncomputable def bB (l : List Nat) (i : Int) : Int := i + ((l.drop i.toNat).takeWhile blk).length
theorem drop_some {l : List Nat} {i : Nat} {c : Nat} (h : l[i]? = some c) : l.drop i = c :: l.drop (i + 1) := by
  obtain ⟨hl, e⟩ := List.getElem?_eq_some_iff.mp h
  rw [List.drop_eq_getElem_cons hl, e]
theorem tn_succ {i : Int} (h : 0 ≤ i) : (i + 1).toNat = i.toNat + 1 := by lia
theorem dA_lt {x : Str} {i : Int} (h0 : 0 ≤ i) (h : dA (L x) i = true) : i < x.length := by
  unfold dA at h
  cases hc : (L x)[i.toNat]? with
  | none => rw [hc] at h; cases h
  | some c =>
    obtain ⟨hl, e⟩ := List.getElem?_eq_some_iff.mp hc
    have h2 : i.toNat < x.length := hl
    lia
theorem dB_step {l : List Nat} {i : Int} (h0 : 0 ≤ i) (h : dA l i = true) : dB l (i + 1) = dB l i := by
  unfold dA at h
  cases hc : l[i.toNat]? with
  | none => rw [hc] at h; cases h
  | some c =>
    rw [hc] at h
    simp only at h
    unfold dB
    rw [tn_succ h0, drop_some hc, List.takeWhile_cons, h]
    simp
    lia
theorem dB_stop {l : List Nat} {i : Int} (h : dA l i = false) : dB l i = i := by
  unfold dA at h
  unfold dB
  cases hc : l[i.toNat]? with
  | none =>
    have : l.length ≤ i.toNat := List.getElem?_eq_none_iff.mp hc
    rw [List.drop_of_length_le this]; simp
  | some c =>
    rw [hc] at h
    simp only at h
    rw [drop_some hc, List.takeWhile_cons, h]
    simp
theorem bA_lt {x : Str} {i : Int} (h0 : 0 ≤ i) (h : bA (L x) i = true) : i < x.length := by
  unfold bA at h
  cases hc : (L x)[i.toNat]? with
  | none => rw [hc] at h; cases h
  | some c =>
    obtain ⟨hl, e⟩ := List.getElem?_eq_some_iff.mp hc
    have h2 : i.toNat < x.length := hl
    lia
theorem bB_step {l : List Nat} {i : Int} (h0 : 0 ≤ i) (h : bA l i = true) : bB l (i + 1) = bB l i := by
  unfold bA at h
  cases hc : l[i.toNat]? with
  | none => rw [hc] at h; cases h
  | some c =>
    rw [hc] at h
    simp only at h
    unfold bB
    rw [tn_succ h0, drop_some hc, List.takeWhile_cons, h]
    simp
    lia
theorem bB_stop {l : List Nat} {i : Int} (h : bA l i = false) : bB l i = i := by
  unfold bA at h
  unfold bB
  cases hc : l[i.toNat]? with
  | none =>
    have : l.length ≤ i.toNat := List.getElem?_eq_none_iff.mp hc
    rw [List.drop_of_length_le this]; simp
  | some c =>
    rw [hc] at h
    simp only at h
    rw [drop_some hc, List.takeWhile_cons, h]
    simp
theorem dig_list (c : Nat) : [48, 49, 50, 51, 52, 53, 54, 55, 56, 57].contains c = dig c :=
  if h : c < 58 then (by decide +kernel : ∀ c < 58, [48, 49, 50, 51, 52, 53, 54, 55, 56, 57].contains c = dig c) c h
  else by obtain ⟨n, rfl⟩ := Nat.exists_eq_add_of_le' (Nat.le_of_not_lt h); rfl
theorem blk_list (c : Nat) : [32, 9, 10, 13, 11, 12].contains c = blk c :=
  if h : c < 33 then (by decide +kernel : ∀ c < 33, [32, 9, 10, 13, 11, 12].contains c = blk c) c h
  else by obtain ⟨n, rfl⟩ := Nat.exists_eq_add_of_le' (Nat.le_of_not_lt h); rfl
theorem any_one (c : Nat) : ∀ l : List Nat, ((l.map fun d => (⟨#[d]⟩ : PySem.Str)).any fun y => y == (⟨#[c]⟩ : PySem.Str)) = l.contains c
  | [] => rfl
  | d :: l => by
    rw [List.map_cons, List.any_cons, any_one c l, List.contains_cons]
    congr 1
    rw [Bool.eq_iff_iff, beq_iff_eq, beq_iff_eq]
    exact ⟨fun e => by cases e; rfl, fun e => by rw [e]⟩
theorem blk_any (c : Nat) : ([PySem.Str.ofString " ", PySem.Str.ofString "\t", PySem.Str.ofString "\n", PySem.Str.ofString "\x0d", PySem.Str.ofString "\x0b", PySem.Str.ofString "\x0c"].any fun y => y == (⟨#[c]⟩ : PySem.Str)) = blk c := by
  have e : [PySem.Str.ofString " ", PySem.Str.ofString "\t", PySem.Str.ofString "\n", PySem.Str.ofString "\x0d", PySem.Str.ofString "\x0b", PySem.Str.ofString "\x0c"] = [32, 9, 10, 13, 11, 12].map fun d => (⟨#[d]⟩ : PySem.Str) := by decide +kernel
  rw [e, any_one, blk_list]
theorem bA_of {x : Str} {i : Int} {b : Bool} (h0 : 0 ≤ i) (h1 : i < x.length) (h : ([PySem.Str.ofString " ", PySem.Str.ofString "\t", PySem.Str.ofString "\n", PySem.Str.ofString "\x0d", PySem.Str.ofString "\x0b", PySem.Str.ofString "\x0c"].any fun y => y == Txt.item x i) = b) : bA (L x) i = b := by
  obtain ⟨c, hc, hi⟩ := item_at h0 h1
  rw [hi, blk_any] at h
  simp only [bA, hc, h]
theorem bA_no {x : Str} {i : Int} (h1 : ¬ i < x.length) : bA (L x) i = false := by
  simp [bA, nlen h1]
@[irreducible] noncomputable def sgn (a b : Int) : Int := if a < b then -1 else if b < a then 1 else 0
theorem sgn_self {a : Int} : sgn a a = 0 := by unfold sgn; exact (if_neg (Int.lt_irrefl a)).trans (if_neg (Int.lt_irrefl a))
theorem sgn_lt {a b : Int} (h : a < b) : sgn a b = -1 := by unfold sgn; exact if_pos h
theorem sgn_gt {a b : Int} (h : b < a) : sgn a b = 1 := by unfold sgn; exact (if_neg (Int.lt_asymm h)).trans (if_pos h)
@[irreducible] noncomputable def cmpT (a b : List Nat) : Int := if a = b then 0 else if a < b then -1 else 1
@[irreducible] noncomputable def oA (l : List Nat) (i : Int) : Int := match l[i.toNat]? with
  | some c => c
  | none => 0
noncomputable def nZ : List Nat → Nat
  | [] => 0
  | [_] => 0
  | a :: c :: r => if a = 48 ∧ dig c = true then nZ (c :: r) + 1 else 0
@[irreducible] noncomputable def nB (l : List Nat) (i : Int) : Int := i + nZ (l.drop i.toNat)
@[irreducible] noncomputable def cR (a b : List Nat) : Int := if a.head? ≠ some 48 ∧ b.head? ≠ some 48 ∧ a.length ≠ b.length then sgn a.length b.length else cmpT a b
@[irreducible] noncomputable def wE (a : List Nat) (i : Int) (b : List Nat) (j : Int) : Int := sgn (max (a.length - i) 0) 0 - sgn (max (b.length - j) 0) 0
theorem oA1 {x : Str} {i : Int} (h0 : 0 ≤ i) (h1 : i < x.length) : (((Txt.item x i).cps.getD 0 0 : Nat) : Int) = oA (L x) i := by
  obtain ⟨c, hc, hi⟩ := item_at h0 h1
  rw [hi]
  simp [oA, hc]
theorem oA2 {x : Str} {i : Int} (h1 : ¬ i < x.length) : (0 : Int) = oA (L x) i := by
  simp [oA, nlen h1]
theorem str_eq {x y : Str} : (x == y) = true ↔ L x = L y := by
  rw [beq_iff_eq]
  constructor
  · rintro rfl; rfl
  · intro h
    cases x; cases y
    simp [L] at h
    rw [h]
theorem ct1 {x y : Str} (h : (x == y) = true) : 0 = cmpT (L x) (L y) := by simp [cmpT, str_eq.mp h]
theorem ct2 {x y : Str} (h : (x == y) = false) (h2 : x.cps.toList < y.cps.toList) : -1 = cmpT (L x) (L y) := by
  have : L x ≠ L y := fun e => by rw [str_eq.mpr e] at h; cases h
  simp [cmpT, this, h2, L]
theorem ct3 {x y : Str} (h : (x == y) = false) (h2 : ¬ x.cps.toList < y.cps.toList) : 1 = cmpT (L x) (L y) := by
  have : L x ≠ L y := fun e => by rw [str_eq.mpr e] at h; cases h
  rw [cmpT, if_neg this, if_neg h2]
open PySem.Builtin.Str in
theorem sliceIdx_min (i j : Int) (n : Nat) (h0 : 0 ≤ i) (h1 : i ≤ j) : strSliceIndices (some i) (some j) 1 n = strSliceIndices (some (min i n)) (some (min j n)) 1 n := by
  have p : ∀ {k : Int}, 0 ≤ k → ¬ k < 0 := fun h => Int.not_lt.mpr h
  have q : ∀ {k : Int}, 0 ≤ k → 0 ≤ min k (n : Int) := fun h => Int.le_min.mpr ⟨h, Int.natCast_nonneg n⟩
  have c : ∀ {k : Int}, 0 ≤ k → max 0 (min (if k < 0 then k + n else k) (n : Int)) = max 0 (min (if min k (n : Int) < 0 then min k (n : Int) + n else min k (n : Int)) (n : Int)) := fun h => by
    rw [if_neg (p h), if_neg (p (q h)), Int.min_assoc, Int.min_self]
  show sliceRange (max 0 (min (if i < 0 then i + n else i) (n : Int))) (max 0 (min (if j < 0 then j + n else j) (n : Int))) 1 = sliceRange _ _ 1
  rw [c h0, c (Int.le_trans h0 h1)]
  rfl
theorem slice_L {x : Str} {i j : Int} (h0 : 0 ≤ i) (h1 : i ≤ j) : L (Txt.slice x (some i) (some j)) = ((L x).drop i.toNat).take (j - i).toNat := by
  have e : Txt.slice x (some i) (some j) = Txt.slice x (some (min i (x.length : Int))) (some (min j (x.length : Int))) := by
    unfold Txt.slice
    rw [sliceIdx_min i j x.length h0 h1]
  have hl : x.cps.toList.length = x.length := rfl
  rw [e]
  show L (StrLaws.sliceText x _ _) = _
  rw [StrLaws.sliceText_plain (x := x) (i := min i (x.length : Int)) (j := min j (x.length : Int)) ⟨Int.le_min.mpr ⟨h0, Int.natCast_nonneg _⟩, Int.le_min.mpr ⟨Int.le_trans (Int.min_le_left _ _) h1, Int.min_le_right _ _⟩, Int.min_le_right _ _⟩]
  by_cases hi : i ≤ x.length
  · rw [Int.min_eq_left hi]
    by_cases hj : j ≤ x.length
    · rw [Int.min_eq_left hj]
    · rw [Int.min_eq_right (Int.le_of_not_le hj)]
      exact (List.take_of_length_le (by rw [List.length_drop, hl]; omega)).trans (List.take_of_length_le (by rw [List.length_drop, hl]; omega)).symm
  · rw [Int.min_eq_right (Int.le_of_not_le hi)]
    have d : (L x).drop i.toNat = [] := List.drop_of_length_le (by rw [hl]; omega)
    have d2 : x.cps.toList.drop (x.length : Int).toNat = [] := List.drop_of_length_le (Nat.le_refl _)
    rw [d, List.take_nil]
    show ((x.cps.toList.drop (x.length : Int).toNat).take _) = []
    rw [d2, List.take_nil]
theorem sl0 {x : Str} {i : Int} (h0 : 0 ≤ i) : (Txt.slice x (some i) (some (i + 1)) == PySem.Str.ofString "0") = true ↔ (L x)[i.toNat]? = some 48 := by
  rw [str_eq, slice_L h0 (by lia), show L (PySem.Str.ofString "0") = [48] from z0, show (i + 1 - i).toNat = 1 by lia]
  cases hc : (L x)[i.toNat]? with
  | none =>
    rw [List.drop_of_length_le (List.getElem?_eq_none_iff.mp hc)]
    simp
  | some c => rw [drop_some hc]; simp
theorem nZ_cons {a : Nat} {l : List Nat} : nZ (a :: l) = if a = 48 ∧ dA l 0 = true then nZ l + 1 else 0 := by
  cases l with
  | nil => simp [nZ, dA]
  | cons c r => simp [nZ, dA]
theorem dA_drop {l : List Nat} {i : Int} (h0 : 0 ≤ i) : dA (l.drop i.toNat) 0 = dA l i := by
  simp [dA]
theorem nB_step {x : Str} {i : Int} (h0 : 0 ≤ i) (h1 : (Txt.slice x (some i) (some (i + 1)) == PySem.Str.ofString "0") = true) (h2 : dA (L x) (i + 1) = true) : nB (L x) (i + 1) = nB (L x) i := by
  have hc := (sl0 h0).mp h1
  unfold nB
  rw [drop_some hc, nZ_cons, ← tn_succ h0, dA_drop (by lia), if_pos ⟨rfl, h2⟩]
  lia
theorem nB_stop1 {x : Str} {i : Int} (h0 : 0 ≤ i) (h2 : dA (L x) (i + 1) = false) : nB (L x) i = i := by
  unfold nB
  cases hc : (L x)[i.toNat]? with
  | none => rw [List.drop_of_length_le (List.getElem?_eq_none_iff.mp hc)]; simp [nZ]
  | some c =>
    rw [drop_some hc, nZ_cons, ← tn_succ h0, dA_drop (by lia), h2]
    simp
theorem nB_stop2 {x : Str} {i : Int} (h0 : 0 ≤ i) (h1 : (Txt.slice x (some i) (some (i + 1)) == PySem.Str.ofString "0") = false) : nB (L x) i = i := by
  unfold nB
  cases hc : (L x)[i.toNat]? with
  | none => rw [List.drop_of_length_le (List.getElem?_eq_none_iff.mp hc)]; simp [nZ]
  | some c =>
    rw [drop_some hc, nZ_cons]
    have : c ≠ 48 := fun e => by subst e; rw [(sl0 h0).mpr hc] at h1; cases h1
    simp [this]
theorem item0 {x : Str} (h : 0 < x.length) : (Txt.item x 0 != PySem.Str.ofString "0") = true ↔ (L x).head? ≠ some 48 := by
  obtain ⟨c, hc, hi⟩ := item_at (x := x) (i := 0) (by lia) (by lia)
  have z : PySem.Str.ofString "0" = ⟨#[48]⟩ := by decide +kernel
  rw [hi, z, List.head?_eq_getElem?]
  rw [show (0 : Int).toNat = 0 from rfl] at hc
  rw [hc]
  simp
theorem item0f {x : Str} (h : 0 < x.length) : (Txt.item x 0 != PySem.Str.ofString "0") = false ↔ (L x).head? = some 48 := by
  rw [← Bool.not_eq_true, item0 h]
  simp
theorem cr1 {x y : Str} (hx : 0 < x.length) (hy : 0 < y.length) (h1 : (Txt.item x 0 != PySem.Str.ofString "0") = true) (h2 : (Txt.item y 0 != PySem.Str.ofString "0") = true) (h3 : (x.length : Int) ≠ y.length) :
    sgn x.length y.length = cR (L x) (L y) := by
  have h3' : (L x).length ≠ (L y).length := fun e => h3 (congrArg Int.ofNat e)
  rw [cR, if_pos ⟨(item0 hx).mp h1, (item0 hy).mp h2, h3'⟩]
  rfl
theorem cr2 {x y : Str} (h3 : (x.length : Int) = y.length) : cmpT (L x) (L y) = cR (L x) (L y) := by
  have h3' : (L x).length = (L y).length := Int.ofNat_inj.mp h3
  rw [cR, if_neg (fun h => h.2.2 h3')]
theorem cr3 {x y : Str} (hy : 0 < y.length) (h : (Txt.item y 0 != PySem.Str.ofString "0") = false) : cmpT (L x) (L y) = cR (L x) (L y) := by
  rw [cR, if_neg (fun h' => h'.2.1 ((item0f hy).mp h))]
theorem cr4 {x y : Str} (hx : 0 < x.length) (h : (Txt.item x 0 != PySem.Str.ofString "0") = false) : cmpT (L x) (L y) = cR (L x) (L y) := by
  rw [cR, if_neg (fun h' => h'.1 ((item0f hx).mp h))]
theorem we1 {x y : Str} {i j : Int} : sgn (if 0 > (x.length : Int) - i then 0 else x.length - i) 0 - sgn (if 0 > (y.length : Int) - j then 0 else y.length - j) 0 = wE (L x) i (L y) j := by
  have e : ∀ k : Int, (if 0 > k then 0 else k) = max k 0 := fun k => by split <;> lia
  rw [e, e]
  unfold wE
  rfl
theorem dA_lt1 {x : Str} {i : Int} (h : dA (L x) (i + 1) = true) (h0 : 0 ≤ i) : i + 1 < x.length := dA_lt (by lia) h
end Mine
end
section
open PySem PySem.W PyProof.Rows
namespace Mine
open_top hd for PySem.Challenge.rw_pc0252_01
end Mine
end
section
open PySem PySem.W PyProof.Rows
namespace Mine
noncomputable abbrev prog : Program := PySem.Challenge.rw_pc0252_01.prog
noncomputable abbrev Led := List (Addr × Obj)
/-- the steps of a stack that a def wants -/
noncomputable def Us (lv : Nat) : Nat := 8 * lv + 64
noncomputable def Does (w : World) (lv : Nat) (f : Addr) (news : Led) (vs : List Value) (O : Value → Led → Prop) : Prop :=
  ∀ (mean : ExcName → Option Value) (mg mb : Str → Option Value) (dp un : Nat) (gd : Option (List Code)) (cn : Str) (cs : Scope) (a : Addr) (ccd : Value) (cl : List (Str × Addr)) (outer : List Env) (A₀ : Around) (base h₀ : Heap) (L : Addr) (m : Str → Option Value) (s : Shared) (Q E : Value → Shared → Prop),
    Below A₀ base outer h₀ → Fr h₀ L s.heap m → (hd.heap_39 w.params).In h₀ → News h₀ L s.heap news → Top hd.view_39 (looseW hd.view_39 []) mean mg mb h₀ → cs.kind = .function → dp + lv < recursionLimit → un + Us lv < cLine →
    (∀ r nw h' tk', Fr h₀ L h' m → News h₀ L h' nw → O r nw → Q r { s with heap := h', toks := tk' }) →
    wpAny (model prog w) (ktrTop dp un gd cn cs L a ccd cl outer) (call (.ref f) vs) Q E s
noncomputable abbrev DoesI (w : World) (lv : Nat) (f : Addr) (news : Led) (vs : List Value) (v : Int) : Prop := Does w lv f news vs (fun r nw => nw = news ∧ ∃ t, r = .int v t)
noncomputable abbrev DoesB (w : World) (lv : Nat) (f : Addr) (news : Led) (vs : List Value) (v : Bool) : Prop := Does w lv f news vs (fun r nw => nw = news ∧ r = .bool v)
noncomputable abbrev DoesS (w : World) (lv : Nat) (f : Addr) (news : Led) (vs : List Value) (v : Str) : Prop := Does w lv f news vs (fun r nw => nw = news ∧ ∃ t, r = .str v t)

section
variable {w : World} {lv : Nat} {f : Addr} {news : Led} {vs : List Value} {mean : ExcName → Option Value} {mg mb : Str → Option Value} {dp un : Nat} {gd : Option (List Code)} {cn : Str} {cs : Scope} {a : Addr} {ccd : Value} {cl : List (Str × Addr)} {outer : List Env} {A₀ : Around} {base h₀ : Heap} {L : Addr} {m : Str → Option Value} {s : Shared} {Q E : Value → Shared → Prop}
theorem useI {v : Int} (C : DoesI w lv f news vs v) (B : Below A₀ base outer h₀) (F : Fr h₀ L s.heap m) (X : (hd.heap_39 w.params).In h₀) (N : News h₀ L s.heap news) (T : Top hd.view_39 (looseW hd.view_39 []) mean mg mb h₀) (hk : cs.kind = .function) (hd : dp + lv < recursionLimit) (hu : un + Us lv < cLine)
    (h : ∀ t h' tk', Fr h₀ L h' m → News h₀ L h' news → Q (.int v t) { s with heap := h', toks := tk' }) : wpAny (model prog w) (ktrTop dp un gd cn cs L a ccd cl outer) (call (.ref f) vs) Q E s :=
  C _ _ _ _ _ _ _ _ _ _ _ _ _ _ _ _ _ _ _ _ B F X N T hk hd hu (fun _ _ _ _ F' N' ⟨e, t, e'⟩ => by subst e e'; exact h _ _ _ F' N')
theorem useB {v : Bool} (C : DoesB w lv f news vs v) (B : Below A₀ base outer h₀) (F : Fr h₀ L s.heap m) (X : (hd.heap_39 w.params).In h₀) (N : News h₀ L s.heap news) (T : Top hd.view_39 (looseW hd.view_39 []) mean mg mb h₀) (hk : cs.kind = .function) (hd : dp + lv < recursionLimit) (hu : un + Us lv < cLine)
    (h : ∀ h' tk', Fr h₀ L h' m → News h₀ L h' news → Q (.bool v) { s with heap := h', toks := tk' }) : wpAny (model prog w) (ktrTop dp un gd cn cs L a ccd cl outer) (call (.ref f) vs) Q E s :=
  C _ _ _ _ _ _ _ _ _ _ _ _ _ _ _ _ _ _ _ _ B F X N T hk hd hu (fun _ _ _ _ F' N' ⟨e, e'⟩ => by subst e e'; exact h _ _ F' N')
theorem useS {v : Str} (C : DoesS w lv f news vs v) (B : Below A₀ base outer h₀) (F : Fr h₀ L s.heap m) (X : (hd.heap_39 w.params).In h₀) (N : News h₀ L s.heap news) (T : Top hd.view_39 (looseW hd.view_39 []) mean mg mb h₀) (hk : cs.kind = .function) (hd : dp + lv < recursionLimit) (hu : un + Us lv < cLine)
    (h : ∀ t h' tk', Fr h₀ L h' m → News h₀ L h' news → Q (.str v t) { s with heap := h', toks := tk' }) : wpAny (model prog w) (ktrTop dp un gd cn cs L a ccd cl outer) (call (.ref f) vs) Q E s :=
  C _ _ _ _ _ _ _ _ _ _ _ _ _ _ _ _ _ _ _ _ B F X N T hk hd hu (fun _ _ _ _ F' N' ⟨e, t, e'⟩ => by subst e e'; exact h _ _ _ F' N')
-- the end of a way through a def
theorem endI {v v' : Int} {h' : Heap} {tk' : Nat} {t : Tok} {nw : Led} (H : ∀ r nw h' tk', Fr h₀ L h' m → News h₀ L h' nw → (nw = news ∧ ∃ t, r = .int v t) → Q r { s with heap := h', toks := tk' }) (F : Fr h₀ L h' m) (N : News h₀ L h' nw) (hs : ∀ p ∈ news, p ∈ nw) (e : v' = v) : Q (.int v' t) { s with heap := h', toks := tk' } :=
  H _ news _ _ F (fun p hp => N p (hs p hp)) ⟨rfl, t, e ▸ rfl⟩
theorem endB {v v' : Bool} {h' : Heap} {tk' : Nat} {nw : Led} (H : ∀ r nw h' tk', Fr h₀ L h' m → News h₀ L h' nw → (nw = news ∧ r = .bool v) → Q r { s with heap := h', toks := tk' }) (F : Fr h₀ L h' m) (N : News h₀ L h' nw) (hs : ∀ p ∈ news, p ∈ nw) (e : v' = v) : Q (.bool v') { s with heap := h', toks := tk' } :=
  H _ news _ _ F (fun p hp => N p (hs p hp)) ⟨rfl, e ▸ rfl⟩
theorem endS {v v' : Str} {h' : Heap} {tk' : Nat} {t : Tok} {nw : Led} (H : ∀ r nw h' tk', Fr h₀ L h' m → News h₀ L h' nw → (nw = news ∧ ∃ t, r = .str v t) → Q r { s with heap := h', toks := tk' }) (F : Fr h₀ L h' m) (N : News h₀ L h' nw) (hs : ∀ p ∈ news, p ∈ nw) (e : v' = v) : Q (.str v' t) { s with heap := h', toks := tk' } :=
  H _ news _ _ F (fun p hp => N p (hs p hp)) ⟨rfl, t, e ▸ rfl⟩
end

section
variable {dp un lv k R C : Nat}
theorem roomL (h : dp + lv < R) (hk : Nat.ble (1 + k) lv = true) : dp + 1 + k < R :=
  Nat.lt_of_le_of_lt (Nat.add_assoc dp 1 k ▸ Nat.add_le_add_left (Nat.le_of_ble_eq_true hk) dp) h
theorem roomA (h : dp + lv < R) : dp < R := Nat.lt_of_le_of_lt (Nat.le_add_right _ _) h
theorem unitL (h : un + lv < C) (hk : Nat.ble (3 + k) lv = true) : un + 3 + k < C :=
  Nat.lt_of_le_of_lt (Nat.add_assoc un 3 k ▸ Nat.add_le_add_left (Nat.le_of_ble_eq_true hk) un) h
end
theorem lt_ne {j : Int} {n : Nat} (h1 : j ≤ n) (h2 : j ≠ n) : j < n := Int.lt_iff_le_and_ne.mpr ⟨h1, h2⟩
theorem meas2 {j k : Int} {n : Nat} (h1 : j < k) (h : j < n) : ((n : Int) - k).toNat < ((n : Int) - j).toNat := by omega
theorem meas1 {j : Int} {n : Nat} (h : j < n) : ((n : Int) - (j + 1)).toNat < ((n : Int) - j).toNat := meas2 (Int.lt_add_one_of_le (Int.le_refl j)) h
section
variable {a l : Addr} {p q r s t u v : Prop}
theorem ne_1 (h : (@LT.lt Nat _ a l) ∧ p) : l ≠ a := Nat.ne_of_gt h.1
theorem ne_2 (h : p ∧ (@LT.lt Nat _ a l) ∧ q) : l ≠ a := Nat.ne_of_gt h.2.1
theorem ne_3 (h : p ∧ q ∧ (@LT.lt Nat _ a l) ∧ r) : l ≠ a := Nat.ne_of_gt h.2.2.1
theorem ne_4 (h : p ∧ q ∧ r ∧ (@LT.lt Nat _ a l) ∧ s) : l ≠ a := Nat.ne_of_gt h.2.2.2.1
theorem ne_5 (h : p ∧ q ∧ r ∧ s ∧ (@LT.lt Nat _ a l) ∧ t) : l ≠ a := Nat.ne_of_gt h.2.2.2.2.1
theorem ne_6 (h : p ∧ q ∧ r ∧ s ∧ t ∧ (@LT.lt Nat _ a l) ∧ u) : l ≠ a := Nat.ne_of_gt h.2.2.2.2.2.1
end
theorem fits_l {n : Nat} (h : n ≤ 2000) : n ≤ sizeLine := Nat.le_trans h (by decide)
section
variable {prog : Program} {w : World} {A : Around} {E : Value → Shared → Prop} {s : Shared} {x : Str} {t u : Tok} {i : Int} {value slice : PySem.Expr} {Q : Value → Shared → Prop}
theorem len_S (hl : x.length ≤ 2000) (h : Q (.int x.length (s.toks + 1)) { s with toks := s.toks + 1 + 1 }) : wpAny (model prog w) A (call (.builtin "len") [.str x t]) Q E s :=
  SBL.len (Int.lt_of_le_of_lt (Int.ofNat_le.mpr hl) (by decide)) h
theorem item_S (h0 : 0 ≤ i) (h2 : i < x.length) (hl : x.length ≤ 2000)
    (h : (1 ≤ (Txt.item x i).length ∧ (Txt.item x i).length ≤ 1) → Q (.str (Txt.item x i) s.toks) { s with toks := s.toks + 1 })
    (hs : subscripted slice false (.str x t) (.int i u) = operate [.str x t, .int i u] (getItem (.str x t) (.int i u)) := by with_unfolding_all rfl)
    (ht : ∀ r, letTemporaryGo value (.str x t) r = pure () := by intro _; with_unfolding_all rfl) :
    wpAny (model prog w) A (subscriptTail value slice (.str x t) (.int i u)) Q E s :=
  item_str (fitsSsize_of (N := 9223372036854775808) (Int.lt_of_lt_of_le (by decide) h0) (Int.lt_of_lt_of_le h2 (Int.le_trans (Int.ofNat_le.mpr hl) (by decide))) (Int.le_refl _)) (Int.le_trans (Int.neg_nonpos_of_nonneg (Int.natCast_nonneg _)) h0) h2 h hs ht
theorem ord_S (h1 : 1 ≤ x.length ∧ x.length ≤ 1) (h : Q (.int (x.cps.getD 0 0 : Nat) s.toks) { s with toks := s.toks + 1 }) : wpAny (model prog w) A (call (.builtin "ord") [.str x t]) Q E s :=
  ord_of_one (Nat.le_antisymm h1.2 h1.1) h
end
-- a frame that tells just these names
section
variable {h₀ h : Heap} {Lo : Addr} {m : Str → Option Value} {P : Prop} {v0 v1 v2 v3 : Value}
theorem fr_in (ps : List (Str × Value)) (F : Fr h₀ Lo h m) (h1 : ∀ p ∈ ps, m p.1 = some p.2) (k : ∀ u, Fr h₀ Lo h (kstB u ps) → P) : P :=
  k m (by rw [show kstB m ps = m from funext fun z => kstB_eq h1 fun _ => rfl]; exact F)
theorem fr_in1 (n0 : Str) (F : Fr h₀ Lo h m) (h0 : m n0 = some v0) (k : ∀ u : Str → Option Value, Fr h₀ Lo h (fun z => if z = n0 then some v0 else u z) → P) : P :=
  fr_in [(n0, v0)] F (List.forall_mem_cons.mpr ⟨h0, fun _ h => nomatch h⟩) k
theorem fr_in2 (n0 n1 : Str) (F : Fr h₀ Lo h m) (h0 : m n0 = some v0) (h1 : m n1 = some v1) (k : ∀ u : Str → Option Value, Fr h₀ Lo h (fun z => if z = n0 then some v0 else if z = n1 then some v1 else u z) → P) : P :=
  fr_in [(n0, v0), (n1, v1)] F (List.forall_mem_cons.mpr ⟨h0, List.forall_mem_cons.mpr ⟨h1, fun _ h => nomatch h⟩⟩) k
theorem fr_in3 (n0 n1 n2 : Str) (F : Fr h₀ Lo h m) (h0 : m n0 = some v0) (h1 : m n1 = some v1) (h2 : m n2 = some v2) (k : ∀ u : Str → Option Value, Fr h₀ Lo h (fun z => if z = n0 then some v0 else if z = n1 then some v1 else if z = n2 then some v2 else u z) → P) : P :=
  fr_in [(n0, v0), (n1, v1), (n2, v2)] F (List.forall_mem_cons.mpr ⟨h0, List.forall_mem_cons.mpr ⟨h1, List.forall_mem_cons.mpr ⟨h2, fun _ h => nomatch h⟩⟩⟩) k
theorem fr_in4 (n0 n1 n2 n3 : Str) (F : Fr h₀ Lo h m) (h0 : m n0 = some v0) (h1 : m n1 = some v1) (h2 : m n2 = some v2) (h3 : m n3 = some v3) (k : ∀ u : Str → Option Value, Fr h₀ Lo h (fun z => if z = n0 then some v0 else if z = n1 then some v1 else if z = n2 then some v2 else if z = n3 then some v3 else u z) → P) : P :=
  fr_in [(n0, v0), (n1, v1), (n2, v2), (n3, v3)] F (List.forall_mem_cons.mpr ⟨h0, List.forall_mem_cons.mpr ⟨h1, List.forall_mem_cons.mpr ⟨h2, List.forall_mem_cons.mpr ⟨h3, fun _ h => nomatch h⟩⟩⟩⟩) k
end
theorem fill : (PySem.Challenge.rw_pc0252_01, hd.heap_39) = (PySem.Challenge.rw_pc0252_01, hd.heap_39) := by
  k_fill
  rfl
end Mine
end
section
open PySem PySem.W PyProof.Rows
namespace Mine
theorem offD1 {w : World} {A : Around} {Q : Flow → Shared → Prop} {E : Value → Shared → Prop} {s : Shared} {env : Env} (h : Q .next s) : wpAny (model prog w) A (execs [] env) Q E s := by
  k_with_none
  w_top off
  walk1
  exact h
theorem fill1 : (PySem.Challenge.rw_pc0252_01, hd.heap_39) = (PySem.Challenge.rw_pc0252_01, hd.heap_39) := by
  k_fill
  rfl
theorem wordD1_1 : True := by
  k_with "MyRoom" => first
        | (refine' roomL ?h1Y1 ?h2Y1; (case h1Y1 => assumption); (case h2Y1 => exact rfl))
        | (refine' roomA ?h1Y1; (case h1Y1 => assumption))
        | exact Nat.le_of_ble_eq_true rfl
  k_with "MyUnits" => first
        | (refine' unitL ?h1Y2 ?h2Y2; (case h1Y2 => assumption); (case h2Y2 => exact rfl))
        | exact Nat.le_of_ble_eq_true rfl
  k_with "MyLo" => first | assumption | exact Int.le_add_one (by assumption)
  k_with "MyHi" => first | assumption | exact lt_ne (by assumption) (by assumption) | exact Int.lt_of_lt_of_le (by assumption) (by assumption)
  k_with "call builtin:len" => (
        k_here; (with_reducible show wpAny _ _ (call (Value.builtin "len") [Value.str _ _]) _ _ _);
        k_dflt (refine' len_S ?h1Y5 ?_; (case h1Y5 => assumption)))
  k_with "subscriptTail Name Name str int" => (
        k_here; k_dflt (refine' item_S ?h1Y6 ?h2Y6 ?h3Y6 ?_ ?h4Y6 ?h5Y6; (case h1Y6 => walk_at "MyLo"); (case h2Y6 => walk_at "MyHi"); (case h3Y6 => assumption); (case h4Y6 => with_unfolding_all rfl); (case h5Y6 => intro _; with_unfolding_all rfl)); intro _)
  k_with "call builtin:ord" => (
        k_here; k_dflt (refine' ord_S ?h1Y7 ?_; (case h1Y7 => assumption)))
  trivial
theorem is_digit_ok (w : World) (news : Led) (x : Str) (tx ti : Tok) (i : Int) (h0 : 0 ≤ i) (hl : x.length ≤ 2000) :
   DoesB w 2 21 news [.str x tx, .int i ti] (dA (L x) i) := by
  unfold DoesB Does
  intro mean mg mb dp un gd cn cs a ccd cl outer A₀ base h₀ L m s Q E B F X N T hk hdp hu hret
  refine wpAny_call ?_
  k_dflt cell_enter
  rename Fr _ _ _ _ => F₀
  refine fr_in2 (Str.ofString "text") (Str.ofString "at") F₀ rfl rfl ?_
  clear F₀
  intro u F₀
  k_steps
  all_goals refine endB hret (by k_asm) (by k_asm) (fun _ h => h) ?_
  all_goals (try dsimp only [])
  · exact dg1 h0 (by assumption) (by assumption)
  · exact dg2 h0 (by assumption) (by assumption)
  · exact dg3 (by assumption)
end Mine
end
section
open PySem PySem.W PyProof.Rows
namespace Mine
theorem offD2 {w : World} {A : Around} {Q : Flow → Shared → Prop} {E : Value → Shared → Prop} {s : Shared} {env : Env} (h : Q .next s) : wpAny (model prog w) A (execs [] env) Q E s := by
  k_with_none
  w_top off
  walk1
  exact h
theorem fill2 : (PySem.Challenge.rw_pc0252_01, hd.heap_39) = (PySem.Challenge.rw_pc0252_01, hd.heap_39) := by
  k_fill
  rfl
theorem wordD2_1 : True := by
  k_with "MyRoom" => first
        | (refine' roomL ?h1Y8 ?h2Y8; (case h1Y8 => assumption); (case h2Y8 => exact rfl))
        | (refine' roomA ?h1Y8; (case h1Y8 => assumption))
        | exact Nat.le_of_ble_eq_true rfl
  k_with "MyUnits" => first
        | (refine' unitL ?h1Y9 ?h2Y9; (case h1Y9 => assumption); (case h2Y9 => exact rfl))
        | exact Nat.le_of_ble_eq_true rfl
  k_with "MyLo" => first | assumption | exact Int.le_add_one (by assumption)
  k_with "MyHi" => first | assumption | exact lt_ne (by assumption) (by assumption) | exact Int.lt_of_lt_of_le (by assumption) (by assumption)
  k_with "call builtin:len" => (
        k_here; (with_reducible show wpAny _ _ (call (Value.builtin "len") [Value.str _ _]) _ _ _);
        k_dflt (refine' len_S ?h1Y12 ?_; (case h1Y12 => assumption)))
  k_with "subscriptTail Name Name str int" => (
        k_here; k_dflt (refine' item_S ?h1Y13 ?h2Y13 ?h3Y13 ?_ ?h4Y13 ?h5Y13; (case h1Y13 => walk_at "MyLo"); (case h2Y13 => walk_at "MyHi"); (case h3Y13 => assumption); (case h4Y13 => with_unfolding_all rfl); (case h5Y13 => intro _; with_unfolding_all rfl)); intro _)
  k_with "call builtin:ord" => (
        k_here; k_dflt (refine' ord_S ?h1Y14 ?_; (case h1Y14 => assumption)))
  k_with "MyUse" => (
        (case k1 => k_asm); (case k2 => k_asm); (case k3 => k_asm); (case k4 => k_asm); (case k5 => k_asm); (case k6 => first | exact rfl | assumption); (case k7 => ktr_room); (case k8 => ktr_units); intros; (try k_sweep); (try dsimp only); (try k_fold))
  k_with "MyNum" => first | assumption | omega
  k_with "call ref" => (
        k_here; (with_reducible show wpAny _ _ (call (.ref 21) _) _ _ _);
        k_dflt (refine' useB (is_digit_ok _ _ _ _ _ _ ?p1Y17 ?p2Y17) ?k1 ?k2 ?k3 ?k4 ?k5 ?k6 ?k7 ?k8 ?_; (case p1Y17 => walk_at "MyNum"); (case p2Y17 => walk_at "MyNum"); walk_at "MyUse"))
  trivial
theorem digits_behind_ok (w : World) (news : Led) (x : Str) (tx ti : Tok) (i : Int) (h0 : 0 ≤ i) (hl : x.length ≤ 2000) :
   DoesI w 4 28 news [.str x tx, .int i ti] (dB (L x) i) := by
  unfold DoesI Does
  intro mean mg mb dp un gd cn cs a ccd cl outer A₀ base h₀ L m s Q E B F X N T hk hdp hu hret
  refine wpAny_call ?_
  k_dflt cell_enter
  rename Fr _ _ _ _ => F₀
  refine fr_in2 (Str.ofString "text") (Str.ofString "at") F₀ rfl rfl ?_
  clear F₀
  intro u F₀
  k_with "state" => first | exact ⟨h0, rfl⟩ | exact ⟨Int.le_add_one (by assumption), (dB_step (by assumption) (by assumption)).trans (by assumption)⟩
  k_with "measure" => exact meas1 (dA_lt (by assumption) (by assumption))
  k_with "exec While Call cons nil" => k_while (fun (_ : List Int) a => 0 ≤ a ∧ dB (Mine.L x) a = dB (Mine.L x) i) (fun (_ : List Int) a => (x.length - a).toNat) "at"
  k_steps
  all_goals refine endI hret (by k_asm) (by k_asm) (fun _ h => h) ?_
  · exact (dB_stop (by assumption)).symm.trans (by assumption)
end Mine
end
section
open PySem PySem.W PyProof.Rows
namespace Mine
theorem offD3 {w : World} {A : Around} {Q : Flow → Shared → Prop} {E : Value → Shared → Prop} {s : Shared} {env : Env} (h : Q .next s) : wpAny (model prog w) A (execs [] env) Q E s := by
  k_with_none
  w_top off
  walk1
  exact h
theorem fill3 : (PySem.Challenge.rw_pc0252_01, hd.heap_39) = (PySem.Challenge.rw_pc0252_01, hd.heap_39) := by
  k_fill
  rfl
theorem wordD3_1 : True := by
  k_with "MyRoom" => first
        | (refine' roomL ?h1Y18 ?h2Y18; (case h1Y18 => assumption); (case h2Y18 => exact rfl))
        | (refine' roomA ?h1Y18; (case h1Y18 => assumption))
        | exact Nat.le_of_ble_eq_true rfl
  k_with "MyUnits" => first
        | (refine' unitL ?h1Y19 ?h2Y19; (case h1Y19 => assumption); (case h2Y19 => exact rfl))
        | exact Nat.le_of_ble_eq_true rfl
  k_with "MyLo" => first | assumption | exact Int.le_add_one (by assumption)
  k_with "MyHi" => first | assumption | exact lt_ne (by assumption) (by assumption) | exact Int.lt_of_lt_of_le (by assumption) (by assumption)
  k_with "call builtin:len" => (
        k_here; (with_reducible show wpAny _ _ (call (Value.builtin "len") [Value.str _ _]) _ _ _);
        k_dflt (refine' len_S ?h1Y22 ?_; (case h1Y22 => assumption)))
  k_with "subscriptTail Name Name str int" => (
        k_here; k_dflt (refine' item_S ?h1Y23 ?h2Y23 ?h3Y23 ?_ ?h4Y23 ?h5Y23; (case h1Y23 => walk_at "MyLo"); (case h2Y23 => walk_at "MyHi"); (case h3Y23 => assumption); (case h4Y23 => with_unfolding_all rfl); (case h5Y23 => intro _; with_unfolding_all rfl)); intro _)
  k_with "call builtin:ord" => (
        k_here; k_dflt (refine' ord_S ?h1Y24 ?_; (case h1Y24 => assumption)))
  trivial
theorem blanks_behind_ok (w : World) (news : Led) (x : Str) (tx ti : Tok) (i : Int) (h0 : 0 ≤ i) (hl : x.length ≤ 2000) :
   DoesI w 4 35 news [.str x tx, .int i ti] (bB (L x) i) := by
  unfold DoesI Does
  intro mean mg mb dp un gd cn cs a ccd cl outer A₀ base h₀ L m s Q E B F X N T hk hdp hu hret
  refine wpAny_call ?_
  k_dflt cell_enter
  rename Fr _ _ _ _ => F₀
  refine fr_in2 (Str.ofString "text") (Str.ofString "at") F₀ rfl rfl ?_
  clear F₀
  intro u F₀
  k_with "state" => first | exact ⟨h0, rfl⟩ | exact ⟨Int.le_add_one (by assumption), (bB_step (by assumption) (bA_of (by assumption) (by assumption) (by assumption))).trans (by assumption)⟩
  k_with "measure" => exact meas1 (by assumption)
  k_with "exec While BoolOp" => k_while (fun (_ : List Int) a => 0 ≤ a ∧ bB (Mine.L x) a = bB (Mine.L x) i) (fun (_ : List Int) a => (x.length - a).toNat) "at"
  k_steps
  all_goals refine endI hret (by k_asm) (by k_asm) (by kcj_all) ?_
  · exact (bB_stop (bA_of (by assumption) (by assumption) (by assumption))).symm.trans (by assumption)
  · exact (bB_stop (bA_no (by assumption))).symm.trans (by assumption)
end Mine
end
section
open PySem PySem.W PyProof.Rows
namespace Mine
theorem offD4 {w : World} {A : Around} {Q : Flow → Shared → Prop} {E : Value → Shared → Prop} {s : Shared} {env : Env} (h : Q .next s) : wpAny (model prog w) A (execs [] env) Q E s := by
  k_with_none
  w_top off
  walk1
  exact h
theorem fill4 : (PySem.Challenge.rw_pc0252_01, hd.heap_39) = (PySem.Challenge.rw_pc0252_01, hd.heap_39) := by
  k_fill
  rfl
theorem wordD4_1 : True := by
  k_with "MyRoom" => first
        | (refine' roomL ?h1Y25 ?h2Y25; (case h1Y25 => assumption); (case h2Y25 => exact rfl))
        | (refine' roomA ?h1Y25; (case h1Y25 => assumption))
        | exact Nat.le_of_ble_eq_true rfl
  k_with "MyUnits" => first
        | (refine' unitL ?h1Y26 ?h2Y26; (case h1Y26 => assumption); (case h2Y26 => exact rfl))
        | exact Nat.le_of_ble_eq_true rfl
  k_with "MyLo" => first | assumption | exact Int.le_add_one (by assumption)
  k_with "MyHi" => first | assumption | exact lt_ne (by assumption) (by assumption) | exact Int.lt_of_lt_of_le (by assumption) (by assumption)
  k_with "call builtin:len" => (
        k_here; (with_reducible show wpAny _ _ (call (Value.builtin "len") [Value.str _ _]) _ _ _);
        k_dflt (refine' len_S ?h1Y29 ?_; (case h1Y29 => assumption)))
  k_with "subscriptTail Name Name str int" => (
        k_here; k_dflt (refine' item_S ?h1Y30 ?h2Y30 ?h3Y30 ?_ ?h4Y30 ?h5Y30; (case h1Y30 => walk_at "MyLo"); (case h2Y30 => walk_at "MyHi"); (case h3Y30 => assumption); (case h4Y30 => with_unfolding_all rfl); (case h5Y30 => intro _; with_unfolding_all rfl)); intro _)
  k_with "call builtin:ord" => (
        k_here; k_dflt (refine' ord_S ?h1Y31 ?_; (case h1Y31 => assumption)))
  trivial
theorem sign_of_ok (w : World) (news : Led) (x y : Int) (tx ty : Tok) :
   DoesI w 2 49 news [.int x tx, .int y ty] (sgn x y) := by
  unfold DoesI Does
  intro mean mg mb dp un gd cn cs a ccd cl outer A₀ base h₀ L m s Q E B F X N T hk hdp hu hret
  refine wpAny_call ?_
  k_dflt cell_enter
  rename Fr _ _ _ _ => F₀
  refine fr_in2 (Str.ofString "a") (Str.ofString "b") F₀ rfl rfl ?_
  clear F₀
  intro u F₀
  k_steps
  all_goals refine endI hret (by k_asm) (by k_asm) (by kcj_all) ?_
  all_goals simp only [sgn, *, if_true, if_false]
theorem compare_texts_ok (w : World) (news : Led) (x y : Str) (tx ty : Tok) :
   DoesI w 2 42 news [.str x tx, .str y ty] (cmpT (L x) (L y)) := by
  unfold DoesI Does
  intro mean mg mb dp un gd cn cs a ccd cl outer A₀ base h₀ L m s Q E B F X N T hk hdp hu hret
  refine wpAny_call ?_
  k_dflt cell_enter
  rename Fr _ _ _ _ => F₀
  refine fr_in2 (Str.ofString "a") (Str.ofString "b") F₀ rfl rfl ?_
  clear F₀
  intro u F₀
  k_steps
  all_goals refine endI hret (by k_asm) (by k_asm) (by kcj_all) ?_
  · exact ct1 (by assumption)
  · exact ct2 (by assumption) (by assumption)
  · exact ct3 (by assumption) (by assumption)
theorem octet_at_ok (w : World) (news : Led) (x : Str) (tx ti : Tok) (i : Int) (h0 : 0 ≤ i) (hl : x.length ≤ 2000) :
   DoesI w 2 77 news [.str x tx, .int i ti] (oA (L x) i) := by
  unfold DoesI Does
  intro mean mg mb dp un gd cn cs a ccd cl outer A₀ base h₀ L m s Q E B F X N T hk hdp hu hret
  refine wpAny_call ?_
  k_dflt cell_enter
  rename Fr _ _ _ _ => F₀
  refine fr_in2 (Str.ofString "text") (Str.ofString "at") F₀ rfl rfl ?_
  clear F₀
  intro u F₀
  k_steps
  all_goals refine endI hret (by k_asm) (by k_asm) (by kcj_all) ?_
  · exact oA1 (by assumption) (by assumption)
  · exact oA2 (by assumption)
end Mine
end
section
open PySem PySem.W PyProof.Rows
namespace Mine
theorem offD5 {w : World} {A : Around} {Q : Flow → Shared → Prop} {E : Value → Shared → Prop} {s : Shared} {env : Env} (h : Q .next s) : wpAny (model prog w) A (execs [] env) Q E s := by
  k_with_none
  w_top off
  walk1
  exact h
theorem fill5 : (PySem.Challenge.rw_pc0252_01, hd.heap_39) = (PySem.Challenge.rw_pc0252_01, hd.heap_39) := by
  k_fill
  rfl
theorem wordD5_1 : True := by
  k_with "MyRoom" => first
        | (refine' roomL ?h1Y32 ?h2Y32; (case h1Y32 => assumption); (case h2Y32 => exact rfl))
        | (refine' roomA ?h1Y32; (case h1Y32 => assumption))
        | exact Nat.le_of_ble_eq_true rfl
  k_with "MyUnits" => first
        | (refine' unitL ?h1Y33 ?h2Y33; (case h1Y33 => assumption); (case h2Y33 => exact rfl))
        | exact Nat.le_of_ble_eq_true rfl
  k_with "MyLo" => first | assumption | exact Int.le_refl _ | exact Int.le_add_one (by assumption)
  k_with "MyHi" => first | assumption | exact lt_ne (by assumption) (by assumption) | exact Int.natCast_pos.mpr (by assumption) | exact Int.lt_of_lt_of_le (by assumption) (by assumption)
  k_with "call builtin:len" => (
        k_here; (with_reducible show wpAny _ _ (call (Value.builtin "len") [Value.str _ _]) _ _ _);
        k_dflt (refine' len_S ?h1Y36 ?_; (case h1Y36 => assumption)))
  k_with "subscriptTail Name Name str int" => (
        k_here; k_dflt (refine' item_S ?h1Y37 ?h2Y37 ?h3Y37 ?_ ?h4Y37 ?h5Y37; (case h1Y37 => walk_at "MyLo"); (case h2Y37 => walk_at "MyHi"); (case h3Y37 => assumption); (case h4Y37 => with_unfolding_all rfl); (case h5Y37 => intro _; with_unfolding_all rfl)); intro _)
  k_with "subscriptTail Name Constant str int" => (
        k_here; k_dflt (refine' item_S ?h1Y38 ?h2Y38 ?h3Y38 ?_ ?h4Y38 ?h5Y38; (case h1Y38 => walk_at "MyLo"); (case h2Y38 => walk_at "MyHi"); (case h3Y38 => assumption); (case h4Y38 => with_unfolding_all rfl); (case h5Y38 => intro _; with_unfolding_all rfl)); intro _)
  k_with "call builtin:ord" => (
        k_here; k_dflt (refine' ord_S ?h1Y39 ?_; (case h1Y39 => assumption)))
  k_with "MyUse" => (
        (case k1 => k_asm); (case k2 => k_asm); (case k3 => k_asm); (case k4 => k_asm); (case k5 => k_asm); (case k6 => first | exact rfl | assumption); (case k7 => ktr_room); (case k8 => ktr_units); intros; (try k_sweep); (try dsimp only); (try k_fold))
  k_with "MyNum" => first | assumption | omega
  k_with "eval Call" => (k_here; (with_reducible show wpAny _ _ (eval (PySem.Expr.Call (PySem.Expr.Name _ _) _ [] _) _) _ _ _); k_dflt (refine Call_ ?_))
  k_with "call ref" => (
        k_here; (with_reducible show wpAny _ _ (call (.ref 21) _) _ _ _);
        k_dflt (refine' useB (is_digit_ok _ _ _ _ _ _ ?p1Y43 ?p2Y43) ?k1 ?k2 ?k3 ?k4 ?k5 ?k6 ?k7 ?k8 ?_; (case p1Y43 => walk_at "MyNum"); (case p2Y43 => walk_at "MyNum"); walk_at "MyUse"))
  k_with "call ref" => (
        k_here; (with_reducible show wpAny _ _ (call (.ref 49) _) _ _ _);
        k_dflt (refine' useI (sign_of_ok _ _ _ _ _ _) ?k1 ?k2 ?k3 ?k4 ?k5 ?k6 ?k7 ?k8 ?_;  walk_at "MyUse"))
  k_with "call ref" => (
        k_here; (with_reducible show wpAny _ _ (call (.ref 42) _) _ _ _);
        k_dflt (refine' useI (compare_texts_ok _ _ _ _ _ _) ?k1 ?k2 ?k3 ?k4 ?k5 ?k6 ?k7 ?k8 ?_;  walk_at "MyUse"))
  trivial
theorem noughts_behind_ok (w : World) (news : Led) (x : Str) (tx : Tok) (hl : x.length ≤ 2000) :
   DoesI w 4 56 news [.str x tx] (nB (L x) 0) := by
  unfold DoesI Does
  intro mean mg mb dp un gd cn cs a ccd cl outer A₀ base h₀ L m s Q E B F X N T hk hdp hu hret
  refine wpAny_call ?_
  k_dflt cell_enter
  rename Fr _ _ _ _ => F₀
  refine fr_in1 (Str.ofString "text") F₀ rfl ?_
  clear F₀
  intro u F₀
  k_with "state" => first | exact ⟨Int.le_refl _, rfl⟩ | exact ⟨Int.le_add_one (by assumption), (nB_step (by assumption) (by assumption) (by assumption)).trans (by assumption)⟩
  k_with "measure" => exact meas1 (Int.lt_trans (Int.lt_add_one_of_le (Int.le_refl _)) (dA_lt1 (x := x) (by assumption) (by assumption)))
  k_with "exec While BoolOp" => k_while (fun (_ : List Int) a => 0 ≤ a ∧ nB (Mine.L x) a = nB (Mine.L x) 0) (fun (_ : List Int) a => (x.length - a).toNat) "at"
  k_steps
  all_goals refine endI hret (by k_asm) (by k_asm) (by kcj_all) ?_
  · exact (nB_stop1 (by assumption) (by assumption)).symm.trans (by assumption)
  · exact (nB_stop2 (by assumption) (by assumption)).symm.trans (by assumption)
theorem compare_runs_ok (w : World) (news : Led) (x y : Str) (tx ty : Tok) (hx : 0 < x.length) (hy : 0 < y.length) (hlx : x.length ≤ 2000) (hly : y.length ≤ 2000) :
   DoesI w 4 63 news [.str x tx, .str y ty] (cR (L x) (L y)) := by
  unfold DoesI Does
  intro mean mg mb dp un gd cn cs a ccd cl outer A₀ base h₀ L m s Q E B F X N T hk hdp hu hret
  refine wpAny_call ?_
  k_dflt cell_enter
  rename Fr _ _ _ _ => F₀
  refine fr_in2 (Str.ofString "a") (Str.ofString "b") F₀ rfl rfl ?_
  clear F₀
  intro u F₀
  k_steps
  all_goals refine endI hret (by k_asm) (by k_asm) (by kcj_all) ?_
  · exact cr1 hx hy (by assumption) (by assumption) (by assumption)
  · exact cr2 (by assumption)
  · exact cr3 hy (by assumption)
  · exact cr4 hx (by assumption)
theorem which_ended_ok (w : World) (news : Led) (x y : Str) (tx ty ti tj : Tok) (i j : Int) (hlx : x.length ≤ 2000) (hly : y.length ≤ 2000) :
   DoesI w 4 84 news [.str x tx, .int i ti, .str y ty, .int j tj] (wE (L x) i (L y) j) := by
  unfold DoesI Does
  intro mean mg mb dp un gd cn cs a ccd cl outer A₀ base h₀ L m s Q E B F X N T hk hdp hu hret
  refine wpAny_call ?_
  k_dflt cell_enter
  rename Fr _ _ _ _ => F₀
  refine fr_in4 (Str.ofString "a") (Str.ofString "at") (Str.ofString "b") (Str.ofString "to") F₀ rfl rfl rfl rfl ?_
  clear F₀
  intro u F₀
  k_steps
  all_goals refine endI hret (by k_asm) (by k_asm) (by kcj_all) ?_
  · exact we1
end Mine
end
section
open PySem PySem.W PyProof.Rows
namespace Mine
noncomputable def up (c : Nat) : Nat := if 97 ≤ c ∧ c ≤ 122 then c - 32 else c
noncomputable def Up (x : Str) : Str := ⟨((L x).map up).toArray⟩
theorem za : (PySem.Str.ofString "a").cps.toList = [97] := by decide +kernel
theorem zz : (PySem.Str.ofString "z").cps.toList = [122] := by decide +kernel
theorem up_lo {n : Nat} (h : (⟨#[n]⟩ : PySem.Str).cps.toList < (PySem.Str.ofString "a").cps.toList) : n = up n := by
  rw [za] at h
  have h' := lt_one'.mp h
  rw [up, if_neg (by lia)]
theorem up_hi {n : Nat} (h : (PySem.Str.ofString "z").cps.toList < (⟨#[n]⟩ : PySem.Str).cps.toList) : n = up n := by
  rw [zz] at h
  have h' := lt_one'.mp h
  rw [up, if_neg (by lia)]
theorem ge_a {n : Nat} (h : ¬ (⟨#[n]⟩ : PySem.Str).cps.toList < (PySem.Str.ofString "a").cps.toList) : 97 ≤ n := by
  rw [za] at h
  have h' : ¬ n < 97 := fun q => h (lt_one'.mpr q)
  lia
theorem le_z {n : Nat} (h : ¬ (PySem.Str.ofString "z").cps.toList < (⟨#[n]⟩ : PySem.Str).cps.toList) : n ≤ 122 := by
  rw [zz] at h
  have h' : ¬ 122 < n := fun q => h (lt_one'.mpr q)
  lia
theorem chr_lo {n : Nat} (h : ¬ (⟨#[n]⟩ : PySem.Str).cps.toList < (PySem.Str.ofString "a").cps.toList) : 0 ≤ (n : Int) - 32 := by have := ge_a h; lia
theorem chr_hi {n : Nat} (h : ¬ (PySem.Str.ofString "z").cps.toList < (⟨#[n]⟩ : PySem.Str).cps.toList) : (n : Int) - 32 ≤ 1114111 := by have := le_z h; lia
theorem up_md {n : Nat} (h : ¬ (⟨#[n]⟩ : PySem.Str).cps.toList < (PySem.Str.ofString "a").cps.toList) (h2 : ¬ (PySem.Str.ofString "z").cps.toList < (⟨#[n]⟩ : PySem.Str).cps.toList) : ((n : Int) - 32).toNat = up n := by
  have := ge_a h
  have := le_z h2
  rw [up, if_pos (by lia)]
  lia
theorem off_app {a b : List (Addr × Obj)} {d : Addr} (h1 : ∀ p ∈ a, p.1 ≠ d) (h2 : ∀ p ∈ b, p.1 ≠ d) : ∀ p ∈ a ++ b, p.1 ≠ d := fun p hp => (List.mem_append.mp hp).elim (h1 p) (h2 p)
theorem off_lt {a : List (Addr × Obj)} {d : Addr} (h1 : ∀ p ∈ a, p.1 < d) : ∀ p ∈ a, p.1 ≠ d := fun p hp => Nat.ne_of_lt (h1 p hp)
theorem off_own {a : List (Addr × Obj)} {adr : List Addr} {d : Addr} (h1 : OwnOff a adr) (hd : d ∈ adr) : ∀ p ∈ a, p.1 ≠ d := fun p hp => h1 p hp d hd
theorem strs_snoc {us : List Value} {ws : List PySem.Str} {x : PySem.Str} {t : Tok} (h : StrsAre us ws) : StrsAre (us ++ [.str x t]) (ws ++ [x]) := KStt.strs_snoc h
theorem strs_len {us : List Value} {ws : List PySem.Str} (h : StrsAre us ws) : us.length = ws.length := by
  induction h with
  | nil => rfl
  | cons y t h ih => rw [List.length_cons, List.length_cons, ih]
theorem rc_step {us : List Value} {pre : List Int} {n k : Nat} {t : Tok} (h : StrsAre us (pre.map fun k => (⟨#[up (Int.toNat k)]⟩ : PySem.Str))) (e : k = up n) : StrsAre (us ++ [.str ⟨#[k]⟩ t]) ((pre ++ [(n : Int)]).map fun k => (⟨#[up (Int.toNat k)]⟩ : PySem.Str)) := by
  rw [List.map_append, e]
  exact strs_snoc h
theorem rc_join {x : PySem.Str} : Txt.join (PySem.Str.ofString "") ((KStt.codes x).map fun k => (⟨#[up (Int.toNat k)]⟩ : PySem.Str)) = Up x := by
  have e : PySem.Str.ofString "" = ⟨#[]⟩ := by decide +kernel
  have e2 : ((KStt.codes x).map fun k => (⟨#[up (Int.toNat k)]⟩ : PySem.Str)) = ((L x).map up).map fun k => (⟨#[k]⟩ : PySem.Str) := by
    unfold KStt.codes
    rw [List.map_map, List.map_map]
    exact List.map_congr_left fun c _ => rfl
  rw [e, e2]
  show Builtin.Str.glued _ _ = _
  rw [StrLaws.glued_eq_join, PyProof.Rows.join_ones]
  rfl
theorem rc_ok {x : PySem.Str} (h : x.length ≤ 2000) : (((KStt.codes x).map fun k => (⟨#[up (Int.toNat k)]⟩ : PySem.Str)).map (·.length)).sum + ((KStt.codes x).map fun k => (⟨#[up (Int.toNat k)]⟩ : PySem.Str)).length * 64 ≤ 16777216 := by
  have e : ∀ l : List Int, ((l.map fun k => (⟨#[up (Int.toNat k)]⟩ : PySem.Str)).map (·.length)).sum = l.length := by
    intro l
    induction l with
    | nil => rfl
    | cons a l ih => rw [List.map_cons, List.map_cons, List.sum_cons, ih, List.length_cons]; show 1 + _ = _; lia
  rw [e, List.length_map, KStt.codes_length]
  lia
end Mine
end
section
open PySem PySem.W PyProof.Rows
namespace Mine
theorem dropWhile_le {p : Nat → Bool} : ∀ l : List Nat, (l.dropWhile p).length ≤ l.length := fun l => (List.dropWhile_sublist p).length_le
/-- a row's piece: the octet (48 | 49 for a run), the size, the run -/
noncomputable abbrev El := Nat × Nat × List Nat
noncomputable def run (l : List Nat) : El := if l.head? = some 48 then (48, 0, l) else (49, l.length, l)
noncomputable def skip : Bool → List Nat → List Nat
  | true, l => l
  | false, l => l.dropWhile blk
theorem skip_le : ∀ (raw : Bool) (l : List Nat), (skip raw l).length ≤ l.length
  | true, _ => Nat.le_refl _
  | false, l => dropWhile_le l
noncomputable def row (raw : Bool) (l : List Nat) : List El :=
  match l with
  | [] => []
  | a :: r =>
    match h : skip raw (a :: r) with
    | [] => [(0, 0, [])]
    | c :: q => if dig c then run ((c :: q).takeWhile dig) :: row true (q.dropWhile dig) else (c, 0, []) :: row false q
termination_by l.length
decreasing_by
  all_goals (
    have h1 := skip_le raw (a :: r)
    rw [h] at h1
    have h2 := dropWhile_le (p := dig) q
    simp only [List.length_cons] at *
    omega)
@[irreducible] noncomputable def ordEl (a b : El) : Int := if a.1 ≠ b.1 then sgn a.1 b.1 else if a.2.1 ≠ b.2.1 then sgn a.2.1 b.2.1 else cmpT a.2.2 b.2.2
noncomputable def ordRow : List El → List El → Int
  | [], [] => 0
  | [], _ :: _ => -1
  | _ :: _, [] => 1
  | a :: x, b :: y => if a = b then ordRow x y else ordEl a b
@[irreducible] noncomputable def tg (la lb : List Nat) (i j : Int) : Int := ordRow (row false (la.drop i.toNat)) (row false (lb.drop j.toNat))
theorem up_len {x : Str} : (Up x).length = x.length := by simp [Up, L, Str.length]
theorem bB_ge {l : List Nat} {i : Int} : i ≤ bB l i := by unfold bB; (first | lia | omega)
theorem dB_ge {l : List Nat} {i : Int} : i ≤ dB l i := by unfold dB; (first | lia | omega)
theorem bB_nn {l : List Nat} {i : Int} (h : 0 ≤ i) : 0 ≤ bB l i := Int.le_trans h bB_ge
theorem dB_nn {l : List Nat} {i : Int} (h : 0 ≤ i) : 0 ≤ dB l i := Int.le_trans h dB_ge
theorem nB_nn {l : List Nat} : 0 ≤ nB l 0 := by unfold nB; (first | lia | omega)
theorem sl_pos {x : Str} {i : Int} (h0 : 0 ≤ i) (h : dA (L x) i = true) : 0 < (Txt.slice x (some i) (some (dB (L x) i))).length := by
  show 0 < (L (Txt.slice x (some i) (some (dB (L x) i)))).length
  rw [slice_L h0 dB_ge]
  have h1 := dB_step h0 h
  have h2 : i + 1 ≤ dB (L x) i := by rw [← h1]; exact dB_ge
  have h3 := dA_lt h0 h
  have h4 : (L x).length = x.length := rfl
  simp only [List.length_take, List.length_drop, h4]
  omega
theorem drop_tw {p : Nat → Bool} (l : List Nat) : l.drop (l.takeWhile p).length = l.dropWhile p := by
  induction l with
  | nil => rfl
  | cons a l ih =>
    rw [List.takeWhile_cons, List.dropWhile_cons]
    cases p a with
    | true => simpa using ih
    | false => rfl
theorem take_tw {p : Nat → Bool} (l : List Nat) : l.take (l.takeWhile p).length = l.takeWhile p := by
  induction l with
  | nil => rfl
  | cons a l ih =>
    rw [List.takeWhile_cons]
    cases p a with
    | true => simpa using ih
    | false => rfl
theorem row_nil (raw : Bool) : row raw [] = [] := by rw [row]
theorem row_dig {raw : Bool} {l q : List Nat} {c : Nat} (h : skip raw l = c :: q) (hd : dig c = true) : row raw l = run ((c :: q).takeWhile dig) :: row true ((c :: q).dropWhile dig) := by
  cases l with
  | nil => cases raw <;> cases h
  | cons a r =>
    rw [row]
    split
    · rename_i h'; rw [h] at h'; cases h'
    · rename_i h'
      rw [h] at h'
      cases h'
      rw [if_pos hd, List.dropWhile_cons, if_pos hd]
theorem row_sign {raw : Bool} {l q : List Nat} {c : Nat} (h : skip raw l = c :: q) (hd : dig c = false) : row raw l = (c, 0, []) :: row false q := by
  cases l with
  | nil => cases raw <;> cases h
  | cons a r =>
    rw [row]
    split
    · rename_i h'; rw [h] at h'; cases h'
    · rename_i h'
      rw [h] at h'
      cases h'
      rw [if_neg (by rw [hd]; exact Bool.false_ne_true)]
theorem row_end {raw : Bool} {l : List Nat} (hl : l ≠ []) (h : skip raw l = []) : row raw l = [(0, 0, [])] := by
  cases l with
  | nil => exact absurd rfl hl
  | cons a r =>
    rw [row]
    split
    · rfl
    · rename_i h'; rw [h] at h'; cases h'
theorem row_ne {raw : Bool} {l : List Nat} (hl : l ≠ []) : row raw l ≠ [] := by
  cases h : skip raw l with
  | nil => rw [row_end hl h]; simp
  | cons c q =>
    cases hd : dig c with
    | true => rw [row_dig h hd]; simp
    | false => rw [row_sign h hd]; simp
theorem skip_at {l : List Nat} {i : Int} (h0 : 0 ≤ i) : skip false (l.drop i.toNat) = l.drop (bB l i).toNat := by
  show (l.drop i.toNat).dropWhile blk = _
  rw [← drop_tw, List.drop_drop]
  congr 1
  unfold bB
  (first | lia | omega)
theorem dA_cons {l : List Nat} {i : Int} (h : dA l i = true) : ∃ c, dig c = true ∧ l.drop i.toNat = c :: l.drop (i.toNat + 1) ∧ l[i.toNat]? = some c := by
  unfold dA at h
  cases hc : l[i.toNat]? with
  | none => rw [hc] at h; cases h
  | some c => rw [hc] at h; exact ⟨c, h, drop_some hc, rfl⟩
theorem drop_dB {l : List Nat} {i : Int} (h0 : 0 ≤ i) : (l.drop i.toNat).dropWhile dig = l.drop (dB l i).toNat := by
  rw [← drop_tw, List.drop_drop]
  congr 1
  unfold dB
  (first | lia | omega)
theorem x1 {l : List Nat} {i : Int} (h0 : 0 ≤ i) (h : dA l (bB l i) = true) :
    row false (l.drop i.toNat) = run ((l.drop (bB l i).toNat).takeWhile dig) :: row true (l.drop (dB l (bB l i)).toNat) := by
  obtain ⟨c, hd, hc, _⟩ := dA_cons h
  have hs := skip_at (l := l) h0
  rw [row_dig (hs.trans hc) hd, ← hc, drop_dB (bB_nn h0)]
@[irreducible] noncomputable def oN (l : List Nat) (i : Int) : Nat := (l[i.toNat]?).getD 0
theorem oA_oN {l : List Nat} {i : Int} : oA l i = (oN l i : Nat) := by
  unfold oA oN
  cases l[i.toNat]? <;> rfl
theorem x2 {raw : Bool} {l k : List Nat} {i : Int} (h0 : 0 ≤ i) (hl : k ≠ []) (hs : skip raw k = l.drop i.toNat) (h : dA l i = false) : row raw k = (oN l i, 0, []) :: row false (l.drop (i + 1).toNat) := by
  unfold dA at h
  unfold oN
  rw [tn_succ h0]
  cases hc : l[i.toNat]? with
  | none =>
    have hz : l.length ≤ i.toNat := List.getElem?_eq_none_iff.mp hc
    rw [List.drop_of_length_le hz] at hs
    rw [row_end hl hs, List.drop_of_length_le (by (first | lia | omega)), row_nil]
    rfl
  | some c =>
    rw [hc] at h
    rw [drop_some hc] at hs
    rw [row_sign hs h]
    rfl
theorem x2f {l : List Nat} {i : Int} (h0 : 0 ≤ i) (hl : i < l.length) (h : dA l (bB l i) = false) : row false (l.drop i.toNat) = (oN l (bB l i), 0, []) :: row false (l.drop (bB l i + 1).toNat) := by
  refine x2 (bB_nn h0) ?_ (skip_at h0) h
  intro e
  have := List.drop_eq_nil_iff.mp e
  (first | lia | omega)
theorem x2t {l : List Nat} {i : Int} (h0 : 0 ≤ i) (hl : i < l.length) (h : dA l i = false) : row true (l.drop i.toNat) = (oN l i, 0, []) :: row false (l.drop (i + 1).toNat) := by
  refine x2 h0 ?_ rfl h
  intro e
  have := List.drop_eq_nil_iff.mp e
  (first | lia | omega)
theorem sl_run {x : Str} {i : Int} (h0 : 0 ≤ i) : L (Txt.slice x (some i) (some (dB (L x) i))) = ((L x).drop i.toNat).takeWhile dig := by
  rw [slice_L h0 dB_ge, ← take_tw]
  congr 1
  unfold dB
  (first | lia | omega)
noncomputable def Dig1 (l : List Nat) : Prop := ∃ c q, l = c :: q ∧ dig c = true
theorem dig1_tw {l : List Nat} {i : Int} (h : dA l i = true) : Dig1 ((l.drop i.toNat).takeWhile dig) := by
  obtain ⟨c, hd, hc, _⟩ := dA_cons h
  rw [hc, List.takeWhile_cons, if_pos hd]
  exact ⟨_, _, rfl, hd⟩
theorem dig_b {c : Nat} (h : dig c = true) : 48 ≤ c ∧ c ≤ 57 := by
  unfold dig at h
  simpa using h
theorem dig_nb {c : Nat} (h : dig c = false) : c < 48 ∨ 57 < c := by
  unfold dig at h
  simp only [Bool.and_eq_false_iff, decide_eq_false_iff_not] at h
  (first | lia | omega)
theorem sgn_nat0 {a b : Nat} : sgn (a : Int) (b : Int) = 0 ↔ a = b := by unfold sgn; split <;> (try split) <;> (first | lia | omega)
theorem cmpT0 {a b : List Nat} : cmpT a b = 0 ↔ a = b := by
  unfold cmpT
  split
  · simp [*]
  · split <;> simp [*]
/-- runs are compared as their pieces are -/
theorem ordEl_1 {a b : El} (h : a.1 ≠ b.1) : ordEl a b = sgn a.1 b.1 := by unfold ordEl; exact if_pos h
theorem ordEl_3 {a b : El} (h : a.1 = b.1) (h' : a.2.1 = b.2.1) : ordEl a b = cmpT a.2.2 b.2.2 := by unfold ordEl; exact (if_neg (fun k => k h)).trans (if_neg (fun k => k h'))
theorem ordEl_2 {a b : El} (h : a.1 = b.1) (h' : a.2.1 ≠ b.2.1) : ordEl a b = sgn a.2.1 b.2.1 := by unfold ordEl; exact (if_neg (fun k => k h)).trans (if_pos h')
theorem run_48 {c : Nat} {q : List Nat} (h : c = 48) : run (c :: q) = (48, 0, c :: q) := by unfold run; exact if_pos (congrArg some h)
theorem run_49 {c : Nat} {q : List Nat} (h : ¬ c = 48) : run (c :: q) = (49, (c :: q).length, c :: q) := by unfold run; exact if_neg (fun e => h (Option.some.inj e))
theorem cR_t {c d : Nat} {q r : List Nat} (h : c = 48 ∨ d = 48 ∨ (c :: q).length = (d :: r).length) : cR (c :: q) (d :: r) = cmpT (c :: q) (d :: r) := by
  unfold cR
  exact if_neg (fun k => h.elim (fun e => k.1 (congrArg some e)) fun h => h.elim (fun e => k.2.1 (congrArg some e)) k.2.2)
theorem runs {a b : List Nat} (ha : Dig1 a) (hb : Dig1 b) : (cR a b = 0 ↔ run a = run b) ∧ (run a ≠ run b → ordEl (run a) (run b) = cR a b) := by
  obtain ⟨c, q, rfl, hc⟩ := ha
  obtain ⟨d, r, rfl, hd⟩ := hb
  by_cases h1 : c = 48
  · rw [cR_t (.inl h1), run_48 h1]
    by_cases h2 : d = 48
    · rw [run_48 h2]
      exact ⟨cmpT0.trans ⟨fun e => by rw [e], fun e => (Prod.mk.inj (Prod.mk.inj e).2).2⟩, fun _ => ordEl_3 rfl rfl⟩
    · have hd' : 48 < d := Nat.lt_of_le_of_ne (dig_b hd).1 (fun e => h2 e.symm)
      have h3 : cmpT (c :: q) (d :: r) = -1 := by
        unfold cmpT
        rw [if_neg (fun e => h2 ((List.cons.inj e).1.symm.trans h1)), if_pos (List.cons_lt_cons_iff.mpr (.inl (h1 ▸ hd')))]
      rw [run_49 h2, h3]
      exact ⟨⟨fun e => absurd e (by decide), fun e => absurd (Prod.mk.inj e).1 (by decide)⟩, fun _ => (ordEl_1 (by decide : (48 : Nat) ≠ 49)).trans (sgn_lt (a := ((48 : Nat) : Int)) (b := ((49 : Nat) : Int)) (by decide))⟩
  · have hc' : 48 < c := Nat.lt_of_le_of_ne (dig_b hc).1 (fun e => h1 e.symm)
    rw [run_49 h1]
    by_cases h2 : d = 48
    · have h3 : cmpT (c :: q) (d :: r) = 1 := by
        unfold cmpT
        rw [if_neg (fun e => h1 ((List.cons.inj e).1.trans h2)), if_neg (fun h => (List.cons_lt_cons_iff.mp h).elim (fun h => Nat.lt_asymm h (h2.symm ▸ hc')) fun h => h1 (h.1.trans h2))]
      rw [cR_t (.inr (.inl h2)), run_48 h2, h3]
      exact ⟨⟨fun e => absurd e (by decide), fun e => absurd (Prod.mk.inj e).1 (by decide)⟩, fun _ => (ordEl_1 (by decide : (49 : Nat) ≠ 48)).trans (sgn_gt (a := ((49 : Nat) : Int)) (b := ((48 : Nat) : Int)) (by decide))⟩
    · rw [run_49 h2]
      by_cases h4 : (c :: q).length = (d :: r).length
      · rw [cR_t (.inr (.inr h4))]
        exact ⟨cmpT0.trans ⟨fun e => by rw [e], fun e => (Prod.mk.inj (Prod.mk.inj e).2).2⟩, fun _ => ordEl_3 rfl h4⟩
      · have k : cR (c :: q) (d :: r) = sgn (c :: q).length (d :: r).length := by
          unfold cR
          exact if_pos ⟨fun e => h1 (Option.some.inj e), fun e => h2 (Option.some.inj e), h4⟩
        rw [k]
        exact ⟨⟨fun e => absurd (sgn_nat0.mp e) h4, fun e => absurd (Prod.mk.inj (Prod.mk.inj e).2).1 h4⟩, fun _ => ordEl_2 rfl h4⟩
theorem run_head {c d : Nat} {q : List Nat} (hc : 48 ≤ c ∧ c ≤ 57) (hd : d < 48 ∨ 57 < d) : (run (c :: q)).1 ≠ d ∧ sgn (run (c :: q)).1 d = sgn c d ∧ sgn d (run (c :: q)).1 = sgn d c := by
  by_cases h1 : c = 48
  · subst h1
    exact ⟨by show 48 ≠ d; (first | lia | omega), rfl, rfl⟩
  · have e : (run (c :: q)).1 = 49 := by
      unfold run
      exact congrArg Prod.fst (if_neg (fun h => h1 (Option.some.inj h)))
    rw [e]
    rcases hd with hd | hd
    · have h3 : (d : Int) < 48 := Int.ofNat_lt.mpr hd
      have h4 : (d : Int) < c := Int.ofNat_lt.mpr (Nat.lt_of_lt_of_le hd hc.1)
      have h5 : (d : Int) < (49 : Nat) := Int.lt_trans h3 (by decide)
      exact ⟨fun e => by (first | lia | omega), by rw [sgn_gt h5, sgn_gt h4], by rw [sgn_lt h5, sgn_lt h4]⟩
    · have h3 : (57 : Int) < d := Int.ofNat_lt.mpr hd
      have h4 : (c : Int) < d := Int.ofNat_lt.mpr (Nat.lt_of_le_of_lt hc.2 hd)
      have h5 : ((49 : Nat) : Int) < d := Int.lt_trans (by decide) h3
      exact ⟨fun e => by (first | lia | omega), by rw [sgn_lt h5, sgn_lt h4], by rw [sgn_gt h5, sgn_gt h4]⟩
theorem run_sign {a : List Nat} {c d : Nat} {q : List Nat} (ha : a = c :: q) (hc : dig c = true) (hd : dig d = false) : run a ≠ (d, 0, []) ∧ ordEl (run a) (d, 0, []) = sgn c d ∧ ordEl (d, 0, []) (run a) = sgn d c ∧ c ≠ d := by
  subst ha
  have hc' := dig_b hc
  have hd' := dig_nb hd
  have k := run_head (q := q) (by (first | lia | omega)) (by lia : d < 48 ∨ 57 < d)
  exact ⟨fun e => k.1 (by rw [e]), (ordEl_1 k.1).trans k.2.1, (ordEl_1 (Ne.symm k.1)).trans k.2.2, fun e => by (first | lia | omega)⟩
theorem we_end {raw : Bool} {la lb : List Nat} {i j : Int} (hi : 0 ≤ i) (hj : 0 ≤ j) (h : (la.length : Int) ≤ i ∨ (lb.length : Int) ≤ j) : wE la i lb j = ordRow (row raw (la.drop i.toNat)) (row raw (lb.drop j.toNat)) := by
  unfold wE
  by_cases h1 : (la.length : Int) ≤ i
  · rw [List.drop_of_length_le (l := la) (by (first | lia | omega)), row_nil, Int.max_eq_right (Int.sub_nonpos_of_le h1), sgn_self]
    by_cases h2 : (lb.length : Int) ≤ j
    · rw [List.drop_of_length_le (by (first | lia | omega)), row_nil, Int.max_eq_right (Int.sub_nonpos_of_le h2), sgn_self]
      rfl
    · have h3 : lb.drop j.toNat ≠ [] := fun e => by have := List.drop_eq_nil_iff.mp e; (first | lia | omega)
      have h4 := row_ne (raw := raw) h3
      cases hr : row raw (lb.drop j.toNat) with
      | nil => exact absurd hr h4
      | cons a x =>
        rw [sgn_gt (Int.lt_of_lt_of_le (Int.sub_pos_of_lt (Int.not_le.mp h2)) (Int.le_max_left _ _))]
        rfl
  · have h2 : (lb.length : Int) ≤ j := h.resolve_left h1
    rw [List.drop_of_length_le (l := lb) (by (first | lia | omega)), row_nil, Int.max_eq_right (Int.sub_nonpos_of_le h2), sgn_self]
    have h3 : la.drop i.toNat ≠ [] := fun e => by have := List.drop_eq_nil_iff.mp e; (first | lia | omega)
    have h4 := row_ne (raw := raw) h3
    cases hr : row raw (la.drop i.toNat) with
    | nil => exact absurd hr h4
    | cons a x =>
      rw [sgn_gt (Int.lt_of_lt_of_le (Int.sub_pos_of_lt (Int.not_le.mp h1)) (Int.le_max_left _ _))]
      rfl
-- the ways through natural
section
variable {x y : Str} {i j : Int}
theorem nt_runs (hi : 0 ≤ i) (hj : 0 ≤ j) (h1 : dA (L x) (bB (L x) i) = true) (h2 : dA (L y) (bB (L y) j) = true)
    (h3 : cR (L (Txt.slice x (some (bB (L x) i)) (some (dB (L x) (bB (L x) i))))) (L (Txt.slice y (some (bB (L y) j)) (some (dB (L y) (bB (L y) j))))) ≠ 0) :
    cR (L (Txt.slice x (some (bB (L x) i)) (some (dB (L x) (bB (L x) i))))) (L (Txt.slice y (some (bB (L y) j)) (some (dB (L y) (bB (L y) j))))) = tg (L x) (L y) i j := by
  rw [sl_run (bB_nn hi), sl_run (bB_nn hj)] at h3 ⊢
  obtain ⟨r1, r2⟩ := runs (dig1_tw h1) (dig1_tw h2)
  have h4 := fun e => h3 (r1.mpr e)
  rw [tg, x1 hi h1, x1 hj h2, ordRow, if_neg h4, r2 h4]
theorem nt_same (hi : 0 ≤ i) (hj : 0 ≤ j) (h1 : dA (L x) (bB (L x) i) = true) (h2 : dA (L y) (bB (L y) j) = true)
    (h3 : cR (L (Txt.slice x (some (bB (L x) i)) (some (dB (L x) (bB (L x) i))))) (L (Txt.slice y (some (bB (L y) j)) (some (dB (L y) (bB (L y) j))))) = 0) :
    tg (L x) (L y) i j = ordRow (row true ((L x).drop (dB (L x) (bB (L x) i)).toNat)) (row true ((L y).drop (dB (L y) (bB (L y) j)).toNat)) := by
  rw [sl_run (bB_nn hi), sl_run (bB_nn hj)] at h3
  obtain ⟨r1, r2⟩ := runs (dig1_tw h1) (dig1_tw h2)
  rw [tg, x1 hi h1, x1 hj h2, ordRow, if_pos (r1.mp h3)]
theorem nt_ended (hi : 0 ≤ i) (hj : 0 ≤ j) (h1 : dA (L x) (bB (L x) i) = true) (h2 : dA (L y) (bB (L y) j) = true)
    (h3 : cR (L (Txt.slice x (some (bB (L x) i)) (some (dB (L x) (bB (L x) i))))) (L (Txt.slice y (some (bB (L y) j)) (some (dB (L y) (bB (L y) j))))) = 0)
    (h4 : dB (L x) (bB (L x) i) = x.length ∨ dB (L y) (bB (L y) j) = y.length) : wE (L x) (dB (L x) (bB (L x) i)) (L y) (dB (L y) (bB (L y) j)) = tg (L x) (L y) i j := by
  rw [nt_same hi hj h1 h2 h3]
  refine we_end (dB_nn (bB_nn hi)) (dB_nn (bB_nn hj)) ?_
  rcases h4 with h | h
  · exact .inl (Int.le_of_eq h.symm)
  · exact .inr (Int.le_of_eq h.symm)
theorem dB_le {l : List Nat} (h : i ≤ l.length) (h0 : 0 ≤ i) : dB l i ≤ l.length := by
  unfold dB
  have := (List.takeWhile_sublist (p := dig) (l := l.drop i.toNat)).length_le
  rw [List.length_drop] at this
  (first | lia | omega)
theorem dA_dB {l : List Nat} (h0 : 0 ≤ i) : dA l (dB l i) = false := by
  have e : l.drop (dB l i).toNat = (l.drop i.toNat).dropWhile dig := (drop_dB h0).symm
  cases hd : dA l (dB l i) with
  | false => rfl
  | true =>
    obtain ⟨c, hc, he, _⟩ := dA_cons hd
    rw [e] at he
    have : ∀ k : List Nat, ∀ q, k.dropWhile dig = c :: q → dig c = false := by
      intro k
      induction k with
      | nil => intro q h; cases h
      | cons a k ih =>
        intro q h
        rw [List.dropWhile_cons] at h
        cases ha : dig a with
        | true => rw [ha] at h; exact ih q h
        | false => rw [ha] at h; cases h; exact ha
    rw [this _ _ he] at hc
    cases hc
theorem nt_oct (hi : 0 ≤ i) (hj : 0 ≤ j) (h1 : dA (L x) (bB (L x) i) = true) (h2 : dA (L y) (bB (L y) j) = true)
    (h3 : cR (L (Txt.slice x (some (bB (L x) i)) (some (dB (L x) (bB (L x) i))))) (L (Txt.slice y (some (bB (L y) j)) (some (dB (L y) (bB (L y) j))))) = 0)
    (h4 : dB (L x) (bB (L x) i) ≠ x.length) (h5 : dB (L y) (bB (L y) j) ≠ y.length) :
    tg (L x) (L y) i j = if sgn (oA (L x) (dB (L x) (bB (L x) i))) (oA (L y) (dB (L y) (bB (L y) j))) = 0 then tg (L x) (L y) (dB (L x) (bB (L x) i) + 1) (dB (L y) (bB (L y) j) + 1) else sgn (oA (L x) (dB (L x) (bB (L x) i))) (oA (L y) (dB (L y) (bB (L y) j))) := by
  have l1 : (L x).length = x.length := rfl
  have l2 : (L y).length = y.length := rfl
  have k1 := dA_lt (bB_nn hi) h1
  have k2 := dA_lt (bB_nn hj) h2
  have m1 := dB_le (l := L x) (i := bB (L x) i) (by (first | lia | omega)) (bB_nn hi)
  have m2 := dB_le (l := L y) (i := bB (L y) j) (by (first | lia | omega)) (bB_nn hj)
  rw [nt_same hi hj h1 h2 h3, x2t (dB_nn (bB_nn hi)) (by (first | lia | omega)) (dA_dB (bB_nn hi)), x2t (dB_nn (bB_nn hj)) (by lia) (dA_dB (bB_nn hj)), ordRow, oA_oN, oA_oN]
  by_cases e : oN (L x) (dB (L x) (bB (L x) i)) = oN (L y) (dB (L y) (bB (L y) j))
  · rw [if_pos (by rw [e]), if_pos (sgn_nat0.mpr e), tg]
  · rw [if_neg (fun q => e (congrArg Prod.fst q)), if_neg (fun q => e (sgn_nat0.mp q)), ordEl, if_pos (by exact e)]
theorem nt_sign (hi : 0 ≤ i) (hj : 0 ≤ j) (li : i < x.length) (lj : j < y.length) (h : dA (L x) (bB (L x) i) = false ∨ dA (L y) (bB (L y) j) = false) :
    tg (L x) (L y) i j = if sgn (oA (L x) (bB (L x) i)) (oA (L y) (bB (L y) j)) = 0 then tg (L x) (L y) (bB (L x) i + 1) (bB (L y) j + 1) else sgn (oA (L x) (bB (L x) i)) (oA (L y) (bB (L y) j)) := by
  have l1 : (L x).length = x.length := rfl
  have l2 : (L y).length = y.length := rfl
  have on : ∀ {l : List Nat} {k : Int}, dA l k = false → dig (oN l k) = false := by
    intro l k h
    unfold dA at h
    unfold oN
    cases hc : l[k.toNat]? with
    | none => rfl
    | some c => rw [hc] at h; exact h
  cases d1 : dA (L x) (bB (L x) i) with
  | false =>
    cases d2 : dA (L y) (bB (L y) j) with
    | false =>
      unfold tg
      rw [x2f hi (by (first | lia | omega)) d1, x2f hj (by lia) d2, ordRow, oA_oN, oA_oN]
      by_cases e : oN (L x) (bB (L x) i) = oN (L y) (bB (L y) j)
      · rw [if_pos (by rw [e]), if_pos (sgn_nat0.mpr e)]
      · rw [if_neg (fun q => e (congrArg Prod.fst q)), if_neg (fun q => e (sgn_nat0.mp q)), ordEl, if_pos (by exact e)]
    | true =>
      unfold tg
      obtain ⟨c, hc, he, hs⟩ := dA_cons d2
      have hr : ((L y).drop (bB (L y) j).toNat).takeWhile dig = c :: ((L y).drop ((bB (L y) j).toNat + 1)).takeWhile dig := by rw [he, List.takeWhile_cons, if_pos hc]
      obtain ⟨r1, r2, r3, r4⟩ := run_sign hr hc (on d1)
      have ho : oN (L y) (bB (L y) j) = c := by unfold oN; rw [hs]; rfl
      rw [x2f hi (by (first | lia | omega)) d1, x1 hj d2, ordRow, oA_oN, oA_oN, ho, if_neg (fun q => r1 q.symm), if_neg (fun q => r4 (sgn_nat0.mp q).symm), r3]
  | true =>
    have d2 : dA (L y) (bB (L y) j) = false := h.resolve_left (by rw [d1]; exact Bool.noConfusion)
    unfold tg
    obtain ⟨c, hc, he, hs⟩ := dA_cons d1
    have hr : ((L x).drop (bB (L x) i).toNat).takeWhile dig = c :: ((L x).drop ((bB (L x) i).toNat + 1)).takeWhile dig := by rw [he, List.takeWhile_cons, if_pos hc]
    obtain ⟨r1, r2, r3, r4⟩ := run_sign hr hc (on d2)
    have ho : oN (L x) (bB (L x) i) = c := by unfold oN; rw [hs]; rfl
    rw [x2f hj (by (first | lia | omega)) d2, x1 hi d1, ordRow, oA_oN, oA_oN, ho, if_neg r1, if_neg (fun q => r4 (sgn_nat0.mp q)), r2]
theorem nt_end1 (hi : 0 ≤ i) (hj : 0 ≤ j) (h : ¬ i < x.length) : wE (L x) i (L y) j = tg (L x) (L y) i j := by unfold tg; exact we_end hi hj (.inl (Int.not_lt.mp h))
theorem nt_end2 (hi : 0 ≤ i) (hj : 0 ≤ j) (h : ¬ j < y.length) : wE (L x) i (L y) j = tg (L x) (L y) i j := by unfold tg; exact we_end hi hj (.inr (Int.not_lt.mp h))
theorem nt_oct0 (hi : 0 ≤ i) (hj : 0 ≤ j) (h1 : dA (L x) (bB (L x) i) = true) (h2 : dA (L y) (bB (L y) j) = true)
    (h3 : cR (L (Txt.slice x (some (bB (L x) i)) (some (dB (L x) (bB (L x) i))))) (L (Txt.slice y (some (bB (L y) j)) (some (dB (L y) (bB (L y) j))))) = 0)
    (h4 : dB (L x) (bB (L x) i) ≠ x.length) (h5 : dB (L y) (bB (L y) j) ≠ y.length) (h6 : sgn (oA (L x) (dB (L x) (bB (L x) i))) (oA (L y) (dB (L y) (bB (L y) j))) = 0) :
    tg (L x) (L y) (dB (L x) (bB (L x) i) + 1) (dB (L y) (bB (L y) j) + 1) = tg (L x) (L y) i j := by rw [nt_oct hi hj h1 h2 h3 h4 h5, if_pos h6]
theorem nt_oct1 (hi : 0 ≤ i) (hj : 0 ≤ j) (h1 : dA (L x) (bB (L x) i) = true) (h2 : dA (L y) (bB (L y) j) = true)
    (h3 : cR (L (Txt.slice x (some (bB (L x) i)) (some (dB (L x) (bB (L x) i))))) (L (Txt.slice y (some (bB (L y) j)) (some (dB (L y) (bB (L y) j))))) = 0)
    (h4 : dB (L x) (bB (L x) i) ≠ x.length) (h5 : dB (L y) (bB (L y) j) ≠ y.length) (h6 : sgn (oA (L x) (dB (L x) (bB (L x) i))) (oA (L y) (dB (L y) (bB (L y) j))) ≠ 0) :
    sgn (oA (L x) (dB (L x) (bB (L x) i))) (oA (L y) (dB (L y) (bB (L y) j))) = tg (L x) (L y) i j := by rw [nt_oct hi hj h1 h2 h3 h4 h5, if_neg h6]
theorem nt_sign0 (hi : 0 ≤ i) (hj : 0 ≤ j) (li : i < x.length) (lj : j < y.length) (h : dA (L x) (bB (L x) i) = false ∨ dA (L y) (bB (L y) j) = false) (h6 : sgn (oA (L x) (bB (L x) i)) (oA (L y) (bB (L y) j)) = 0) :
    tg (L x) (L y) (bB (L x) i + 1) (bB (L y) j + 1) = tg (L x) (L y) i j := by rw [nt_sign hi hj li lj h, if_pos h6]
theorem nt_sign1 (hi : 0 ≤ i) (hj : 0 ≤ j) (li : i < x.length) (lj : j < y.length) (h : dA (L x) (bB (L x) i) = false ∨ dA (L y) (bB (L y) j) = false) (h6 : sgn (oA (L x) (bB (L x) i)) (oA (L y) (bB (L y) j)) ≠ 0) :
    sgn (oA (L x) (bB (L x) i)) (oA (L y) (bB (L y) j)) = tg (L x) (L y) i j := by rw [nt_sign hi hj li lj h, if_neg h6]
/-- the start -/
theorem nt_nil (h : (x == PySem.Str.ofString "") = true ∨ (y == PySem.Str.ofString "") = true) : sgn x.length y.length = tg (L x) (L y) (nB (L x) 0) (nB (L y) 0) := by
  have e0 : (PySem.Str.ofString "").cps.toList = [] := by decide +kernel
  have l1 : (L x).length = x.length := rfl
  have l2 : (L y).length = y.length := rfl
  have ne : ∀ l : List Nat, l ≠ [] → l.drop (nB l 0).toNat ≠ [] := by
    intro l hl e
    have h1 := List.drop_eq_nil_iff.mp e
    have h2 : ∀ k : List Nat, k ≠ [] → nZ k < k.length := by
      intro k
      induction k with
      | nil => intro h; exact absurd rfl h
      | cons a k ih =>
        intro _
        rw [nZ_cons]
        split
        · rename_i hk
          have : k ≠ [] := by rintro rfl; simp [dA] at hk
          have := ih this
          rw [List.length_cons]; (first | lia | omega)
        · rw [List.length_cons]; (first | lia | omega)
    have h3 := h2 l hl
    unfold nB at h1
    simp at h1
    (first | lia | omega)
  have z : nB ([] : List Nat) 0 = 0 := by simp [nB, nZ]
  unfold tg
  have nn : ∀ {z : Str}, L z ≠ [] → row false ((L z).drop (nB (L z) 0).toNat) ≠ [] := fun h => row_ne (ne _ h)
  by_cases hx : L x = []
  · rw [hx, ← l1, hx, ← l2]
    simp only [List.drop_nil, row_nil, List.length_nil]
    by_cases hy : L y = []
    · rw [hy]; simp [row_nil, ordRow, sgn]
    · have := nn hy
      cases hr : row false ((L y).drop (nB (L y) 0).toNat) with
      | nil => exact absurd hr this
      | cons a q =>
        have hp := List.length_pos_iff.mpr hy
        rw [ordRow, sgn, if_pos (by (first | lia | omega))]
  · have hy : L y = [] := by
      rcases h with h | h
      · exact absurd ((str_eq.mp h).trans e0) hx
      · exact (str_eq.mp h).trans e0
    rw [hy, ← l1, ← l2, hy]
    simp only [List.drop_nil, row_nil, List.length_nil]
    have := nn hx
    cases hr : row false ((L x).drop (nB (L x) 0).toNat) with
    | nil => exact absurd hr this
    | cons a q =>
      have hp := List.length_pos_iff.mpr hx
      rw [ordRow, sgn, if_neg (by (first | lia | omega)), if_pos (by lia)]
end
end Mine
end
section
open PySem PySem.W PyProof.Rows
namespace Mine
theorem bB_nn1 {l : List Nat} {i : Int} (h : 0 ≤ i) : 0 ≤ bB l i + 1 := by have := bB_nn (l := l) h; lia
theorem dB_nn1 {l : List Nat} {i : Int} (h : 0 ≤ i) : 0 ≤ dB l (bB l i) + 1 := by have := dB_nn (l := l) (bB_nn (l := l) h); lia
theorem meas_d {x : Str} {i : Int} (h : i < x.length) : ((x.length : Int) - (dB (L x) (bB (L x) i) + 1)).toNat < ((x.length : Int) - i).toNat := by
  have h1 := bB_ge (l := L x) (i := i)
  have h2 := dB_ge (l := L x) (i := bB (L x) i)
  omega
theorem meas_b {x : Str} {i : Int} (h : i < x.length) : ((x.length : Int) - (bB (L x) i + 1)).toNat < ((x.length : Int) - i).toNat := by
  have h1 := bB_ge (l := L x) (i := i)
  omega
theorem up_len' {x : Str} (h : x.length ≤ 2000) : (Up x).length ≤ 2000 := by rw [up_len]; exact h
theorem sub_refl {α : Type} {a : List α} : ∀ p ∈ a, p ∈ a := fun _ h => h
theorem sub_cons {α : Type} {a b : List α} {q : α} (h : ∀ p ∈ a, p ∈ b) : ∀ p ∈ a, p ∈ q :: b := fun p hp => .tail _ (h p hp)
theorem sub_news {h₀ h : Heap} {L : Addr} {a b : List (Addr × Obj)} (N : News h₀ L h b) (hs : ∀ p ∈ a, p ∈ b) : News h₀ L h a := fun p hp => N p (hs p hp)
theorem okI {v v' : Int} {t : Tok} (e : v' = v) : ∃ t', Value.int v' t = Value.int v t' := ⟨t, e ▸ rfl⟩
theorem okS {v v' : Str} {t : Tok} (e : v' = v) : ∃ t', Value.str v' t = Value.str v t' := ⟨t, e ▸ rfl⟩
theorem okB {v v' : Bool} (e : v' = v) : Value.bool v' = Value.bool v := e ▸ rfl
noncomputable def strip (l : List Nat) : List Nat := l.drop (nZ l)
/-- the rows of pieces -/
noncomputable def Row (nc : Bool) (l : List Nat) : List El := row false (strip (if nc then l.map up else l))
noncomputable def natR (nc : Bool) (la lb : List Nat) : Int := ordRow (Row nc la) (Row nc lb)
theorem nt_nilU {x y : Str} (h : (x == PySem.Str.ofString "") = true ∨ (y == PySem.Str.ofString "") = true) : sgn x.length y.length = tg (L (Up x)) (L (Up y)) (nB (L (Up x)) 0) (nB (L (Up y)) 0) := by
  rw [← nt_nil (x := Up x) (y := Up y), up_len, up_len]
  have e : ∀ {z : Str}, (z == PySem.Str.ofString "") = true → (Up z == PySem.Str.ofString "") = true := by
    intro z hz
    rw [str_eq] at hz ⊢
    have e0 : L (PySem.Str.ofString "") = [] := by decide +kernel
    rw [e0] at hz ⊢
    show (L z).map up = []
    rw [hz]; rfl
  exact h.imp e e
structure Hold (P : Prop) : Prop where
  out : P
theorem hold {P : Prop} (h : Hold P) : P := h.out
theorem unhold {P : Prop} (h : P) : Hold P := ⟨h⟩
theorem nB_nat {l : List Nat} : (nB l 0).toNat = nZ l := by unfold nB; simp
theorem nat_f {x y : Str} : tg (L x) (L y) (nB (L x) 0) (nB (L y) 0) = natR false (L x) (L y) := by
  unfold tg
  rw [nB_nat, nB_nat]
  rfl
theorem nat_t {x y : Str} : tg (L (Up x)) (L (Up y)) (nB (L (Up x)) 0) (nB (L (Up y)) 0) = natR true (L x) (L y) := by
  unfold tg
  rw [nB_nat, nB_nat]
  rfl
end Mine
end
section
open PySem PySem.W PyProof.Rows
namespace Mine
open PySem.SeqAt PySem.AutoSeq1 PySem.MeetsSeq PySem.MeetsSeq2 PySem.MeetsSeq3 PySem.SeqRoads2
noncomputable def RcOp (op : CmpOp) (A : Around) (s : Shared) (y x : Value) (b : Bool) : Prop :=
  ∀ (prog : Program) (w : World) (E : Value → Shared → Prop) (Q : Value → Shared → Prop), Q (.bool b) s → wpAny (model prog w) A (richCompare op y x) Q E s
noncomputable def lexF (n1 n2 : Nat) (e r : Nat → Bool) (sz : Bool) : Nat → Nat → Bool
  | 0, _ => sz
  | k + 1, i => if e i then lexF n1 n2 e r sz k (i + 1) else r i

theorem lt_loopAt (l b : Addr) (items items2 : Array Value) (n n2 : Nat) (dd dd2 : Option Addr) (sl sl2 : Array (Option Value)) (e r : Nat → Bool) (k : Nat) :
    ∀ i : Nat, min items.size items2.size - i = k → i ≤ min items.size items2.size → Meets (Builtin.«list.__eq__.loop» ⟨[.ref l, .ref b, rawInt i, rawInt 0], []⟩)
      (fun A R s => s.heap.get? l = some { cls := .type "list", dict := dd, data := .seq items n, slots := sl } ∧ s.heap.get? b = some { cls := .type "list", dict := dd2, data := .seq items2 n2, slots := sl2 } ∧
        (∀ j (h1 : j < items.size) (h2 : j < items2.size), EqAt A.in1 s items[j] items2[j] (e j)) ∧
        (∀ j (h1 : j < items.size) (h2 : j < items2.size), e j = false → RcOp .Lt A.in1 s items[j] items2[j] (r j)) ∧
        R (.ok (.ret (.bool (lexF items.size items2.size e r (decide (items.size < items2.size)) k i)))) s) := by
  induction k with
  | zero =>
    intro i hk hi prog w A R s h
    obtain ⟨hp, g, d, tk, os⟩ := s; obtain ⟨hl, hb, he, hr, h⟩ := h
    wp_walk using wpAny_loadPart' hl, wpAny_loadPart' hb
    have hz : items.size ≤ i ∨ items2.size ≤ i := by lia
    rcases hz with hz | hz
    · have hi1 : items[((i : Nat) : Int).toNat]? = none := by simp; lia
      rw [hi1]
      cases hq : items2[((i : Nat) : Int).toNat]? <;> (
        wp_walk using wpAny_loadPart' hl, wpAny_loadPart' hb
        exact h)
    · have hi2 : items2[((i : Nat) : Int).toNat]? = none := by simp; lia
      rw [hi2]
      cases hq : items[((i : Nat) : Int).toNat]? <;> (
        wp_walk using wpAny_loadPart' hl, wpAny_loadPart' hb
        exact h)
  | succ k ih =>
    intro i hk hi prog w A R s h
    obtain ⟨hp, g, d, tk, os⟩ := s; obtain ⟨hl, hb, he, hr, h⟩ := h
    wp_walk using wpAny_loadPart' hl, wpAny_loadPart' hb
    have hlt : i < items.size := by lia
    have hlt2 : i < items2.size := by lia
    have hi1 : items[((i : Nat) : Int).toNat]? = some items[i] := by simp [hlt]
    have hi2 : items2[((i : Nat) : Int).toNat]? = some items2[i] := by simp [hlt2]
    have hc : ((i : Int) + 1) = ((i + 1 : Nat) : Int) := by push_cast; rfl
    rw [lexF] at h
    rw [hi1, hi2]
    refine wpAny_bind (he i hlt hlt2 prog w _ _ ?_)
    cases hb' : e i with
    | true =>
      rw [hb'] at h
      wp_walk
      rw [hc]
      exact ⟨plainId_quiet plain_eq_loop _, codeAny_builtin entry_eq_loop (by
        rw [Around.under_plainId plain_eq_loop _]
        exact ih (i + 1) (by lia) (by lia) prog w A R _ ⟨hl, hb, he, hr, by simpa using h⟩)⟩
    | false =>
      rw [hb'] at h
      wp_walk using wpAny_loadPart' hl, wpAny_loadPart' hb
      rw [hi1, hi2]
      refine wpAny_bind (hr i hlt hlt2 hb' prog w _ _ ?_)
      wp_walk
      simpa using h
theorem list_ltAt (l b : Addr) (items items2 : Array Value) (n n2 : Nat) (dd dd2 : Option Addr) (sl sl2 : Array (Option Value)) (e r : Nat → Bool) :
    Meets (Builtin.«list.__lt__» ⟨[.ref l, .ref b], []⟩)
      (fun A R s => s.heap.get? l = some { cls := .type "list", dict := dd, data := .seq items n, slots := sl } ∧ s.heap.get? b = some { cls := .type "list", dict := dd2, data := .seq items2 n2, slots := sl2 } ∧
        (∀ j (h1 : j < items.size) (h2 : j < items2.size), EqAt A.in1 s items[j] items2[j] (e j)) ∧
        (∀ j (h1 : j < items.size) (h2 : j < items2.size), e j = false → RcOp .Lt A.in1 s items[j] items2[j] (r j)) ∧
        R (.ok (.ret (.bool (lexF items.size items2.size e r (decide (items.size < items2.size)) (min items.size items2.size) 0)))) s) := by
  intro prog w A R s h
  obtain ⟨hp, g, d, tk, os⟩ := s; obtain ⟨hl, hb, he, hr, h⟩ := h
  have f3 := AutoSeq1.sub_list_list
  wp_walk using wpAny_loadPart' hl, wpAny_loadPart' hb
  exact ⟨plainId_quiet plain_eq_loop _, codeAny_builtin entry_eq_loop (by
    rw [Around.under_plainId plain_eq_loop _]
    exact lt_loopAt l b items items2 n n2 dd dd2 sl sl2 e r _ 0 rfl (Nat.zero_le _) prog w A R _ ⟨hl, hb, he, hr, h⟩)⟩
theorem tuple_ltAt (l b : Addr) (items items2 : Array Value) (n n2 : Nat) (dd dd2 : Option Addr) (sl sl2 : Array (Option Value)) (e r : Nat → Bool) :
    Meets (Builtin.«tuple.__lt__» ⟨[.ref l, .ref b], []⟩)
      (fun A R s => s.heap.get? l = some { cls := .type "tuple", dict := dd, data := .seq items n, slots := sl } ∧ s.heap.get? b = some { cls := .type "tuple", dict := dd2, data := .seq items2 n2, slots := sl2 } ∧
        (∀ j (h1 : j < items.size) (h2 : j < items2.size), EqAt A.in1 s items[j] items2[j] (e j)) ∧
        (∀ j (h1 : j < items.size) (h2 : j < items2.size), e j = false → RcOp .Lt A.in1 s items[j] items2[j] (r j)) ∧
        R (.ok (.ret (.bool (lexF items.size items2.size e r (decide (items.size < items2.size)) (min items.size items2.size) 0)))) s) :=
  .of_wp fun prog w A R s h => by
    obtain ⟨hp, g, d, tk, os⟩ := s; obtain ⟨hl, hb, he, hr, h⟩ := h
    have f2 := AutoSeq1.sub_tuple_tuple
    have hZ : (items.toList.zip items2.toList).length = min items.size items2.size := by simp
    wp_walk using wpAny_loadPart' hl, wpAny_loadPart' hb, wpAny_forIn_list _ (fun rest b s' => b.1 = none ∧ s' = ⟨hp, g, d, tk, os⟩ ∧ ∃ i, i ≤ min items.size items2.size ∧ rest = (items.toList.zip items2.toList).drop i ∧
      R (.ok (.ret (.bool (lexF items.size items2.size e r (decide (items.size < items2.size)) (min items.size items2.size - i) i)))) ⟨hp, g, d, tk, os⟩) _
    case turn =>
      rintro ⟨y, x⟩ rest b s' ⟨hb', rfl, i, hile, hz, hR⟩
      have hlt : i < (items.toList.zip items2.toList).length := by
        rcases Nat.lt_or_ge i (items.toList.zip items2.toList).length with h' | h'
        · exact h'
        · rw [List.drop_of_length_le h'] at hz; cases hz
      have hm : i < min items.size items2.size := hZ ▸ hlt
      have h1 : i < items.size := Nat.lt_of_lt_of_le hm (Nat.min_le_left _ _)
      have h2 : i < items2.size := Nat.lt_of_lt_of_le hm (Nat.min_le_right _ _)
      rw [List.drop_eq_getElem_cons hlt] at hz
      injection hz with hyx hrest
      have hy : y = items[i] := by have := congrArg Prod.fst hyx; simpa using this
      have hx : x = items2[i] := by have := congrArg Prod.snd hyx; simpa using this
      subst hy hx
      have hk : min items.size items2.size - i = (min items.size items2.size - (i + 1)) + 1 := by lia
      rw [hk, lexF] at hR
      refine wpAny_bind (he i h1 h2 prog w _ _ ?_)
      cases hy : e i with
      | true =>
        rw [hy] at hR
        wp_walk
        exact ⟨rfl, rfl, i + 1, hm, hrest, by simpa using hR⟩
      | false =>
        rw [hy] at hR
        have hrr := fun E Q => hr i h1 h2 hy prog w E Q
        wp_walk using hrr _ _
        exact ⟨_, rfl, by simpa using hR⟩
    case fin =>
      rintro ⟨b1, b2⟩ s' ⟨hb', rfl, i, hile, hz, hR⟩
      simp only at hb'
      subst hb'
      have hge : min items.size items2.size ≤ i := by
        rcases Nat.lt_or_ge i (items.toList.zip items2.toList).length with h' | h'
        · rw [List.drop_eq_getElem_cons h'] at hz; cases hz
        · exact hZ ▸ h'
      rw [show min items.size items2.size - i = 0 by lia, lexF] at hR
      wp_walk
      exact ⟨_, rfl, by simpa [Builtin.Tuple.tupleCompareSizes] using hR⟩
    case h =>
      exact ⟨rfl, rfl, 0, Nat.zero_le _, rfl, by simpa using h⟩
section
variable {A : Around} {s : Shared}
theorem RcOp.lt_lists {l b : Addr} {items items2 : Array Value} {e r : Nat → Bool} (hl : s.heap.IsList l items) (hb : s.heap.IsList b items2) (hu : A.units < cLine)
    (he : ∀ j (h1 : j < items.size) (h2 : j < items2.size), EqAt A.in1 s items[j] items2[j] (e j))
    (hr : ∀ j (h1 : j < items.size) (h2 : j < items2.size), e j = false → RcOp .Lt A.in1 s items[j] items2[j] (r j)) : RcOp .Lt A s (.ref l) (.ref b) (lexF items.size items2.size e r (decide (items.size < items2.size)) (min items.size items2.size) 0) := fun prog w E Q h => by
  obtain ⟨⟨cls, dd, data, sl⟩, ho, hc, n, hd⟩ := id hl
  obtain ⟨⟨cls2, dd2, data2, sl2⟩, ho2, hc2, n2, hd2⟩ := id hb
  simp only at hc hd hc2 hd2
  subst hc hd hc2 hd2
  exact richCompare_meets_room (op := .Lt) ⟨_, ho, rfl⟩ ⟨_, ho2, rfl⟩ F.slot_list_lt F.entry_list_lt (F.args_list_lt_2 _ _) (list_ltAt l b items items2 n n2 dd dd2 sl sl2 e r)
    ⟨ho, ho2, he, hr, show Value.bool _ ≠ Value.notImplemented ∧ Q (.bool _) s from ⟨(fun x => nomatch x), h⟩⟩ hu
theorem RcOp.lt_tuples {l b : Addr} {items items2 : Array Value} {e r : Nat → Bool} (hl : s.heap.IsTuple l items) (hb : s.heap.IsTuple b items2) (hu : A.units < cLine)
    (he : ∀ j (h1 : j < items.size) (h2 : j < items2.size), EqAt A.in1 s items[j] items2[j] (e j))
    (hr : ∀ j (h1 : j < items.size) (h2 : j < items2.size), e j = false → RcOp .Lt A.in1 s items[j] items2[j] (r j)) : RcOp .Lt A s (.ref l) (.ref b) (lexF items.size items2.size e r (decide (items.size < items2.size)) (min items.size items2.size) 0) := fun prog w E Q h => by
  obtain ⟨⟨cls, dd, data, sl⟩, ho, hc, n, hd⟩ := id hl
  obtain ⟨⟨cls2, dd2, data2, sl2⟩, ho2, hc2, n2, hd2⟩ := id hb
  simp only at hc hd hc2 hd2
  subst hc hd hc2 hd2
  exact richCompare_meets_room (op := .Lt) ⟨_, ho, rfl⟩ ⟨_, ho2, rfl⟩ F.slot_tuple_lt F.entry_tuple_lt (F.args_tuple_lt_2 _ _) (tuple_ltAt l b items items2 n n2 dd dd2 sl sl2 e r)
    ⟨ho, ho2, he, hr, show Value.bool _ ≠ Value.notImplemented ∧ Q (.bool _) s from ⟨(fun x => nomatch x), h⟩⟩ hu
end

theorem gt_loopAt (l b : Addr) (items items2 : Array Value) (n n2 : Nat) (dd dd2 : Option Addr) (sl sl2 : Array (Option Value)) (e r : Nat → Bool) (k : Nat) :
    ∀ i : Nat, min items.size items2.size - i = k → i ≤ min items.size items2.size → Meets (Builtin.«list.__eq__.loop» ⟨[.ref l, .ref b, rawInt i, rawInt 4], []⟩)
      (fun A R s => s.heap.get? l = some { cls := .type "list", dict := dd, data := .seq items n, slots := sl } ∧ s.heap.get? b = some { cls := .type "list", dict := dd2, data := .seq items2 n2, slots := sl2 } ∧
        (∀ j (h1 : j < items.size) (h2 : j < items2.size), EqAt A.in1 s items[j] items2[j] (e j)) ∧
        (∀ j (h1 : j < items.size) (h2 : j < items2.size), e j = false → RcOp .Gt A.in1 s items[j] items2[j] (r j)) ∧
        R (.ok (.ret (.bool (lexF items.size items2.size e r (decide (items.size > items2.size)) k i)))) s) := by
  induction k with
  | zero =>
    intro i hk hi prog w A R s h
    obtain ⟨hp, g, d, tk, os⟩ := s; obtain ⟨hl, hb, he, hr, h⟩ := h
    wp_walk using wpAny_loadPart' hl, wpAny_loadPart' hb
    have hz : items.size ≤ i ∨ items2.size ≤ i := by lia
    rcases hz with hz | hz
    · have hi1 : items[((i : Nat) : Int).toNat]? = none := by simp; lia
      rw [hi1]
      cases hq : items2[((i : Nat) : Int).toNat]? <;> (
        wp_walk using wpAny_loadPart' hl, wpAny_loadPart' hb
        exact h)
    · have hi2 : items2[((i : Nat) : Int).toNat]? = none := by simp; lia
      rw [hi2]
      cases hq : items[((i : Nat) : Int).toNat]? <;> (
        wp_walk using wpAny_loadPart' hl, wpAny_loadPart' hb
        exact h)
  | succ k ih =>
    intro i hk hi prog w A R s h
    obtain ⟨hp, g, d, tk, os⟩ := s; obtain ⟨hl, hb, he, hr, h⟩ := h
    wp_walk using wpAny_loadPart' hl, wpAny_loadPart' hb
    have hlt : i < items.size := by lia
    have hlt2 : i < items2.size := by lia
    have hi1 : items[((i : Nat) : Int).toNat]? = some items[i] := by simp [hlt]
    have hi2 : items2[((i : Nat) : Int).toNat]? = some items2[i] := by simp [hlt2]
    have hc : ((i : Int) + 1) = ((i + 1 : Nat) : Int) := by push_cast; rfl
    rw [lexF] at h
    rw [hi1, hi2]
    refine wpAny_bind (he i hlt hlt2 prog w _ _ ?_)
    cases hb' : e i with
    | true =>
      rw [hb'] at h
      wp_walk
      rw [hc]
      exact ⟨plainId_quiet plain_eq_loop _, codeAny_builtin entry_eq_loop (by
        rw [Around.under_plainId plain_eq_loop _]
        exact ih (i + 1) (by lia) (by lia) prog w A R _ ⟨hl, hb, he, hr, by simpa using h⟩)⟩
    | false =>
      rw [hb'] at h
      wp_walk using wpAny_loadPart' hl, wpAny_loadPart' hb
      rw [hi1, hi2]
      refine wpAny_bind (hr i hlt hlt2 hb' prog w _ _ ?_)
      wp_walk
      simpa using h
theorem list_gtAt (l b : Addr) (items items2 : Array Value) (n n2 : Nat) (dd dd2 : Option Addr) (sl sl2 : Array (Option Value)) (e r : Nat → Bool) :
    Meets (Builtin.«list.__gt__» ⟨[.ref l, .ref b], []⟩)
      (fun A R s => s.heap.get? l = some { cls := .type "list", dict := dd, data := .seq items n, slots := sl } ∧ s.heap.get? b = some { cls := .type "list", dict := dd2, data := .seq items2 n2, slots := sl2 } ∧
        (∀ j (h1 : j < items.size) (h2 : j < items2.size), EqAt A.in1 s items[j] items2[j] (e j)) ∧
        (∀ j (h1 : j < items.size) (h2 : j < items2.size), e j = false → RcOp .Gt A.in1 s items[j] items2[j] (r j)) ∧
        R (.ok (.ret (.bool (lexF items.size items2.size e r (decide (items.size > items2.size)) (min items.size items2.size) 0)))) s) := by
  intro prog w A R s h
  obtain ⟨hp, g, d, tk, os⟩ := s; obtain ⟨hl, hb, he, hr, h⟩ := h
  have f3 := AutoSeq1.sub_list_list
  wp_walk using wpAny_loadPart' hl, wpAny_loadPart' hb
  exact ⟨plainId_quiet plain_eq_loop _, codeAny_builtin entry_eq_loop (by
    rw [Around.under_plainId plain_eq_loop _]
    exact gt_loopAt l b items items2 n n2 dd dd2 sl sl2 e r _ 0 rfl (Nat.zero_le _) prog w A R _ ⟨hl, hb, he, hr, h⟩)⟩
theorem tuple_gtAt (l b : Addr) (items items2 : Array Value) (n n2 : Nat) (dd dd2 : Option Addr) (sl sl2 : Array (Option Value)) (e r : Nat → Bool) :
    Meets (Builtin.«tuple.__gt__» ⟨[.ref l, .ref b], []⟩)
      (fun A R s => s.heap.get? l = some { cls := .type "tuple", dict := dd, data := .seq items n, slots := sl } ∧ s.heap.get? b = some { cls := .type "tuple", dict := dd2, data := .seq items2 n2, slots := sl2 } ∧
        (∀ j (h1 : j < items.size) (h2 : j < items2.size), EqAt A.in1 s items[j] items2[j] (e j)) ∧
        (∀ j (h1 : j < items.size) (h2 : j < items2.size), e j = false → RcOp .Gt A.in1 s items[j] items2[j] (r j)) ∧
        R (.ok (.ret (.bool (lexF items.size items2.size e r (decide (items.size > items2.size)) (min items.size items2.size) 0)))) s) :=
  .of_wp fun prog w A R s h => by
    obtain ⟨hp, g, d, tk, os⟩ := s; obtain ⟨hl, hb, he, hr, h⟩ := h
    have f2 := AutoSeq1.sub_tuple_tuple
    have hZ : (items.toList.zip items2.toList).length = min items.size items2.size := by simp
    wp_walk using wpAny_loadPart' hl, wpAny_loadPart' hb, wpAny_forIn_list _ (fun rest b s' => b.1 = none ∧ s' = ⟨hp, g, d, tk, os⟩ ∧ ∃ i, i ≤ min items.size items2.size ∧ rest = (items.toList.zip items2.toList).drop i ∧
      R (.ok (.ret (.bool (lexF items.size items2.size e r (decide (items.size > items2.size)) (min items.size items2.size - i) i)))) ⟨hp, g, d, tk, os⟩) _
    case turn =>
      rintro ⟨y, x⟩ rest b s' ⟨hb', rfl, i, hile, hz, hR⟩
      have hlt : i < (items.toList.zip items2.toList).length := by
        rcases Nat.lt_or_ge i (items.toList.zip items2.toList).length with h' | h'
        · exact h'
        · rw [List.drop_of_length_le h'] at hz; cases hz
      have hm : i < min items.size items2.size := hZ ▸ hlt
      have h1 : i < items.size := Nat.lt_of_lt_of_le hm (Nat.min_le_left _ _)
      have h2 : i < items2.size := Nat.lt_of_lt_of_le hm (Nat.min_le_right _ _)
      rw [List.drop_eq_getElem_cons hlt] at hz
      injection hz with hyx hrest
      have hy : y = items[i] := by have := congrArg Prod.fst hyx; simpa using this
      have hx : x = items2[i] := by have := congrArg Prod.snd hyx; simpa using this
      subst hy hx
      have hk : min items.size items2.size - i = (min items.size items2.size - (i + 1)) + 1 := by lia
      rw [hk, lexF] at hR
      refine wpAny_bind (he i h1 h2 prog w _ _ ?_)
      cases hy : e i with
      | true =>
        rw [hy] at hR
        wp_walk
        exact ⟨rfl, rfl, i + 1, hm, hrest, by simpa using hR⟩
      | false =>
        rw [hy] at hR
        have hrr := fun E Q => hr i h1 h2 hy prog w E Q
        wp_walk using hrr _ _
        exact ⟨_, rfl, by simpa using hR⟩
    case fin =>
      rintro ⟨b1, b2⟩ s' ⟨hb', rfl, i, hile, hz, hR⟩
      simp only at hb'
      subst hb'
      have hge : min items.size items2.size ≤ i := by
        rcases Nat.lt_or_ge i (items.toList.zip items2.toList).length with h' | h'
        · rw [List.drop_eq_getElem_cons h'] at hz; cases hz
        · exact hZ ▸ h'
      rw [show min items.size items2.size - i = 0 by lia, lexF] at hR
      wp_walk
      exact ⟨_, rfl, by simpa [Builtin.Tuple.tupleCompareSizes] using hR⟩
    case h =>
      exact ⟨rfl, rfl, 0, Nat.zero_le _, rfl, by simpa using h⟩
section
variable {A : Around} {s : Shared}
theorem RcOp.gt_lists {l b : Addr} {items items2 : Array Value} {e r : Nat → Bool} (hl : s.heap.IsList l items) (hb : s.heap.IsList b items2) (hu : A.units < cLine)
    (he : ∀ j (h1 : j < items.size) (h2 : j < items2.size), EqAt A.in1 s items[j] items2[j] (e j))
    (hr : ∀ j (h1 : j < items.size) (h2 : j < items2.size), e j = false → RcOp .Gt A.in1 s items[j] items2[j] (r j)) : RcOp .Gt A s (.ref l) (.ref b) (lexF items.size items2.size e r (decide (items.size > items2.size)) (min items.size items2.size) 0) := fun prog w E Q h => by
  obtain ⟨⟨cls, dd, data, sl⟩, ho, hc, n, hd⟩ := id hl
  obtain ⟨⟨cls2, dd2, data2, sl2⟩, ho2, hc2, n2, hd2⟩ := id hb
  simp only at hc hd hc2 hd2
  subst hc hd hc2 hd2
  exact richCompare_meets_room (op := .Gt) ⟨_, ho, rfl⟩ ⟨_, ho2, rfl⟩ F.slot_list_gt F.entry_list_gt (F.args_list_gt_2 _ _) (list_gtAt l b items items2 n n2 dd dd2 sl sl2 e r)
    ⟨ho, ho2, he, hr, show Value.bool _ ≠ Value.notImplemented ∧ Q (.bool _) s from ⟨(fun x => nomatch x), h⟩⟩ hu
theorem RcOp.gt_tuples {l b : Addr} {items items2 : Array Value} {e r : Nat → Bool} (hl : s.heap.IsTuple l items) (hb : s.heap.IsTuple b items2) (hu : A.units < cLine)
    (he : ∀ j (h1 : j < items.size) (h2 : j < items2.size), EqAt A.in1 s items[j] items2[j] (e j))
    (hr : ∀ j (h1 : j < items.size) (h2 : j < items2.size), e j = false → RcOp .Gt A.in1 s items[j] items2[j] (r j)) : RcOp .Gt A s (.ref l) (.ref b) (lexF items.size items2.size e r (decide (items.size > items2.size)) (min items.size items2.size) 0) := fun prog w E Q h => by
  obtain ⟨⟨cls, dd, data, sl⟩, ho, hc, n, hd⟩ := id hl
  obtain ⟨⟨cls2, dd2, data2, sl2⟩, ho2, hc2, n2, hd2⟩ := id hb
  simp only at hc hd hc2 hd2
  subst hc hd hc2 hd2
  exact richCompare_meets_room (op := .Gt) ⟨_, ho, rfl⟩ ⟨_, ho2, rfl⟩ F.slot_tuple_gt F.entry_tuple_gt (F.args_tuple_gt_2 _ _) (tuple_gtAt l b items items2 n n2 dd dd2 sl sl2 e r)
    ⟨ho, ho2, he, hr, show Value.bool _ ≠ Value.notImplemented ∧ Q (.bool _) s from ⟨(fun x => nomatch x), h⟩⟩ hu
end
end Mine
end
section
open PySem PySem.W PyProof.Rows
namespace Mine
open PySem.SeqAt
/-- a piece as data -/
noncomputable def elD (e : El) : Dat := .tuple [.int e.1, .int e.2.1, .str ⟨e.2.2.toArray⟩]
section
variable {h₀ : Heap} {Lo : Addr} {news : List (Addr × Obj)} {A : Around} {s : Shared} {v v' : Value} {e e' : El}
theorem dI {i : Int} : DatIn news v (.int i) → ∃ t, v = .int i t | .int _ t => ⟨t, rfl⟩
theorem dS {x : PySem.Str} : DatIn news v (.str x) → ∃ t, v = .str x t | .str _ t => ⟨t, rfl⟩
theorem dC {vs : List Value} {d : Dat} {ds : List Dat} : DatAll news vs (d :: ds) → ∃ u us, vs = u :: us ∧ DatIn news u d ∧ DatAll news us ds | .cons a b => ⟨_, _, rfl, a, b⟩
theorem dN {vs : List Value} : DatAll news vs [] → vs = [] | .nil => rfl
theorem dT {ds : List Dat} : DatIn news v (.tuple ds) → ∃ a vs n, v = .ref a ∧ (a, ({ cls := .type "tuple", data := .seq vs.toArray n } : Obj)) ∈ news ∧ DatAll news vs ds | .tuple m d => ⟨_, _, _, rfl, m, d⟩
theorem elD_inv (h : DatIn news v (elD e)) : ∃ a t u w n, v = .ref a ∧ (a, ({ cls := .type "tuple", data := .seq #[Value.int e.1 t, Value.int e.2.1 u, Value.str ⟨e.2.2.toArray⟩ w] n } : Obj)) ∈ news := by
  obtain ⟨a, _, n, rfl, hm, hd⟩ := dT h
  obtain ⟨_, _, rfl, h1, hd1⟩ := dC hd
  obtain ⟨_, _, rfl, h2, hd2⟩ := dC hd1
  obtain ⟨_, _, rfl, h3, hd3⟩ := dC hd2
  obtain ⟨t, rfl⟩ := dI h1
  obtain ⟨u, rfl⟩ := dI h2
  obtain ⟨w, rfl⟩ := dS h3
  obtain rfl := dN hd3
  exact ⟨a, t, u, w, n, rfl, hm⟩
theorem ordEl_cases : ordEl e e' = -1 ∨ ordEl e e' = 0 ∨ ordEl e e' = 1 := by
  have h1 : ∀ a b : Int, sgn a b = -1 ∨ sgn a b = 0 ∨ sgn a b = 1 := by
    intro a b
    unfold sgn
    split
    · simp
    · split <;> simp
  have h2 : ∀ a b : List Nat, cmpT a b = -1 ∨ cmpT a b = 0 ∨ cmpT a b = 1 := by
    intro a b
    unfold cmpT
    split
    · simp
    · split <;> simp
  unfold ordEl
  split
  · exact h1 _ _
  · split
    · exact h1 _ _
    · exact h2 _ _
theorem isTuple_of {a : Addr} {vs : Array Value} {n : Nat} (N : News h₀ Lo s.heap news) (hm : (a, ({ cls := .type "tuple", data := .seq vs n } : Obj)) ∈ news) : s.heap.IsTuple a vs := ⟨_, (N _ hm).1, rfl, n, rfl⟩
theorem three {α : Type} {P : (j : Nat) → Prop} (h0 : P 0) (h1 : P 1) (h2 : P 2) : ∀ j, j < 3 → P j := by
  intro j hj
  match j, hj with
  | 0, _ => exact h0
  | 1, _ => exact h1
  | 2, _ => exact h2
noncomputable def e3 (e e' : El) : Nat → Bool
  | 0 => decide (e.1 = e'.1)
  | 1 => decide (e.2.1 = e'.2.1)
  | _ => decide (e.2.2 = e'.2.2)
noncomputable def r3 (e e' : El) : Nat → Bool
  | 0 => decide (e.1 < e'.1)
  | 1 => decide (e.2.1 < e'.2.1)
  | _ => decide (e.2.2 < e'.2.2)
theorem natc_eq {a b : Nat} : ((a : Int) == (b : Int)) = decide (a = b) := by
  rw [Bool.eq_iff_iff, beq_iff_eq, decide_eq_true_eq]
  exact Int.ofNat_inj
theorem natc_lt {a b : Nat} : decide ((a : Int) < (b : Int)) = decide (a < b) := by
  rw [Bool.eq_iff_iff]
  simp
theorem strc_eq {a b : List Nat} : ((⟨a.toArray⟩ : PySem.Str) == ⟨b.toArray⟩) = decide (a = b) := by
  rw [Bool.eq_iff_iff]
  simp
theorem el_eqs {t u w t' u' w' : Tok} : ∀ j (h1 : j < (#[Value.int e.1 t, Value.int e.2.1 u, Value.str ⟨e.2.2.toArray⟩ w]).size) (h2 : j < (#[Value.int e'.1 t', Value.int e'.2.1 u', Value.str ⟨e'.2.2.toArray⟩ w']).size),
    EqAt A s (#[Value.int e.1 t, Value.int e.2.1 u, Value.str ⟨e.2.2.toArray⟩ w])[j] (#[Value.int e'.1 t', Value.int e'.2.1 u', Value.str ⟨e'.2.2.toArray⟩ w'])[j] (e3 e e' j) := by
  intro j h1 h2
  match j, h1, h2 with
  | 0, _, _ =>
    have h := EqAt.int_int (A := A) (s := s) e.1 t e'.1 t'
    rw [natc_eq] at h
    exact h
  | 1, _, _ =>
    have h := EqAt.int_int (A := A) (s := s) e.2.1 u e'.2.1 u'
    rw [natc_eq] at h
    exact h
  | 2, _, _ =>
    have h := EqAt.str_str (A := A) (s := s) ⟨e.2.2.toArray⟩ w ⟨e'.2.2.toArray⟩ w'
    rw [strc_eq] at h
    exact h
theorem el_lts {t u w t' u' w' : Tok} : ∀ j (h1 : j < (#[Value.int e.1 t, Value.int e.2.1 u, Value.str ⟨e.2.2.toArray⟩ w]).size) (h2 : j < (#[Value.int e'.1 t', Value.int e'.2.1 u', Value.str ⟨e'.2.2.toArray⟩ w']).size), e3 e e' j = false →
    RcOp .Lt A s (#[Value.int e.1 t, Value.int e.2.1 u, Value.str ⟨e.2.2.toArray⟩ w])[j] (#[Value.int e'.1 t', Value.int e'.2.1 u', Value.str ⟨e'.2.2.toArray⟩ w'])[j] (r3 e e' j) := by
  intro j h1 h2 _
  match j, h1, h2 with
  | 0, _, _ => exact fun prog w E Q h => P.lt_int (a := e.1) (b := e'.1) (by rw [natc_lt]; exact h)
  | 1, _, _ => exact fun prog w E Q h => P.lt_int (a := e.2.1) (b := e'.2.1) (by rw [natc_lt]; exact h)
  | 2, _, _ => exact fun prog w E Q h => P.lt_str (x := ⟨e.2.2.toArray⟩) (y := ⟨e'.2.2.toArray⟩) h
theorem el_gts {t u w t' u' w' : Tok} : ∀ j (h1 : j < (#[Value.int e.1 t, Value.int e.2.1 u, Value.str ⟨e.2.2.toArray⟩ w]).size) (h2 : j < (#[Value.int e'.1 t', Value.int e'.2.1 u', Value.str ⟨e'.2.2.toArray⟩ w']).size), e3 e e' j = false →
    RcOp .Gt A s (#[Value.int e.1 t, Value.int e.2.1 u, Value.str ⟨e.2.2.toArray⟩ w])[j] (#[Value.int e'.1 t', Value.int e'.2.1 u', Value.str ⟨e'.2.2.toArray⟩ w'])[j] (r3 e' e j) := by
  intro j h1 h2 _
  match j, h1, h2 with
  | 0, _, _ => exact fun prog w E Q h => P.gt_int (a := e.1) (b := e'.1) (by rw [show decide ((e.1 : Int) > (e'.1 : Int)) = decide (e'.1 < e.1) from natc_lt]; exact h)
  | 1, _, _ => exact fun prog w E Q h => P.gt_int (a := e.2.1) (b := e'.2.1) (by rw [show decide ((e.2.1 : Int) > (e'.2.1 : Int)) = decide (e'.2.1 < e.2.1) from natc_lt]; exact h)
  | 2, _, _ => exact fun prog w E Q h => P.gt_str (x := ⟨e.2.2.toArray⟩) (y := ⟨e'.2.2.toArray⟩) h
theorem lex3 {e r : Nat → Bool} {sz : Bool} : lexF 3 3 e r sz 3 0 = if e 0 then if e 1 then if e 2 then sz else r 2 else r 1 else r 0 := by
  simp only [lexF]
theorem all3 {e : Nat → Bool} : (((List.range (min 3 3)).all e) && (3 == 3)) = (e 0 && (e 1 && e 2)) := by
  simp [List.range, List.range.loop]
theorem e3_all : (e3 e e' 0 && (e3 e e' 1 && e3 e e' 2)) = decide (e = e') := by
  rw [Bool.eq_iff_iff]
  simp only [e3, Bool.and_eq_true, decide_eq_true_eq]
  constructor
  · rintro ⟨h1, h2, h3⟩
    exact Prod.ext h1 (Prod.ext h2 h3)
  · rintro rfl
    exact ⟨rfl, rfl, rfl⟩
theorem sgn_neg {a b : Nat} : (sgn (a : Int) (b : Int) < 0) ↔ a < b := by
  unfold sgn
  split
  · simp; lia
  · split <;> simp <;> lia
theorem sgn_pos {a b : Nat} : (0 < sgn (a : Int) (b : Int)) ↔ b < a := by
  unfold sgn
  split
  · simp; lia
  · split <;> simp <;> lia
theorem cmpT_neg {a b : List Nat} (h : a ≠ b) : (cmpT a b < 0) ↔ a < b := by
  unfold cmpT
  rw [if_neg h]
  split <;> simp [*]
theorem lt_total {a b : List Nat} (h : a ≠ b) : a < b ∨ b < a := by
  rcases Classical.em (a < b) with h1 | h1
  · exact .inl h1
  · rcases Classical.em (b < a) with h2 | h2
    · exact .inr h2
    · exact absurd (List.le_antisymm (List.not_lt.mp h2) (List.not_lt.mp h1)) h
theorem lt_asymm' {a b : List Nat} (h : a < b) : ¬ b < a := List.lt_asymm h
theorem cmpT_pos {a b : List Nat} (h : a ≠ b) : (0 < cmpT a b) ↔ b < a := by
  unfold cmpT
  rw [if_neg h]
  by_cases h1 : a < b
  · simp [h1, lt_asymm' h1]
  · have := (lt_total h).resolve_left h1
    simp [h1, this]
theorem lex_el_lt (h : e ≠ e') : lexF 3 3 (e3 e e') (r3 e e') (decide (3 < 3)) 3 0 = decide (ordEl e e' < 0) := by
  rw [lex3, Bool.eq_iff_iff]
  obtain ⟨a, b, c⟩ := e
  obtain ⟨a', b', c'⟩ := e'
  simp only [e3, r3, ordEl, ne_eq]
  by_cases h1 : a = a'
  · by_cases h2 : b = b'
    · have h3 : c ≠ c' := fun q => h (by rw [h1, h2, q])
      simp [h1, h2, h3, cmpT_neg h3]
    · simp [h1, h2, sgn_neg]
  · simp [h1, sgn_neg]
theorem lex_el_gt (h : e ≠ e') : lexF 3 3 (e3 e e') (r3 e' e) (decide (3 > 3)) 3 0 = decide (0 < ordEl e e') := by
  rw [lex3, Bool.eq_iff_iff]
  obtain ⟨a, b, c⟩ := e
  obtain ⟨a', b', c'⟩ := e'
  simp only [e3, r3, ordEl, ne_eq]
  by_cases h1 : a = a'
  · by_cases h2 : b = b'
    · have h3 : c ≠ c' := fun q => h (by rw [h1, h2, q])
      simp [h1, h2, h3, cmpT_pos h3]
    · simp [h1, h2, sgn_pos]
  · simp [h1, sgn_pos]
theorem el_eq (N : News h₀ Lo s.heap news) (D : DatIn news v (elD e)) (D' : DatIn news v' (elD e')) (hu : A.units < cLine) : EqAt A s v v' (decide (e = e')) := by
  obtain ⟨a, t, u, w, n, rfl, hm⟩ := elD_inv D
  obtain ⟨a', t', u', w', n', rfl, hm'⟩ := elD_inv D'
  by_cases ha : a = a'
  · subst ha
    have hq : some _ = some _ := (N _ hm).1.symm.trans (N _ hm').1
    have : e = e' := by
      simp only [Option.some.injEq, Obj.mk.injEq, Data.seq.injEq, Array.mk.injEq, List.cons.injEq, Value.int.injEq, Value.str.injEq, true_and, and_true, Str.mk.injEq] at hq
      obtain ⟨⟨⟨q1, _⟩, ⟨q2, _⟩, q3, _⟩, _⟩ := hq
      exact Prod.ext (Int.ofNat_inj.mp q1) (Prod.ext (Int.ofNat_inj.mp q2) q3)
    rw [decide_eq_true this]
    exact EqAt.same _
  · refine EqAt.of_refs ha ?_
    have h := RcAt.tuples (isTuple_of N hm) (isTuple_of N hm') hu el_eqs
    have q : (((List.range (min 3 3)).all (e3 e e')) && (3 == 3)) = decide (e = e') := by rw [all3, e3_all]
    rw [← q]
    exact h
theorem el_lt (N : News h₀ Lo s.heap news) (D : DatIn news v (elD e)) (D' : DatIn news v' (elD e')) (hu : A.units < cLine) (hne : e ≠ e') : RcOp .Lt A s v v' (decide (ordEl e e' < 0)) := by
  obtain ⟨a, t, u, w, n, rfl, hm⟩ := elD_inv D
  obtain ⟨a', t', u', w', n', rfl, hm'⟩ := elD_inv D'
  rw [← lex_el_lt hne]
  exact RcOp.lt_tuples (isTuple_of N hm) (isTuple_of N hm') hu el_eqs el_lts
theorem el_gt (N : News h₀ Lo s.heap news) (D : DatIn news v (elD e)) (D' : DatIn news v' (elD e')) (hu : A.units < cLine) (hne : e ≠ e') : RcOp .Gt A s v v' (decide (0 < ordEl e e')) := by
  obtain ⟨a, t, u, w, n, rfl, hm⟩ := elD_inv D
  obtain ⟨a', t', u', w', n', rfl, hm'⟩ := elD_inv D'
  rw [← lex_el_gt hne]
  exact RcOp.gt_tuples (isTuple_of N hm) (isTuple_of N hm') hu el_eqs el_gts
end
end Mine
end
section
open PySem PySem.W PyProof.Rows
namespace Mine
open PySem.SeqAt
noncomputable def eR (rx ry : List El) (j : Nat) : Bool := decide (rx[j]? = ry[j]?)
noncomputable def rL (rx ry : List El) (j : Nat) : Bool := match rx[j]?, ry[j]? with
  | some a, some b => decide (ordEl a b < 0)
  | _, _ => false
noncomputable def rG (rx ry : List El) (j : Nat) : Bool := match rx[j]?, ry[j]? with
  | some a, some b => decide (0 < ordEl a b)
  | _, _ => false
theorem drop_el {l : List El} {i : Nat} {c : El} (h : l[i]? = some c) : l.drop i = c :: l.drop (i + 1) := by
  obtain ⟨hl, e⟩ := List.getElem?_eq_some_iff.mp h
  rw [List.drop_eq_getElem_cons hl, e]
theorem lex_rows (f : Int → Bool) (rx ry : List El) (e r : Nat → Bool) (sz : Bool) (he : ∀ i a b, rx[i]? = some a → ry[i]? = some b → e i = decide (a = b) ∧ (a ≠ b → r i = f (ordEl a b)))
    (h0 : rx.length = ry.length → sz = f 0) (h1 : rx.length < ry.length → sz = f (-1)) (h2 : ry.length < rx.length → sz = f 1) :
    ∀ k i, min rx.length ry.length - i = k → i ≤ min rx.length ry.length → lexF rx.length ry.length e r sz k i = f (ordRow (rx.drop i) (ry.drop i)) := by
  intro k
  induction k with
  | zero =>
    intro i hk hi
    have hx : i ≤ rx.length := Nat.le_trans hi (Nat.min_le_left _ _)
    have hy : i ≤ ry.length := Nat.le_trans hi (Nat.min_le_right _ _)
    have hm := Nat.le_of_sub_eq_zero hk
    rw [lexF]
    rcases Nat.lt_trichotomy rx.length ry.length with h | h | h
    · have e1 : rx.length ≤ i := Nat.le_trans (Nat.le_min.mpr ⟨Nat.le_refl _, Nat.le_of_lt h⟩) hm
      rw [List.drop_of_length_le e1, List.drop_eq_getElem_cons (Nat.lt_of_le_of_lt hx h |> fun q => Nat.lt_of_le_of_lt (Nat.le_refl i) q), h1 h]
      rfl
    · have e1 : rx.length ≤ i := Nat.le_trans (Nat.le_min.mpr ⟨Nat.le_refl _, Nat.le_of_eq h⟩) hm
      rw [List.drop_of_length_le e1, List.drop_of_length_le (h ▸ e1), h0 h]
      rfl
    · have e1 : ry.length ≤ i := Nat.le_trans (Nat.le_min.mpr ⟨Nat.le_of_lt h, Nat.le_refl _⟩) hm
      rw [List.drop_of_length_le e1, List.drop_eq_getElem_cons (Nat.lt_of_le_of_lt hy h), h2 h]
      rfl
  | succ k ih =>
    intro i hk hi
    have h1 : i < rx.length := by lia
    have h2 : i < ry.length := by lia
    have q1 : rx[i]? = some rx[i] := List.getElem?_eq_getElem h1
    have q2 : ry[i]? = some ry[i] := List.getElem?_eq_getElem h2
    obtain ⟨e1, e2⟩ := he i _ _ q1 q2
    rw [lexF, ih (i + 1) (by lia) (by lia), drop_el q1, drop_el q2, ordRow, e1]
    by_cases h : rx[i] = ry[i]
    · rw [decide_eq_true h, if_pos h]; rfl
    · rw [decide_eq_false h, if_neg h, e2 h]; rfl
theorem lex_rows_lt (rx ry : List El) : ∀ k i, min rx.length ry.length - i = k → i ≤ min rx.length ry.length →
    lexF rx.length ry.length (eR rx ry) (rL rx ry) (decide (rx.length < ry.length)) k i = decide (ordRow (rx.drop i) (ry.drop i) < 0) :=
  lex_rows (fun z => decide (z < 0)) rx ry _ _ _ (fun i a b q1 q2 => by unfold eR rL; rw [q1, q2]; exact ⟨by by_cases h : a = b <;> simp [h], fun _ => rfl⟩)
    (fun h => decide_eq_false (by rw [h]; exact Nat.lt_irrefl _)) (fun h => decide_eq_true h) (fun h => decide_eq_false (Nat.lt_asymm h))
theorem lex_rows_gt (rx ry : List El) : ∀ k i, min rx.length ry.length - i = k → i ≤ min rx.length ry.length →
    lexF rx.length ry.length (eR rx ry) (rG rx ry) (decide (rx.length > ry.length)) k i = decide (0 < ordRow (rx.drop i) (ry.drop i)) :=
  lex_rows (fun z => decide (0 < z)) rx ry _ _ _ (fun i a b q1 q2 => by unfold eR rG; rw [q1, q2]; exact ⟨by by_cases h : a = b <;> simp [h], fun _ => rfl⟩)
    (fun h => decide_eq_false (by rw [h]; exact Nat.lt_irrefl _)) (fun h => decide_eq_false (Nat.lt_asymm h)) (fun h => decide_eq_true h)
section
variable {prog : Program} {w : World} {A : Around} {E : Value → Shared → Prop} {h₀ : Heap} {Lo a b : Addr} {news : List (Addr × Obj)} {s : Shared} {xs ys : List Value} {n n' : Nat} {rx ry : List El} {Q : Value → Shared → Prop}
theorem rows_at (D : DatAll news xs (rx.map elD)) {j : Nat} (h : j < xs.length) : ∃ e, rx[j]? = some e ∧ DatIn news xs[j] (elD e) := by
  have hl : j < (rx.map elD).length := by rw [← D.length]; exact h
  obtain ⟨v, hv, hd⟩ := D.get hl
  rw [List.getElem?_eq_getElem h] at hv
  cases hv
  rw [List.length_map] at hl
  refine ⟨rx[j], List.getElem?_eq_getElem hl, ?_⟩
  rw [List.getElem_map] at hd
  exact hd
theorem rows_len (D : DatAll news xs (rx.map elD)) : xs.length = rx.length := by rw [D.length, List.length_map]
theorem rows_lt (N : News h₀ Lo s.heap news) (ha : (a, listOf xs.toArray n) ∈ news) (hb : (b, listOf ys.toArray n') ∈ news) (Da : DatAll news xs (rx.map elD)) (Db : DatAll news ys (ry.map elD)) (hu : A.units + 8 < cLine)
    (h : Q (.bool (decide (ordRow rx ry < 0))) s) : wpAny (model prog w) A (compareOp .Lt (.ref a) (.ref b)) Q E s := by
  have hla : s.heap.IsList a xs.toArray := ⟨_, (N _ ha).1, rfl, n, rfl⟩
  have hlb : s.heap.IsList b ys.toArray := ⟨_, (N _ hb).1, rfl, n', rfl⟩
  have hu1 : A.in1.units < cLine := by rw [Around.in1_units]; lia
  have k := RcOp.lt_lists (e := eR rx ry) (r := rL rx ry) hla hlb (by lia : A.units < cLine) ?_ ?_
  · refine k prog w E Q ?_
    have hl := lex_rows_lt rx ry _ 0 rfl (Nat.zero_le _)
    rw [← rows_len Da, ← rows_len Db] at hl
    rw [Nat.sub_zero] at hl
    simp only [List.size_toArray]
    rw [hl, List.drop_zero, List.drop_zero]
    exact h
  · intro j h1 h2
    obtain ⟨e, he, hd⟩ := rows_at Da (j := j) (by simpa using h1)
    obtain ⟨e', he', hd'⟩ := rows_at Db (j := j) (by simpa using h2)
    have q := el_eq (A := A.in1) N hd hd' hu1
    unfold eR
    rw [he, he']
    simpa using q
  · intro j h1 h2 hf
    obtain ⟨e, he, hd⟩ := rows_at Da (j := j) (by simpa using h1)
    obtain ⟨e', he', hd'⟩ := rows_at Db (j := j) (by simpa using h2)
    unfold eR at hf
    rw [he, he'] at hf
    have hne : e ≠ e' := by rintro rfl; simp at hf
    have q := el_lt (A := A.in1) N hd hd' hu1 hne
    unfold rL
    rw [he, he']
    simpa using q
theorem rows_gt (N : News h₀ Lo s.heap news) (ha : (a, listOf xs.toArray n) ∈ news) (hb : (b, listOf ys.toArray n') ∈ news) (Da : DatAll news xs (rx.map elD)) (Db : DatAll news ys (ry.map elD)) (hu : A.units + 8 < cLine)
    (h : Q (.bool (decide (0 < ordRow rx ry))) s) : wpAny (model prog w) A (compareOp .Gt (.ref a) (.ref b)) Q E s := by
  have hla : s.heap.IsList a xs.toArray := ⟨_, (N _ ha).1, rfl, n, rfl⟩
  have hlb : s.heap.IsList b ys.toArray := ⟨_, (N _ hb).1, rfl, n', rfl⟩
  have hu1 : A.in1.units < cLine := by rw [Around.in1_units]; lia
  have k := RcOp.gt_lists (e := eR rx ry) (r := rG rx ry) hla hlb (by lia : A.units < cLine) ?_ ?_
  · refine k prog w E Q ?_
    have hl := lex_rows_gt rx ry _ 0 rfl (Nat.zero_le _)
    rw [← rows_len Da, ← rows_len Db] at hl
    rw [Nat.sub_zero] at hl
    simp only [List.size_toArray]
    rw [hl, List.drop_zero, List.drop_zero]
    exact h
  · intro j h1 h2
    obtain ⟨e, he, hd⟩ := rows_at Da (j := j) (by simpa using h1)
    obtain ⟨e', he', hd'⟩ := rows_at Db (j := j) (by simpa using h2)
    have q := el_eq (A := A.in1) N hd hd' hu1
    unfold eR
    rw [he, he']
    simpa using q
  · intro j h1 h2 hf
    obtain ⟨e, he, hd⟩ := rows_at Da (j := j) (by simpa using h1)
    obtain ⟨e', he', hd'⟩ := rows_at Db (j := j) (by simpa using h2)
    unfold eR at hf
    rw [he, he'] at hf
    have hne : e ≠ e' := by rintro rfl; simp at hf
    have q := el_gt (A := A.in1) N hd hd' hu1 hne
    unfold rG
    rw [he, he']
    simpa using q
end
theorem ordRow_cases : ∀ x y : List El, ordRow x y = -1 ∨ ordRow x y = 0 ∨ ordRow x y = 1
  | [], [] => by simp [ordRow]
  | [], _ :: _ => by simp [ordRow]
  | _ :: _, [] => by simp [ordRow]
  | a :: x, b :: y => by
    rw [ordRow]
    split
    · exact ordRow_cases x y
    · exact ordEl_cases
theorem sl_lt2 {x : Str} {a : Int} (h0 : 0 ≤ a) (h : (Txt.slice x (some (a + 1)) (some (a + 2)) != PySem.Str.ofString "") = true) : a + 1 < x.length := by
  have e0 : L (PySem.Str.ofString "") = [] := by decide +kernel
  have hl : (L x).length = x.length := rfl
  rcases Int.lt_or_le (a + 1) x.length with h1 | h1
  · exact h1
  · exfalso
    have : (Txt.slice x (some (a + 1)) (some (a + 2)) == PySem.Str.ofString "") = true := by
      rw [str_eq, e0, slice_L (by lia) (by lia), List.drop_of_length_le (by lia)]
      simp
    rw [bne, this] at h
    cases h
end Mine
end
section
open PySem PySem.W PyProof.Rows
namespace Mine
theorem dig_in {x : Str} {i : Int} {b : Bool} (h0 : 0 ≤ i) (h1 : i < x.length) (h : (Builtin.Str.occurrences (PySem.Str.ofString "0123456789") (Txt.item x i) 0 (PySem.Str.ofString "0123456789").length 1).isEmpty = b) : dA (L x) i = !b := by
  obtain ⟨c, hc, hi⟩ := item_at h0 h1
  have e : (PySem.Str.ofString "0123456789").cps.toList = [48, 49, 50, 51, 52, 53, 54, 55, 56, 57] := by decide +kernel
  have f := StrLaws.found_one (PySem.Str.ofString "0123456789") c
  rw [← hi, h, e] at f
  rw [f]
  unfold dA
  rw [hc]
  exact (dig_list c).symm.trans (Bool.eq_iff_iff.mpr (List.contains_iff_mem.trans decide_eq_true_iff.symm))
theorem blk_in {x : Str} {i : Int} {b : Bool} (h0 : 0 ≤ i) (h1 : i < x.length) (h : (Builtin.Str.occurrences (PySem.Str.ofString " \t\n\x0d\x0b\x0c") (Txt.item x i) 0 (PySem.Str.ofString " \t\n\x0d\x0b\x0c").length 1).isEmpty = b) : bA (L x) i = !b := by
  obtain ⟨c, hc, hi⟩ := item_at h0 h1
  have e : (PySem.Str.ofString " \t\n\x0d\x0b\x0c").cps.toList = [32, 9, 10, 13, 11, 12] := by decide +kernel
  have f := StrLaws.found_one (PySem.Str.ofString " \t\n\x0d\x0b\x0c") c
  rw [← hi, h, e] at f
  rw [f]
  unfold bA
  rw [hc]
  exact (blk_list c).symm.trans (Bool.eq_iff_iff.mpr (List.contains_iff_mem.trans decide_eq_true_iff.symm))
noncomputable def JoinB (h₀ : Heap) (Lo : Addr) (m : Str → Option Value) (news : List (Addr × Obj)) (s : Shared) (T b : Bool) (s₂ : Shared) : Prop :=
  ∃ h' tk', s₂ = { s with heap := h', toks := tk' } ∧ Fr h₀ Lo h' m ∧ News h₀ Lo h' news ∧ b = T
theorem joinB {M : Model} {A : Around} {t : Sem Bool} {E : Value → Shared → Prop} {s : Shared} {h₀ : Heap} {Lo : Addr} {m : Str → Option Value} {news : List (Addr × Obj)} {Q : Bool → Shared → Prop} (T : Bool) (_F : Fr h₀ Lo s.heap m) (_N : News h₀ Lo s.heap news)
    (h : wpAny M A t (JoinB h₀ Lo m news s T) E s) (k : ∀ h' tk', Fr h₀ Lo h' m → News h₀ Lo h' news → Q T { s with heap := h', toks := tk' }) : wpAny M A t Q E s :=
  wpAny_mono h (fun _ _ ⟨h', tk', e, F', N', eb⟩ => by subst e eb; exact k h' tk' F' N') fun _ _ x => x
theorem joinB_end {s : Shared} {h₀ : Heap} {Lo : Addr} {m : Str → Option Value} {news nw : List (Addr × Obj)} {T b : Bool} {h' : Heap} {tk' : Nat} (F : Fr h₀ Lo h' m) (N : News h₀ Lo h' nw) (hs : ∀ p ∈ news, p ∈ nw) (e : b = T) :
    JoinB h₀ Lo m news s T b { s with heap := h', toks := tk' } := ⟨h', tk', rfl, F, fun p hp => N p (hs p hp), e⟩
theorem news_tl {h₀ h : Heap} {Lo : Addr} {q : Addr × Obj} {l : List (Addr × Obj)} (N : News h₀ Lo h (q :: l)) : News h₀ Lo h l := fun p hp => N p (.tail _ hp)
/-- one more nought ahead -/
noncomputable def nT (l : List Nat) (i : Int) : Bool := decide (l[i.toNat]? = some 48) && dA l (i + 1)
section
variable {x : Str} {i : Int}
theorem nT1 (h0 : 0 ≤ i) (h : (Txt.slice x (some i) (some (i + 1)) == PySem.Str.ofString "0") = false) : false = nT (L x) i := by
  have : ¬ (L x)[i.toNat]? = some 48 := fun e => by rw [(sl0 h0).mpr e] at h; cases h
  rw [nT, decide_eq_false this]; rfl
theorem nT2 (h0 : 0 ≤ i) (h : (Txt.slice x (some (i + 1)) (some (i + 2)) != PySem.Str.ofString "") = false) : false = nT (L x) i := by
  have e0 : L (PySem.Str.ofString "") = [] := by decide +kernel
  have h2 : (Txt.slice x (some (i + 1)) (some (i + 2)) == PySem.Str.ofString "") = true := by
    rw [bne, Bool.not_eq_false'] at h
    exact h
  rw [str_eq, e0, slice_L (by lia) (by lia)] at h2
  have h3 : (i + 2 - (i + 1)).toNat = 1 := by lia
  rw [h3] at h2
  have h4 : (L x)[(i + 1).toNat]? = none := by
    cases hq : (L x)[(i + 1).toNat]? with
    | none => rfl
    | some c => rw [drop_some hq] at h2; simp at h2
  simp [nT, dA, h4]
theorem nT3 {b : Bool} (h0 : 0 ≤ i) (h : (Txt.slice x (some i) (some (i + 1)) == PySem.Str.ofString "0") = true) (h1 : i + 1 < x.length)
    (h2 : (Builtin.Str.occurrences (PySem.Str.ofString "0123456789") (Txt.item x (i + 1)) 0 (PySem.Str.ofString "0123456789").length 1).isEmpty = b) : (!b) = nT (L x) i := by
  rw [nT, dig_in (by lia) h1 h2, decide_eq_true ((sl0 h0).mp h)]
  rfl
theorem nT_step (h0 : 0 ≤ i) (h : nT (L x) i = true) : nB (L x) (i + 1) = nB (L x) i := by
  rw [nT, Bool.and_eq_true, decide_eq_true_eq] at h
  exact nB_step h0 ((sl0 h0).mpr h.1) h.2
theorem nT_lt (h0 : 0 ≤ i) (h : nT (L x) i = true) : i + 1 < x.length := by
  rw [nT, Bool.and_eq_true, decide_eq_true_eq] at h
  exact dA_lt1 h.2 h0
theorem nT_stop (h0 : 0 ≤ i) (h : nT (L x) i = false) : nB (L x) i = i := by
  unfold nB
  cases hc : (L x)[i.toNat]? with
  | none => rw [List.drop_of_length_le (List.getElem?_eq_none_iff.mp hc)]; simp [nZ]
  | some c =>
    rw [drop_some hc, nZ_cons, ← tn_succ h0, dA_drop (by lia)]
    rw [nT, hc] at h
    have : ¬ (c = 48 ∧ dA (L x) (i + 1) = true) := by
      rintro ⟨rfl, h2⟩
      rw [h2] at h
      simp at h
    simp [this]
end
/-- blanks are left out unless the look is right behind a run -/
noncomputable def sB (raw : Bool) (l : List Nat) (i : Int) : Int := if raw then i else bB l i
noncomputable def sT (raw : Bool) (l : List Nat) (i : Int) : Bool := !raw && bA l i
section
variable {x : Str} {i : Int} {raw : Bool}
theorem sB_step (h0 : 0 ≤ i) (h : sT raw (L x) i = true) : sB raw (L x) (i + 1) = sB raw (L x) i := by
  rw [sT, Bool.and_eq_true, Bool.not_eq_true'] at h
  rw [sB, sB, h.1]
  exact bB_step h0 h.2
theorem sB_stop (h : sT raw (L x) i = false) : sB raw (L x) i = i := by
  rw [sB]
  cases raw with
  | true => rfl
  | false => exact bB_stop (by simpa [sT] using h)
theorem sT_lt (h0 : 0 ≤ i) (h : sT raw (L x) i = true) : i < x.length := by
  rw [sT, Bool.and_eq_true] at h
  exact bA_lt h0 h.2
end
theorem dig_up {c : Nat} : dig (up c) = dig c := by
  unfold up
  split
  · rw [Bool.eq_iff_iff]; simp [dig]; lia
  · rfl
theorem up_dig {c : Nat} (h : dig c = true) : up c = c := by
  have := dig_b h
  rw [up, if_neg (by lia)]
theorem blk_up {c : Nat} : blk (up c) = blk c := by
  unfold up
  split
  · rw [Bool.eq_iff_iff]; simp [blk]; lia
  · rfl
/-- the text as it is read -/
noncomputable def rd (nc : Bool) (l : List Nat) : List Nat := if nc then l.map up else l
theorem rd_len {nc : Bool} {l : List Nat} : (rd nc l).length = l.length := by cases nc <;> simp [rd]
theorem tw_up {p : Nat → Bool} (hp : ∀ c, p (up c) = p c) : ∀ l : List Nat, ((l.map up).takeWhile p).length = (l.takeWhile p).length
  | [] => rfl
  | a :: l => by
    rw [List.map_cons, List.takeWhile_cons, List.takeWhile_cons, hp]
    split
    · rw [List.length_cons, List.length_cons, tw_up hp l]
    · rfl
theorem twd_up : ∀ l : List Nat, (l.map up).takeWhile dig = l.takeWhile dig
  | [] => rfl
  | a :: l => by
    rw [List.map_cons, List.takeWhile_cons, List.takeWhile_cons, dig_up]
    cases h : dig a with
    | true => simp only [if_true]; rw [up_dig h, twd_up l]
    | false => simp
theorem bB_rd {nc : Bool} {l : List Nat} {i : Int} : bB (rd nc l) i = bB l i := by
  cases nc with
  | false => rfl
  | true => unfold bB rd; simp only [if_true]; rw [← List.map_drop, tw_up fun _ => blk_up]
theorem dB_rd {nc : Bool} {l : List Nat} {i : Int} : dB (rd nc l) i = dB l i := by
  cases nc with
  | false => rfl
  | true => unfold dB rd; simp only [if_true]; rw [← List.map_drop, tw_up fun _ => dig_up]
theorem dA_rd {nc : Bool} {l : List Nat} {i : Int} : dA (rd nc l) i = dA l i := by
  cases nc with
  | false => rfl
  | true =>
    unfold dA rd
    simp only [if_true, List.getElem?_map]
    cases l[i.toNat]? with
    | none => rfl
    | some c => exact dig_up
theorem sB_rd {nc raw : Bool} {l : List Nat} {i : Int} : sB raw (rd nc l) i = sB raw l i := by
  unfold sB
  rw [bB_rd]
theorem sB_ge {raw : Bool} {l : List Nat} {i : Int} : i ≤ sB raw l i := by
  unfold sB
  split
  · exact Int.le_refl _
  · exact bB_ge
theorem skip_sB {raw : Bool} {l : List Nat} {i : Int} (h0 : 0 ≤ i) : skip raw (l.drop i.toNat) = l.drop (sB raw l i).toNat := by
  cases raw with
  | true => rfl
  | false => exact skip_at h0
/-- the ways through a turn of _law_row -/
theorem lr_run {nc raw : Bool} {l : List Nat} {i : Int} (h0 : 0 ≤ i) (h : dA l (sB raw l i) = true) :
    row raw ((rd nc l).drop i.toNat) = run ((l.drop (sB raw l i).toNat).takeWhile dig) :: row true ((rd nc l).drop (dB l (sB raw l i)).toNat) := by
  have h1 : dA (rd nc l) (sB raw (rd nc l) i) = true := by rw [sB_rd, dA_rd]; exact h
  obtain ⟨c, hd, hc, _⟩ := dA_cons h1
  have hs := skip_sB (raw := raw) (l := rd nc l) h0
  have hn : 0 ≤ sB raw (rd nc l) i := Int.le_trans h0 sB_ge
  rw [row_dig (hs.trans hc) hd, ← hc, drop_dB hn, sB_rd, dB_rd]
  congr 2
  cases nc with
  | false => rfl
  | true => unfold rd; simp only [if_true]; rw [← List.map_drop, twd_up]
theorem lr_sign {nc raw : Bool} {l : List Nat} {i : Int} (h0 : 0 ≤ i) (hl : i < l.length) (h : dA l (sB raw l i) = false) :
    row raw ((rd nc l).drop i.toNat) = (oN (rd nc l) (sB raw l i), 0, []) :: row false ((rd nc l).drop (sB raw l i + 1).toNat) := by
  have hn : 0 ≤ sB raw (rd nc l) i := Int.le_trans h0 sB_ge
  have h1 : dA (rd nc l) (sB raw (rd nc l) i) = false := by rw [sB_rd, dA_rd]; exact h
  have hk : (rd nc l).drop i.toNat ≠ [] := by
    intro e
    have := List.drop_eq_nil_iff.mp e
    rw [rd_len] at this
    lia
  have q := x2 hn hk (skip_sB h0) h1
  rw [sB_rd] at q
  exact q
theorem name_addr {h₀ h : Heap} {Lo a : Addr} {o : Obj} {l : List (Addr × Obj)} (_N : News h₀ Lo h ((a, o) :: l)) : ∃ R, R = a := ⟨a, rfl⟩
theorem nZ_le : ∀ l : List Nat, nZ l ≤ l.length
  | [] => by simp [nZ]
  | a :: l => by
    rw [nZ_cons, List.length_cons]
    have := nZ_le l
    split <;> lia
theorem nB_le {x : Str} : nB (L x) 0 ≤ x.length := by
  have h : (L x).length = x.length := rfl
  have := nZ_le (L x)
  unfold nB
  simp only [Int.toNat_zero, List.drop_zero, Int.zero_add]
  lia
section
variable {x : Str} {i : Int} {raw : Bool}
theorem sT1 (h : raw = true) : false = sT raw (L x) i := by subst h; rfl
theorem sT2 (h : ¬ i < x.length) : false = sT raw (L x) i := by
  rw [sT, bA_no h, Bool.and_false]
theorem sT3 {b : Bool} (hr : raw = false) (h0 : 0 ≤ i) (h1 : i < x.length) (h2 : (Builtin.Str.occurrences (PySem.Str.ofString " \t\n\x0d\x0b\x0c") (Txt.item x i) 0 (PySem.Str.ofString " \t\n\x0d\x0b\x0c").length 1).isEmpty = b) : (!b) = sT raw (L x) i := by
  subst hr
  rw [sT, blk_in h0 h1 h2]; rfl
theorem dT2 (h : ¬ i < x.length) : false = dA (L x) i := by
  unfold dA
  rw [nlen h]
end
theorem step_le {a n : Int} (h : a < n) : a + 1 ≤ n := h
theorem elD_mk {news : List (Addr × Obj)} {a : Addr} {n : Nat} {i k : Int} {z : Str} {t u w : Tok} {e : El} (hm : (a, ({ cls := .type "tuple", data := .seq #[Value.int i t, Value.int k u, Value.str z w] n } : Obj)) ∈ news)
    (h1 : i = e.1) (h2 : k = e.2.1) (h3 : L z = e.2.2) : DatIn news (.ref a) (elD e) := by
  subst h1 h2
  have : z = ⟨e.2.2.toArray⟩ := by rw [← h3]
  subst this
  exact .tuple (vs := [_, _, _]) hm (.cons (.int _ _) (.cons (.int _ _) (.cons (.str _ _) .nil)))
theorem rows_snoc {tl : List (Addr × Obj)} {q : Addr × Obj} {vs : List Value} {es : List El} {v : Value} {e : El} (h : DatAll tl vs (es.map elD)) (hv : DatIn (q :: tl) v (elD e)) : DatAll (q :: tl) (vs ++ [v]) ((es ++ [e]).map elD) := by
  rw [List.map_append]
  exact (h.mono fun p hp => .tail _ hp).append (DatAll.one hv)
theorem row_perm {a b : Addr × Obj} {l k : List (Addr × Obj)} : ∀ p ∈ b :: ((a :: l) ++ k), p ∈ a :: b :: (l ++ k) := by
  intro p hp
  rcases List.mem_cons.mp hp with rfl | hp
  · exact .tail _ (.head _)
  · rcases List.mem_cons.mp hp with rfl | hp
    · exact .head _
    · exact .tail _ (.tail _ hp)
theorem rows_next {es : List El} {e : El} {r r' R : List El} (h : es ++ r = R) (hr : r = e :: r') : (es ++ [e]) ++ r' = R := by
  rw [← h, hr, List.append_assoc]; rfl
section
variable {x : Str} {i1 j b : Int} {raw nc : Bool}
theorem lr_b (hj : j = sB raw (L x) i1) (hdb : dB (L x) b = dB (L x) j) (hb : dA (L x) b = false) : b = dB (L x) j := by rw [← hdb, dB_stop hb]
theorem lr_dig (h : j < b) (hb : b = dB (L x) j) : dA (L x) j = true := by
  cases hd : dA (L x) j with
  | true => rfl
  | false => rw [dB_stop hd] at hb; lia
theorem item_z (hj : 0 ≤ j) (hl : j < x.length) {v : Bool} (h : (Txt.item x j == PySem.Str.ofString "0") = v) : decide ((L x)[j.toNat]? = some 48) = v := by
  obtain ⟨c, hc, hi⟩ := item_at hj hl
  have z : PySem.Str.ofString "0" = ⟨#[48]⟩ := by decide +kernel
  rw [hi, z] at h
  rw [hc, ← h, Bool.eq_iff_iff]
  simp
theorem lr_run' (h0 : 0 ≤ i1) (hj : j = sB raw (L x) i1) (hb : b = dB (L x) j) (hjb : j < b) :
    row raw ((rd nc (L x)).drop i1.toNat) = run (L (Txt.slice x (some j) (some b))) :: row true ((rd nc (L x)).drop b.toNat) := by
  have hd := lr_dig hjb hb
  have hjn : 0 ≤ j := by rw [hj]; exact Int.le_trans h0 sB_ge
  subst hb
  rw [sl_run hjn]
  subst hj
  exact lr_run h0 hd
theorem head_sl (hj : 0 ≤ j) (hjb : j < b) : (L (Txt.slice x (some j) (some b))).head? = (L x)[j.toNat]? := by
  rw [slice_L hj (by lia), List.head?_take]
  rw [if_neg (by lia)]
  simp
theorem sl_len (hj : 0 ≤ j) (hjb : j ≤ b) (hbl : b ≤ x.length) : ((L (Txt.slice x (some j) (some b))).length : Int) = b - j := by
  have hl : (L x).length = x.length := rfl
  rw [slice_L hj hjb, List.length_take, List.length_drop, hl]
  omega
theorem lr_1 (h0 : 0 ≤ i1) (hj : j = sB raw (L x) i1) (hb : b = dB (L x) j) (hjb : j < b) (hbl : b ≤ x.length) (h : (Txt.item x j == PySem.Str.ofString "0") = true) :
    row raw ((rd nc (L x)).drop i1.toNat) = (48, 0, L (Txt.slice x (some j) (some b))) :: row true ((rd nc (L x)).drop b.toNat) := by
  have hjn : 0 ≤ j := by rw [hj]; exact Int.le_trans h0 sB_ge
  have hz := of_decide_eq_true (item_z hjn (by lia) h)
  rw [lr_run' h0 hj hb hjb, run, if_pos ((head_sl hjn hjb).trans hz)]
theorem lr_2 (h0 : 0 ≤ i1) (hj : j = sB raw (L x) i1) (hb : b = dB (L x) j) (hjb : j < b) (hbl : b ≤ x.length) (h : (Txt.item x j == PySem.Str.ofString "0") = false) :
    row raw ((rd nc (L x)).drop i1.toNat) = (49, (L (Txt.slice x (some j) (some b))).length, L (Txt.slice x (some j) (some b))) :: row true ((rd nc (L x)).drop b.toNat) := by
  have hjn : 0 ≤ j := by rw [hj]; exact Int.le_trans h0 sB_ge
  have hz := of_decide_eq_false (item_z hjn (by lia) h)
  rw [lr_run' h0 hj hb hjb, run, if_neg (fun e => hz ((head_sl hjn hjb).symm.trans e))]
theorem lr_3 (h0 : 0 ≤ i1) (hl : i1 < x.length) (hj : j = sB raw (L x) i1) (hb : b = dB (L x) j) (hjb : ¬ j < b) :
    row raw ((rd nc (L x)).drop i1.toNat) = (oN (rd nc (L x)) j, 0, []) :: row false ((rd nc (L x)).drop (j + 1).toNat) := by
  have hd : dA (L x) j = false := by
    cases hd : dA (L x) j with
    | false => rfl
    | true =>
      exfalso
      have hjn : 0 ≤ j := by rw [hj]; exact Int.le_trans h0 sB_ge
      have h1 := dB_step hjn hd
      have h2 := dB_ge (l := L x) (i := j + 1)
      lia
  subst hj
  exact lr_sign h0 hl hd
theorem lr_4 (h0 : 0 ≤ i1) (hl : i1 < x.length) (hj : j = sB raw (L x) i1) (hb : b = dB (L x) j) (hjb : ¬ j < b) (he : j = x.length) {k : Int} (hk : (x.length : Int) ≤ k) :
    row raw ((rd nc (L x)).drop i1.toNat) = (0, 0, []) :: row false ((rd nc (L x)).drop k.toNat) := by
  have hl' : (rd nc (L x)).length = x.length := rd_len
  rw [lr_3 h0 hl hj hb hjb]
  have e1 : (rd nc (L x)).drop (j + 1).toNat = [] := List.drop_of_length_le (by lia)
  have e2 : (rd nc (L x)).drop k.toNat = [] := List.drop_of_length_le (by lia)
  have e3 : oN (rd nc (L x)) j = 0 := by
    unfold oN
    rw [List.getElem?_eq_none (by lia)]; rfl
  rw [e1, e2, e3]
theorem it_code (hj : 0 ≤ j) (hl : j < x.length) : ∃ c, (L x)[j.toNat]? = some c ∧ Txt.item x j = ⟨#[c]⟩ ∧ (Txt.item x j).cps.getD 0 0 = c := by
  obtain ⟨c, hc, hi⟩ := item_at hj hl
  exact ⟨c, hc, hi, by rw [hi]; rfl⟩
theorem oc_f (hj : 0 ≤ j) (hl : j < x.length) (hn : nc = false) : (((Txt.item x j).cps.getD 0 0 : Nat) : Int) = oN (rd nc (L x)) j := by
  obtain ⟨c, hc, hi, he⟩ := it_code hj hl
  subst hn
  rw [he]
  unfold oN rd
  simp [hc]
theorem oc_t (hj : 0 ≤ j) (hl : j < x.length) (hn : nc = true) (h : up ((Txt.item x j).cps.getD 0 0) = (Txt.item x j).cps.getD 0 0) : (((Txt.item x j).cps.getD 0 0 : Nat) : Int) = oN (rd nc (L x)) j := by
  obtain ⟨c, hc, hi, he⟩ := it_code hj hl
  subst hn
  rw [he] at h ⊢
  unfold oN rd
  simp [hc, h]
theorem oc_lo (hj : 0 ≤ j) (hl : j < x.length) (hn : nc = true) (h : (Txt.item x j).cps.toList < (PySem.Str.ofString "a").cps.toList) : (((Txt.item x j).cps.getD 0 0 : Nat) : Int) = oN (rd nc (L x)) j := by
  obtain ⟨c, hc, hi, he⟩ := it_code hj hl
  refine oc_t hj hl hn ?_
  rw [hi] at h
  rw [he]
  exact (up_lo h).symm
theorem oc_hi (hj : 0 ≤ j) (hl : j < x.length) (hn : nc = true) (h : (PySem.Str.ofString "z").cps.toList < (Txt.item x j).cps.toList) : (((Txt.item x j).cps.getD 0 0 : Nat) : Int) = oN (rd nc (L x)) j := by
  obtain ⟨c, hc, hi, he⟩ := it_code hj hl
  refine oc_t hj hl hn ?_
  rw [hi] at h
  rw [he]
  exact (up_hi h).symm
theorem oc_md (hj : 0 ≤ j) (hl : j < x.length) (hn : nc = true) (h : ¬ (Txt.item x j).cps.toList < (PySem.Str.ofString "a").cps.toList) (h2 : ¬ (PySem.Str.ofString "z").cps.toList < (Txt.item x j).cps.toList) : (((Txt.item x j).cps.getD 0 0 : Nat) : Int) - 32 = oN (rd nc (L x)) j := by
  obtain ⟨c, hc, hi, he⟩ := it_code hj hl
  rw [hi] at h h2
  have h3 := ge_a h
  have h4 := up_md h h2
  subst hn
  rw [he]
  unfold oN rd
  simp [hc]
  omega
end
theorem emptyL : L (PySem.Str.ofString "") = [] := by decide +kernel
theorem up48 {c : Nat} : up c = 48 ↔ c = 48 := by
  unfold up
  split <;> lia
theorem nZ_up : ∀ l : List Nat, nZ (l.map up) = nZ l
  | [] => rfl
  | a :: l => by
    have h : dA (l.map up) 0 = dA l 0 := dA_rd (nc := true)
    rw [List.map_cons, nZ_cons, nZ_cons, nZ_up l, h]
    simp only [up48]
theorem row_out {nc raw : Bool} {x : Str} {i : Int} {es : List El} (h : es ++ row raw ((rd nc (L x)).drop i.toNat) = row false ((rd nc (L x)).drop (nB (L x) 0).toNat)) (hi : ¬ i < x.length) : es = Row nc (L x) := by
  have e1 : (rd nc (L x)).drop i.toNat = [] := List.drop_of_length_le (by rw [rd_len]; show x.length ≤ _; lia)
  rw [e1, row_nil, List.append_nil, nB_nat] at h
  rw [h, Row, strip]
  cases nc with
  | false => rfl
  | true => show _ = row false (((L x).map up).drop (nZ ((L x).map up))); rw [nZ_up]; rfl
/-- a row handed back, with what it is made of -/
noncomputable def RowOut (news : List (Addr × Obj)) (es : List El) (r : Value) (nw : List (Addr × Obj)) : Prop :=
  ∃ R vs n tl, r = .ref R ∧ nw = (R, listOf vs.toArray n) :: (tl ++ news) ∧ DatAll tl vs (es.map elD) ∧ (∀ p ∈ news, p.1 < R) ∧ ∀ p ∈ tl, R < p.1
theorem lt_of_all {R d : Addr} {l : List (Addr × Obj)} (h : @LT.lt Nat _ R d ∧ AllLt d l) : R < d := h.1
end Mine
end
section
open PySem PySem.W PyProof.Rows
namespace Mine
theorem offD6 {w : World} {A : Around} {Q : Flow → Shared → Prop} {E : Value → Shared → Prop} {s : Shared} {env : Env} (h : Q .next s) : wpAny (model prog w) A (execs [] env) Q E s := by
  k_with_none
  w_top off
  walk1
  exact h
theorem fill6 : (PySem.Challenge.rw_pc0252_01, hd.heap_39) = (PySem.Challenge.rw_pc0252_01, hd.heap_39) := by
  k_fill
  rfl
theorem wordD6_1 : True := by
  k_with "MyRoom" => first
        | (refine' roomL ?h1Y46 ?h2Y46; (case h1Y46 => assumption); (case h2Y46 => exact rfl))
        | (refine' roomA ?h1Y46; (case h1Y46 => assumption))
        | exact Nat.le_of_ble_eq_true rfl
  k_with "MyUnits" => first
        | (refine' unitL ?h1Y47 ?h2Y47; (case h1Y47 => assumption); (case h2Y47 => exact rfl))
        | exact Nat.le_of_ble_eq_true rfl
  k_with "MyLo" => first | assumption | exact Int.le_refl _ | exact Int.le_add_one (by assumption)
  k_with "MyHi" => first | assumption | exact lt_ne (by assumption) (by assumption) | exact Int.natCast_pos.mpr (by assumption) | exact Int.lt_of_lt_of_le (by assumption) (by assumption)
  k_with "call builtin:len" => (
        k_here; (with_reducible show wpAny _ _ (call (Value.builtin "len") [Value.str _ _]) _ _ _);
        k_dflt (refine' len_S ?h1Y50 ?_; (case h1Y50 => assumption)))
  k_with "subscriptTail Name Name str int" => (
        k_here; k_dflt (refine' item_S ?h1Y51 ?h2Y51 ?h3Y51 ?_ ?h4Y51 ?h5Y51; (case h1Y51 => walk_at "MyLo"); (case h2Y51 => walk_at "MyHi"); (case h3Y51 => assumption); (case h4Y51 => with_unfolding_all rfl); (case h5Y51 => intro _; with_unfolding_all rfl)); intro _)
  k_with "subscriptTail Name Constant str int" => (
        k_here; k_dflt (refine' item_S ?h1Y52 ?h2Y52 ?h3Y52 ?_ ?h4Y52 ?h5Y52; (case h1Y52 => walk_at "MyLo"); (case h2Y52 => walk_at "MyHi"); (case h3Y52 => assumption); (case h4Y52 => with_unfolding_all rfl); (case h5Y52 => intro _; with_unfolding_all rfl)); intro _)
  k_with "call builtin:ord" => (
        k_here; k_dflt (refine' ord_S ?h1Y53 ?_; (case h1Y53 => assumption)))
  k_with "MyOff" => first
        | exact List.forall_mem_nil _
        | exact off_lt (by assumption)
        | exact off_own (by assumption) (by first | exact List.Mem.head _ | simp)
        | (refine off_app ?_ ?_ <;> walk_at "MyOff")
        | (refine List.forall_mem_cons.mpr ⟨?_, ?_⟩; (focus k_ne); walk_at "MyOff")
  k_with "MyUpd" => first
        | k_upd
        | (refine' Upd.head ?aY55; (case aY55 => walk_at "MyOff"))
        | (refine' Upd.tail ?aY55 ?bY55; (case aY55 => k_ne); (case bY55 => walk_at "MyUpd"))
  k_with "MySize" => first
        | size_fits
        | ((simp only [List.size_toArray, List.length_append, List.length_cons, List.length_nil, PySem.sizeLine_eq]); omega)
  k_with "call builtin:list.append" => (
        k_here; (with_reducible show wpAny _ _ (call (Value.builtin "list.append") [Value.ref _, _]) _ _ _);
        k_dflt (refine' append_K ?k1Y57 ?k2Y57 ?k3Y57 ?_ ?zY57; (case k1Y57 => k_asm); (case k2Y57 => k_asm); (case k3Y57 => walk_at "MyUpd"); (case zY57 => walk_at "MySize"); k_whole);
        intro h'Z F'Z N'Z; (try k_sweep))
  k_with "exec For Name Name cons nil" => (k_here; refine hold ?_)
  k_with "call builtin:chr" => (k_here; (with_reducible show wpAny _ _ (call (Value.builtin "chr") [Value.int _ _]) _ _ _); refine chr_of_range (chr_lo (by assumption)) (chr_hi (by assumption)) ?_)
  k_with "call builtin:str.join" => (
          k_here; (with_reducible show wpAny _ _ (call (Value.builtin "str.join") [Value.str _ _, Value.ref _]) _ _ _);
          k_dflt (refine' join_listC ?k1Y60 ?k2Y60 ?k3Y60 ?k4Y60 ?_; (case k1Y60 => is_list); (case k2Y60 => assumption); (case k3Y60 => decide); (case k4Y60 => exact rc_ok (by assumption))); intro _ _)
  trivial
theorem raised_case_ok (w : World) (news : Led) (x : Str) (tx : Tok) (hl : x.length ≤ 2000) :
   DoesS w 4 70 news [.str x tx] (Up x) := by
  unfold DoesS Does
  intro mean mg mb dp un gd cn cs a ccd cl outer A₀ base h₀ L m s Q E B F X N T hk hdp hu hret
  refine wpAny_call ?_
  k_dflt cell_enter
  rename Fr _ _ _ _ => F₀
  refine fr_in1 (Str.ofString "text") F₀ rfl ?_
  clear F₀
  intro u F₀
  k_steps
  refine unhold ?_
  rename News _ _ _ (_ :: news) => N9
  rename Fr _ _ _ _ => F9
  refine For_invVF F9 (by exact rfl) (by exact rfl) ?_
  walk1
  refine KStt.kst_text (fun (c : List Value × Nat) => (_, listOf c.1.toArray c.2) :: news) (fun _ => []) (fun _ => True) [] (fun pre c => StrsAre c.1 (pre.map fun k => (⟨#[up (Int.toNat k)]⟩ : PySem.Str))) ([], 0) rfl F9 N9 trivial (by intro p hp; cases hp) .nil ?_ ?_
  · intro c pre post n t u h tk own hE hoff _ hS F N
    obtain ⟨vs, nn⟩ := c
    clear F9 N9
    have hsz : vs.length ≤ 2000 := by
      have h1 := strs_len hS
      have h2 := congrArg List.length hE
      rw [KStt.codes_length] at h2
      simp only [List.length_append, List.length_cons, List.length_map] at h1 h2
      omega
    dsimp only [kstB] at F N hS
    (try dsimp only)
    (try k_fold)
    k_steps
    all_goals (rename News _ _ _ _ => nE'; (try simp only [List.push_toArray] at nE'); (refine kst_end (vs ++ [_], _) (by assumption) nE' (by kcj_all) (by kcj_all) rfl trivial (by intro p hp; cases hp) (by kst_same) ?_))
    · exact rc_step hS (up_lo (by assumption))
    · exact rc_step hS (up_hi (by assumption))
    · exact rc_step hS (up_md (by assumption) (by assumption))
  · intro c u h tk _ hS F N
    obtain ⟨vs, nn⟩ := c
    clear F9 N9
    dsimp only [kstB] at F N hS
    k_steps
    rw [rc_join]
    exact endS hret (by k_asm) (by k_asm) (by kcj_all) rfl
end Mine
end
section
open PySem PySem.W PyProof.Rows
namespace Mine
theorem offD7 {w : World} {A : Around} {Q : Flow → Shared → Prop} {E : Value → Shared → Prop} {s : Shared} {env : Env} (h : Q .next s) : wpAny (model prog w) A (execs [] env) Q E s := by
  k_with_none
  w_top off
  walk1
  exact h
theorem wordD7_1 : True := by
  k_with "MyRoom" => first
        | (refine' roomL ?h1Y61 ?h2Y61; (case h1Y61 => assumption); (case h2Y61 => exact rfl))
        | (refine' roomA ?h1Y61; (case h1Y61 => assumption))
        | exact Nat.le_of_ble_eq_true rfl
  k_with "MyUnits" => first
        | (refine' unitL ?h1Y62 ?h2Y62; (case h1Y62 => assumption); (case h2Y62 => exact rfl))
        | exact Nat.le_of_ble_eq_true rfl
  k_with "MyLo" => first | assumption | exact Int.le_refl _ | exact Int.le_add_one (by assumption)
  k_with "MyHi" => first | assumption | exact lt_ne (by assumption) (by assumption) | exact Int.natCast_pos.mpr (by assumption) | exact Int.lt_of_lt_of_le (by assumption) (by assumption)
  k_with "call builtin:len" => (
        k_here; (with_reducible show wpAny _ _ (call (Value.builtin "len") [Value.str _ _]) _ _ _);
        k_dflt (refine' len_S ?h1Y65 ?_; (case h1Y65 => assumption)))
  k_with "subscriptTail Name Name str int" => (
        k_here; k_dflt (refine' item_S ?h1Y66 ?h2Y66 ?h3Y66 ?_ ?h4Y66 ?h5Y66; (case h1Y66 => walk_at "MyLo"); (case h2Y66 => walk_at "MyHi"); (case h3Y66 => assumption); (case h4Y66 => with_unfolding_all rfl); (case h5Y66 => intro _; with_unfolding_all rfl)); intro _)
  k_with "subscriptTail Name Constant str int" => (
        k_here; k_dflt (refine' item_S ?h1Y67 ?h2Y67 ?h3Y67 ?_ ?h4Y67 ?h5Y67; (case h1Y67 => walk_at "MyLo"); (case h2Y67 => walk_at "MyHi"); (case h3Y67 => assumption); (case h4Y67 => with_unfolding_all rfl); (case h5Y67 => intro _; with_unfolding_all rfl)); intro _)
  k_with "call builtin:ord" => (
        k_here; k_dflt (refine' ord_S ?h1Y68 ?_; (case h1Y68 => assumption)))
  trivial
theorem ne_step {z x : PySem.Str} {a r v : Option Value} {i : Decidable (z = x)} (h : z ≠ x) (hr : r = v) : (@ite _ (z = x) i a r) = v := by rw [if_neg h]; exact hr
theorem cont_step {st : List PySem.Str} {z : PySem.Str} {a r v : Option Value} (h : st.contains z = false) (hr : r = v) : (if st.contains z = true then a else r) = v := by rw [h]; exact hr
theorem ne_st {st : List PySem.Str} {z x : PySem.Str} (h : st.contains z = false) (hx : st.contains x = true) : z ≠ x := by rintro rfl; rw [h] at hx; cases hx
theorem fr_open {h₀ h : Heap} {Lo : Addr} {m : PySem.Str → Option Value} (F : Fr h₀ Lo h m) (ps : List (PySem.Str × Value)) (h1 : ∀ p ∈ ps, m p.1 = some p.2) : ∃ u, Fr h₀ Lo h (kstB u ps) :=
  ⟨m, by
    have e : kstB m ps = m := funext fun z => kstB_eq h1 fun _ => rfl
    rw [e]; exact F⟩
theorem clean1 {h₀ h : Heap} {Lo : Addr} {u : PySem.Str → Option Value} {n0 : PySem.Str} {v0 : Value} (F : Fr h₀ Lo h (fun z => if z = n0 then some v0 else u z)) : Fr h₀ Lo h (fun z => if z = n0 then some v0 else u z) := F
theorem kclean1 {h₀ h : Heap} {Lo : Addr} {u : PySem.Str → Option Value} {n0 : PySem.Str} {v0 : Value} (F : Fr h₀ Lo h (kstB u [(n0, v0)])) : Fr h₀ Lo h (fun z => if z = n0 then some v0 else u z) := F
theorem clean2 {h₀ h : Heap} {Lo : Addr} {u : PySem.Str → Option Value} {n0 n1 : PySem.Str} {v0 v1 : Value} (F : Fr h₀ Lo h (fun z => if z = n0 then some v0 else if z = n1 then some v1 else u z)) : Fr h₀ Lo h (fun z => if z = n0 then some v0 else if z = n1 then some v1 else u z) := F
theorem kclean2 {h₀ h : Heap} {Lo : Addr} {u : PySem.Str → Option Value} {n0 n1 : PySem.Str} {v0 v1 : Value} (F : Fr h₀ Lo h (kstB u [(n0, v0), (n1, v1)])) : Fr h₀ Lo h (fun z => if z = n0 then some v0 else if z = n1 then some v1 else u z) := F
theorem clean3 {h₀ h : Heap} {Lo : Addr} {u : PySem.Str → Option Value} {n0 n1 n2 : PySem.Str} {v0 v1 v2 : Value} (F : Fr h₀ Lo h (fun z => if z = n0 then some v0 else if z = n1 then some v1 else if z = n2 then some v2 else u z)) : Fr h₀ Lo h (fun z => if z = n0 then some v0 else if z = n1 then some v1 else if z = n2 then some v2 else u z) := F
theorem kclean3 {h₀ h : Heap} {Lo : Addr} {u : PySem.Str → Option Value} {n0 n1 n2 : PySem.Str} {v0 v1 v2 : Value} (F : Fr h₀ Lo h (kstB u [(n0, v0), (n1, v1), (n2, v2)])) : Fr h₀ Lo h (fun z => if z = n0 then some v0 else if z = n1 then some v1 else if z = n2 then some v2 else u z) := F
theorem clean4 {h₀ h : Heap} {Lo : Addr} {u : PySem.Str → Option Value} {n0 n1 n2 n3 : PySem.Str} {v0 v1 v2 v3 : Value} (F : Fr h₀ Lo h (fun z => if z = n0 then some v0 else if z = n1 then some v1 else if z = n2 then some v2 else if z = n3 then some v3 else u z)) : Fr h₀ Lo h (fun z => if z = n0 then some v0 else if z = n1 then some v1 else if z = n2 then some v2 else if z = n3 then some v3 else u z) := F
theorem kclean4 {h₀ h : Heap} {Lo : Addr} {u : PySem.Str → Option Value} {n0 n1 n2 n3 : PySem.Str} {v0 v1 v2 v3 : Value} (F : Fr h₀ Lo h (kstB u [(n0, v0), (n1, v1), (n2, v2), (n3, v3)])) : Fr h₀ Lo h (fun z => if z = n0 then some v0 else if z = n1 then some v1 else if z = n2 then some v2 else if z = n3 then some v3 else u z) := F
theorem clean5 {h₀ h : Heap} {Lo : Addr} {u : PySem.Str → Option Value} {n0 n1 n2 n3 n4 : PySem.Str} {v0 v1 v2 v3 v4 : Value} (F : Fr h₀ Lo h (fun z => if z = n0 then some v0 else if z = n1 then some v1 else if z = n2 then some v2 else if z = n3 then some v3 else if z = n4 then some v4 else u z)) : Fr h₀ Lo h (fun z => if z = n0 then some v0 else if z = n1 then some v1 else if z = n2 then some v2 else if z = n3 then some v3 else if z = n4 then some v4 else u z) := F
theorem kclean5 {h₀ h : Heap} {Lo : Addr} {u : PySem.Str → Option Value} {n0 n1 n2 n3 n4 : PySem.Str} {v0 v1 v2 v3 v4 : Value} (F : Fr h₀ Lo h (kstB u [(n0, v0), (n1, v1), (n2, v2), (n3, v3), (n4, v4)])) : Fr h₀ Lo h (fun z => if z = n0 then some v0 else if z = n1 then some v1 else if z = n2 then some v2 else if z = n3 then some v3 else if z = n4 then some v4 else u z) := F
theorem clean6 {h₀ h : Heap} {Lo : Addr} {u : PySem.Str → Option Value} {n0 n1 n2 n3 n4 n5 : PySem.Str} {v0 v1 v2 v3 v4 v5 : Value} (F : Fr h₀ Lo h (fun z => if z = n0 then some v0 else if z = n1 then some v1 else if z = n2 then some v2 else if z = n3 then some v3 else if z = n4 then some v4 else if z = n5 then some v5 else u z)) : Fr h₀ Lo h (fun z => if z = n0 then some v0 else if z = n1 then some v1 else if z = n2 then some v2 else if z = n3 then some v3 else if z = n4 then some v4 else if z = n5 then some v5 else u z) := F
theorem kclean6 {h₀ h : Heap} {Lo : Addr} {u : PySem.Str → Option Value} {n0 n1 n2 n3 n4 n5 : PySem.Str} {v0 v1 v2 v3 v4 v5 : Value} (F : Fr h₀ Lo h (kstB u [(n0, v0), (n1, v1), (n2, v2), (n3, v3), (n4, v4), (n5, v5)])) : Fr h₀ Lo h (fun z => if z = n0 then some v0 else if z = n1 then some v1 else if z = n2 then some v2 else if z = n3 then some v3 else if z = n4 then some v4 else if z = n5 then some v5 else u z) := F
/-- the text as it is looked at -/
noncomputable def rdS (nc : Bool) (x : PySem.Str) : PySem.Str := match nc with
  | true => Up x
  | false => x
theorem rdS_len {nc : Bool} {x : PySem.Str} : (rdS nc x).length = x.length := by
  cases nc with
  | true => exact up_len
  | false => rfl
theorem nat_rd {nc : Bool} {x y : PySem.Str} : tg (L (rdS nc x)) (L (rdS nc y)) (nB (L (rdS nc x)) 0) (nB (L (rdS nc y)) 0) = natR nc (L x) (L y) := by
  cases nc with
  | true => exact nat_t
  | false => exact nat_f
theorem nt_start {nc : Bool} {x y : PySem.Str} (h : (x == PySem.Str.ofString "") = true ∨ (y == PySem.Str.ofString "") = true) : sgn x.length y.length = tg (L (rdS nc x)) (L (rdS nc y)) (nB (L (rdS nc x)) 0) (nB (L (rdS nc y)) 0) := by
  cases nc with
  | true => exact nt_nilU h
  | false => exact nt_nil h
theorem and_tt {a b : Bool} (h1 : a = true) (h2 : b = true) : true = (a && b) := by rw [h1, h2]; rfl
theorem and_f1 {a b : Bool} (h1 : a = false) : false = (a && b) := by rw [h1]; rfl
theorem and_f2 {a b : Bool} (h2 : b = false) : false = (a && b) := by rw [h2, Bool.and_false]
theorem and_t {a b : Bool} (h : (a && b) = true) : a = true ∧ b = true := by simpa using h
theorem and_n {a b : Bool} (h : (a && b) = false) : a = false ∨ b = false := by
  cases a with
  | false => exact .inl rfl
  | true => exact .inr h
theorem lt_t {i j : Int} {n m : Nat} (h : (decide (i < n) && decide (j < m)) = true) : i < n ∧ j < m := by simpa using h
theorem lt_n {i j : Int} {n m : Nat} (h : (decide (i < n) && decide (j < m)) = false) : ¬ i < n ∨ ¬ j < m := by
  rcases and_n h with h | h
  · exact .inl (of_decide_eq_false h)
  · exact .inr (of_decide_eq_false h)
theorem name2 {X Y : PySem.Str} {i j v : Int} (_h : tg (L X) (L Y) i j = v) : ∃ i' j', i' = i ∧ j' = j := ⟨_, _, rfl, rfl⟩
noncomputable def T3 (c f s : Int) (n m : Nat) : Bool := decide (c ≠ 0) || (decide (f = n) || decide (s = m))
theorem t3_1 {c f s : Int} {n m : Nat} (h : c ≠ 0) : true = T3 c f s n m := by unfold T3; rw [decide_eq_true h]; rfl
theorem t3_2 {c f s : Int} {n m : Nat} (h : f = n) : true = T3 c f s n m := by unfold T3; rw [decide_eq_true h]; simp
theorem t3_3 {c f s : Int} {n m : Nat} (h : s = m) : true = T3 c f s n m := by unfold T3; rw [decide_eq_true h]; simp
theorem t3_4 {c f s : Int} {n m : Nat} (h1 : c = 0) (h2 : f ≠ n) (h3 : s ≠ m) : false = T3 c f s n m := by unfold T3; simp [h1, h2, h3]
theorem t3_t {c f s : Int} {n m : Nat} (h : T3 c f s n m = true) (hc : c = 0) : f = n ∨ s = m := by unfold T3 at h; simpa [hc] using h
theorem t3_n {c f s : Int} {n m : Nat} (h : T3 c f s n m = false) : c = 0 ∧ f ≠ n ∧ s ≠ m := by unfold T3 at h; simpa using h
noncomputable def CasePost (h₀ : Heap) (Lo : Addr) (m₀ : PySem.Str → Option Value) (news : List (Addr × Obj)) (s : Shared) (X Y : PySem.Str) (s' : Shared) : Prop :=
  ∃ (ta tb : Tok) (u : PySem.Str → Option Value) (h : Heap) (tk : Nat), s' = { s with heap := h, toks := tk } ∧ Fr h₀ Lo h (kstB (fun z => if [PySem.Str.ofString "a", PySem.Str.ofString "b"].contains z then u z else m₀ z) [(PySem.Str.ofString "a", .str X ta), (PySem.Str.ofString "b", .str Y tb)]) ∧ News h₀ Lo h news
theorem caseJoin {M : Model} {A : Around} {t : Sem Flow} {E : Value → Shared → Prop} {s : Shared} {h₀ : Heap} {Lo : Addr} {m₀ : PySem.Str → Option Value} {news : List (Addr × Obj)} {Q : Flow → Shared → Prop} (X Y : PySem.Str) (_F : Fr h₀ Lo s.heap m₀) (_N : News h₀ Lo s.heap news)
    (h : wpAny M A t (fun f s' => f = .next ∧ CasePost h₀ Lo m₀ news s X Y s') E s) (k : ∀ ta tb (u : PySem.Str → Option Value) h tk, Fr h₀ Lo h (kstB (fun z => if [PySem.Str.ofString "a", PySem.Str.ofString "b"].contains z then u z else m₀ z) [(PySem.Str.ofString "a", .str X ta), (PySem.Str.ofString "b", .str Y tb)]) → News h₀ Lo h news → Q .next { s with heap := h, toks := tk }) : wpAny M A t Q E s :=
  wpAny_mono h (fun _ _ ⟨e, ta, tb, u, h, tk, e', F, N⟩ => by subst e e'; exact k ta tb u h tk F N) fun _ _ x => x
theorem caseDone {s : Shared} {h₀ h' : Heap} {Lo : Addr} {m₀ m' : PySem.Str → Option Value} {news nw : List (Addr × Obj)} {X Y : PySem.Str} {ta tb : Tok} {tk' : Nat} (F : Fr h₀ Lo h' m') (N : News h₀ Lo h' nw) (hs : ∀ p ∈ news, p ∈ nw)
    (h1 : ∀ p ∈ [(PySem.Str.ofString "a", Value.str X ta), (PySem.Str.ofString "b", Value.str Y tb)], m' p.1 = some p.2) (h2 : ∀ z, (∀ p ∈ [(PySem.Str.ofString "a", Value.str X ta), (PySem.Str.ofString "b", Value.str Y tb)], z ≠ p.1) → [PySem.Str.ofString "a", PySem.Str.ofString "b"].contains z = false → m' z = m₀ z) :
    Flow.next = Flow.next ∧ CasePost h₀ Lo m₀ news s X Y { s with heap := h', toks := tk' } :=
  ⟨rfl, ta, tb, m', h', tk', rfl, ksw_fr h1 h2 F, fun p hp => N p (hs p hp)⟩
theorem ne_sub {st st' : List PySem.Str} {z : PySem.Str} (h : st.contains z = false) (hs : (st'.all fun x => st.contains x) = true) : st'.contains z = false := by
  cases hc : st'.contains z with
  | false => rfl
  | true =>
    have := List.all_eq_true.mp hs z (by simpa using hc)
    rw [h] at this; cases this
theorem or_t1 {a b : Bool} (h : a = true) : true = (a || b) := by rw [h]; rfl
theorem or_t2 {a b : Bool} (h : b = true) : true = (a || b) := by rw [h, Bool.or_true]
theorem or_f {a b : Bool} (h1 : a = false) (h2 : b = false) : false = (a || b) := by rw [h1, h2]; rfl
/-- where the looks stand, once the runs are through -/
noncomputable def NatK (h₀ : Heap) (Lo : Addr) (m₀ : PySem.Str → Option Value) (news : List (Addr × Obj)) (s : Shared) (P : Int → Int → Prop) (Q Q' : Flow → Shared → Prop) : Prop :=
  (∀ (i j : Int) (ti tj : Tok) (u : PySem.Str → Option Value) (h : Heap) (tk : Nat), Fr h₀ Lo h (fun z => if z = PySem.Str.ofString "at" then some (.int i ti) else if z = PySem.Str.ofString "to" then some (.int j tj) else if [PySem.Str.ofString "first", PySem.Str.ofString "second", PySem.Str.ofString "found"].contains z then u z else m₀ z) →
    News h₀ Lo h news → P i j → Q' .next { s with heap := h, toks := tk }) ∧ ∀ v s', Q (.ret v) s' → Q' (.ret v) s'
theorem natMeet {M : Model} {A : Around} {t : Sem Flow} {E : Value → Shared → Prop} {s : Shared} {h₀ : Heap} {Lo : Addr} {m₀ : PySem.Str → Option Value} {news : List (Addr × Obj)} {Q : Flow → Shared → Prop} (P : Int → Int → Prop) (_F : Fr h₀ Lo s.heap m₀) (_N : News h₀ Lo s.heap news)
    (h : ∀ Q', NatK h₀ Lo m₀ news s P Q Q' → wpAny M A t Q' E s)
    (k : ∀ (i j : Int) (ti tj : Tok) (u : PySem.Str → Option Value) (h : Heap) (tk : Nat), Fr h₀ Lo h (fun z => if z = PySem.Str.ofString "at" then some (.int i ti) else if z = PySem.Str.ofString "to" then some (.int j tj) else if [PySem.Str.ofString "first", PySem.Str.ofString "second", PySem.Str.ofString "found"].contains z then u z else m₀ z) →
      News h₀ Lo h news → P i j → Q .next { s with heap := h, toks := tk }) : wpAny M A t Q E s := h Q ⟨k, fun _ _ h => h⟩
theorem natDone {s s' : Shared} {h₀ : Heap} {Lo : Addr} {m₀ m' : PySem.Str → Option Value} {news nw : List (Addr × Obj)} {P : Int → Int → Prop} {Q Q' : Flow → Shared → Prop} {i j : Int} {ti tj : Tok} (K : NatK h₀ Lo m₀ news s P Q Q') (F : Fr h₀ Lo s'.heap m') (N : News h₀ Lo s'.heap nw) (hs : ∀ p ∈ news, p ∈ nw)
    (h1 : m' (PySem.Str.ofString "at") = some (.int i ti)) (h2 : m' (PySem.Str.ofString "to") = some (.int j tj)) (h3 : ∀ z, (∀ p ∈ [(PySem.Str.ofString "at", Value.int i ti), (PySem.Str.ofString "to", Value.int j tj)], z ≠ p.1) → [PySem.Str.ofString "first", PySem.Str.ofString "second", PySem.Str.ofString "found"].contains z = false → m' z = m₀ z) (p : P i j)
    (es : { s with heap := s'.heap, toks := s'.toks } = s') : Q' .next s' :=
  es ▸ K.1 i j ti tj m' s'.heap s'.toks (ksw_fr (ps := [(_, _), (_, _)]) (List.forall_mem_cons.mpr ⟨h1, List.forall_mem_cons.mpr ⟨h2, fun _ h => nomatch h⟩⟩) h3 F) (fun p hp => N p (hs p hp)) p
theorem fill7 : (PySem.Challenge.rw_pc0252_01, hd.heap_39) = (PySem.Challenge.rw_pc0252_01, hd.heap_39) := by
  k_fill
  rfl
theorem wordD7_2 : True := by
  k_with "MyUse" => (
        (case k1 => k_asm); (case k2 => k_asm); (case k3 => k_asm); (case k4 => k_asm); (case k5 => k_asm); (case k6 => first | exact rfl | assumption); (case k7 => ktr_room); (case k8 => ktr_units); intros; (try k_sweep); (try dsimp only); (try k_fold))
  k_with "MyNum" => first | assumption | omega | exact bB_nn (by assumption) | exact dB_nn (bB_nn (by assumption)) | exact nB_nn | exact sl_pos (bB_nn (by assumption)) (by assumption) | exact Nat.le_trans (by assumption) (by assumption) | (rw [up_len]; assumption)
  k_with "eval Call" => (k_here; (with_reducible show wpAny _ _ (eval (PySem.Expr.Call (PySem.Expr.Name _ _) _ [] _) _) _ _ _); k_dflt (refine Call_ ?_))
  k_with "MySub" => first | with_reducible exact sub_refl | ((with_reducible refine sub_cons ?_); walk_at "MySub")
  k_with "call ref" => (
        k_here; (with_reducible show wpAny _ _ (call (.ref 21) _) _ _ _);
        k_dflt (refine' useB (is_digit_ok _ _ _ _ _ _ ?p1Y73 ?p2Y73) ?k1 ?k2 ?k3 ?k4 ?k5 ?k6 ?k7 ?k8 ?_; (case p1Y73 => walk_at "MyNum"); (case p2Y73 => walk_at "MyNum"); walk_at "MyUse"))
  k_with "call ref" => (
        k_here; (with_reducible show wpAny _ _ (call (.ref 28) _) _ _ _);
        k_dflt (refine' useI (digits_behind_ok _ _ _ _ _ _ ?p1Y74 ?p2Y74) ?k1 ?k2 ?k3 ?k4 ?k5 ?k6 ?k7 ?k8 ?_; (case p1Y74 => walk_at "MyNum"); (case p2Y74 => walk_at "MyNum"); walk_at "MyUse"))
  k_with "call ref" => (
        k_here; (with_reducible show wpAny _ _ (call (.ref 35) _) _ _ _);
        k_dflt (refine' useI (blanks_behind_ok _ _ _ _ _ _ ?p1Y75 ?p2Y75) ?k1 ?k2 ?k3 ?k4 ?k5 ?k6 ?k7 ?k8 ?_; (case p1Y75 => walk_at "MyNum"); (case p2Y75 => walk_at "MyNum"); walk_at "MyUse"))
  k_with "call ref" => (
        k_here; (with_reducible show wpAny _ _ (call (.ref 49) _) _ _ _);
        k_dflt (refine' useI (sign_of_ok _ _ _ _ _ _) ?k1 ?k2 ?k3 ?k4 ?k5 ?k6 ?k7 ?k8 ?_;  walk_at "MyUse"))
  k_with "call ref" => (
        k_here; (with_reducible show wpAny _ _ (call (.ref 56) _) _ _ _);
        k_dflt (refine' useI (noughts_behind_ok _ _ _ _ ?p1Y77) ?k1 ?k2 ?k3 ?k4 ?k5 ?k6 ?k7 ?k8 ?_; (case p1Y77 => walk_at "MyNum"); walk_at "MyUse"))
  k_with "call ref" => (
        k_here; (with_reducible show wpAny _ _ (call (.ref 63) _) _ _ _);
        k_dflt (refine' useI (compare_runs_ok _ _ _ _ _ _ ?p1Y78 ?p2Y78 ?p3Y78 ?p4Y78) ?k1 ?k2 ?k3 ?k4 ?k5 ?k6 ?k7 ?k8 ?_; (case p1Y78 => walk_at "MyNum"); (case p2Y78 => walk_at "MyNum"); (case p3Y78 => walk_at "MyNum"); (case p4Y78 => walk_at "MyNum"); walk_at "MyUse"))
  k_with "call ref" => (
        k_here; (with_reducible show wpAny _ _ (call (.ref 70) _) _ _ _);
        k_dflt (refine' useS (raised_case_ok _ _ _ _ ?p1Y79) ?k1 ?k2 ?k3 ?k4 ?k5 ?k6 ?k7 ?k8 ?_; (case p1Y79 => walk_at "MyNum"); walk_at "MyUse"))
  k_with "call ref" => (
        k_here; (with_reducible show wpAny _ _ (call (.ref 77) _) _ _ _);
        k_dflt (refine' useI (octet_at_ok _ _ _ _ _ _ ?p1Y80 ?p2Y80) ?k1 ?k2 ?k3 ?k4 ?k5 ?k6 ?k7 ?k8 ?_; (case p1Y80 => walk_at "MyNum"); (case p2Y80 => walk_at "MyNum"); walk_at "MyUse"))
  k_with "call ref" => (
        k_here; (with_reducible show wpAny _ _ (call (.ref 84) _) _ _ _);
        k_dflt (refine' useI (which_ended_ok _ _ _ _ _ _ _ _ _ _ ?p1Y81 ?p2Y81) ?k1 ?k2 ?k3 ?k4 ?k5 ?k6 ?k7 ?k8 ?_; (case p1Y81 => walk_at "MyNum"); (case p2Y81 => walk_at "MyNum"); walk_at "MyUse"))
  k_with "KswEnd" => refine hold ?_
  k_with "MySame" => (intro zZ h2Z h3Z; (repeat (first
        | with_reducible exact rfl
        | with_reducible refine ne_step (h2Z _ List.mem_cons_self) ?_
        | with_reducible refine ne_step (h2Z _ (List.mem_cons_of_mem _ List.mem_cons_self)) ?_
        | with_reducible refine cont_step h3Z ?_
        | (refine ne_step (ne_st h3Z (by decide +kernel)) ?_)
        | (refine cont_step (ne_sub h3Z (by decide +kernel)) ?_))))
  k_with "MySameN" => (intro zZ h3Z; (repeat (first
        | with_reducible exact rfl
        | with_reducible refine cont_step h3Z ?_
        | (refine ne_step (ne_st h3Z (by decide +kernel)) ?_)
        | (refine cont_step (ne_sub h3Z (by decide +kernel)) ?_))))
  k_with "exec If BoolOp" => (k_here; refine hold ?_)
  k_with "exec If Name" => (k_here; refine hold ?_)
  k_with "exec While BoolOp" => (k_here; refine hold ?_)
  trivial
theorem natural_ok (w : World) (news : Led) (x y : Str) (tx ty : Tok) (nc : Bool) (hlx : x.length ≤ 2000) (hly : y.length ≤ 2000) :
   DoesI w 6 91 news [.str x tx, .str y ty, .bool nc] (natR nc (L x) (L y)) := by
  rw [← nat_rd]
  unfold DoesI Does
  intro mean mg mb dp un gd cn cs a ccd cl outer A₀ base h₀ L m s Q E B F X N T hk hdp hu hret
  refine wpAny_call ?_
  k_dflt cell_enter
  rename Fr _ _ _ _ => F₀
  refine fr_in3 (Str.ofString "a") (Str.ofString "b") (Str.ofString "is_nocase") F₀ rfl rfl rfl ?_
  clear F₀
  intro u F₀
  have hX2 : (rdS nc x).length ≤ 2000 := by rw [rdS_len]; exact hlx
  have hY2 : (rdS nc y).length ≤ 2000 := by rw [rdS_len]; exact hly
  k_steps
  refine unhold (wpAny_If ?_)
  rename Fr _ _ _ _ => F9
  rename News _ _ _ _ => N9
  refine joinB ((x == Str.ofString "") || (y == Str.ofString "")) F9 N9 ?_ ?_
  · k_steps
    all_goals refine joinB_end (by k_asm) (by k_asm) (by walk_at "MySub") ?_
    · exact or_t1 (by assumption)
    · exact or_t2 (by assumption)
    · exact or_f (by assumption) (by assumption)
  intro h9 tk9 F8 N8
  clear F9 N9
  cases hT0 : ((x == Str.ofString "") || (y == Str.ofString "")) with
  | true =>
    k_steps
    exact hret _ news _ _ (by k_asm) (sub_news (by k_asm) (by walk_at "MySub")) ⟨rfl, okI (nt_start (Bool.or_eq_true_iff.mp hT0))⟩
  | false =>
  k_steps
  refine unhold ?_
  rename Fr _ _ _ _ => F9
  rename News _ _ _ _ => N9
  refine caseJoin (rdS nc x) (rdS nc y) F9 N9 ?_ ?_
  · cases nc with
    | true =>
      refine wpAny_If ?_
      k_steps
      exact (caseDone (X := rdS true x) (Y := rdS true y) (by k_asm) (by k_asm) (by walk_at "MySub") (by kst_all) (by walk_at "MySame")).2
    | false =>
      refine wpAny_If ?_
      k_steps
      exact (caseDone (X := rdS false x) (Y := rdS false y) (by k_asm) (by k_asm) (by walk_at "MySub") (by kst_all) (by walk_at "MySame")).2
  · intro ta tb u h tk F1 N1
    clear F9 N9
    replace F1 := kclean2 F1
    generalize rdS nc x = X at *
    generalize rdS nc y = Y at *
    (try dsimp only)
    (try k_fold)
    k_with "state" => exact ⟨nB_nn, nB_nn, rfl⟩
    k_steps
    rename Fr _ _ _ _ => F9
    obtain ⟨u2, F3⟩ := fr_open F9 [(Str.ofString "at", .int _ _), (Str.ofString "to", .int _ _), (Str.ofString "a", .str X ta), (Str.ofString "b", .str Y tb)] (by kst_all)
    clear F9
    have F4 := kclean4 F3
    clear F3
    refine unhold ?_
    k_while (fun (_ : List Int) a b => 0 ≤ a ∧ 0 ≤ b ∧ tg (Mine.L X) (Mine.L Y) a b = tg (Mine.L X) (Mine.L Y) (nB (Mine.L X) 0) (nB (Mine.L Y) 0)) (fun (_ : List Int) a _ => (X.length - a).toNat) "at" "to"
    rename News _ _ _ _ => N1
    rename Fr _ _ _ _ => F1
    replace F1 := clean2 F1
    rename_i hi hj htg
    obtain ⟨i, j, rfl, rfl⟩ := name2 htg
    refine joinB (decide (i < X.length) && decide (j < Y.length)) F1 N1 ?_ ?_
    · k_steps
      all_goals refine joinB_end (by k_asm) (by k_asm) (by walk_at "MySub") ?_
      · exact and_tt (decide_eq_true (by assumption)) (decide_eq_true (by assumption))
      · exact and_f2 (decide_eq_false (by assumption))
      · exact and_f1 (decide_eq_false (by assumption))
    · intro h1 tk1 F2 N2
      clear F1 N1
      cases hT : (decide (i < X.length) && decide (j < Y.length)) with
      | false =>
        k_steps
        refine hret _ news _ _ (by k_asm) (sub_news (by k_asm) (by walk_at "MySub")) ⟨rfl, okI ?_⟩
        rcases lt_n hT with h | h
        · exact (nt_end1 hi hj h).trans htg
        · exact (nt_end2 hi hj h).trans htg
      | true =>
        obtain ⟨hiX, hjY⟩ := lt_t hT
        k_steps
        refine unhold ?_
        rename News _ _ _ _ => N7
        rename Fr _ _ _ _ => F7
        refine natMeet (fun i' j' => 0 ≤ i' ∧ 0 ≤ j' ∧ i ≤ i' ∧ tg (Mine.L X) (Mine.L Y) i j = if sgn (oA (Mine.L X) i') (oA (Mine.L Y) j') = 0 then tg (Mine.L X) (Mine.L Y) (i' + 1) (j' + 1) else sgn (oA (Mine.L X) i') (oA (Mine.L Y) j')) F7 N7 ?_ ?_
        · intro Q' hK
          refine wpAny_If ?_
          refine joinB (dA (Mine.L X) (bB (Mine.L X) i) && dA (Mine.L Y) (bB (Mine.L Y) j)) F7 N7 ?_ ?_
          · k_steps
            all_goals refine joinB_end (by k_asm) (by k_asm) (by walk_at "MySub") ?_
            · exact and_tt (by assumption) (by assumption)
            · exact and_f2 (by assumption)
            · exact and_f1 (by assumption)
          · intro h2 tk2 F3 N3
            clear F7 N7
            cases hT2 : (dA (Mine.L X) (bB (Mine.L X) i) && dA (Mine.L Y) (bB (Mine.L Y) j)) with
            | false =>
              k_steps
              refine natDone hK (by k_asm) (by k_asm) (by walk_at "MySub") rfl rfl (by walk_at "MySame") ⟨bB_nn hi, bB_nn hj, bB_ge, nt_sign hi hj hiX hjY (and_n hT2)⟩ rfl
            | true =>
              obtain ⟨hdX, hdY⟩ := and_t hT2
              k_steps
              refine unhold (wpAny_If ?_)
              rename News _ _ _ _ => N1
              rename Fr _ _ _ _ => F1
              refine joinB (T3 (cR (Mine.L (Txt.slice X (some (bB (Mine.L X) i)) (some (dB (Mine.L X) (bB (Mine.L X) i))))) (Mine.L (Txt.slice Y (some (bB (Mine.L Y) j)) (some (dB (Mine.L Y) (bB (Mine.L Y) j)))))) (dB (Mine.L X) (bB (Mine.L X) i)) (dB (Mine.L Y) (bB (Mine.L Y) j)) X.length Y.length) F1 N1 ?_ ?_
              · k_steps
                all_goals refine joinB_end (by k_asm) (by k_asm) (by walk_at "MySub") ?_
                · exact t3_1 (by assumption)
                · exact t3_2 (by assumption)
                · exact t3_3 (by assumption)
                · exact t3_4 (by assumption) (by assumption) (by assumption)
              · intro h3 tk3 F4 N4
                clear F1 N1
                cases hT3 : T3 (cR (Mine.L (Txt.slice X (some (bB (Mine.L X) i)) (some (dB (Mine.L X) (bB (Mine.L X) i))))) (Mine.L (Txt.slice Y (some (bB (Mine.L Y) j)) (some (dB (Mine.L Y) (bB (Mine.L Y) j)))))) (dB (Mine.L X) (bB (Mine.L X) i)) (dB (Mine.L Y) (bB (Mine.L Y) j)) X.length Y.length with
                | true =>
                  k_steps
                  all_goals refine hK.2 _ _ ?_
                  all_goals k_steps
                  · refine hret _ news _ _ (by k_asm) (sub_news (by k_asm) (by walk_at "MySub")) ⟨rfl, okI ?_⟩
                    exact (nt_runs hi hj hdX hdY (by assumption)).trans htg
                  · refine hret _ news _ _ (by k_asm) (sub_news (by k_asm) (by walk_at "MySub")) ⟨rfl, okI ?_⟩
                    have h0 : cR (Mine.L (Txt.slice X (some (bB (Mine.L X) i)) (some (dB (Mine.L X) (bB (Mine.L X) i))))) (Mine.L (Txt.slice Y (some (bB (Mine.L Y) j)) (some (dB (Mine.L Y) (bB (Mine.L Y) j))))) = 0 := by assumption
                    exact (nt_ended hi hj hdX hdY h0 (t3_t hT3 h0)).trans htg
                | false =>
                  k_steps
                  refine natDone hK (by k_asm) (by k_asm) (by walk_at "MySub") rfl rfl (by walk_at "MySame") ⟨dB_nn (bB_nn hi), dB_nn (bB_nn hj), Int.le_trans bB_ge dB_ge, nt_oct hi hj hdX hdY (t3_n hT3).1 (t3_n hT3).2.1 (t3_n hT3).2.2⟩ rfl
        · intro i' j' ti tj u7 h7 tk7 F8 N8 hp
          have hi' := hp.1
          have hj' := hp.2.1
          have hij := hp.2.2.1
          have hst := hp.2.2.2
          clear F7 N7 hp
          (try dsimp only)
          (try k_fold)
          k_steps
          · refine hret _ news _ _ (by k_asm) (sub_news (by k_asm) (by walk_at "MySub")) ⟨rfl, okI ?_⟩
            rw [if_neg (by assumption)] at hst
            exact hst.symm.trans htg
          · refine unhold ?_
            rw [if_pos (by assumption)] at hst
            refine ksw_end ⟨_, _, _, _⟩ (by assumption) (by assumption) (by walk_at "MySub") trivial (by kst_all) (by walk_at "MySame") ?_ ?_
            · exact ⟨Int.le_add_one hi', Int.le_add_one hj', hst.symm.trans htg⟩
            · exact meas2 (Int.lt_add_one_of_le hij) hiX
end Mine
end
section
open PySem PySem.W PyProof.Rows
namespace Mine
theorem offD8 {w : World} {A : Around} {Q : Flow → Shared → Prop} {E : Value → Shared → Prop} {s : Shared} {env : Env} (h : Q .next s) : wpAny (model prog w) A (execs [] env) Q E s := by
  k_with_none
  w_top off
  walk1
  exact h
theorem fill8 : (PySem.Challenge.rw_pc0252_01, hd.heap_39) = (PySem.Challenge.rw_pc0252_01, hd.heap_39) := by
  k_fill
  rfl
theorem wordD8_1 : True := by
  k_with "MyRoom" => first
        | (refine' roomL ?h1Y88 ?h2Y88; (case h1Y88 => assumption); (case h2Y88 => exact rfl))
        | (refine' roomA ?h1Y88; (case h1Y88 => assumption))
        | exact Nat.le_of_ble_eq_true rfl
  k_with "MyUnits" => first
        | (refine' unitL ?h1Y89 ?h2Y89; (case h1Y89 => assumption); (case h2Y89 => exact rfl))
        | exact Nat.le_of_ble_eq_true rfl
  k_with "MyLo" => first | assumption | exact Int.le_refl _ | exact Int.le_add_one (by assumption)
  k_with "MyHi" => first | assumption | exact lt_ne (by assumption) (by assumption) | exact Int.natCast_pos.mpr (by assumption) | exact Int.lt_of_lt_of_le (by assumption) (by assumption)
  k_with "call builtin:len" => (
        k_here; (with_reducible show wpAny _ _ (call (Value.builtin "len") [Value.str _ _]) _ _ _);
        k_dflt (refine' len_S ?h1Y92 ?_; (case h1Y92 => assumption)))
  k_with "subscriptTail Name Name str int" => (
        k_here; k_dflt (refine' item_S ?h1Y93 ?h2Y93 ?h3Y93 ?_ ?h4Y93 ?h5Y93; (case h1Y93 => walk_at "MyLo"); (case h2Y93 => walk_at "MyHi"); (case h3Y93 => assumption); (case h4Y93 => with_unfolding_all rfl); (case h5Y93 => intro _; with_unfolding_all rfl)); intro _)
  k_with "subscriptTail Name Constant str int" => (
        k_here; k_dflt (refine' item_S ?h1Y94 ?h2Y94 ?h3Y94 ?_ ?h4Y94 ?h5Y94; (case h1Y94 => walk_at "MyLo"); (case h2Y94 => walk_at "MyHi"); (case h3Y94 => assumption); (case h4Y94 => with_unfolding_all rfl); (case h5Y94 => intro _; with_unfolding_all rfl)); intro _)
  k_with "call builtin:ord" => (
        k_here; k_dflt (refine' ord_S ?h1Y95 ?_; (case h1Y95 => assumption)))
  k_with "MySub" => first | with_reducible exact sub_refl | ((with_reducible refine sub_cons ?_); walk_at "MySub")
  k_with "compareOp Lt ref ref" => (k_here; k_dflt (refine' rows_lt ?NY97 ?haY97 ?hbY97 ?DaY97 ?DbY97 ?huY97 ?_; (case NY97 => k_asm); (case haY97 => k_asm); (case hbY97 => k_asm); (case DaY97 => k_asm); (case DbY97 => k_asm); (case huY97 => ktr_units)))
  k_with "compareOp Gt ref ref" => (k_here; k_dflt (refine' rows_gt ?NY98 ?haY98 ?hbY98 ?DaY98 ?DbY98 ?huY98 ?_; (case NY98 => k_asm); (case haY98 => k_asm); (case hbY98 => k_asm); (case DaY98 => k_asm); (case DbY98 => k_asm); (case huY98 => ktr_units)))
  trivial
theorem law_order_ok (w : World) (news : Led) (a b : Addr) (xs ys : List Value) (n n' : Nat) (rx ry : List El) (ha : (a, listOf xs.toArray n) ∈ news) (hb : (b, listOf ys.toArray n') ∈ news) (Da : DatAll news xs (rx.map elD)) (Db : DatAll news ys (ry.map elD)) :
   DoesI w 2 126 news [.ref a, .ref b] (ordRow rx ry) := by
  unfold DoesI Does
  intro mean mg mb dp un gd cn cs a9 ccd cl outer A₀ base h₀ L m s Q E B F X N T hk hdp hu hret
  refine wpAny_call ?_
  k_dflt cell_enter
  rename Fr _ _ _ _ => F₀
  refine fr_in2 (Str.ofString "x") (Str.ofString "y") F₀ rfl rfl ?_
  clear F₀
  intro u F₀
  k_steps
  all_goals refine hret _ news _ _ (by k_asm) (sub_news (by k_asm) (by walk_at "MySub")) ⟨rfl, okI ?_⟩
  all_goals (have hc := ordRow_cases rx ry; omega)
end Mine
end
section
open PySem PySem.W PyProof.Rows
namespace Mine
theorem offD9 {w : World} {A : Around} {Q : Flow → Shared → Prop} {E : Value → Shared → Prop} {s : Shared} {env : Env} (h : Q .next s) : wpAny (model prog w) A (execs [] env) Q E s := by
  k_with_none
  w_top off
  walk1
  exact h
theorem wordD9_1 : True := by
  k_with "MyRoom" => first
        | (refine' roomL ?h1Y99 ?h2Y99; (case h1Y99 => assumption); (case h2Y99 => exact rfl))
        | (refine' roomA ?h1Y99; (case h1Y99 => assumption))
        | exact Nat.le_of_ble_eq_true rfl
  k_with "MyUnits" => first
        | (refine' unitL ?h1Y100 ?h2Y100; (case h1Y100 => assumption); (case h2Y100 => exact rfl))
        | exact Nat.le_of_ble_eq_true rfl
  k_with "MyLo" => first | assumption | exact Int.le_refl _ | exact Int.le_add_one (by assumption)
  k_with "MyHi" => first | assumption | exact lt_ne (by assumption) (by assumption) | exact Int.natCast_pos.mpr (by assumption) | exact Int.lt_of_lt_of_le (by assumption) (by assumption)
  k_with "call builtin:len" => (
        k_here; (with_reducible show wpAny _ _ (call (Value.builtin "len") [Value.str _ _]) _ _ _);
        k_dflt (refine' len_S ?h1Y103 ?_; (case h1Y103 => assumption)))
  k_with "subscriptTail Name Name str int" => (
        k_here; k_dflt (refine' item_S ?h1Y104 ?h2Y104 ?h3Y104 ?_ ?h4Y104 ?h5Y104; (case h1Y104 => walk_at "MyLo"); (case h2Y104 => walk_at "MyHi"); (case h3Y104 => assumption); (case h4Y104 => with_unfolding_all rfl); (case h5Y104 => intro _; with_unfolding_all rfl)); intro _)
  k_with "subscriptTail Name Constant str int" => (
        k_here; k_dflt (refine' item_S ?h1Y105 ?h2Y105 ?h3Y105 ?_ ?h4Y105 ?h5Y105; (case h1Y105 => walk_at "MyLo"); (case h2Y105 => walk_at "MyHi"); (case h3Y105 => assumption); (case h4Y105 => with_unfolding_all rfl); (case h5Y105 => intro _; with_unfolding_all rfl)); intro _)
  k_with "call builtin:ord" => (
        k_here; k_dflt (refine' ord_S ?h1Y106 ?_; (case h1Y106 => assumption)))
  trivial
theorem row_k {i1 b : Int} {n : Nat} (h1 : i1 < n) (h2 : b ≤ n) : i1 + 1 ≤ (if i1 + 1 > b then i1 + 1 else b) ∧ (if i1 + 1 > b then i1 + 1 else b) ≤ n := by
  by_cases h : i1 + 1 > b
  · rw [if_pos h]; exact ⟨Int.le_refl _, h1⟩
  · rw [if_neg h]; exact ⟨Int.not_lt.mp h, h2⟩
theorem row_b {i1 b : Int} {es : List El} {e : El} {n : Nat} (h0 : 0 ≤ i1) (hes : (es.length : Int) ≤ i1) (h1 : i1 < n) (h2 : b ≤ n) : 0 ≤ (if i1 + 1 > b then i1 + 1 else b) ∧ ((es ++ [e]).length : Int) ≤ (if i1 + 1 > b then i1 + 1 else b) ∧ (if i1 + 1 > b then i1 + 1 else b) ≤ n ∧ ((n : Int) - (if i1 + 1 > b then i1 + 1 else b)).toNat < ((n : Int) - i1).toNat := by
  obtain ⟨k1, k2⟩ := row_k h1 h2
  rw [List.length_append, List.length_singleton]
  exact ⟨Int.le_trans (Int.le_add_one h0) k1, Int.le_trans (Int.add_le_add_right hes 1) k1, k2, meas2 k1 h1⟩
theorem at_b {i1 j b : Int} (h1 : i1 ≤ j) (h2 : j < b) : (if i1 + 1 > b then i1 + 1 else b) = b := if_neg (Int.not_lt.mpr (Int.le_trans (Int.add_le_add_right h1 1) h2))
theorem at_j {i1 j : Int} (h1 : i1 ≤ j) : (if i1 + 1 > j + 1 then i1 + 1 else j + 1) = j + 1 := if_neg (Int.not_lt.mpr (Int.add_le_add_right h1 1))
/-- what a turn appends, and where it looks next -/
noncomputable def TurnK (h₀ : Heap) (Lo : Addr) (m₀ : Str → Option Value) (R : Addr) (vs : List Value) (n : Nat) (tl news : Led) (P : El → Int → Prop) (s : Shared) (Q : Flow → Shared → Prop) : Prop :=
  ∀ (e : El) (b : Int) (tb : Tok) (u : Str → Option Value) (a : Addr) (o : Obj) (h : Heap) (tk : Nat), Fr h₀ Lo h (fun z => if z = Str.ofString "behind" then some (.int b tb) else if [Str.ofString "behind", Str.ofString "is_small"].contains z then u z else m₀ z) →
    News h₀ Lo h ((R, listOf (vs ++ [Value.ref a]).toArray (n + 1)) :: (a, o) :: (tl ++ news)) → DatIn ((a, o) :: tl) (.ref a) (elD e) → R < a → P e b → Q .next { s with heap := h, toks := tk }
theorem turnJoin {M : Model} {A : Around} {t : Sem Flow} {E : Value → Shared → Prop} {s : Shared} {h₀ : Heap} {Lo : Addr} {m₀ : Str → Option Value} {R : Addr} {vs : List Value} {n : Nat} {tl news : Led} {Q : Flow → Shared → Prop} (P : El → Int → Prop) (_F : Fr h₀ Lo s.heap m₀) (_N : News h₀ Lo s.heap ((R, listOf vs.toArray n) :: (tl ++ news)))
    (h : ∀ Q', TurnK h₀ Lo m₀ R vs n tl news P s Q' → wpAny M A t Q' E s) (k : TurnK h₀ Lo m₀ R vs n tl news P s Q) : wpAny M A t Q E s := h Q k
theorem turnDone {s : Shared} {h₀ h' : Heap} {Lo : Addr} {m₀ m' : Str → Option Value} {R a : Addr} {o : Obj} {vs : List Value} {n : Nat} {tl news nw : Led} {P : El → Int → Prop} {tk' : Nat} {tb : Tok} {b : Int} {e : El} {Q : Flow → Shared → Prop} (K : TurnK h₀ Lo m₀ R vs n tl news P s Q) (F : Fr h₀ Lo h' m') (N : News h₀ Lo h' nw) (hs : ∀ p ∈ (R, listOf (vs ++ [Value.ref a]).toArray (n + 1)) :: (a, o) :: (tl ++ news), p ∈ nw)
    (h1 : m' (Str.ofString "behind") = some (.int b tb)) (h2 : ∀ z, [Str.ofString "behind", Str.ofString "is_small"].contains z = false → m' z = m₀ z) (hd : DatIn ((a, o) :: tl) (.ref a) (elD e)) (l : R < a) (p : P e b) :
    Q .next { s with heap := h', toks := tk' } :=
  K e b tb m' a o h' tk' (ksw_fr (ps := [(_, _)]) (List.forall_mem_cons.mpr ⟨h1, fun _ h => nomatch h⟩) (fun z _ => h2 z) F) (fun p hp => N p (hs p hp)) hd l p
/-- a value's ways meet -/
noncomputable def ValK {α : Type} (mk : α → Value) (h₀ : Heap) (Lo : Addr) (m : Str → Option Value) (news : Led) (s : Shared) (Φ : α → Prop) (Q : Value → Shared → Prop) : Prop :=
  ∀ v h' tk', Fr h₀ Lo h' m → News h₀ Lo h' news → Φ v → Q (mk v) { s with heap := h', toks := tk' }
theorem joinV {α : Type} {M : Model} {A : Around} {t : Sem Value} {E : Value → Shared → Prop} {s : Shared} {h₀ : Heap} {Lo : Addr} {m : Str → Option Value} {news : Led} {Q : Value → Shared → Prop} (mk : α → Value) (Φ : α → Prop) (_F : Fr h₀ Lo s.heap m) (_N : News h₀ Lo s.heap news)
    (h : ∀ Q', ValK mk h₀ Lo m news s Φ Q' → wpAny M A t Q' E s) (k : ValK mk h₀ Lo m news s Φ Q) : wpAny M A t Q E s := h Q k
theorem joinV_end {α : Type} {mk : α → Value} {s : Shared} {h₀ : Heap} {Lo : Addr} {m : Str → Option Value} {news nw : Led} {Φ : α → Prop} {v : α} {h' : Heap} {tk' : Nat} {Q : Value → Shared → Prop} (K : ValK mk h₀ Lo m news s Φ Q) (F : Fr h₀ Lo h' m) (N : News h₀ Lo h' nw) (hs : ∀ p ∈ news, p ∈ nw) (e : Φ v) :
    Q (mk v) { s with heap := h', toks := tk' } := K v h' tk' F (fun p hp => N p (hs p hp)) e
section
variable {r r' : List El} {e : El} {i1 j b : Int} {n : Nat} {l : List Nat}
theorem p_run {nc : Bool} (hji : i1 ≤ j) (hlt : j < b) (hbl : b ≤ n) (h : r = e :: row true ((rd nc l).drop b.toNat)) : b ≤ n ∧ r = e :: row (decide (j < b)) ((rd nc l).drop (if i1 + 1 > b then i1 + 1 else b).toNat) := by
  rw [at_b hji hlt, decide_eq_true hlt]
  exact ⟨hbl, h⟩
theorem p_end {nc : Bool} (hlt : ¬ j < b) (hbl : b ≤ n) (he : j = n) (hjb : j ≤ b) (h : ∀ {k : Int}, n ≤ k → r = e :: row false ((rd nc l).drop k.toNat)) : b ≤ n ∧ r = e :: row (decide (j < b)) ((rd nc l).drop (if i1 + 1 > b then i1 + 1 else b).toNat) := by
  rw [decide_eq_false hlt]
  have hb := he ▸ hjb
  refine ⟨hbl, h ?_⟩
  split
  · exact Int.le_trans hb (Int.le_of_lt (by assumption))
  · exact hb
theorem p_sign {nc : Bool} (hji : i1 ≤ j) (hlt : ¬ j < b) (hj : j < n) (h : r = e :: row false ((rd nc l).drop (j + 1).toNat)) : j + 1 ≤ n ∧ r = e :: row (decide (j < b)) ((rd nc l).drop (if i1 + 1 > j + 1 then i1 + 1 else j + 1).toNat) := by
  rw [decide_eq_false hlt, at_j hji]
  exact ⟨hj, h⟩
end
section
variable {x : Str} {j : Int} {nc : Bool}
theorem phi_lo (hj : 0 ≤ j) (hl : j < x.length) (hn : nc = true) (h : (Txt.item x j).cps.toList < (PySem.Str.ofString "a").cps.toList) : (if (!decide ((Txt.item x j).cps.toList < (PySem.Str.ofString "a").cps.toList)) = true then ((Txt.item x j).cps.getD 0 0 : Nat) - (32 : Int) else ((Txt.item x j).cps.getD 0 0 : Nat)) = oN (rd nc (L x)) j := by
  rw [decide_eq_true h]; exact oc_lo hj hl hn h
theorem phi_hi (hj : 0 ≤ j) (hl : j < x.length) (hn : nc = true) (h : ¬ (Txt.item x j).cps.toList < (PySem.Str.ofString "a").cps.toList) : (if (!decide ((PySem.Str.ofString "z").cps.toList < (Txt.item x j).cps.toList)) = true then ((Txt.item x j).cps.getD 0 0 : Nat) - (32 : Int) else ((Txt.item x j).cps.getD 0 0 : Nat)) = oN (rd nc (L x)) j := by
  by_cases h2 : (PySem.Str.ofString "z").cps.toList < (Txt.item x j).cps.toList
  · rw [decide_eq_true h2]; exact oc_hi hj hl hn h2
  · rw [decide_eq_false h2]; exact oc_md hj hl hn h h2
theorem phi_f (hj : 0 ≤ j) (hl : j < x.length) (hn : nc = false) : (if nc = true then ((Txt.item x j).cps.getD 0 0 : Nat) - (32 : Int) else ((Txt.item x j).cps.getD 0 0 : Nat)) = oN (rd nc (L x)) j := by
  rw [if_neg (by rw [hn]; decide)]; exact oc_f hj hl hn
theorem if_t {b : Bool} {p q r : Int} (hb : b = true) (h : (if b = true then p else q) = r) : p = r := by rw [← h, if_pos hb]
theorem if_f {b : Bool} {p q r : Int} (hb : b = false) (h : (if b = true then p else q) = r) : q = r := by rw [← h, if_neg (by rw [hb]; decide)]
end
theorem fill9 : (PySem.Challenge.rw_pc0252_01, hd.heap_39) = (PySem.Challenge.rw_pc0252_01, hd.heap_39) := by
  k_fill
  rfl
theorem wordD9_2 : True := by
  k_with "MySame" => (intro zZ h2Z h3Z; (repeat (first
        | with_reducible exact rfl
        | with_reducible refine ne_step (h2Z _ List.mem_cons_self) ?_
        | with_reducible refine ne_step (h2Z _ (List.mem_cons_of_mem _ List.mem_cons_self)) ?_
        | with_reducible refine cont_step h3Z ?_
        | (refine ne_step (ne_st h3Z (by decide +kernel)) ?_)
        | (refine cont_step (ne_sub h3Z (by decide +kernel)) ?_))))
  k_with "MySub" => first | with_reducible exact sub_refl | ((with_reducible refine sub_cons ?_); walk_at "MySub")
  k_with "MyNe" => first
        | assumption
        | exact ne_1 (by assumption)
        | exact ne_2 (by assumption)
        | exact ne_3 (by assumption)
        | exact ne_4 (by assumption)
        | exact Ne.symm (ne_1 (by assumption))
        | exact Ne.symm (ne_2 (by assumption))
        | exact Ne.symm (ne_3 (by assumption))
        | exact Ne.symm (ne_4 (by assumption))
  k_with "MyOff" => first
        | exact List.forall_mem_nil _
        | assumption
        | exact off_lt (by assumption)
        | exact off_own (by assumption) (by first | exact List.Mem.head _ | simp)
        | (refine off_app ?_ ?_ <;> walk_at "MyOff")
        | (refine List.forall_mem_cons.mpr ⟨?_, ?_⟩; (focus k_ne); walk_at "MyOff")
  k_with "MyUpd" => first
        | k_upd
        | (refine' Upd.head ?aY111; (case aY111 => walk_at "MyOff"))
        | (refine' Upd.tail ?aY111 ?bY111; (case aY111 => k_ne); (case bY111 => walk_at "MyUpd"))
  k_with "MySize" => first
        | exact fits_l (by assumption)
        | size_fits
        | ((simp only [List.size_toArray, List.length_append, List.length_cons, List.length_nil, PySem.sizeLine_eq]); omega)
  k_with "call builtin:list.append" => (
        k_here; (with_reducible show wpAny _ _ (call (Value.builtin "list.append") [Value.ref _, _]) _ _ _);
        k_dflt (refine' append_K ?k1Y113 ?k2Y113 ?k3Y113 ?_ ?zY113; (case k1Y113 => k_asm); (case k2Y113 => k_asm); (case k3Y113 => walk_at "MyUpd"); (case zY113 => walk_at "MySize"); k_whole);
        intro h'Z F'Z N'Z; (try k_sweep))
  k_with "exec While BoolOp" => (k_here; refine hold ?_)
  k_with "exec While Compare cons nil" => (k_here; refine hold ?_)
  k_with "KswEnd" => refine hold ?_
  k_with "JoinB" => refine hold ?_
  k_with "subscriptTail Name BinOp str int" => (
        k_here; k_dflt (refine' item_S ?h1Y118 ?h2Y118 ?h3Y118 ?_ ?h4Y118 ?h5Y118; (case h1Y118 => exact Int.le_add_one (by assumption)); (case h2Y118 => exact sl_lt2 (by assumption) (by assumption)); (case h3Y118 => assumption); (case h4Y118 => with_unfolding_all rfl); (case h5Y118 => intro _; with_unfolding_all rfl)); intro _)
  k_with "exec If Name" => (k_here; refine hold ?_)
  k_with "MySameN" => (intro zZ h3Z; (repeat (first
        | with_reducible exact rfl
        | with_reducible refine cont_step h3Z ?_
        | (refine ne_step (ne_st h3Z (by decide +kernel)) ?_))))
  k_with "eval BoolOp" => (k_here; (fail_if_success (rename ValK _ _ _ _ _ _ _ _ => hM)); refine hold ?_)
  k_with "eval IfExp" => (k_here; (with_reducible show wpAny _ _ (eval (PySem.Expr.IfExp (PySem.Expr.Name _ _) _ _ _) _) _ _ _); (fail_if_success (rename ValK _ _ _ _ _ _ _ _ => hM)); refine hold ?_)
  trivial
structure RS where
  at' : Int
  tk : Tok
  raw : Bool
  vs : List Value
  n : Nat
  tl : Led
  es : List El
theorem law_row_ok (w : World) (news : Led) (x : Str) (tx : Tok) (nc : Bool) (hl : x.length ≤ 2000) :
   Does w 4 119 news [.str x tx, .bool nc] (RowOut news (Row nc (Mine.L x))) := by
  unfold Does
  intro mean mg mb dp un gd cn cs a ccd cl outer A₀ base h₀ L m s Q E B F X N T hk hdp hu hret
  refine wpAny_call ?_
  have hszx := fits_l hl
  k_dflt cell_enter
  k_with "state" => first | exact ⟨Int.le_refl _, rfl⟩ | exact ⟨by assumption, by assumption, rfl⟩ | exact ⟨by assumption, Int.le_of_lt (by assumption), rfl⟩
  rename Fr _ _ _ _ => F₀
  refine fr_in2 (Str.ofString "text") (Str.ofString "is_nocase") F₀ rfl rfl ?_
  clear F₀
  intro u F₀
  k_steps
  refine unhold ?_
  k_while (fun (_ : List Int) a => 0 ≤ a ∧ nB (Mine.L x) a = nB (Mine.L x) 0) (fun (_ : List Int) a => (x.length - a).toNat) "at"
  rename News _ _ _ _ => N1
  rename Fr _ _ _ _ => F1
  rename Int => i
  rename_i hi hB
  refine joinB (nT (Mine.L x) i) F1 N1 ?_ ?_
  · k_steps
    all_goals refine unhold (joinB_end (by k_asm) (by k_asm) (by walk_at "MySub") ?_)
    · exact nT3 hi (by assumption) (sl_lt2 hi (by assumption)) (by assumption)
    · exact nT3 hi (by assumption) (sl_lt2 hi (by assumption)) (by assumption)
    · exact nT2 hi (by assumption)
    · exact nT1 hi (by assumption)
  · intro h1 tk1 F2 N2
    clear F1 N1
    k_steps
    all_goals refine unhold ?_
    · refine ksw_end ⟨_, _⟩ (by assumption) (by assumption) (by walk_at "MySub") trivial (by kst_all) (by walk_at "MySame") ?_ ?_
      · exact ⟨Int.le_add_one hi, (nT_step hi (by assumption)).trans hB⟩
      · exact meas1 (Int.lt_trans (Int.lt_add_one_of_le (Int.le_refl _)) (nT_lt hi (by assumption)))
    · have hi' := nT_stop hi (by assumption)
      rw [hB] at hi'
      have N3 := news_tl N2
      obtain ⟨u9, F5⟩ := fr_open F2 [(Str.ofString "at", Value.int i _), (Str.ofString "is_raw", Value.bool false), (Str.ofString "row", Value.ref _), (Str.ofString "text", Value.str x tx), (Str.ofString "is_nocase", Value.bool nc)] (by kst_all)
      replace F5 := kclean5 F5
      clear F2
      obtain ⟨R, hR⟩ := name_addr N3
      subst hR
      refine ksw_while (fun c : RS => (R, listOf c.vs.toArray c.n) :: (c.tl ++ news)) (fun c => [(Str.ofString "at", Value.int c.at' c.tk), (Str.ofString "is_raw", Value.bool c.raw)])
        (fun c => DatAll c.tl c.vs (c.es.map elD) ∧ (∀ p ∈ c.tl, R < p.1)) [Str.ofString "first", Str.ofString "behind", Str.ofString "is_small"]
        (fun c => 0 ≤ c.at' ∧ c.es.length ≤ c.at' ∧ c.at' ≤ x.length ∧ c.es ++ row c.raw ((rd nc (Mine.L x)).drop c.at'.toNat) = row false ((rd nc (Mine.L x)).drop (nB (Mine.L x) 0).toNat)) (fun c => (x.length - c.at').toNat)
        ⟨i, _, false, [], 0, [], []⟩ F5 N3 ⟨.nil, fun _ h => nomatch h⟩ (by kst_all) ⟨hi, hi, ?_, ?_⟩ ?_
      · rw [← hi']
        exact nB_le
      · dsimp only
        rw [← hi']
        rfl
      · intro c u h tk hf hp F3 N4
        clear F5 N2 N3
        obtain ⟨i1, ti1, raw, vs, n, tl, es⟩ := c
        obtain ⟨hD, hoff⟩ := hf
        obtain ⟨h0, hes, hi1, hrow⟩ := hp
        replace F3 := kclean2 F3
        dsimp only at F3 N4 hD hoff h0 hes hi1 hrow
        have hsz : vs.length ≤ 2000 := Nat.le_trans (Nat.le_of_eq (rows_len hD)) (Int.ofNat_le.mp (Int.le_trans hes (Int.le_trans hi1 (Int.ofNat_le.mpr hl))))
        have hne : ∀ p ∈ tl, p.1 ≠ R := fun p hp => Nat.ne_of_gt (hoff p hp)
        (try dsimp only)
        (try k_fold)
        k_steps
        · refine unhold ?_
          k_while (fun (_ : List Int) a => 0 ≤ a ∧ a ≤ x.length ∧ sB raw (Mine.L x) a = sB raw (Mine.L x) i1) (fun (_ : List Int) a => (x.length - a).toNat) "at"
          rename News _ _ _ _ => N1
          rename Fr _ _ _ _ => F1
          rename Int => j
          rename_i hj hjl hS
          refine joinB (sT raw (Mine.L x) j) F1 N1 ?_ ?_
          · k_steps
            all_goals refine unhold (joinB_end (by k_asm) (by k_asm) (by walk_at "MySub") ?_)
            · exact sT1 (by assumption)
            · exact sT3 (raw := raw) (by assumption) hj (by assumption) (by assumption)
            · exact sT3 (raw := raw) (by assumption) hj (by assumption) (by assumption)
            · exact sT2 (by assumption)
          · intro h2 tk2 F2 N2
            clear F1 N1
            k_steps
            all_goals refine unhold ?_
            · refine ksw_end ⟨_, _⟩ (by assumption) (by assumption) (by walk_at "MySub") trivial (by kst_all) (by walk_at "MySame") ?_ ?_
              · exact ⟨Int.le_add_one hj, sT_lt hj (by assumption), (sB_step hj (by assumption)).trans hS⟩
              · exact meas1 (sT_lt hj (by assumption))
            · have hj2 := sB_stop (x := x) (by assumption)
              rw [hj2] at hS
              k_while (fun (_ : List Int) b => 0 ≤ b ∧ b ≤ x.length ∧ dB (Mine.L x) b = dB (Mine.L x) j) (fun (_ : List Int) b => (x.length - b).toNat) "behind"
              rename News _ _ _ _ => N1
              rename Fr _ _ _ _ => F1
              rename Int => b
              rename_i hb hbl hdb
              refine joinB (dA (Mine.L x) b) F1 N1 ?_ ?_
              · k_steps
                all_goals refine unhold (joinB_end (by k_asm) (by k_asm) (by walk_at "MySub") ?_)
                · exact (dig_in hb (by assumption) (by assumption)).symm
                · exact (dig_in hb (by assumption) (by assumption)).symm
                · exact dT2 (by assumption)
              · intro h3 tk3 F4 N5
                clear F1 N1
                k_steps
                · refine unhold ?_
                  refine ksw_end ⟨_, _⟩ (by assumption) (by assumption) (by walk_at "MySub") trivial (by kst_all) (by walk_at "MySame") ?_ ?_
                  · exact ⟨Int.le_add_one hb, dA_lt hb (by assumption), (dB_step hb (by assumption)).trans hdb⟩
                  · exact meas1 (dA_lt hb (by assumption))
                · have hb2 := lr_b hS hdb (by assumption)
                  have hji : i1 ≤ j := by rw [hS]; exact sB_ge
                  refine unhold ?_
                  rename Fr _ _ _ _ => F7
                  rename News _ _ _ _ => N7
                  refine turnJoin (fun e b2 => b2 ≤ x.length ∧ row raw ((rd nc (Mine.L x)).drop i1.toNat) = e :: row (decide (j < b)) ((rd nc (Mine.L x)).drop (if i1 + 1 > b2 then i1 + 1 else b2).toNat)) F7 N7 ?_ ?_
                  · intro Q' hK
                    refine wpAny_If ?_
                    k_steps
                    · (try simp only [List.push_toArray] at *)
                      refine turnDone (e := (48, 0, Mine.L (Txt.slice x (some j) (some b)))) hK (by k_asm) (by k_asm) (by exact row_perm) rfl (by walk_at "MySameN") (elD_mk (.head _) rfl rfl rfl) (lt_of_all (l := tl ++ news) (by assumption)) ?_
                      exact p_run hji (by assumption) hbl (lr_1 h0 hS hb2 (by assumption) hbl (by assumption))
                    · (try simp only [List.push_toArray] at *)
                      refine turnDone (e := (49, (Mine.L (Txt.slice x (some j) (some b))).length, Mine.L (Txt.slice x (some j) (some b)))) hK (by k_asm) (by k_asm) (by exact row_perm) rfl (by walk_at "MySameN") (elD_mk (.head _) rfl (sl_len hj (Int.le_of_lt (by assumption)) hbl).symm rfl) (lt_of_all (l := tl ++ news) (by assumption)) ?_
                      exact p_run hji (by assumption) hbl (lr_2 h0 hS hb2 (by assumption) hbl (by assumption))
                    · (try simp only [List.push_toArray] at *)
                      refine turnDone (e := (0, 0, [])) hK (by k_asm) (by k_asm) (by exact row_perm) rfl (by walk_at "MySameN") (elD_mk (.head _) rfl rfl emptyL) (lt_of_all (l := tl ++ news) (by assumption)) ?_
                      exact p_end (by assumption) hbl (by assumption) (by rw [hb2]; exact dB_ge) (lr_4 h0 (by assumption) hS hb2 (by assumption) (by assumption))
                    · refine unhold ?_
                      rename Fr _ _ _ _ => F8
                      rename News _ _ _ _ => N8
                      refine joinV Value.bool (fun t => (if t then ((Txt.item x j).cps.getD 0 0 : Nat) - (32 : Int) else ((Txt.item x j).cps.getD 0 0 : Nat)) = oN (rd nc (Mine.L x)) j) F8 N8 ?_ ?_
                      · intro Q2 hK2
                        k_steps
                        · exact joinV_end hK2 (by k_asm) (by k_asm) (fun _ h => h) (phi_lo hj (lt_ne hjl (by assumption)) (by assumption) (by assumption))
                        · exact joinV_end hK2 (by k_asm) (by k_asm) (fun _ h => h) (phi_hi hj (lt_ne hjl (by assumption)) (by assumption) (by assumption))
                        · exact joinV_end hK2 (by k_asm) (by k_asm) (fun _ h => h) (phi_f hj (lt_ne hjl (by assumption)) (by assumption))
                      · intro t h8 tk8 F9 N9 hp
                        clear F8 N8
                        k_steps
                        refine unhold ?_
                        rename Fr _ _ _ _ => F8
                        rename News _ _ _ _ => N8
                        refine joinV (fun p : Int × Tok => Value.int p.1 p.2) (fun p => p.1 = oN (rd nc (Mine.L x)) j) F8 N8 ?_ ?_
                        · intro Q2 hK2
                          k_steps
                          · exact joinV_end (v := (_, _)) hK2 (by k_asm) (by k_asm) (fun _ h => h) (if_t (by assumption) hp)
                          · exact joinV_end (v := (_, _)) hK2 (by k_asm) (by k_asm) (fun _ h => h) (if_f (by assumption) hp)
                        · intro p9 h9 tk9 F9 N9 hp9
                          clear F8 N8
                          (try dsimp only)
                          k_steps
                          (try simp only [List.push_toArray] at *)
                          refine turnDone (e := (oN (rd nc (Mine.L x)) j, 0, [])) hK (by k_asm) (by k_asm) (by exact row_perm) rfl (by walk_at "MySameN") (elD_mk (.head _) hp9 rfl emptyL) (lt_of_all (l := tl ++ news) (by assumption)) ?_
                          exact p_sign hji (by assumption) (lt_ne hjl (by assumption)) (lr_3 h0 (by assumption) hS hb2 (by assumption))
                  · intro e b2 tb u7 a o h7 tk7 F8 N8 hd8 hl8 hp8
                    clear F7 N7
                    (try dsimp only)
                    (try k_fold)
                    k_steps
                    refine unhold ?_
                    rename News _ _ _ _ => N9
                    refine ksw_end (RS.mk _ _ _ (vs ++ [.ref _]) (n + 1) (_ :: tl) (es ++ [e])) (by assumption) N9 (fun _ h => h) ⟨rows_snoc hD hd8, List.forall_mem_cons.mpr ⟨hl8, hoff⟩⟩ (by kst_all) (by walk_at "MySame") ⟨?_, ?_, ?_, ?_⟩ ?_
                    · exact (row_b (b := b2) (e := e) h0 hes (by assumption) hp8.1).1
                    · exact (row_b (b := b2) (e := e) h0 hes (by assumption) hp8.1).2.1
                    · exact (row_b (b := b2) (e := e) h0 hes (by assumption) hp8.1).2.2.1
                    · exact rows_next hrow hp8.2
                    · exact (row_b (b := b2) (e := e) h0 hes (by assumption) hp8.1).2.2.2
        · have hr := row_out hrow (by assumption)
          exact hret _ _ _ _ (by k_asm) (by k_asm) ⟨R, vs, n, tl, rfl, rfl, hr ▸ hD, by assumption, hoff⟩
end Mine
end
section
open PySem PySem.W PyProof.Rows
namespace Mine
theorem offD10 {w : World} {A : Around} {Q : Flow → Shared → Prop} {E : Value → Shared → Prop} {s : Shared} {env : Env} (h : Q .next s) : wpAny (model prog w) A (execs [] env) Q E s := by
  k_with_none
  w_top off
  walk1
  exact h
theorem fill10 : (PySem.Challenge.rw_pc0252_01, hd.heap_39) = (PySem.Challenge.rw_pc0252_01, hd.heap_39) := by
  k_fill
  rfl
theorem wordD10_1 : True := by
  k_with "MyRoom" => first
        | (refine' roomL ?h1Y123 ?h2Y123; (case h1Y123 => assumption); (case h2Y123 => exact rfl))
        | (refine' roomA ?h1Y123; (case h1Y123 => assumption))
        | exact Nat.le_of_ble_eq_true rfl
  k_with "MyUnits" => first
        | (refine' unitL ?h1Y124 ?h2Y124; (case h1Y124 => assumption); (case h2Y124 => exact rfl))
        | exact Nat.le_of_ble_eq_true rfl
  k_with "MyLo" => first | assumption | exact Int.le_refl _ | exact Int.le_add_one (by assumption)
  k_with "MyHi" => first | assumption | exact lt_ne (by assumption) (by assumption) | exact Int.natCast_pos.mpr (by assumption) | exact Int.lt_of_lt_of_le (by assumption) (by assumption)
  k_with "call builtin:len" => (
        k_here; (with_reducible show wpAny _ _ (call (Value.builtin "len") [Value.str _ _]) _ _ _);
        k_dflt (refine' len_S ?h1Y127 ?_; (case h1Y127 => assumption)))
  k_with "subscriptTail Name Name str int" => (
        k_here; k_dflt (refine' item_S ?h1Y128 ?h2Y128 ?h3Y128 ?_ ?h4Y128 ?h5Y128; (case h1Y128 => walk_at "MyLo"); (case h2Y128 => walk_at "MyHi"); (case h3Y128 => assumption); (case h4Y128 => with_unfolding_all rfl); (case h5Y128 => intro _; with_unfolding_all rfl)); intro _)
  k_with "subscriptTail Name Constant str int" => (
        k_here; k_dflt (refine' item_S ?h1Y129 ?h2Y129 ?h3Y129 ?_ ?h4Y129 ?h5Y129; (case h1Y129 => walk_at "MyLo"); (case h2Y129 => walk_at "MyHi"); (case h3Y129 => assumption); (case h4Y129 => with_unfolding_all rfl); (case h5Y129 => intro _; with_unfolding_all rfl)); intro _)
  k_with "call builtin:ord" => (
        k_here; k_dflt (refine' ord_S ?h1Y130 ?_; (case h1Y130 => assumption)))
  k_with "MySub" => first | with_reducible exact sub_refl | ((with_reducible refine sub_cons ?_); walk_at "MySub")
  k_with "MyOff" => first
        | exact List.forall_mem_nil _
        | assumption
        | exact off_lt (by assumption)
        | exact off_own (by assumption) (by first | exact List.Mem.head _ | simp)
        | (refine off_app ?_ ?_ <;> walk_at "MyOff")
        | (refine List.forall_mem_cons.mpr ⟨?_, ?_⟩; (focus k_ne); walk_at "MyOff")
  k_with "MyUpd" => first
        | k_upd
        | (refine' Upd.head ?aY133; (case aY133 => walk_at "MyOff"))
        | (refine' Upd.tail ?aY133 ?bY133; (case aY133 => k_ne); (case bY133 => walk_at "MyUpd"))
  k_with "MySize" => first
        | size_fits
        | ((simp only [List.size_toArray, List.length_append, List.length_cons, List.length_nil, PySem.sizeLine_eq]); omega)
  k_with "call builtin:list.append" => (
        k_here; (with_reducible show wpAny _ _ (call (Value.builtin "list.append") [Value.ref _, _]) _ _ _);
        k_dflt (refine' append_K ?k1Y135 ?k2Y135 ?k3Y135 ?_ ?zY135; (case k1Y135 => k_asm); (case k2Y135 => k_asm); (case k3Y135 => walk_at "MyUpd"); (case zY135 => walk_at "MySize"); k_whole);
        intro h'Z F'Z N'Z; (try k_sweep))
  k_with "call builtin:list.pop" => (
        k_here; (with_reducible show wpAny _ _ (call (Value.builtin _) [Value.ref _, Value.int _ _]) _ _ _);
        k_dflt (refine' kl_popAt ?FY136 ?NY136 ?fY136 ?kY136 ?eY136 ?UY136 ?zY136 ?_; (case FY136 => k_asm); (case NY136 => k_asm); (case UY136 => walk_at "MyUpd"); (case fY136 => rfl); (case kY136 => rfl); (case eY136 => rfl); (case zY136 => exact Nat.le_of_ble_eq_true rfl)); kl_rest)
  k_with "binaryOp FloorDiv int int" => (k_here; k_dflt (refine floordiv_int (by omega) ?_ (Or.inl (PyProof.noPylong_small (by omega)))))
  k_with "binaryOp Mod int int" => (k_here; k_dflt (refine mod_int' (by omega) ?_))
  k_with "setItem ref int" => (
        k_here; (with_reducible show wpAny _ _ (PySem.setItem (Value.ref _) (Value.int _ _) (Value.int _ _)) _ _ _);
        k_dflt (refine' ki_set ?FY139 ?NY139 ?aY139 ?bY139 ?eY139 ?UY139 ?_; (case FY139 => k_asm); (case NY139 => k_asm); (case UY139 => walk_at "MyUpd"); (case aY139 => decide); (case bY139 => decide); (case eY139 => rfl)); ki_rest; (try k_sweep))
  trivial
/-- a pen: a list of ints, at least one -/
noncomputable def Pen (vs : List Value) : Prop := 1 ≤ vs.length ∧ vs.length ≤ 7 ∧ ∀ v ∈ vs, ∃ i t, v = Value.int i t
theorem pen_of {vs : List Value} (h1 : 1 ≤ vs.length) (h2 : vs.length ≤ 7) (h3 : ∀ v ∈ vs, ∃ i t, v = Value.int i t) : Pen vs := ⟨h1, h2, h3⟩
noncomputable def TakeOut (P : Addr) (rest : Led) (k : Int) (r : Value) (nw : Led) : Prop :=
  ∃ d t vs n, r = .int d t ∧ 0 ≤ d ∧ d < k ∧ Pen vs ∧ nw = (P, listOf vs.toArray n) :: rest
theorem pen_cons {vs : List Value} {i : Int} {t : Tok} (h : vs.length ≤ 5) (hi : ∀ v ∈ vs, ∃ i t, v = Value.int i t) : Pen (.int i t :: vs) :=
  ⟨Nat.succ_le_succ (Nat.zero_le _), Nat.le_trans (Nat.succ_le_succ h) (by decide), fun v hv => (List.mem_cons.mp hv).elim (fun e => ⟨i, t, e⟩) (hi v)⟩
theorem take1 (w : World) (rest : Led) (P : Addr) (n : Nat) (k : Int) (tk : Tok) (p0 : Int) (t0 : Tok) (hr : ∀ p ∈ rest, p.1 ≠ P) (hk : 0 < k) (hk2 : k ≤ 100) :
   Does w 2 98 ((P, listOf #[.int p0 t0] n) :: rest) [.ref P, .int k tk] (TakeOut P rest k) := by
  unfold Does
  intro mean mg mb dp un gd cn cs a ccd cl outer A₀ base h₀ L m s Q E B F X N T hk9 hdp hu hret
  refine wpAny_call ?_
  k_dflt cell_enter
  k_steps
  exact hret _ _ _ _ (by k_asm) (by k_asm) ⟨_, _, _, _, rfl, Int.fmod_nonneg_of_pos _ hk, Int.fmod_lt_of_pos _ hk, pen_of (by simp) (by simp) (by simp), rfl⟩
theorem wordD10_2 : True := by
  k_with "call builtin:len" => (
        k_here; (with_reducible show wpAny _ _ (call (Value.builtin "len") [Value.ref _]) _ _ _);
        k_dflt (refine' KM.len_K ?NY140 ?mY140 ?sY140 ?fY140 ?_; (case NY140 => k_asm); (case mY140 => exact List.mem_cons_self); (case sY140 => rfl); (case fY140 => assumption)))
  k_with "call builtin:list.pop" => (
        k_here; (with_reducible show wpAny _ _ (call (Value.builtin _) [Value.ref _, Value.int _ _]) _ _ _);
        k_dflt (refine' kl_popAt ?FY141 ?NY141 ?fY141 ?kY141 ?eY141 ?UY141 ?zY141 ?_; (case FY141 => k_asm); (case NY141 => k_asm); (case UY141 => walk_at "MyUpd"); (case fY141 => rfl); (case kY141 => assumption); (case eY141 => rfl); (case zY141 => assumption)); kl_rest)
  trivial
theorem take2 (w : World) (rest : Led) (P : Addr) (n : Nat) (k : Int) (tk : Tok) (p0 p1 : Int) (t0 t1 : Tok) (vs : List Value) (hv : vs.length ≤ 5) (hi : ∀ v ∈ vs, ∃ i t, v = Value.int i t) (hr : ∀ p ∈ rest, p.1 ≠ P) (hk : 0 < k) (hk2 : k ≤ 100) :
   Does w 2 98 ((P, listOf (Value.int p0 t0 :: Value.int p1 t1 :: vs).toArray n) :: rest) [.ref P, .int k tk] (TakeOut P rest k) := by
  unfold Does
  intro mean mg mb dp un gd cn cs a ccd cl outer A₀ base h₀ L m s Q E B F X N T hk9 hdp hu hret
  refine wpAny_call ?_
  k_dflt cell_enter
  have hsz : (Value.int p0 t0 :: Value.int p1 t1 :: vs).toArray.size < 2 ^ 62 := by simp; omega
  have hz1 : (Value.int p0 t0 :: Value.int p1 t1 :: vs).toArray.toList.length ≤ sizeLine := by
    have : (Value.int p0 t0 :: Value.int p1 t1 :: vs).toArray.toList.length ≤ 7 := by simp; omega
    exact Nat.le_trans this (Nat.le_of_ble_eq_true rfl)
  have hk1 : seqIndex? 1 (Value.int p0 t0 :: Value.int p1 t1 :: vs).toArray.size = some 1 := by
    unfold seqIndex?
    simp
    omega
  k_steps
  · exact hret _ _ _ _ (by k_asm) (by k_asm) ⟨_, _, _, _, rfl, Int.fmod_nonneg_of_pos _ hk, Int.fmod_lt_of_pos _ hk, pen_cons hv hi, rfl⟩
  · rename (¬ (_ : Int) < _) => h9; exact absurd (show (1 : Int) < _ by simp; omega) h9
theorem take_ok (w : World) (rest : Led) (P : Addr) (vs : List Value) (n : Nat) (k : Int) (tk : Tok) (hp : Pen vs) (hr : ∀ p ∈ rest, p.1 ≠ P) (hk : 0 < k) (hk2 : k ≤ 100) :
   Does w 2 98 ((P, listOf vs.toArray n) :: rest) [.ref P, .int k tk] (TakeOut P rest k) := by
  obtain ⟨h1, h2, h3⟩ := hp
  cases vs with
  | nil => exact absurd h1 (by decide)
  | cons v0 vs =>
    obtain ⟨p0, t0, rfl⟩ := h3 v0 (.head _)
    cases vs with
    | nil => exact take1 w rest P n k tk p0 t0 hr hk hk2
    | cons v1 vs =>
      obtain ⟨p1, t1, rfl⟩ := h3 v1 (.tail _ (.head _))
      simp only [List.length_cons] at h2
      exact take2 w rest P n k tk p0 p1 t0 t1 vs (by omega) (fun v hv => h3 v (.tail _ (.tail _ hv))) hr hk hk2
end Mine
end
section
open PySem PySem.W PyProof.Rows
namespace Mine
/-! ordRow is an order -/
theorem sgn_neg' (a b : Int) : sgn b a = - sgn a b := by
  unfold sgn
  split <;> split <;> (try split) <;> (try split) <;> lia
theorem cmpT_neg' (a b : List Nat) : cmpT b a = - cmpT a b := by
  by_cases h : a = b
  · subst h; simp [cmpT]
  · have h' : b ≠ a := fun e => h e.symm
    unfold cmpT
    rw [if_neg h, if_neg h']
    rcases lt_total h with h1 | h1
    · rw [if_neg (lt_asymm' h1), if_pos h1]; rfl
    · rw [if_pos h1, if_neg (lt_asymm' h1)]
theorem ordEl_neg (a b : El) : ordEl b a = - ordEl a b := by
  unfold ordEl
  by_cases h1 : a.1 = b.1
  · by_cases h2 : a.2.1 = b.2.1
    · simp [h1, h2, cmpT_neg' a.2.2]
    · have h2' : ¬ b.2.1 = a.2.1 := fun e => h2 e.symm
      simp [h1, h2, h2', sgn_neg' (a.2.1 : Int)]
  · have h1' : ¬ b.1 = a.1 := fun e => h1 e.symm
    simp [h1, h1', sgn_neg' (a.1 : Int)]
theorem ordRow_neg : ∀ x y : List El, ordRow y x = - ordRow x y
  | [], [] => rfl
  | [], _ :: _ => rfl
  | _ :: _, [] => rfl
  | a :: x, b :: y => by
    rw [ordRow, ordRow]
    by_cases h : a = b
    · subst h; simp [ordRow_neg x y]
    · have h' : ¬ b = a := fun e => h e.symm
      simp [h, h', ordEl_neg a b]
theorem sgn_pos_iff {a b : Nat} : 0 < sgn (a : Int) (b : Int) ↔ b < a := sgn_pos
theorem ordEl_pos {a b : El} (h : a ≠ b) : 0 < ordEl a b ↔ (b.1 < a.1 ∨ (b.1 = a.1 ∧ (b.2.1 < a.2.1 ∨ (b.2.1 = a.2.1 ∧ b.2.2 < a.2.2)))) := by
  obtain ⟨a1, a2, a3⟩ := a
  obtain ⟨b1, b2, b3⟩ := b
  unfold ordEl
  simp only [ne_eq]
  by_cases h1 : a1 = b1
  · by_cases h2 : a2 = b2
    · have h3 : a3 ≠ b3 := fun q => h (by rw [h1, h2, q])
      simp [h1, h2, cmpT_pos h3]
    · simp [h1, h2, sgn_pos]
      lia
  · simp [h1, sgn_pos]
    lia
theorem ordEl_ne {a b : El} (h : a ≠ b) : ordEl a b ≠ 0 := by
  obtain ⟨a1, a2, a3⟩ := a
  obtain ⟨b1, b2, b3⟩ := b
  unfold ordEl
  simp only [ne_eq]
  by_cases h1 : a1 = b1
  · by_cases h2 : a2 = b2
    · have h3 : a3 ≠ b3 := fun q => h (by rw [h1, h2, q])
      simp [h1, h2, cmpT0, h3]
    · simp [h1, h2, sgn_nat0]
  · simp [h1, sgn_nat0]
theorem ordEl_trans {a b c : El} (hab : a ≠ b) (hbc : b ≠ c) (h1 : 0 < ordEl b a) (h2 : 0 < ordEl c b) : a ≠ c ∧ 0 < ordEl c a := by
  have k1 := (ordEl_pos (Ne.symm hab)).mp h1
  have k2 := (ordEl_pos (Ne.symm hbc)).mp h2
  have hlt : a.1 < c.1 ∨ (a.1 = c.1 ∧ (a.2.1 < c.2.1 ∨ (a.2.1 = c.2.1 ∧ a.2.2 < c.2.2))) := by
    rcases k1 with k1 | ⟨k1, k1'⟩
    · rcases k2 with k2 | ⟨k2, _⟩
      · exact .inl (Nat.lt_trans k1 k2)
      · exact .inl (k2 ▸ k1)
    · rcases k2 with k2 | ⟨k2, k2'⟩
      · exact .inl (k1.symm ▸ k2)
      · refine .inr ⟨k1.trans k2, ?_⟩
        rcases k1' with k1' | ⟨k1', k1''⟩
        · rcases k2' with k2' | ⟨k2', _⟩
          · exact .inl (Nat.lt_trans k1' k2')
          · exact .inl (k2' ▸ k1')
        · rcases k2' with k2' | ⟨k2', k2''⟩
          · exact .inl (k1'.symm ▸ k2')
          · exact .inr ⟨k1'.trans k2', List.lt_trans k1'' k2''⟩
  have hne : a ≠ c := by
    rintro rfl
    rcases hlt with h | ⟨_, h | ⟨_, h⟩⟩
    · exact Nat.lt_irrefl _ h
    · exact Nat.lt_irrefl _ h
    · exact lt_asymm' h h
  exact ⟨hne, (ordEl_pos (Ne.symm hne)).mpr hlt⟩
/-- no ring of three -/
theorem ordRow_trans : ∀ x y z : List El, ordRow x y ≤ 0 → ordRow y z ≤ 0 → ordRow x z ≤ 0
  | [], _, [], _, _ => by simp [ordRow]
  | [], _, _ :: _, _, _ => by simp [ordRow]
  | a :: x, [], _, h, _ => by simp [ordRow] at h
  | a :: x, b :: y, [], _, h => by simp [ordRow] at h
  | a :: x, b :: y, c :: z, h1, h2 => by
    rw [ordRow] at h1 h2 ⊢
    by_cases hab : a = b
    · subst hab
      rw [if_pos rfl] at h1
      by_cases hac : a = c
      · rw [if_pos hac] at h2 ⊢
        exact ordRow_trans x y z h1 h2
      · rw [if_neg hac] at h2 ⊢
        exact h2
    · rw [if_neg hab] at h1
      by_cases hbc : b = c
      · subst hbc
        rw [if_neg hab]
        exact h1
      · rw [if_neg hbc] at h2
        have e1 := ordEl_ne hab
        have e2 := ordEl_ne hbc
        obtain ⟨hne, hp⟩ := ordEl_trans hab hbc (by rw [ordEl_neg a b]; lia) (by rw [ordEl_neg b c]; lia)
        rw [if_neg hne]
        rw [ordEl_neg a c] at hp
        lia
theorem ordRow_self : ∀ x : List El, ordRow x x = 0
  | [] => rfl
  | a :: x => by rw [ordRow, if_pos rfl, ordRow_self x]
end Mine
end
section
open PySem PySem.W PyProof.Rows
namespace Mine
/-! raising the case goes through the rows -/
noncomputable def upEl (e : El) : El := (up e.1, e.2.1, e.2.2)
theorem dwb_up : ∀ l : List Nat, (l.map up).dropWhile blk = (l.dropWhile blk).map up
  | [] => rfl
  | a :: l => by
    rw [List.map_cons, List.dropWhile_cons, List.dropWhile_cons, blk_up]
    cases blk a with
    | true => exact dwb_up l
    | false => rfl
theorem dwd_up : ∀ l : List Nat, (l.map up).dropWhile dig = (l.dropWhile dig).map up
  | [] => rfl
  | a :: l => by
    rw [List.map_cons, List.dropWhile_cons, List.dropWhile_cons, dig_up]
    cases dig a with
    | true => exact dwd_up l
    | false => rfl
theorem skip_up (raw : Bool) (l : List Nat) : skip raw (l.map up) = (skip raw l).map up := by
  cases raw with
  | true => rfl
  | false => exact dwb_up l
theorem up_run (l : List Nat) : upEl (run l) = run l := by
  unfold run
  split <;> rfl
theorem row_up : ∀ (k : Nat) (raw : Bool) (l : List Nat), l.length ≤ k → row raw (l.map up) = (row raw l).map upEl := by
  intro k
  induction k with
  | zero =>
    intro raw l h
    have : l = [] := List.length_eq_zero_iff.mp (by lia)
    subst this
    simp [row_nil]
  | succ k ih =>
    intro raw l h
    by_cases hl : l = []
    · subst hl; simp [row_nil]
    · have hl' : l.map up ≠ [] := by simpa using hl
      have hp : 0 < l.length := List.length_pos_iff.mpr hl
      have hsl := skip_le raw l
      cases hs : skip raw l with
      | nil =>
        rw [row_end hl hs, row_end hl' (by rw [skip_up, hs]; rfl)]
        rfl
      | cons c q =>
        rw [hs] at hsl
        have hs' : skip raw (l.map up) = up c :: q.map up := by rw [skip_up, hs]; rfl
        cases hd : dig c with
        | true =>
          rw [row_dig hs hd, row_dig hs' (by rw [dig_up]; exact hd), List.map_cons, up_run]
          have e1 : (up c :: q.map up).takeWhile dig = (c :: q).takeWhile dig := twd_up (c :: q)
          have e2 : (up c :: q.map up).dropWhile dig = ((c :: q).dropWhile dig).map up := dwd_up (c :: q)
          have hle : ((c :: q).dropWhile dig).length ≤ k := by
            rw [List.dropWhile_cons, if_pos hd]
            have := dropWhile_le (p := dig) q
            rw [List.length_cons] at hsl
            lia
          rw [e1, e2, ih true _ hle]
        | false =>
          rw [row_sign hs hd, row_sign hs' (by rw [dig_up]; exact hd), List.map_cons]
          rw [List.length_cons] at hsl
          rw [ih false q (by lia)]
          rfl
theorem strip_up (l : List Nat) : strip (l.map up) = (strip l).map up := by
  unfold strip
  rw [nZ_up, List.map_drop]
theorem Row_true (l : List Nat) : Row true l = (Row false l).map upEl := by
  unfold Row
  simp only [if_true, Bool.false_eq_true, if_false]
  rw [strip_up, row_up _ false _ (Nat.le_refl _)]
theorem Row_same {l k : List Nat} (h : Row false l = Row false k) (nc : Bool) : Row nc l = Row nc k := by
  cases nc with
  | false => exact h
  | true => rw [Row_true, Row_true, h]
/-! what a row is made of -/
noncomputable def Signs (l : List Nat) : Prop := ∀ c ∈ l, 0 < c ∧ c < 256
inductive Val : Bool → List El → Prop
  | nil (raw : Bool) : Val raw []
  | run {r : List Nat} {t : List El} (hr : Dig1 r) (hd : ∀ c ∈ r, dig c = true) (ht : Val true t) : Val false (run r :: t)
  | sign {raw : Bool} {c : Nat} {t : List El} (h0 : 0 < c) (h1 : c < 256) (hd : dig c = false) (hb : raw = false → blk c = false) (ht : Val false t) : Val raw ((c, 0, []) :: t)
  | fin : Val false [(0, 0, [])]
noncomputable def NoDig (l : List Nat) : Prop := ∀ c q, l = c :: q → dig c = false
theorem dw_nodig : ∀ l : List Nat, NoDig (l.dropWhile dig)
  | [] => fun c q h => by cases h
  | a :: l => by
    rw [List.dropWhile_cons]
    cases h : dig a with
    | true => exact dw_nodig l
    | false =>
      intro c q e
      simp only [Bool.false_eq_true, if_false] at e
      cases e
      exact h
theorem dw_noblk : ∀ (l : List Nat) (c : Nat) (q : List Nat), l.dropWhile blk = c :: q → blk c = false
  | [], c, q, h => by cases h
  | a :: l, c, q, h => by
    rw [List.dropWhile_cons] at h
    cases ha : blk a with
    | true => rw [ha] at h; exact dw_noblk l c q h
    | false => rw [ha] at h; cases h; exact ha
theorem Signs.dw {p : Nat → Bool} {l : List Nat} (h : Signs l) : Signs (l.dropWhile p) := fun c hc => h c ((List.dropWhile_sublist p).subset hc)
theorem tw_all {p : Nat → Bool} : ∀ (l : List Nat), ∀ c ∈ l.takeWhile p, p c = true
  | [], c, h => by cases h
  | a :: l, c, h => by
    rw [List.takeWhile_cons] at h
    cases ha : p a with
    | true =>
      rw [ha] at h
      rcases List.mem_cons.mp h with rfl | h
      · exact ha
      · exact tw_all l c h
    | false => rw [ha] at h; cases h
theorem val_row : ∀ (k : Nat) (raw : Bool) (l : List Nat), l.length ≤ k → Signs l → (raw = true → NoDig l) → Val raw (row raw l) := by
  intro k
  induction k with
  | zero =>
    intro raw l h _ _
    have : l = [] := List.length_eq_zero_iff.mp (by lia)
    subst this
    rw [row_nil]
    exact .nil _
  | succ k ih =>
    intro raw l h hS hN
    by_cases hl : l = []
    · subst hl; rw [row_nil]; exact .nil _
    · have hp : 0 < l.length := List.length_pos_iff.mpr hl
      have hsl := skip_le raw l
      have hSk : Signs (skip raw l) := by
        cases raw with
        | true => exact hS
        | false => exact hS.dw
      cases hs : skip raw l with
      | nil =>
        rw [row_end hl hs]
        cases raw with
        | true => exact absurd hs hl
        | false => exact .fin
      | cons c q =>
        rw [hs] at hsl hSk
        rw [List.length_cons] at hsl
        cases hd : dig c with
        | true =>
          cases raw with
          | true => rw [hN rfl c q hs] at hd; cases hd
          | false =>
            rw [row_dig hs hd]
            have hle : ((c :: q).dropWhile dig).length ≤ k := by
              rw [List.dropWhile_cons, if_pos hd]
              have := dropWhile_le (p := dig) q
              lia
            refine .run ⟨c, q.takeWhile dig, by rw [List.takeWhile_cons, if_pos hd], hd⟩ (tw_all _) (ih true _ hle hSk.dw fun _ => dw_nodig _)
        | false =>
          rw [row_sign hs hd]
          refine .sign (hSk c (.head _)).1 (hSk c (.head _)).2 hd ?_ (ih false q (by lia) (fun d hd => hSk d (.tail _ hd)) fun e => nomatch e)
          rintro rfl
          exact dw_noblk _ _ _ hs
theorem val_Row {l : List Nat} (h : Signs l) : Val false (Row false l) := by
  unfold Row
  simp only [Bool.false_eq_true, if_false]
  exact val_row _ false _ (Nat.le_refl _) (fun c hc => h c (List.mem_of_mem_drop hc)) fun e => nomatch e
end Mine
end
section
open PySem PySem.W PyProof.Rows
namespace Mine
noncomputable def Gap (g : List Nat) : Prop := ∀ c ∈ g, blk c = true
theorem gap_nil : Gap [] := fun _ h => nomatch h
theorem dwb_gap {g l : List Nat} (h : Gap g) : (g ++ l).dropWhile blk = l.dropWhile blk := by
  induction g with
  | nil => rfl
  | cons a g ih =>
    rw [List.cons_append, List.dropWhile_cons, if_pos (h a (.head _))]
    exact ih fun c hc => h c (.tail _ hc)
theorem dig_blk {c : Nat} (h : dig c = true) : blk c = false := by
  have := dig_b h
  rw [← Bool.not_eq_true]
  simp [blk]
  lia
theorem blk_dig {c : Nat} (h : blk c = true) : dig c = false := by
  cases hd : dig c with
  | false => rfl
  | true => rw [dig_blk hd] at h; cases h
theorem s_run {g r z : List Nat} (hg : Gap g) (hr : Dig1 r) (hd : ∀ c ∈ r, dig c = true) (hz : NoDig z) : row false (g ++ (r ++ z)) = run r :: row true z := by
  obtain ⟨c, q, rfl, hc⟩ := hr
  have hs : skip false (g ++ (c :: q ++ z)) = c :: (q ++ z) := by
    show (g ++ (c :: q ++ z)).dropWhile blk = _
    rw [dwb_gap hg, List.cons_append, List.dropWhile_cons, dig_blk hc]
    rfl
  have tw : ∀ (k : List Nat), (∀ c ∈ k, dig c = true) → (k ++ z).takeWhile dig = k ∧ (k ++ z).dropWhile dig = z := by
    intro k
    induction k with
    | nil =>
      intro _
      cases z with
      | nil => exact ⟨rfl, rfl⟩
      | cons a y =>
        have := hz a y rfl
        rw [List.nil_append, List.takeWhile_cons, List.dropWhile_cons, this]
        exact ⟨rfl, rfl⟩
    | cons a k ih =>
      intro h
      obtain ⟨i1, i2⟩ := ih fun c hc => h c (.tail _ hc)
      rw [List.cons_append, List.takeWhile_cons, List.dropWhile_cons, if_pos (h a (.head _)), if_pos (h a (.head _)), i1, i2]
      exact ⟨rfl, rfl⟩
  obtain ⟨t1, t2⟩ := tw (c :: q) hd
  rw [row_dig hs hc]
  rw [List.cons_append] at t1 t2
  rw [t1, t2]
theorem s_sign {raw : Bool} {g z : List Nat} {c : Nat} (hg : Gap g) (hr : raw = true → g = []) (hd : dig c = false) (hb : raw = false → blk c = false) : row raw (g ++ (c :: z)) = (c, 0, []) :: row false z := by
  refine row_sign ?_ hd
  cases raw with
  | true => rw [hr rfl]; rfl
  | false =>
    show (g ++ (c :: z)).dropWhile blk = _
    rw [dwb_gap hg, List.dropWhile_cons, hb rfl]
    rfl
theorem s_fin {b : List Nat} (hb : Gap b) (hn : b ≠ []) : row false b = [(0, 0, [])] := by
  refine row_end hn ?_
  show b.dropWhile blk = []
  have := dwb_gap (l := []) hb
  rwa [List.append_nil] at this
theorem strip_ne {c : Nat} {q : List Nat} (h : c ≠ 48) : strip (c :: q) = c :: q := by
  rw [strip, nZ_cons, if_neg (fun e => h e.1)]
  rfl
theorem strip_gap {g l : List Nat} (hg : Gap g) (hn : g ≠ []) : strip (g ++ l) = g ++ l := by
  cases g with
  | nil => exact absurd rfl hn
  | cons a g =>
    have h1 := blk_dig (hg a (.head _))
    exact strip_ne (fun e => by subst e; exact absurd h1 (by decide))
theorem strip_zeros {l : List Nat} (k : Nat) (h1 : dA l 0 = true) (h2 : nZ l = 0) : strip (List.replicate k 48 ++ l) = l := by
  have hz : ∀ k, nZ (List.replicate k 48 ++ l) = k ∧ dA (List.replicate k 48 ++ l) 0 = true := by
    intro k
    induction k with
    | zero => exact ⟨h2, h1⟩
    | succ k ih =>
      rw [List.replicate_succ, List.cons_append]
      refine ⟨?_, ?_⟩
      · rw [nZ_cons, if_pos ⟨rfl, ih.2⟩, ih.1]
      · unfold dA; rfl
  rw [strip, (hz k).1]
  simp
/-- what the spelling has so far -/
noncomputable def SpI (R post : List El) (m : List Nat) (raw : Bool) : Prop :=
  (m = [] ∧ raw = false ∧ post = R) ∨ (m ≠ [] ∧ ∀ z, row raw z = post → (raw = true → NoDig z) → row false (strip (m ++ z)) = R)
theorem sp_start {R : List El} : SpI R R [] false := .inl ⟨rfl, rfl, rfl⟩
theorem sp_end {R : List El} {m : List Nat} {raw : Bool} (h : SpI R [] m raw) : row false (strip m) = R := by
  rcases h with ⟨rfl, rfl, rfl⟩ | ⟨_, h⟩
  · exact row_nil _
  · have := h [] (row_nil _) (fun _ _ _ e => nomatch e)
    rwa [List.append_nil] at this
theorem dig1_ne {r : List Nat} (h : Dig1 r) : r ≠ [] := by
  obtain ⟨c, q, rfl, _⟩ := h
  exact List.cons_ne_nil _ _
/-- a run behind blanks, or behind what stands -/
theorem sp_run {R t : List El} {m g r : List Nat} (h : SpI R (run r :: t) m false) (hg : Gap g) (hn : m ≠ [] ∨ g ≠ []) (hr : Dig1 r) (hd : ∀ c ∈ r, dig c = true) : SpI R t (m ++ g ++ r) true := by
  refine .inr ⟨by have := dig1_ne hr; simp [this], fun z hz hN => ?_⟩
  have hrow := s_run hg hr hd (hN rfl)
  rw [hz] at hrow
  rcases h with ⟨rfl, _, rfl⟩ | ⟨_, h⟩
  · have hgn : g ≠ [] := hn.resolve_left fun e => e rfl
    rw [List.nil_append, List.append_assoc, strip_gap hg hgn]
    exact hrow
  · have := h (g ++ (r ++ z)) hrow (fun e => nomatch e)
    rw [List.append_assoc, List.append_assoc]
    exact this
/-- a run at the very beginning, with noughts ahead -/
theorem sp_run0 {R t : List El} {r : List Nat} (k : Nat) (h : SpI R (run r :: t) [] false) (hr : Dig1 r) (hd : ∀ c ∈ r, dig c = true) (h0 : r.head? ≠ some 48 ∨ r = [48]) : SpI R t (List.replicate k 48 ++ r) true := by
  refine .inr ⟨by have := dig1_ne hr; simp [this], fun z hz hN => ?_⟩
  have hrow := s_run gap_nil hr hd (hN rfl)
  rw [hz, List.nil_append] at hrow
  have hR : run r :: t = R := by
    rcases h with ⟨_, _, e⟩ | ⟨e, _⟩
    · exact e
    · exact absurd rfl e
  obtain ⟨c, q, rfl, hc⟩ := hr
  rw [List.append_assoc, strip_zeros k]
  · rw [hrow]; exact hR
  · unfold dA; simpa using hc
  · rw [List.cons_append, nZ_cons, if_neg]
    rintro ⟨rfl, h2⟩
    rcases h0 with h0 | h0
    · exact h0 rfl
    · cases h0
      rw [List.nil_append] at h2
      have hN' := hN rfl
      cases z with
      | nil => simp [dA] at h2
      | cons a y =>
        rw [dA] at h2
        have := hN' a y rfl
        simp [this] at h2
/-- a sign -/
theorem sp_sign {R t : List El} {m g : List Nat} {raw : Bool} {c : Nat} (h : SpI R ((c, 0, []) :: t) m raw) (hg : Gap g) (hr : raw = true → g = []) (hd : dig c = false) (hb : raw = false → blk c = false) : SpI R t (m ++ g ++ [c]) false := by
  refine .inr ⟨by simp, fun z hz _ => ?_⟩
  have hrow := s_sign (z := z) hg hr hd hb
  rw [hz] at hrow
  have e : m ++ g ++ [c] ++ z = m ++ (g ++ (c :: z)) := by simp
  rw [e]
  rcases h with ⟨rfl, rfl, rfl⟩ | ⟨_, h⟩
  · rw [List.nil_append]
    have hs : strip (g ++ (c :: z)) = g ++ (c :: z) := by
      cases g with
      | nil => exact strip_ne (fun e => by subst e; exact absurd hd (by decide))
      | cons a g => exact strip_gap hg (List.cons_ne_nil _ _)
    rw [hs]
    exact hrow
  · refine h _ hrow fun hraw => ?_
    rw [hr hraw]
    intro d q e
    cases e
    exact hd
/-- the blanks at the end -/
theorem sp_fin {R : List El} {m b : List Nat} (h : SpI R [(0, 0, [])] m false) (hb : Gap b) (hn : b ≠ []) : SpI R [] (m ++ b) false := by
  refine .inr ⟨by simp [hn], fun z hz _ => ?_⟩
  have hz' : z = [] := by
    cases z with
    | nil => rfl
    | cons a y => exact absurd hz (row_ne (List.cons_ne_nil _ _))
  subst hz'
  rw [List.append_nil]
  have hrow := s_fin hb hn
  rcases h with ⟨rfl, _, rfl⟩ | ⟨_, h⟩
  · have := strip_gap (l := []) hb hn
    rw [List.append_nil] at this
    rw [List.nil_append, this]
    exact hrow
  · exact h b hrow fun e => nomatch e
/-- how long it may grow -/
noncomputable def Wt : List El → Nat
  | [] => 0
  | e :: t => 5 + e.2.2.length + Wt t
theorem run_len (r : List Nat) : (run r).2.2 = r := by unfold run; split <;> rfl
theorem wt_row : ∀ (k : Nat) (raw : Bool) (l : List Nat), l.length ≤ k → Wt (row raw l) ≤ 6 * l.length := by
  intro k
  induction k with
  | zero =>
    intro raw l h
    have : l = [] := List.length_eq_zero_iff.mp (by lia)
    subst this
    rw [row_nil]; simp [Wt]
  | succ k ih =>
    intro raw l h
    by_cases hl : l = []
    · subst hl; rw [row_nil]; simp [Wt]
    · have hp : 0 < l.length := List.length_pos_iff.mpr hl
      have hsl := skip_le raw l
      cases hs : skip raw l with
      | nil => rw [row_end hl hs]; simp [Wt]; lia
      | cons c q =>
        rw [hs] at hsl
        cases hd : dig c with
        | true =>
          rw [row_dig hs hd, Wt, run_len]
          have e : ((c :: q).takeWhile dig).length + ((c :: q).dropWhile dig).length = (c :: q).length := by
            rw [← List.length_append, List.takeWhile_append_dropWhile]
          have e1 : 1 ≤ ((c :: q).takeWhile dig).length := by rw [List.takeWhile_cons, if_pos hd, List.length_cons]; lia
          have := ih true ((c :: q).dropWhile dig) (by lia)
          lia
        | false =>
          rw [row_sign hs hd, Wt]
          rw [List.length_cons] at hsl
          have := ih false q (by lia)
          simp only [List.length_nil]
          lia
theorem wt_Row {l : List Nat} : Wt (Row false l) ≤ 6 * l.length := by
  unfold Row
  simp only [Bool.false_eq_true, if_false]
  have h := wt_row _ false (strip l) (Nat.le_refl _)
  have : (strip l).length ≤ l.length := by unfold strip; rw [List.length_drop]; lia
  lia
end Mine
end
section
open PySem PySem.W PyProof.Rows PySem.Spec
namespace Mine
section
variable {prog : Program} {w : World} {A : Around} {s : Shared} {env : Env} {h₀ : Heap}
/-- a for with any target over any walk; what a turn makes stands in its own ledger -/
theorem forLoopT {R : Result → Shared → Prop} {tgt : Expr} {body : List Stmt} {I : Addr} {fp wr : List Addr} {n : Nat} {P : Nat → Value → Prop} {St : Nat → Heap → Prop} {m : Str → Option Value}
    {news : List (Addr × Obj)} (W : Walks prog w A I fp wr n P St)
    (hLf : env.locals ∉ fp) (hwr : ∀ b ∈ wr, h₀.get? b = none) (hnw : ∀ p ∈ news, p.1 ∉ wr)
    (hst : St 0 s.heap) (F : Fr h₀ env.locals s.heap m) (N : News h₀ env.locals s.heap news)
    (J : Nat → (Str → Option Value) → List (Addr × Obj) → Prop) (h0 : J 0 m news)
    (step : ∀ i v m₁ news₁ s₁ own, (∃ h tk, s₁ = { s with heap := h, toks := tk }) → i < n → P i v → J i m₁ news₁ → (∀ p ∈ news₁, p.1 ∉ wr) → (∀ p ∈ own, p.1 ∈ fp) → (∀ p ∈ own, s₁.heap.get? p.1 = some p.2) → (∀ b ∈ fp, h₀.get? b = none → ∀ o, s₁.heap.get? b = some o → (b, o) ∈ own) → St (i + 1) s₁.heap →
      Fr h₀ env.locals s₁.heap m₁ → News h₀ env.locals s₁.heap (own ++ news₁) →
      wpAny (model prog w) A (assign tgt env v) (fun _ s₂ => wpAny (model prog w) A (execs body env) (LoopStepV h₀ env.locals wr own (J (i + 1)) s₁ (fun v s' => R (.ok (.ret v)) s') fun s' => R (.ok .next) s') (notedBy (model prog w) A env fun e s' => R (.error e) s') s₂) (notedBy (model prog w) A env fun e s' => R (.error e) s') s₁)
    (hgo : ∀ i v s₁ (E : Value → Shared → Prop) (Q : Unit → Shared → Prop), P i v → St (i + 1) s₁.heap → Q () s₁ → wpAny (model prog w) A (letOwnedTupleGo tgt (.ref I) v) Q E s₁)
    (hR : ∀ h' tk m' news', Fr h₀ env.locals h' m' → News h₀ env.locals h' news' → (∀ p ∈ news', p.1 ∉ wr) → J n m' news' → R (.ok .next) { s with heap := h', toks := tk }) :
    codeAny (model prog w) A (.forLoop tgt (.ref I) body [] env) R s := by
  have hLw : env.locals ∉ wr := fun h => hLf (W.sub _ h)
  have old : ∀ b o, h₀.get? b = some o → b ∉ wr := fun b o e hb => by rw [hwr b hb] at e; cases e
  refine codeAny_forLoop_any
    (fun k s' => ∃ h' tk m' news' i, s' = { s with heap := h', toks := tk } ∧ St i h' ∧ Fr h₀ env.locals h' m' ∧ News h₀ env.locals h' news' ∧ (∀ p ∈ news', p.1 ∉ wr) ∧ J i m' news' ∧ i ≤ n ∧ k = n + 1 - i) ?_ (n + 1)
    ⟨s.heap, s.toks, m, news, 0, rfl, hst, F, N, hnw, h0, Nat.zero_le _, rfl⟩
  rintro k s' ⟨h', tk, m', news', i, rfl, hst', F', N', hnw', hJ, hi, rfl⟩
  have next : ∀ h₁ : Heap, (∀ b o, b ∉ wr → h'.get? b = some o → h₁.get? b = some o) → Fr h₀ env.locals h₁ m' ∧ News h₀ env.locals h₁ news' := fun h₁ hk₁ =>
    ⟨⟨F'.ns.at' fun o e => hk₁ _ o hLw e, fun b o e => hk₁ b o (old b o e) (F'.keep b o e), F'.above⟩, fun p hp => ⟨hk₁ _ _ (hnw' p hp) (N' p hp).1, (N' p hp).2⟩⟩
  by_cases hlt : i < n
  · refine W.item i _ _ _ hlt hst' fun v h₁ tk₁ hP hst₁ hk₁ => ?_
    obtain ⟨F₁, N₁⟩ := next h₁ hk₁
    have Nown : News h₀ env.locals h₁ (ownOf h₀ fp h₁) := news_ownOf hLf
    refine hgo i v _ _ _ hP hst₁ ?_
    refine wpAny_mono (step i v m' news' ⟨h₁, s.gens, s.drawn, tk₁, s.os⟩ (ownOf h₀ fp h₁) ⟨_, _, rfl⟩ hlt hP hJ hnw' ownOf_sub (fun p hp => (Nown p hp).1) (fun b hb hn o e => mem_ownOf hb hn e) hst₁ F₁ (Nown.append N₁)) (fun _ s₂ h₂ => ?_) fun _ _ e => e
    refine wpAny_mono h₂ (fun f s₃ h₃ => ?_) fun _ _ e => e
    have back : ∀ {h₃' : Heap} {m₂ : Str → Option Value} {news₂ : List (Addr × Obj)}, Fr h₀ env.locals h₃' m₂ → News h₀ env.locals h₃' (ownOf h₀ fp h₁ ++ news₂) → St (i + 1) h₃' := by
      intro h₃' m₂ news₂ F₃ N₃
      refine W.frame _ _ _ hst₁ fun b hb o e => ?_
      cases hn : h₀.get? b with
      | some o₀ =>
        have : o₀ = o := by have := F₁.keep b o₀ hn; rw [e] at this; exact (Option.some.inj this).symm
        exact this ▸ F₃.keep b o₀ hn
      | none => exact (N₃ _ (List.mem_append_left _ (mem_ownOf hb hn e))).1
    cases f with
    | ret v => exact h₃
    | brk => exact h₃
    | cont =>
      obtain ⟨_, h₃', tk₃, m₂, news₂, rfl, F₃, N₃, ha₃, hJ₃⟩ := h₃
      exact ⟨n + 1 - (i + 1), by lia, h₃', tk₃, m₂, news₂, i + 1, rfl, back F₃ N₃, F₃, N₃.right, ha₃, hJ₃, hlt, rfl⟩
    | next =>
      obtain ⟨_, h₃', tk₃, m₂, news₂, rfl, F₃, N₃, ha₃, hJ₃⟩ := h₃
      exact ⟨n + 1 - (i + 1), by lia, h₃', tk₃, m₂, news₂, i + 1, rfl, back F₃ N₃, F₃, N₃.right, ha₃, hJ₃, hlt, rfl⟩
  · have hin : i = n := by lia
    subst hin
    refine W.done _ _ _ hst' fun h₁ tk₁ hk₁ => wpAny_execs_nil ?_
    obtain ⟨F₁, N₁⟩ := next h₁ hk₁
    exact hR h₁ tk₁ m' news' F₁ N₁ hnw' hJ

noncomputable def RowEnd (h₀ : Heap) (Lo : Addr) (J : (Str → Option Value) → List (Addr × Obj) → Prop) (own : List (Addr × Obj)) (s₁ : Shared) (Q : Flow → Shared → Prop) (f : Flow) (s₂ : Shared) : Prop := InvPostG h₀ Lo J own s₁ Q f s₂
/-- for a, b, .. in xs: xs a list of the ledger that holds refs -/
theorem forRows {elts : List Expr} {kk : Nat} {tp pos : Pos} {iter : Expr} {body : List Stmt} {Q : Flow → Shared → Prop} {E : Value → Shared → Prop} {l : Addr} {vs : List Value} {nn : Nat} {m₀ : Str → Option Value} {news : List (Addr × Obj)} (J : Nat → (Str → Option Value) → List (Addr × Obj) → Prop)
    (hh : A.handled = none) (hrefs : ∀ v ∈ vs, ∃ a, v = .ref a)
    (h : wpAny (model prog w) A (eval iter env) (fun xv s₁ => xv = .ref l ∧ (∃ h tk, s₁ = { s with heap := h, toks := tk }) ∧ (l, listOf vs.toArray nn) ∈ news ∧ Fr h₀ env.locals s₁.heap m₀ ∧ News h₀ env.locals s₁.heap news ∧ J 0 m₀ news) E s)
    (turn : ∀ i v m₁ news₁ h tk own, vs[i]? = some v → OwnOff own (news₁.map (·.1)) → (l, listOf vs.toArray nn) ∈ news₁ → J i m₁ news₁ → Fr h₀ env.locals h m₁ → News h₀ env.locals h (news₁ ++ own) →
      wpAny (model prog w) A (assign (.Tuple elts kk tp) env v) (fun _ s₂ => wpAny (model prog w) A (execs body env) (InvPostG h₀ env.locals (fun m' nx => (l, listOf vs.toArray nn) ∈ nx ∧ J (i + 1) m' nx) own { s with heap := h, toks := tk } Q) E s₂) E { s with heap := h, toks := tk })
    (done : ∀ m₁ news₁ h tk, J vs.length m₁ news₁ → Fr h₀ env.locals h m₁ → News h₀ env.locals h news₁ → Q .next { s with heap := h, toks := tk })
    (hs : ∀ x, foldedSetIterable iter env x = pure x := by intro _; rfl)
    (hE : PassesOwn (model prog w) A env E := by passes_own) :
    wpAny (model prog w) A (exec (.For (.Tuple elts kk tp) iter body [] pos) env) Q E s := by
  refine wpAny_For (wpAny_mono h (fun xv s₁ h₁ => ?_) fun _ _ e => e) hs
  obtain ⟨rfl, ⟨hh1, tk1, rfl⟩, hl, F, N, hj⟩ := h₁
  have hol : hh1.get? l = some (listOf vs.toArray nn) := (N _ hl).1
  have hls : hh1.IsList l vs.toArray := ⟨_, hol, rfl, nn, rfl⟩
  have hne : l ≠ hh1.objs.size := Nat.ne_of_lt (Heap.lt_size hol)
  refine wpAny_pyIter_list hls ?_
  have W := Walks.list (prog := prog) (w := w) hh hh1.objs.size l hne vs.toArray
  have hlen : vs.toArray.size = vs.length := by simp
  rw [hlen] at W
  have old : ∀ p ∈ news, p.1 ∉ [hh1.objs.size] := fun p hp hI => absurd (Heap.lt_size (N p hp).1) ((List.mem_singleton.mp hI) ▸ Nat.lt_irrefl _)
  refine forLoopT (R := fun r s' => match r with | .ok f => Q f s' | .error e => cameBackBy (model prog w) A env E e s') W ?_ ?_ old ⟨⟨_, Heap.get?_push_size _ rfl, rfl, rfl⟩, hls.at fun o e => Heap.get?_push_of_some _ e⟩ (F.push _) (fun p hp => ⟨Heap.get?_push_of_some _ (N p hp).1, (N p hp).2⟩) (fun i m nx => (l, listOf vs.toArray nn) ∈ nx ∧ J i m nx) ⟨hl, hj⟩ ?_ ?_ ?_
  · intro hm
    rcases List.mem_cons.mp hm with e | hm
    · exact absurd F.ns.lt (e ▸ Nat.lt_irrefl _)
    · exact (N _ hl).2.1 ((List.mem_singleton.mp hm).symm)
  · intro b hb
    rw [List.mem_singleton.mp hb]
    exact next_is_new F
  · rintro i v m₁ news₁ s₁ own ⟨hh', tk', rfl⟩ hin hP ⟨hl₁, hJ⟩ hoff hown hget hfp hst F₁ N₁
    have hP' : vs[i]? = some v := by simpa using hP
    have hI0 : h₀.get? hh1.objs.size = none := next_is_new F
    obtain ⟨⟨oI, hoI, _⟩, _⟩ := id hst
    have hIown : (hh1.objs.size, oI) ∈ own.filter fun p => decide (p.1 = hh1.objs.size) := List.mem_filter.mpr ⟨hfp _ (List.mem_cons.mpr (.inl rfl)) hI0 _ hoI, by simp⟩
    have hsep : OwnOff (own.filter fun p => decide (p.1 = hh1.objs.size)) (news₁.map (·.1)) := by
      intro p hp b hb e
      obtain ⟨q, hq, rfl⟩ := List.mem_map.mp hb
      have h1 : p.1 = hh1.objs.size := by simpa using (List.mem_filter.mp hp).2
      exact hoff q hq (List.mem_singleton.mpr (e ▸ h1))
    have N₂ : News h₀ env.locals hh' (news₁ ++ own.filter fun p => decide (p.1 = hh1.objs.size)) := fun p hp => N₁ p ((List.mem_append.mp hp).elim (fun h => List.mem_append.mpr (.inr h)) fun h => List.mem_append.mpr (.inl ((List.mem_filter.mp h).1)))
    have hlo : hh'.get? l = some (listOf vs.toArray nn) := (N₁ _ (List.mem_append.mpr (.inr hl₁))).1
    refine wpAny_mono (wpAny_passesOwn hE (turn i v m₁ news₁ hh' tk' _ hP' hsep hl₁ hJ F₁ N₂)) (fun _ s₂ q => ?_) fun _ _ e => e
    refine wpAny_mono (wpAny_passesOwn hE q) (fun f s₂ p => ?_) fun _ _ e => e
    have fin : InvEndG h₀ env.locals (fun m' nx => (l, listOf vs.toArray nn) ∈ nx ∧ J (i + 1) m' nx) (own.filter fun p => decide (p.1 = hh1.objs.size)) { s with heap := hh', toks := tk' } s₂ →
        LoopStepU h₀ env.locals [hh1.objs.size] own (fun m nx => (l, listOf vs.toArray nn) ∈ nx ∧ J (i + 1) m nx) { s with heap := hh', toks := tk' } .next s₂ := by
      rintro ⟨h', tk, m', news', nx, e, F', N', hn, ho, ha, hm⟩
      refine ⟨rfl, h', tk, m', nx, e, F', fun p hp => ?_, fun p hp hq => ?_, hm⟩
      · rcases List.mem_append.mp hp with h | h
        · by_cases hI : p.1 = hh1.objs.size
          · exact N' p (ho p (List.mem_filter.mpr ⟨h, by simpa using hI⟩))
          · have h1 : p.1 = l := by
              rcases List.mem_cons.mp (hown p h) with h2 | h2
              · exact absurd h2 hI
              · exact List.mem_singleton.mp h2
            have h2 : hh'.get? p.1 = some p.2 := hget p h
            rw [h1, hlo] at h2
            have h3 : p = (l, listOf vs.toArray nn) := Prod.ext h1 (Option.some.inj h2).symm
            rw [h3]
            exact N' _ (hn _ hm.1)
        · exact N' p (hn p h)
      · exact ha _ hIown p.1 (List.mem_map.mpr ⟨p, hp, rfl⟩) (List.mem_singleton.mp hq).symm
    cases f with
    | ret v => exact .ret p
    | brk => exact .brk p
    | next => exact .next (fin p)
    | cont => exact .cont (fin p)
  · intro i v s₁ E' Q' hP hst hq
    have hP' : vs[i]? = some v := by simpa using hP
    obtain ⟨T, rfl⟩ := hrefs v (List.mem_of_getElem? hP')
    exact wpAny_letOwnedTupleGo_listiter hst.1 hq
  · rintro h' tk m' news' F' N' _ ⟨_, hJ⟩
    exact done m' news' h' tk hJ F' N'
theorem forRows2 {elts : List Expr} {kk : Nat} {tp pos : Pos} {iter : Expr} {body : List Stmt} {Q : Flow → Shared → Prop} {E : Value → Shared → Prop} {l : Addr} {vs : List Value} {nn : Nat} {m₀ : Str → Option Value} {news news₀ : List (Addr × Obj)} (J : (Str → Option Value) → Nat → (Str → Option Value) → List (Addr × Obj) → Prop)
    (hh : A.handled = none) (hrefs : ∀ v ∈ vs, ∃ a, v = .ref a) (F : Fr h₀ env.locals s.heap m₀) (N : News h₀ env.locals s.heap news₀) (hsub : ∀ p ∈ news, p ∈ news₀) (hl : (l, listOf vs.toArray nn) ∈ news) (hj : J m₀ 0 m₀ news)
    (h : ∀ Q' : Value → Shared → Prop, Q' (.ref l) s → wpAny (model prog w) A (eval iter env) Q' E s)
    (turn : ∀ i v m₁ news₁ h tk own, vs[i]? = some v → OwnOff own (news₁.map (·.1)) → (l, listOf vs.toArray nn) ∈ news₁ → J m₀ i m₁ news₁ → Fr h₀ env.locals h m₁ → News h₀ env.locals h (news₁ ++ own) →
      wpAny (model prog w) A (assign (.Tuple elts kk tp) env v) (fun _ s₂ => wpAny (model prog w) A (execs body env) (InvPostG h₀ env.locals (fun m' nx => (l, listOf vs.toArray nn) ∈ nx ∧ J m₀ (i + 1) m' nx) own { s with heap := h, toks := tk } Q) E s₂) E { s with heap := h, toks := tk })
    (done : ∀ m₁ news₁ h tk, J m₀ vs.length m₁ news₁ → Fr h₀ env.locals h m₁ → News h₀ env.locals h news₁ → Q .next { s with heap := h, toks := tk })
    (hs : ∀ x, foldedSetIterable iter env x = pure x := by intro _; rfl)
    (hE : PassesOwn (model prog w) A env E := by passes_own) :
    wpAny (model prog w) A (exec (.For (.Tuple elts kk tp) iter body [] pos) env) Q E s :=
  forRows (J m₀) hh hrefs (h _ ⟨rfl, ⟨s.heap, s.toks, rfl⟩, hl, F, fun p hp => N p (hsub p hp), hj⟩) turn done hs hE
end
end Mine
end
section
open PySem PySem.W PyProof.Rows
namespace Mine
/-- a pen: a list of ints, at least one -/
theorem news_to_head {h₀ h : Heap} {Lo : Addr} {q : Addr × Obj} {a l : List (Addr × Obj)} (N : News h₀ Lo h (a ++ q :: l)) : News h₀ Lo h (q :: (a ++ l)) := fun p hp => N p (by
  rcases List.mem_cons.mp hp with rfl | hp
  · exact List.mem_append.mpr (.inr (.head _))
  · rcases List.mem_append.mp hp with h | h
    · exact List.mem_append.mpr (.inl h)
    · exact List.mem_append.mpr (.inr (.tail _ h)))
theorem head_to_news {h₀ h : Heap} {Lo : Addr} {q : Addr × Obj} {a l : List (Addr × Obj)} (N : News h₀ Lo h (q :: (a ++ l))) : News h₀ Lo h (a ++ q :: l) := fun p hp => N p (by
  rcases List.mem_append.mp hp with h | h
  · exact .tail _ (List.mem_append.mpr (.inl h))
  · rcases List.mem_cons.mp h with rfl | h
    · exact .head _
    · exact .tail _ (List.mem_append.mpr (.inr h)))
theorem wt_cons {e : El} {t : List El} : Wt (e :: t) = 5 + e.2.2.length + Wt t := rfl
/-- what Val says of the first piece -/
theorem val_inv {raw : Bool} {e : El} {t : List El} (h : Val raw (e :: t)) :
    (raw = false ∧ Dig1 e.2.2 ∧ (∀ c ∈ e.2.2, dig c = true) ∧ e = run e.2.2 ∧ e.1 ≠ 0 ∧ Val true t) ∨
    (e.2.2 = [] ∧ e.2.1 = 0 ∧ 0 < e.1 ∧ e.1 < 256 ∧ dig e.1 = false ∧ (raw = false → blk e.1 = false) ∧ Val false t) ∨
    (raw = false ∧ e = (0, 0, []) ∧ t = []) := by
  cases h with
  | run hr hd ht =>
    refine .inl ⟨rfl, ?_, ?_, ?_, ?_, ht⟩
    · rw [run_len]; exact hr
    · rw [run_len]; exact hd
    · rw [run_len]
    · unfold run; split <;> simp
  | sign h0 h1 hd hb ht => exact .inr (.inl ⟨rfl, rfl, h0, h1, hd, hb, ht⟩)
  | fin => exact .inr (.inr ⟨rfl, rfl, rfl⟩)
theorem name_row {h₀ h : Heap} {Lo R : Addr} {ws : List Value} {n : Nat} {tl l : List (Addr × Obj)} {ds : List Dat} (_N : News h₀ Lo h ((R, listOf ws.toArray n) :: (tl ++ l))) (_D : DatAll tl ws ds) : ∃ R' ws' n' tl', R' = R ∧ ws' = ws ∧ n' = n ∧ tl' = tl := ⟨_, _, _, _, rfl, rfl, rfl, rfl⟩
theorem rows_refs {tl : List (Addr × Obj)} {ws : List Value} {es : List El} (D : DatAll tl ws (es.map elD)) : ∀ v ∈ ws, ∃ a, v = .ref a := by
  intro v hv
  obtain ⟨i, hi, rfl⟩ := List.getElem_of_mem hv
  obtain ⟨e, _, hd⟩ := rows_at D hi
  obtain ⟨a, _, _, _, _, h, _⟩ := elD_inv hd
  exact ⟨a, h⟩
/-- the state between two turns -/
noncomputable def SpJ (P R : Addr) (ws : List Value) (n : Nat) (tl rest : List (Addr × Obj)) (es : List El) (m₀ : Str → Option Value) (stored : List Str) (i : Nat) (m : Str → Option Value) (nx : List (Addr × Obj)) : Prop :=
  ∃ (pv : List Value) (pn : Nat) (made : Str) (tm : Tok) (raw : Bool) (u : Str → Option Value), 1 ≤ pv.length ∧ pv.length ≤ 7 ∧ (∀ v ∈ pv, ∃ i t, v = Value.int i t) ∧
    nx = (P, listOf pv.toArray pn) :: (R, listOf ws.toArray n) :: (tl ++ rest) ∧
    m = kstB (fun z => if stored.contains z then u z else m₀ z) [(Str.ofString "made", .str made tm), (Str.ofString "is_raw", .bool raw)] ∧
    SpI es (es.drop i) (L made) raw ∧ Val raw (es.drop i) ∧ made.length + Wt (es.drop i) ≤ Wt es
theorem sp_sub {R D P : Addr × Obj} {tl rest : List (Addr × Obj)} : ∀ p ∈ P :: R :: (tl ++ rest), p ∈ R :: (tl ++ (D :: P :: rest)) := by
  intro p hp
  rcases List.mem_cons.mp hp with rfl | hp
  · exact .tail _ (List.mem_append.mpr (.inr (.tail _ (.head _))))
  · rcases List.mem_cons.mp hp with rfl | hp
    · exact .head _
    · rcases List.mem_append.mp hp with h | h
      · exact .tail _ (List.mem_append.mpr (.inl h))
      · exact .tail _ (List.mem_append.mpr (.inr (.tail _ (.tail _ h))))
theorem kst_form {ps : List (Str × Value)} {stored : List Str} {m₀ m₁ : Str → Option Value} (h1 : ∀ p ∈ ps, m₁ p.1 = some p.2) (h2 : ∀ z, (∀ p ∈ ps, z ≠ p.1) → stored.contains z = false → m₁ z = m₀ z) :
    m₁ = kstB (fun z => if stored.contains z then m₁ z else m₀ z) ps := by
  funext y
  refine (kstB_eq h1 fun hn => ?_).symm
  show (if stored.contains y = true then m₁ y else m₀ y) = m₁ y
  cases h3 : stored.contains y with
  | true => simp
  | false => simp only [Bool.false_eq_true, if_false]; exact (h2 y hn h3).symm
theorem empty_str : L (Str.ofString "") = [] := emptyL
theorem drop_row {es : List El} {i : Nat} {e : El} (h : es[i]? = some e) : es.drop i = e :: es.drop (i + 1) := drop_el h
end Mine
end
section
open PySem PySem.W PyProof.Rows
namespace Mine
theorem item_prop {prog : Program} {w : World} {A : Around} {E : Value → Shared → Prop} {s : Shared} {value slice : PySem.Expr} {h₀ : Heap} {Lo l : Addr} {vs : Array Value} {n : Nat} {news : List (Addr × Obj)} {i : Int} {u : Tok} {Q : Value → Shared → Prop} (p : Str → Prop)
    (N : News h₀ Lo s.heap news) (hm : (l, listOf vs n) ∈ news) (hv : ∀ v ∈ vs.toList, ∃ x t, v = .str x t ∧ p x) (h0 : 0 ≤ i) (h1 : i < (vs.size : Int)) (hz : vs.size ≤ 1000) (h : ∀ x t, p x → Q (.str x t) s)
    (hs : subscripted slice false (.ref l) (.int i u) = operate [.ref l, .int i u] (getItem (.ref l) (.int i u)) := by with_unfolding_all rfl) :
    wpAny (model prog w) A (subscriptTail value slice (.ref l) (.int i u)) Q E s := by
  have hl : s.heap.IsList l vs := ⟨_, (N _ hm).1, rfl, n, rfl⟩
  have hlt : i.toNat < vs.size := by lia
  obtain ⟨x, t, e, hp⟩ := hv vs[i.toNat] (by simp)
  exact tail_any hl.typeIs slot_list_getitem.lookup (wpAny_getItem_list hl h0 (by lia) (x := .str x t) (by rw [Array.getElem?_eq_getElem hlt, e]) (h x t hp)) hs
/-- a gap of the spelling -/
noncomputable def GapS (x : Str) : Prop := Gap (L x) ∧ x.length ≤ 3
theorem gaps_ok (t1 t2 t3 t4 : Tok) : ∀ v ∈ (#[Value.str (Str.ofString "") t1, Value.str (Str.ofString " ") t2, Value.str (Str.ofString "\n") t3, Value.str (Str.ofString "\x0c\t ") t4] : Array Value).toList, ∃ x t, v = .str x t ∧ GapS x := by
  intro v hv
  have gp : ∀ x : Str, (∀ c ∈ x.cps.toList, blk c = true) → x.length ≤ 3 → GapS x := fun x h1 h2 => ⟨by unfold L; exact h1, h2⟩
  simp only [List.mem_cons, List.not_mem_nil, or_false] at hv
  rcases hv with rfl | rfl | rfl | rfl
  · exact ⟨_, _, rfl, gp _ (by decide +kernel) (by decide +kernel)⟩
  · exact ⟨_, _, rfl, gp _ (by decide +kernel) (by decide +kernel)⟩
  · exact ⟨_, _, rfl, gp _ (by decide +kernel) (by decide +kernel)⟩
  · exact ⟨_, _, rfl, gp _ (by decide +kernel) (by decide +kernel)⟩
end Mine
end
section
open PySem PySem.W PyProof.Rows
namespace Mine
theorem natR_neg (nc : Bool) (a b : List Nat) : natR nc b a = - natR nc a b := by unfold natR; exact ordRow_neg _ _
theorem natR_trans {nc : Bool} {a b c : List Nat} (h1 : natR nc a b ≤ 0) (h2 : natR nc b c ≤ 0) : natR nc a c ≤ 0 := by unfold natR at *; exact ordRow_trans _ _ _ h1 h2
theorem natR_l {nc : Bool} {a b c : List Nat} (h : Row false a = Row false b) : natR nc a c = natR nc b c := by unfold natR; rw [Row_same h nc]
theorem natR_r {nc : Bool} {a b c : List Nat} (h : Row false a = Row false b) : natR nc c a = natR nc c b := by unfold natR; rw [Row_same h nc]
theorem natR_0 {nc : Bool} {a b : List Nat} (h : Row false a = Row false b) : natR nc a b = 0 := by unfold natR; rw [Row_same h nc]; exact ordRow_self _
end Mine
end
section
open PySem PySem.W PyProof.Rows
namespace Mine
theorem fin_gap {d : Int} (h0 : 0 ≤ d) (h1 : d < 3) : Gap (L (Txt.slice (Str.ofString " \t ") none (some (d + 1)))) ∧ L (Txt.slice (Str.ofString " \t ") none (some (d + 1))) ≠ [] ∧ (Txt.slice (Str.ofString " \t ") none (some (d + 1))).length ≤ 3 := by
  have hd : d = 0 ∨ d = 1 ∨ d = 2 := by lia
  have gp : ∀ x : Str, ((∀ c ∈ x.cps.toList, blk c = true) ∧ x.cps.toList ≠ [] ∧ x.length ≤ 3) → Gap (L x) ∧ L x ≠ [] ∧ x.length ≤ 3 := fun x h => ⟨by unfold L; exact h.1, by unfold L; exact h.2.1, h.2.2⟩
  rcases hd with rfl | rfl | rfl
  · exact gp _ (by decide +kernel)
  · exact gp _ (by decide +kernel)
  · exact gp _ (by decide +kernel)
end Mine
end
section
open PySem PySem.W PyProof.Rows
namespace Mine
theorem val_oct {raw : Bool} {e : El} {t : List El} (h : Val raw (e :: t)) : e.1 < 256 := by
  rcases val_inv h with ⟨_, _, _, he, _, _⟩ | ⟨_, _, _, h, _⟩ | ⟨_, h, _⟩
  · rw [he]; unfold run; split <;> simp
  · exact h
  · rw [h]; simp
theorem val_chr {raw : Bool} {e : El} {t : List El} (h : Val raw (e :: t)) : (e.1 : Int) ≤ 1114111 := by have := val_oct h; lia
theorem sp_len {x : PySem.Str} {i : Nat} {e : El} {made : PySem.Str} (hl : x.length ≤ 100) (he : (Row false (L x))[i]? = some e) (hW : made.length + Wt ((Row false (L x)).drop i) ≤ Wt (Row false (L x))) :
    made.length + 5 + (⟨e.2.2.toArray⟩ : PySem.Str).length ≤ 600 := by
  rw [drop_row he, wt_cons] at hW
  have h1 := wt_Row (l := L x)
  have h2 : (L x).length = x.length := rfl
  have h3 : (⟨e.2.2.toArray⟩ : PySem.Str).length = e.2.2.length := rfl
  lia
end Mine
end
section
open PySem PySem.W PyProof.Rows
namespace Mine
theorem L_app {a b : PySem.Str} : L (a ++ b) = L a ++ L b := by
  show (a.cps ++ b.cps).toList = _
  simp
theorem len_L {a : PySem.Str} : a.length = (L a).length := rfl
theorem L_zeros {d : Int} : L (Txt.mul (PySem.Str.ofString "0") d) = List.replicate d.toNat 48 := by
  have e : (PySem.Str.ofString "0") = ⟨#[48]⟩ := by decide +kernel
  rw [e]
  exact mul_one_list 48 d
theorem L_blank : L (PySem.Str.ofString " ") = [32] := by decide +kernel
theorem L_nul : L (PySem.Str.ofString "0") = [48] := by decide +kernel
/-- what a turn must show -/
noncomputable def SpS (es : List El) (i : Nat) (made : PySem.Str) (raw : Bool) : Prop :=
  SpI es (es.drop i) (L made) raw ∧ Val raw (es.drop i) ∧ made.length + Wt (es.drop i) ≤ Wt es
theorem ne_f {r : List Nat} (h : ((⟨r.toArray⟩ : PySem.Str) != PySem.Str.ofString "") = false) : r = [] := by
  have h' : ((⟨r.toArray⟩ : PySem.Str) == PySem.Str.ofString "") = true := by
    simpa [bne] using h
  rw [str_eq, empty_str] at h'
  simpa [L] using h'
theorem ne_t {r : List Nat} (h : ((⟨r.toArray⟩ : PySem.Str) != PySem.Str.ofString "") = true) : r ≠ [] := by
  rintro rfl
  revert h
  decide +kernel
theorem ne_tt {r : List Nat} (h : r ≠ []) : ((⟨r.toArray⟩ : PySem.Str) != PySem.Str.ofString "") = true := by
  cases hb : ((⟨r.toArray⟩ : PySem.Str) != PySem.Str.ofString "") with
  | true => rfl
  | false => exact absurd (ne_f hb) h
theorem ne_ff : ((⟨([] : List Nat).toArray⟩ : PySem.Str) != PySem.Str.ofString "") = false := by decide +kernel
theorem eq_nil {a b : PySem.Str} (h : (a ++ b == PySem.Str.ofString "") = true) : L a = [] ∧ L b = [] := by
  rw [str_eq, empty_str, L_app] at h
  exact List.append_eq_nil_iff.mp h
theorem eq_nnil {a b : PySem.Str} (h : (a ++ b == PySem.Str.ofString "") = false) : L a ≠ [] ∨ L b ≠ [] := by
  by_cases h1 : L a = []
  · by_cases h2 : L b = []
    · have : (a ++ b == PySem.Str.ofString "") = true := by
        rw [str_eq, empty_str, L_app, h1, h2]; rfl
      rw [this] at h; cases h
    · exact .inr h2
  · exact .inl h1
section
variable {es : List El} {i : Nat} {e : El} {made : PySem.Str} {raw : Bool}
theorem sp0 {d : Int} (he : es[i]? = some e) (h : SpS es i made raw) (h0 : (e.1 : Int) = 0) (d0 : 0 ≤ d) (d1 : d < 3) :
    SpS es (i + 1) (made ++ Txt.slice (PySem.Str.ofString " \t ") none (some (d + 1))) ((⟨e.2.2.toArray⟩ : PySem.Str) != PySem.Str.ofString "") := by
  obtain ⟨hI, hV, hW⟩ := h
  rw [drop_row he] at hI hV hW
  rw [wt_cons] at hW
  have h0' : e.1 = 0 := by omega
  obtain ⟨g1, g2, g3⟩ := fin_gap d0 d1
  rcases val_inv hV with ⟨_, _, _, _, h, _⟩ | ⟨_, _, h, _⟩ | ⟨h1, h2, h3⟩
  · exact absurd h0' h
  · omega
  · subst h1 h2
    unfold SpS
    rw [h3] at hI hW ⊢
    refine ⟨?_, ?_, ?_⟩
    · rw [L_app, ne_ff]; exact sp_fin hI g1 g2
    · exact .nil _
    · rw [len_L, L_app, List.length_append, ← len_L, ← len_L]; omega
theorem run_of {t : List El} (hV : Val raw (e :: t)) (hr : e.2.2 ≠ []) : raw = false ∧ Dig1 e.2.2 ∧ (∀ c ∈ e.2.2, dig c = true) ∧ e = run e.2.2 ∧ Val true t := by
  rcases val_inv hV with ⟨h1, h2, h3, h4, _, h6⟩ | ⟨h, _⟩ | ⟨_, h, _⟩
  · exact ⟨h1, h2, h3, h4, h6⟩
  · exact absurd h hr
  · rw [h] at hr; exact absurd rfl hr
theorem sp_go {x : PySem.Str} {g : List Nat} (he : es[i]? = some e) (h : SpS es i made raw) (hr : e.2.2 ≠ []) (hx : L x = L made ++ g ++ e.2.2) (hg : g.length ≤ 5) (hgap : Gap g) (hn : L made ≠ [] ∨ g ≠ []) :
    SpS es (i + 1) x ((⟨e.2.2.toArray⟩ : PySem.Str) != PySem.Str.ofString "") := by
  obtain ⟨hI, hV, hW⟩ := h
  rw [drop_row he] at hI hV hW
  rw [wt_cons] at hW
  obtain ⟨rfl, h2, h3, h4, h5⟩ := run_of hV hr
  rw [ne_tt hr]
  refine ⟨?_, h5, ?_⟩
  · rw [hx]
    rw [h4] at hI
    exact sp_run hI hgap hn h2 h3
  · rw [len_L, hx, List.length_append, List.length_append, ← len_L]; omega
theorem sp_go0 {x : PySem.Str} {d : Int} (he : es[i]? = some e) (h : SpS es i made raw) (hr : e.2.2 ≠ []) (hm : L made = []) (hx : L x = List.replicate d.toNat 48 ++ e.2.2) (d1 : d < 3) (h0 : e.2.2.head? ≠ some 48 ∨ e.2.2 = [48]) :
    SpS es (i + 1) x ((⟨e.2.2.toArray⟩ : PySem.Str) != PySem.Str.ofString "") := by
  obtain ⟨hI, hV, hW⟩ := h
  rw [drop_row he] at hI hV hW
  rw [wt_cons] at hW
  obtain ⟨rfl, h2, h3, h4, h5⟩ := run_of hV hr
  rw [ne_tt hr]
  refine ⟨?_, h5, ?_⟩
  · rw [hx]
    rw [h4, hm] at hI
    exact sp_run0 _ hI h2 h3 h0
  · rw [len_L, hx, List.length_append, List.length_replicate]; omega
theorem sp1 {P : Prop} (h : (made ++ PySem.Str.ofString " " == PySem.Str.ofString "") = true) : P := by
  have := (eq_nil h).2
  rw [L_blank] at this
  cases this
theorem sp2 (he : es[i]? = some e) (h : SpS es i made raw) (hr : ((⟨e.2.2.toArray⟩ : PySem.Str) != PySem.Str.ofString "") = true) :
    SpS es (i + 1) (made ++ PySem.Str.ofString " " ++ PySem.Str.ofString "" ++ ⟨e.2.2.toArray⟩) ((⟨e.2.2.toArray⟩ : PySem.Str) != PySem.Str.ofString "") := by
  refine sp_go (g := [32]) he h (ne_t hr) ?_ (by decide) (fun c hc => by rw [List.mem_singleton.mp hc]; rfl) (.inr (by decide))
  rw [L_app, L_app, L_app, L_blank, empty_str]
  simp [L]
theorem sp3 {gx : PySem.Str} {d : Int} (he : es[i]? = some e) (h : SpS es i made raw) (hr : ((⟨e.2.2.toArray⟩ : PySem.Str) != PySem.Str.ofString "") = true) (hm : (made ++ gx == PySem.Str.ofString "") = true) (d1 : d < 3)
    (h0 : (Txt.item (⟨e.2.2.toArray⟩ : PySem.Str) 0 == PySem.Str.ofString "0") = false ∨ ((⟨e.2.2.toArray⟩ : PySem.Str) != PySem.Str.ofString "0") = false) :
    SpS es (i + 1) (made ++ gx ++ Txt.mul (PySem.Str.ofString "0") d ++ ⟨e.2.2.toArray⟩) ((⟨e.2.2.toArray⟩ : PySem.Str) != PySem.Str.ofString "") := by
  obtain ⟨m1, m2⟩ := eq_nil hm
  refine sp_go0 (d := d) he h (ne_t hr) m1 ?_ d1 ?_
  · rw [L_app, L_app, L_app, m1, m2, L_zeros]
    simp [L]
  · rcases h0 with h0 | h0
    · left
      have hl : 0 < (⟨e.2.2.toArray⟩ : PySem.Str).length := List.length_pos_iff.mpr (ne_t hr)
      have := (item0 hl).mp (by simp [bne, h0])
      simpa [L] using this
    · right
      have h' : ((⟨e.2.2.toArray⟩ : PySem.Str) == PySem.Str.ofString "0") = true := by simpa [bne] using h0
      rw [str_eq, L_nul] at h'
      simpa [L] using h'
theorem sp5 {gx : PySem.Str} (he : es[i]? = some e) (h : SpS es i made raw) (hr : ((⟨e.2.2.toArray⟩ : PySem.Str) != PySem.Str.ofString "") = true) (hg : GapS gx) (hm : (made ++ gx == PySem.Str.ofString "") = false) :
    SpS es (i + 1) (made ++ gx ++ PySem.Str.ofString "" ++ ⟨e.2.2.toArray⟩) ((⟨e.2.2.toArray⟩ : PySem.Str) != PySem.Str.ofString "") := by
  have := hg.2
  refine sp_go (g := L gx) he h (ne_t hr) ?_ (by rw [← len_L]; omega) hg.1 (eq_nnil hm)
  rw [L_app, L_app, L_app, empty_str]
  simp [L]
theorem sp_sg {x : PySem.Str} {g : List Nat} (he : es[i]? = some e) (h : SpS es i made raw) (h0 : (e.1 : Int) ≠ 0) (hr : ((⟨e.2.2.toArray⟩ : PySem.Str) != PySem.Str.ofString "") = false) (hx : L x = L made ++ g ++ [e.1]) (hg : g.length ≤ 4) (hgap : Gap g) (hraw : raw = true → g = []) :
    SpS es (i + 1) x ((⟨e.2.2.toArray⟩ : PySem.Str) != PySem.Str.ofString "") := by
  obtain ⟨hI, hV, hW⟩ := h
  rw [drop_row he] at hI hV hW
  rw [wt_cons] at hW
  have hr' := ne_f hr
  rw [hr]
  rcases val_inv hV with ⟨_, h, _⟩ | ⟨h1, h2, h3, _, h5, h6, h7⟩ | ⟨_, h, _⟩
  · exact absurd hr' (dig1_ne h)
  · refine ⟨?_, h7, ?_⟩
    · rw [hx]
      have e1 : e = (e.1, 0, []) := by
        obtain ⟨a, b, c⟩ := e
        dsimp only at h1 h2
        rw [h1, h2]
      rw [e1] at hI
      exact sp_sign hI hgap hraw h5 h6
    · rw [len_L, hx, List.length_append, List.length_append, ← len_L, List.length_singleton]; omega
  · rw [h] at h0; exact absurd rfl h0
theorem sp6 (he : es[i]? = some e) (h : SpS es i made raw) (h0 : (e.1 : Int) ≠ 0) (hr : ((⟨e.2.2.toArray⟩ : PySem.Str) != PySem.Str.ofString "") = false) :
    SpS es (i + 1) (made ++ PySem.Str.ofString "" ++ ⟨#[(e.1 : Int).toNat]⟩) ((⟨e.2.2.toArray⟩ : PySem.Str) != PySem.Str.ofString "") := by
  refine sp_sg (g := []) he h h0 hr ?_ (by decide) gap_nil (fun _ => rfl)
  rw [L_app, L_app, empty_str]
  simp [L]
theorem sp7 {gx : PySem.Str} (he : es[i]? = some e) (h : SpS es i made raw) (h0 : (e.1 : Int) ≠ 0) (hr : ((⟨e.2.2.toArray⟩ : PySem.Str) != PySem.Str.ofString "") = false) (hg : GapS gx) (hw : raw = false) :
    SpS es (i + 1) (made ++ gx ++ ⟨#[(e.1 : Int).toNat]⟩) ((⟨e.2.2.toArray⟩ : PySem.Str) != PySem.Str.ofString "") := by
  have := hg.2
  refine sp_sg (g := L gx) he h h0 hr ?_ (by rw [← len_L]; omega) hg.1 (fun h => by rw [hw] at h; cases h)
  rw [L_app, L_app]
  simp [L]
end
/-- the end of a turn -/
theorem sp_close {P R Lo : Addr} {ws : List Value} {n : Nat} {tl rest own all : List (Addr × Obj)} {es : List El} {m₀ m' : Str → Option Value} {stored : List Str} {i : Nat} {h₀ h' : Heap} {s₁ : Shared} {tk : Nat} {pv pv1 : List Value} {pn pn1 : Nat} {made : PySem.Str} {tm : Tok} {raw : Bool}
    (F : Fr h₀ Lo h' m') (N : News h₀ Lo h' all) (hs : ∀ p ∈ (P, listOf pv.toArray pn) :: (R, listOf ws.toArray n) :: ((tl ++ rest) ++ own), p ∈ all) (hoff : OwnOff own (((P, listOf pv1.toArray pn1) :: (R, listOf ws.toArray n) :: (tl ++ rest)).map (·.1)))
    (hp : Pen pv) (hk : ∀ p ∈ [(Str.ofString "made", Value.str made tm), (Str.ofString "is_raw", Value.bool raw)], m' p.1 = some p.2) (hr : ∀ z, (∀ p ∈ [(Str.ofString "made", Value.str made tm), (Str.ofString "is_raw", Value.bool raw)], z ≠ p.1) → stored.contains z = false → m' z = m₀ z) (hS : SpS es (i + 1) made raw) :
    InvEndG h₀ Lo (fun m' nx => (R, listOf ws.toArray n) ∈ nx ∧ SpJ P R ws n tl rest es m₀ stored (i + 1) m' nx) own s₁ { s₁ with heap := h', toks := tk } := by
  refine InvEndG.intro (nx := (P, listOf pv.toArray pn) :: (R, listOf ws.toArray n) :: (tl ++ rest)) F N ⟨.tail _ (.head _), pv, pn, made, tm, raw, m', hp.1, hp.2.1, hp.2.2, rfl, kst_form hk hr, hS⟩ hoff (fun p hp => hs p ?_) (fun p hp => hs p ?_)
  · rcases List.mem_cons.mp hp with rfl | hp
    · exact .head _
    · rcases List.mem_cons.mp hp with rfl | hp
      · exact .tail _ (.head _)
      · exact .tail _ (.tail _ (List.mem_append.mpr (.inl hp)))
  · exact .tail _ (.tail _ (List.mem_append.mpr (.inr hp)))
end Mine
namespace Mine
theorem sp_out {q R : Addr × Obj} {tl rest : List (Addr × Obj)} : ∀ p ∈ q :: rest, p ∈ q :: R :: (tl ++ rest) := by
  intro p hp
  rcases List.mem_cons.mp hp with rfl | hp
  · exact .head _
  · exact .tail _ (.tail _ (List.mem_append.mpr (.inr hp)))
theorem sp_len2 {x made : PySem.Str} (hl : x.length ≤ 100) (hW : made.length + Wt [] ≤ Wt (Row false (L x))) : made.length ≤ 600 := by
  have h1 := wt_Row (l := L x)
  have h2 : (L x).length = x.length := rfl
  omega
theorem sp_row {es : List El} {m : List Nat} {raw : Bool} (h : SpI es [] m raw) : Row false m = es := by
  have := sp_end h
  unfold Row
  simpa using this
end Mine
end
section
open PySem PySem.W PyProof.Rows
namespace Mine
theorem offD11 {w : World} {A : Around} {Q : Flow → Shared → Prop} {E : Value → Shared → Prop} {s : Shared} {env : Env} (h : Q .next s) : wpAny (model prog w) A (execs [] env) Q E s := by
  k_with_none
  w_top off
  walk1
  exact h
theorem fill11 : (PySem.Challenge.rw_pc0252_01, hd.heap_39) = (PySem.Challenge.rw_pc0252_01, hd.heap_39) := by
  k_fill
  rfl
theorem wordD11_1 : True := by
  k_with "MyRoom" => first
        | (refine' roomL ?h1Y142 ?h2Y142; (case h1Y142 => assumption); (case h2Y142 => exact rfl))
        | (refine' roomA ?h1Y142; (case h1Y142 => assumption))
        | exact Nat.le_of_ble_eq_true rfl
  k_with "MyUnits" => first
        | (refine' unitL ?h1Y143 ?h2Y143; (case h1Y143 => assumption); (case h2Y143 => exact rfl))
        | exact Nat.le_of_ble_eq_true rfl
  k_with "MyLo" => first | assumption | exact Int.le_refl _ | exact Int.le_add_one (by assumption)
  k_with "MyHi" => first | assumption | exact lt_ne (by assumption) (by assumption) | exact Int.natCast_pos.mpr (by assumption) | exact Int.lt_of_lt_of_le (by assumption) (by assumption)
  k_with "call builtin:len" => (
        k_here; (with_reducible show wpAny _ _ (call (Value.builtin "len") [Value.str _ _]) _ _ _);
        k_dflt (refine' len_S ?h1Y146 ?_; (case h1Y146 => assumption)))
  k_with "subscriptTail Name Name str int" => (
        k_here; k_dflt (refine' item_S ?h1Y147 ?h2Y147 ?h3Y147 ?_ ?h4Y147 ?h5Y147; (case h1Y147 => walk_at "MyLo"); (case h2Y147 => walk_at "MyHi"); (case h3Y147 => assumption); (case h4Y147 => with_unfolding_all rfl); (case h5Y147 => intro _; with_unfolding_all rfl)); intro _)
  k_with "subscriptTail Name Constant str int" => (
        k_here; k_dflt (refine' item_S ?h1Y148 ?h2Y148 ?h3Y148 ?_ ?h4Y148 ?h5Y148; (case h1Y148 => walk_at "MyLo"); (case h2Y148 => walk_at "MyHi"); (case h3Y148 => assumption); (case h4Y148 => with_unfolding_all rfl); (case h5Y148 => intro _; with_unfolding_all rfl)); intro _)
  k_with "call builtin:ord" => (
        k_here; k_dflt (refine' ord_S ?h1Y149 ?_; (case h1Y149 => assumption)))
  k_with "MyUse" => (
        (case k1 => k_asm); (case k2 => k_asm); (case k3 => k_asm); (case k4 => k_asm); (case k5 => k_asm); (case k6 => first | exact rfl | assumption); (case k7 => ktr_room); (case k8 => ktr_units); intros; (try k_sweep); (try dsimp only); (try k_fold))
  k_with "MyNum" => first | assumption | omega
  k_with "eval Call" => (k_here; (with_reducible show wpAny _ _ (eval (PySem.Expr.Call (PySem.Expr.Name _ _) _ [] _) _) _ _ _); k_dflt (refine Call_ ?_))
  k_with "MySub" => first | with_reducible exact sub_refl | ((with_reducible refine sub_cons ?_); walk_at "MySub")
  k_with "MyOff" => first
        | exact List.forall_mem_nil _
        | assumption
        | exact off_lt (by assumption)
        | exact off_own (by assumption) (by first | exact List.Mem.head _ | simp)
        | (refine off_app ?_ ?_ <;> walk_at "MyOff")
        | (refine List.forall_mem_cons.mpr ⟨?_, ?_⟩; (focus k_ne); walk_at "MyOff")
  k_with "MyUpd" => first
        | k_upd
        | (refine' Upd.head ?aY155; (case aY155 => walk_at "MyOff"))
        | (refine' Upd.tail ?aY155 ?bY155; (case aY155 => k_ne); (case bY155 => walk_at "MyUpd"))
  k_with "MySize" => first
        | size_fits
        | ((simp only [List.size_toArray, List.length_append, List.length_cons, List.length_nil, PySem.sizeLine_eq]); omega)
  k_with "call builtin:list.append" => (
        k_here; (with_reducible show wpAny _ _ (call (Value.builtin "list.append") [Value.ref _, _]) _ _ _);
        k_dflt (refine' append_K ?k1 ?k2 ?k3 ?_ ?zY157; (case k1 => k_asm); (case k2 => k_asm); (case k3 => walk_at "MyUpd"); (case zY157 => walk_at "MySize"); k_whole);
        intro h'Z F'Z N'Z; (try k_sweep))
  trivial
/-- the gap behind the test -/
noncomputable def GapPost (h₀ : Heap) (Lo : Addr) (m₀ : PySem.Str → Option Value) (news : List (Addr × Obj)) (s : Shared) (p : PySem.Str → Prop) (s' : Shared) : Prop :=
  ∃ (g : PySem.Str) (tg : Tok) (h : Heap) (tk : Nat), p g ∧ s' = { s with heap := h, toks := tk } ∧ Fr h₀ Lo h (fun z => if z = PySem.Str.ofString "gap" then some (.str g tg) else m₀ z) ∧ News h₀ Lo h news
theorem gapJoin {M : Model} {A : Around} {t : Sem Flow} {E : Value → Shared → Prop} {s : Shared} {h₀ : Heap} {Lo : Addr} {m₀ : PySem.Str → Option Value} {news : List (Addr × Obj)} {Q : Flow → Shared → Prop} (p : PySem.Str → Prop) (_F : Fr h₀ Lo s.heap m₀) (_N : News h₀ Lo s.heap news)
    (h : wpAny M A t (fun f s' => f = .next ∧ GapPost h₀ Lo m₀ news s p s') E s) (k : ∀ g tg h tk, p g → Fr h₀ Lo h (fun z => if z = PySem.Str.ofString "gap" then some (.str g tg) else m₀ z) → News h₀ Lo h news → Q .next { s with heap := h, toks := tk }) : wpAny M A t Q E s :=
  wpAny_mono h (fun _ _ ⟨e, g, tg, h, tk, hp, e', F, N⟩ => by subst e e'; exact k g tg h tk hp F N) fun _ _ x => x
theorem gapDone {s : Shared} {h₀ h' : Heap} {Lo : Addr} {m₀ m' : PySem.Str → Option Value} {news nw : List (Addr × Obj)} {p : PySem.Str → Prop} {g : PySem.Str} {tg : Tok} {tk' : Nat} (F : Fr h₀ Lo h' m') (N : News h₀ Lo h' nw) (hs : ∀ p ∈ news, p ∈ nw) (h1 : m' (PySem.Str.ofString "gap") = some (.str g tg)) (h2 : ∀ z, z ≠ PySem.Str.ofString "gap" → m' z = m₀ z) (hp : p g) :
    GapPost h₀ Lo m₀ news s p { s with heap := h', toks := tk' } :=
  ⟨g, tg, h', tk', hp, rfl, by
    have e : (fun z => if z = PySem.Str.ofString "gap" then some (.str g tg) else m₀ z) = m' := funext fun z => by
      by_cases hz : z = PySem.Str.ofString "gap"
      · rw [if_pos hz, hz, h1]
      · rw [if_neg hz, h2 z hz]
    rw [e]; exact F, fun p hp => N p (hs p hp)⟩
theorem gapNo {a b : PySem.Str} {P : Prop} (h0 : (a == b) = false) (h : (a == b) = true) : P := by rw [h0] at h; cases h
noncomputable def GapFit (made : PySem.Str) (r : List Nat) (g : PySem.Str) : Prop :=
  GapS g ∧ ((made ++ g == PySem.Str.ofString "") = true → (Txt.item (⟨r.toArray⟩ : PySem.Str) 0 == PySem.Str.ofString "0") = false ∨ ((⟨r.toArray⟩ : PySem.Str) != PySem.Str.ofString "0") = false)
theorem gapS_blank : GapS (PySem.Str.ofString " ") := ⟨by rw [L_blank]; intro c hc; rw [List.mem_singleton.mp hc]; rfl, by decide +kernel⟩
theorem gap_cat {a b : PySem.Str} (h : a.length ≤ 595) (hb : b.length ≤ 3) : (a ++ b).length ≤ 598 := by
  rw [len_L, L_app, List.length_append, ← len_L, ← len_L]; omega
theorem useR {w : World} {lv : Nat} {f : Addr} {news : Led} {vs : List Value} {mean : ExcName → Option Value} {mg mb : Str → Option Value} {dp un : Nat} {gd : Option (List Code)} {cn : Str} {cs : Scope} {a : Addr} {ccd : Value} {cl : List (Str × Addr)} {outer : List Env} {A₀ : Around} {base h₀ : Heap} {L : Addr} {m : Str → Option Value} {s : Shared} {Q E : Value → Shared → Prop}
    {es : List El} (C : Does w lv f news vs (RowOut news es)) (B : Below A₀ base outer h₀) (F : Fr h₀ L s.heap m) (X : (hd.heap_39 w.params).In h₀) (N : News h₀ L s.heap news) (T : Top hd.view_39 (looseW hd.view_39 []) mean mg mb h₀) (hk : cs.kind = .function) (hd : dp + lv < recursionLimit) (hu : un + Us lv < cLine)
    (h : ∀ R ws n tl h' tk', Fr h₀ L h' m → News h₀ L h' ((R, listOf ws.toArray n) :: (tl ++ news)) → DatAll tl ws (es.map elD) → (∀ p ∈ news, p.1 < R) → (∀ p ∈ tl, R < p.1) → Q (.ref R) { s with heap := h', toks := tk' }) : wpAny (model prog w) (ktrTop dp un gd cn cs L a ccd cl outer) (call (.ref f) vs) Q E s :=
  C _ _ _ _ _ _ _ _ _ _ _ _ _ _ _ _ _ _ _ _ B F X N T hk hd hu (fun _ _ _ _ F' N' ⟨R, ws, n, tl, e1, e2, hD, h1, h2⟩ => by subst e1 e2; exact h _ _ _ _ _ _ F' N' hD h1 h2)
theorem useT {w : World} {mean : ExcName → Option Value} {mg mb : Str → Option Value} {dp un : Nat} {gd : Option (List Code)} {cn : Str} {cs : Scope} {a : Addr} {ccd : Value} {cl : List (Str × Addr)} {outer : List Env} {A₀ : Around} {base h₀ : Heap} {L : Addr} {m : Str → Option Value} {s : Shared} {Q E : Value → Shared → Prop}
    {P : Addr} {vs : List Value} {n : Nat} {k : Int} {tk : Tok} {news : Led} {g : Obj → Led} (hp : Pen vs) (U : UpdF P (listOf vs.toArray n) news g) (hk1 : 0 < k) (hk2 : k ≤ 100) (B : Below A₀ base outer h₀) (F : Fr h₀ L s.heap m) (X : (hd.heap_39 w.params).In h₀) (N : News h₀ L s.heap news) (T : Top hd.view_39 (looseW hd.view_39 []) mean mg mb h₀) (hk : cs.kind = .function) (hd : dp + 2 < recursionLimit) (hu : un + Us 2 < cLine)
    (h : ∀ d t ws n' h' tk', 0 ≤ d → d < k → Pen ws → Fr h₀ L h' m → News h₀ L h' (g (listOf ws.toArray n')) → Q (.int d t) { s with heap := h', toks := tk' }) : wpAny (model prog w) (ktrTop dp un gd cn cs L a ccd cl outer) (call (.ref 98) [.ref P, .int k tk]) Q E s := by
  obtain ⟨own, rest, rfl, hg, h1, h2⟩ := U.split
  refine take_ok w (own ++ rest) P vs n k tk hp (off_app h1 h2) hk1 hk2 _ _ _ _ _ _ _ _ _ _ _ _ _ _ _ _ _ _ _ _ B F X (news_to_head N) T hk hd hu ?_
  rintro r nw h' tk' F' N' ⟨d, t, ws, n', rfl, d0, d1, hp', rfl⟩
  exact h d t ws n' h' tk' d0 d1 hp' F' (hg _ ▸ head_to_news N')
theorem wordD11_2 : True := by
  k_with "MyUpdF" => first
        | (refine' UpdF.head ?aY158; (case aY158 => walk_at "MyOff"))
        | (refine' UpdF.tail ?aY158 ?bY158; (case aY158 => first | k_ne | exact Nat.ne_of_gt (by assumption)); (case bY158 => walk_at "MyUpdF"))
  k_with "call ref" => (
        k_here; (with_reducible show wpAny _ _ (call (.ref 98) _) _ _ _);
        k_dflt (refine' useT ?hpY159 ?UY159 ?q1Y159 ?q2Y159 ?k1 ?k2 ?k3 ?k4 ?k5 ?k6 ?k7 ?k8 ?_; (case k4 => k_asm); (case UY159 => walk_at "MyUpdF"); (case hpY159 => assumption); (case q1Y159 => decide); (case q2Y159 => decide); (case k1 => k_asm); (case k2 => k_asm); (case k3 => k_asm); (case k5 => k_asm); (case k6 => first | exact rfl | assumption); (case k7 => ktr_room); (case k8 => ktr_units));
        intro d'Z t'Z ws'Z n'Z h'Z tk'Z d0'Z d1'Z hp'Z F'Z N'Z; (try k_sweep); (try dsimp only at N'Z); (try dsimp only); (try k_fold))
  k_with "MyMem" => first | with_reducible exact List.mem_cons_self | ((with_reducible refine List.mem_cons_of_mem _ ?_); walk_at "MyMem")
  k_with "subscriptTail" => (
        k_here;
        (with_reducible show wpAny _ _ (subscriptTail _ _ (Value.ref _) (Value.int _ _)) _ _ _);
        k_dflt (refine' item_prop GapS ?NY161 ?mY161 ?gY161 ?aY161 ?bY161 ?cY161 ?_ ?zY161; (case NY161 => k_asm); (case mY161 => walk_at "MyMem"); (case gY161 => exact gaps_ok _ _ _ _); (case aY161 => assumption); (case bY161 => assumption); (case cY161 => exact Nat.le_of_ble_eq_true rfl); (case zY161 => with_unfolding_all rfl)); intro gx'Z gt'Z gp'Z; (have gl'Z := gp'Z.2))
  k_with "exec For Tuple Name cons nil" => (k_here; refine hold ?_)
  k_with "call ref" => (
        k_here; (with_reducible show wpAny _ _ (call (.ref 119) _) _ _ _);
        k_dflt (refine' useR (law_row_ok _ _ _ _ _ ?p1Y163) ?k1 ?k2 ?k3 ?k4 ?k5 ?k6 ?k7 ?k8 ?_; (case p1Y163 => omega); walk_at "MyUse"))
  k_with "MySame" => (intro zZ h2Z h3Z; (repeat (first
        | with_reducible exact rfl
        | with_reducible refine ne_step (h2Z _ List.mem_cons_self) ?_
        | with_reducible refine ne_step (h2Z _ (List.mem_cons_of_mem _ List.mem_cons_self)) ?_
        | with_reducible refine cont_step h3Z ?_
        | (refine ne_step (ne_st h3Z (by decide +kernel)) ?_))))
  k_with "exec If BoolOp" => (k_here; refine hold ?_)
  trivial
theorem law_spelled_ok (w : World) (rest : Led) (P : Addr) (pv : List Value) (pn : Nat) (hp : Pen pv) (hr : ∀ p ∈ rest, p.1 ≠ P) (x : Str) (tx : Tok) (hl : x.length ≤ 100) (hS : Signs (L x)) :
   Does w 6 133 ((P, listOf pv.toArray pn) :: rest) [.ref P, .str x tx] (fun r nw => ∃ (y : PySem.Str) (t : Tok) (vs : List Value) (n : Nat), r = .str y t ∧ y.length ≤ 600 ∧ Row false (L y) = Row false (L x) ∧ nw = (P, listOf vs.toArray n) :: rest) := by
  unfold Does
  intro mean mg mb dp un gd cn cs a ccd cl outer A₀ base h₀ L m s Q E B F X N T hk hdp hu hret
  refine wpAny_call ?_
  k_dflt cell_enter
  k_steps
  refine unhold ?_
  rename News _ _ _ _ => N9
  rename Fr _ _ _ _ => F9
  rename DatAll _ _ _ => hD
  obtain ⟨R, ws, n, tl, e1, e2, e3, e4⟩ := name_row N9 hD
  subst e1 e2 e3 e4
  have hRt : ∀ p ∈ tl, R < p.1 := by assumption
  have hPR : P < R := (by assumption : ∀ p ∈ _ :: (P, listOf pv.toArray pn) :: rest, p.1 < R) _ (.tail _ (.head _))
  have hws : ws.length = (Row false (Mine.L x)).length := rows_len hD
  obtain ⟨u9, F5⟩ := fr_open F9 [(Str.ofString "made", Value.str _ _), (Str.ofString "is_raw", Value.bool false), (Str.ofString "row", Value.ref R), (Str.ofString "pen", Value.ref P), (Str.ofString "text", Value.str x tx)] (by kst_all)
  replace F5 := kclean5 F5
  clear F9
  refine forRows2 (l := R) (vs := ws) (nn := n) (news := (P, listOf pv.toArray pn) :: (R, listOf ws.toArray n) :: (tl ++ rest)) (fun m₀ => SpJ P R ws n tl rest (Row false (Mine.L x)) m₀ [Str.ofString "octet", Str.ofString "size", Str.ofString "run", Str.ofString "gap", Str.ofString "many"]) rfl (rows_refs hD) F5 N9 ?_ ?_ ?_ ?_ ?_ ?_
  · exact sp_sub
  · exact .tail _ (.head _)
  · refine ⟨pv, pn, _, _, false, _, hp.1, hp.2.1, hp.2.2, rfl, kst_form (ps := [(Str.ofString "made", .str _ _), (Str.ofString "is_raw", .bool false)]) (by kst_all) (fun _ _ _ => rfl), ?_, ?_, ?_⟩
    · rw [empty_str]; exact sp_start
    · exact val_Row hS
    · show (Mine.L (Str.ofString "")).length + _ ≤ _
      rw [empty_str]
      simp
  · intro Q' hq
    k_steps
    exact hq
  · intro i v m₁ news₁ h tk own hv hoff hl₁ hJ F1 N1
    obtain ⟨pv1, pn1, made, tm, raw, u, hp1, hp2, hp3, rfl, rfl, hI, hV, hW⟩ := hJ
    clear F5 N9
    replace F1 := kclean2 F1
    dsimp only at F1 N1
    have hPen1 : Pen pv1 := ⟨hp1, hp2, hp3⟩
    obtain ⟨e, he, hd⟩ := rows_at hD (List.getElem?_eq_some_iff.mp hv).1
    obtain ⟨a9, t1, t2, t3, n9, hv9, hm9⟩ := elD_inv hd
    rw [(List.getElem?_eq_some_iff.mp hv).2] at hv9
    subst hv9
    have hRne : R ≠ P := Nat.ne_of_gt hPR
    have htl : ∀ p ∈ tl, p.1 ≠ P := fun p hp => Nat.ne_of_gt (Nat.lt_trans hPR (hRt p hp))
    have hownP : ∀ p ∈ own, p.1 ≠ P := fun p hp => hoff p hp P (by simp)
    have N2 : News _ _ h ((a9, ({ cls := .type "tuple", data := .seq #[Value.int e.1 t1, Value.int e.2.1 t2, Value.str ⟨e.2.2.toArray⟩ t3] n9 } : Obj)) :: (P, listOf pv1.toArray pn1) :: (R, listOf ws.toArray n) :: ((tl ++ rest) ++ own)) := fun p hp => by
      rcases List.mem_cons.mp hp with rfl | hp
      · exact N1 _ (List.mem_append.mpr (.inl (.tail _ (.tail _ (List.mem_append.mpr (.inl hm9))))))
      · exact N1 p hp
    clear N1
    have ha9 : a9 ≠ P := htl _ hm9
    have hlen := sp_len hl he hW
    have hoct := val_chr (drop_row he ▸ hV)
    have hoc0 : (0 : Int) ≤ (e.1 : Int) := Int.natCast_nonneg _
    (try dsimp only)
    (try k_fold)
    k_steps
    · refine sp_close (by assumption) (by assumption) (by walk_at "MySub") hoff (by assumption) (by kst_all) (by walk_at "MySame") ?_
      exact sp0 he ⟨hI, hV, hW⟩ (by assumption) (by assumption) (by assumption)
    · refine unhold ?_
      rename News _ _ _ _ => N9
      rename Fr _ _ _ _ => F9
      refine gapJoin (GapFit made e.2.2) F9 N9 ?_ ?_
      · refine wpAny_If ?_
        k_steps
        · exact gapDone (by k_asm) (by k_asm) (by walk_at "MySub") (by with_unfolding_all rfl) (fun z hz => if_neg hz) ⟨gapS_blank, fun h => sp1 h⟩
        · exact gapDone (by k_asm) (by k_asm) (by walk_at "MySub") (by with_unfolding_all rfl) (fun _ _ => rfl) ⟨by assumption, fun _ => .inr (by assumption)⟩
        · exact gapDone (by k_asm) (by k_asm) (by walk_at "MySub") (by with_unfolding_all rfl) (fun _ _ => rfl) ⟨by assumption, fun _ => .inl (by assumption)⟩
        · exact gapDone (by k_asm) (by k_asm) (by walk_at "MySub") (by with_unfolding_all rfl) (fun _ _ => rfl) ⟨by assumption, gapNo (by assumption)⟩
      · intro g tg h2 tk2 hgf F4 N4
        clear F9 N9
        obtain ⟨hgs, hgc⟩ := hgf
        have hgl := hgs.2
        k_steps
        · refine sp_close (by assumption) (by assumption) (by walk_at "MySub") hoff (by assumption) (by kst_all) (by walk_at "MySame") ?_
          have hm9 : (made ++ g == Str.ofString "") = true := by assumption
          exact sp3 he ⟨hI, hV, hW⟩ (by assumption) hm9 (by assumption) (hgc hm9)
        · refine sp_close (by assumption) (by assumption) (by walk_at "MySub") hoff (by assumption) (by kst_all) (by walk_at "MySame") ?_
          exact sp5 he ⟨hI, hV, hW⟩ (by assumption) hgs (by assumption)
    · refine sp_close (by assumption) (by assumption) (by walk_at "MySub") hoff (by assumption) (by kst_all) (by walk_at "MySame") ?_
      exact sp6 he ⟨hI, hV, hW⟩ (by assumption) (by assumption)
    · refine sp_close (by assumption) (by assumption) (by walk_at "MySub") hoff (by assumption) (by kst_all) (by walk_at "MySame") ?_
      exact sp7 he ⟨hI, hV, hW⟩ (by assumption) (by assumption) (by assumption) (by assumption)
  · intro m₁ news₁ h tk hJ F1 N1
    obtain ⟨pv1, pn1, made, tm, raw, u, hp1, hp2, hp3, rfl, rfl, hI, hV, hW⟩ := hJ
    clear F5 N9
    replace F1 := kclean2 F1
    dsimp only at F1 N1
    rw [hws, List.drop_length] at hI hW
    k_steps

    refine hret _ ((P, listOf pv1.toArray pn1) :: rest) _ _ (by k_asm) (sub_news (by k_asm) sp_out) ⟨made, tm, pv1, pn1, rfl, ?_, ?_, rfl⟩
    · exact sp_len2 hl hW
    · exact sp_row hI
end Mine
end
section
open PySem PySem.W PyProof.Rows PySem.Spec
namespace Mine
section
variable {prog : Program} {w : World} {A : Around} {E : Value → Shared → Prop} {s : Shared} {env : Env} {h₀ : Heap} {target : Expr} {body : List Stmt} {Q : Flow → Shared → Prop}
theorem allObj {ws : List (Addr × String)} : ∀ {k : List (Addr × Obj) → Prop}, (∀ its, Objs ws its → k its) → AllObj ws k := by
  induction ws with
  | nil => exact fun h => h [] trivial
  | cons w r ih => exact fun h o ho => ih fun its hi => h ((w.1, o) :: its) ⟨⟨rfl, ho⟩, hi⟩
theorem objs1 {a : Addr} {n : String} {its : List (Addr × Obj)} (h : Objs [(a, n)] its) : ∃ o, its = [(a, o)] := by
  cases its with
  | nil => exact h.elim
  | cons p r =>
    cases r with
    | nil =>
      obtain ⟨⟨e, _⟩, _⟩ := h
      have e' : p.1 = a := e
      subst e'
      exact ⟨p.2, rfl⟩
    | cons q r => exact h.2.elim
theorem objs2 {a b : Addr} {n k : String} {its : List (Addr × Obj)} (h : Objs [(a, n), (b, k)] its) : ∃ o o', its = [(a, o), (b, o')] := by
  cases its with
  | nil => exact h.elim
  | cons p r =>
    obtain ⟨o', rfl⟩ := objs1 (h.2 : Objs [(b, k)] r)
    have e' : p.1 = a := h.1.1
    subst e'
    exact ⟨p.2, o', rfl⟩
theorem unr_mono {L : Addr} {its : List (Addr × Obj)} {r r' : (Str → Option Value) → List (Addr × Obj) → Prop} (hr : ∀ m n, r m n → r' m n) (f : Flow) (s₁ s₂ : Shared) (h : UnrPostW h₀ L s₁ its r Q f s₂) : UnrPostW h₀ L s₁ its r' Q f s₂ := by
  have e : UnrEndW h₀ L s₁ its r s₂ → UnrEndW h₀ L s₁ its r' s₂ := fun ⟨h', tk, m', n', e, F, N, o, x⟩ => ⟨h', tk, m', n', e, F, N, o, hr _ _ x⟩
  cases f with
  | ret v => exact h
  | brk => exact h
  | cont => exact e h
  | next => exact e h
theorem itemsJ {ws : List (Addr × String)} {keep : List (Addr × Obj)} {xs : List Itm} (J : Nat → (Str → Option Value) → List (Addr × Obj) → Prop)
    (turn : ∀ i a v m₁ news₁ h tk its, xs[i]? = some a → a.Is v h → J i m₁ news₁ → SubL keep news₁ → Fr h₀ env.locals h m₁ → Objs ws its → News h₀ env.locals h (its ++ news₁) →
      wpAny (model prog w) A (assign target env v) (fun _ s₂ => wpAny (model prog w) A (execs body env) (UnrPostW h₀ env.locals { s with heap := h, toks := tk } its (fun m' n' => SubL keep n' ∧ J (i + 1) m' n') Q) E s₂) E { s with heap := h, toks := tk })
    (done : ∀ m' news' h tk, J xs.length m' news' → Fr h₀ env.locals h m' → News h₀ env.locals h news' → Q .next { s with heap := h, toks := tk }) :
    ∀ (k i : Nat) (m : Str → Option Value) (news : List (Addr × Obj)), i + k = xs.length → J i m news → SubL keep news → ItemsRest prog w A E h₀ env target body Q s ws keep (xs.drop i) m news := by
  intro k
  induction k with
  | zero =>
    intro i m news hi hJ _
    rw [List.drop_eq_nil_of_le (Nat.le_of_eq (by lia))]
    have : i = xs.length := by lia
    subst this
    exact ItemsRest.zero fun h tk F N => done m news h tk hJ F N
  | succ k ih =>
    intro i m news hi hJ hk
    have hlt : i < xs.length := by lia
    rw [List.drop_eq_getElem_cons hlt]
    intro v h tk hv F
    refine allObj fun its ho N => ?_
    refine wpAny_mono (turn i _ v m news h tk its (List.getElem?_eq_getElem hlt) hv hJ hk F ho N) (fun _ s₂ q => wpAny_mono q (fun f s₃ p => ?_) fun _ _ e => e) fun _ _ e => e
    exact unr_mono (fun m' n' x => ⟨x.1, ih (i + 1) m' n' (by lia) x.2 x.1⟩) f _ _ p
theorem enumJ {elts : List Expr} {kk : Nat} {pos : Pos} {l : Addr} {vs : List Value} {n : Nat} {m₀ : Str → Option Value} {news : List (Addr × Obj)} (J : Nat → (Str → Option Value) → List (Addr × Obj) → Prop)
    (hh : A.handled = none) (F : Fr h₀ env.locals s.heap m₀) (N : News h₀ env.locals s.heap news) (hm : (l, listOf vs.toArray n) ∈ news) (hJ : J 0 m₀ news)
    (turn : ∀ (I : Addr) (o1 o2 : Obj) i v m₁ news₁ h tk T t, (∀ p ∈ news, p.1 < I) → vs[i]? = some v → J i m₁ news₁ → (l, listOf vs.toArray n) ∈ news₁ → IsTup h T #[.int (i : Int) t, v] → Fr h₀ env.locals h m₁ → News h₀ env.locals h ((I + 1, o1) :: (I, o2) :: news₁) →
      wpAny (model prog w) A (assign (.Tuple elts kk pos) env (.ref T)) (fun _ s₂ => wpAny (model prog w) A (execs body env) (UnrPostW h₀ env.locals { s with heap := h, toks := tk } [(I + 1, o1), (I, o2)] (fun m' n' => SubL [(l, listOf vs.toArray n)] n' ∧ J (i + 1) m' n') Q) E s₂) E { s with heap := h, toks := tk })
    (done : ∀ m' news' h tk, J vs.length m' news' → Fr h₀ env.locals h m' → News h₀ env.locals h news' → Q .next { s with heap := h, toks := tk }) :
    wpAny (model prog w) A (call (.type "enumerate") [.ref l]) (fun xv s₁ => wpAny (model prog w) A (pyIter xv) (fun it s₂ => TurnsAt prog w A h₀ env (.Tuple elts kk pos) body Q E it s₂) E s₁) E s := by
  refine ktu_enum (lo := listOf vs.toArray n) (vs := vs) (n := n) hh F N hm rfl rfl rfl (fun I hI => ?_)
  refine itemsJ (xs := enumItems 0 vs) J ?_ ?_ vs.length 0 m₀ news (by simp [enumItems_length]) hJ (And.intro hm trivial)
  · intro i a v m₁ news₁ h tk its ha hv hJ' hk F' ho N'
    have hlt : i < vs.length := by
      have := (List.getElem?_eq_some_iff.mp ha).1
      rwa [enumItems_length] at this
    have hg := enumItems_get vs 0 i (List.getElem?_eq_getElem hlt)
    rw [hg] at ha
    cases ha
    obtain ⟨T, t, rfl, ht⟩ := hv
    rw [Nat.zero_add] at ht
    obtain ⟨o1, o2, rfl⟩ := objs2 ho
    exact turn _ o1 o2 i _ m₁ news₁ h tk T t hI (List.getElem?_eq_getElem hlt) hJ' hk.1 ht F' N'
  · intro m' news' h tk hJ' F' N'
    rw [enumItems_length] at hJ'
    exact done m' news' h tk hJ' F' N'
theorem endJ {L : Addr} {I : Addr} {o1 o2 : Obj} {l : Addr} {lo : Obj} {J : (Str → Option Value) → List (Addr × Obj) → Prop} {h' : Heap} {tk : Nat} {m' : Str → Option Value} {all : List (Addr × Obj)} (F : Fr h₀ L h' m') (N : News h₀ L h' all) (news' : List (Addr × Obj))
    (sub : ∀ p ∈ (I + 1, o1) :: (I, o2) :: news', p ∈ all) (lt : ∀ p ∈ news', p.1 ≠ I ∧ p.1 ≠ I + 1) (hl : (l, lo) ∈ news') (r : J m' news') : UnrEndW h₀ L s [(I + 1, o1), (I, o2)] (fun m' n' => SubL [(l, lo)] n' ∧ J m' n') { s with heap := h', toks := tk } :=
  ⟨h', tk, m', news', rfl, F, fun p hp => N p (sub p hp), fun p hp q hq => by
    have := lt p hp
    rcases List.mem_cons.mp hq with rfl | hq
    · exact this.2
    · rw [List.mem_singleton.mp hq]; exact this.1, And.intro hl trivial, r⟩
theorem lt_off {news : List (Addr × Obj)} {I : Addr} (h : ∀ p ∈ news, p.1 < I) : ∀ p ∈ news, p.1 ≠ I ∧ p.1 ≠ I + 1 := fun p hp => by
  have : p.1 < I := h p hp
  exact ⟨Nat.ne_of_lt this, Nat.ne_of_lt (Nat.lt_succ_of_lt this)⟩
theorem rangeJ {x : Str} {px : Pos} {r : Addr} {n : Nat} {t u v : Tok} {m₀ : Str → Option Value} {news : List (Addr × Obj)} (J : Nat → (Str → Option Value) → List (Addr × Obj) → Prop)
    (hh : A.handled = none) (F : Fr h₀ env.locals s.heap m₀) (N : News h₀ env.locals s.heap news) (hr : IsRange s.heap r 0 (n : Int) 1 t u v) (hsm : Builtin.Range.small 0 (n : Int) 1 = true) (hn : Builtin.Range.rangeSize 0 (n : Int) 1 = (n : Int)) (hJ : J 0 m₀ news)
    (turn : ∀ (I : Addr) (o1 : Obj) i m₁ news₁ h tk t, (∀ p ∈ news, p.1 < I) → i < n → J i m₁ news₁ → Fr h₀ env.locals h m₁ → News h₀ env.locals h ((I, o1) :: news₁) →
      wpAny (model prog w) A (assign (.Name x px) env (.int (i : Int) t)) (fun _ s₂ => wpAny (model prog w) A (execs body env) (UnrPostW h₀ env.locals { s with heap := h, toks := tk } [(I, o1)] (fun m' n' => SubL [] n' ∧ J (i + 1) m' n') Q) E s₂) E { s with heap := h, toks := tk })
    (done : ∀ m' news' h tk, J n m' news' → Fr h₀ env.locals h m' → News h₀ env.locals h news' → Q .next { s with heap := h, toks := tk }) :
    wpAny (model prog w) A (pyIter (.ref r)) (fun it s₂ => TurnsAt prog w A h₀ env (.Name x px) body Q E it s₂) E s := by
  refine wpAny_pyIter_range hr hsm ?_
  have W0 : Walks prog w A s.heap.objs.size [s.heap.objs.size] [s.heap.objs.size] n (fun i v => i < n ∧ ∃ t, v = .int (0 + (i : Int) * 1) t) (fun i h => IsRangeIter h s.heap.objs.size (0 + (i : Nat) * 1) ((n : Int) - (i : Nat)) 1) := (Walks.range hh s.heap.objs.size 0 1 n).bound
  have W := KTurns.ofWalks (target := .Name x px) W0 (fun i v s Q E st q => wpAny_pure q)
  have hlen : ((List.range n).map fun i : Nat => Itm.tok (fun t => Value.int (i : Int) t)).length = n := by simp
  refine ktu_core (tk0 := s.toks) (keep := []) (ws := [(s.heap.objs.size, "range_iterator")]) (xs := (List.range n).map fun i : Nat => Itm.tok (fun t => Value.int (i : Int) t)) W hlen.symm ?_ ?_ ?_ ?_ ?_ ?_ ?_ ?_ (F.push _) (fun p hp => ⟨Heap.get?_push_of_some _ (N p hp).1, (N p hp).2⟩) trivial ?_
  · rintro i v h ⟨hi, t, rfl⟩
    refine ⟨Itm.tok (fun t => Value.int (i : Int) t), ?_, t, ?_⟩
    · simp [hi]
    · show Value.int (0 + (i : Int) * 1) t = Value.int (i : Int) t
      rw [Int.zero_add, Int.mul_one]
  · intro i h st
    exact ⟨[(s.heap.objs.size, _)], ⟨⟨rfl, rfl⟩, trivial⟩, fun p hp => by rw [List.mem_singleton.mp hp]; exact st⟩
  · intro b hb
    have hb' : b = s.heap.objs.size := by simpa using hb
    subst hb'
    exact ⟨by simp, next_is_new F⟩
  · intro b hb
    simpa using hb
  · intro b hb
    exact .inl (by simpa using hb)
  · intro hI
    exact absurd F.ns.lt ((List.mem_singleton.mp hI) ▸ Nat.lt_irrefl _)
  · intro p hp hI
    exact absurd (Heap.lt_size (N p hp).1) ((List.mem_singleton.mp hI) ▸ Nat.lt_irrefl _)
  · show IsRangeIter _ _ _ _ _
    rw [hn]
    simpa using Heap.get?_push_size _ rfl
  · refine itemsJ (xs := (List.range n).map fun i : Nat => Itm.tok (fun t => Value.int (i : Int) t)) J ?_ ?_ n 0 m₀ news (by simp) hJ trivial
    · intro i a v m₁ news₁ h tk its ha hv hJ' hk F' ho N'
      have hlt : i < n := by
        have := (List.getElem?_eq_some_iff.mp ha).1
        rwa [hlen] at this
      have ha' : a = Itm.tok (fun t => Value.int (i : Int) t) := by
        have := (List.getElem?_eq_some_iff.mp ha).2
        simpa using this.symm
      subst ha'
      obtain ⟨t, rfl⟩ := hv
      obtain ⟨o1, rfl⟩ := objs1 ho
      exact turn _ o1 i m₁ news₁ h tk t (fun p hp => Heap.lt_size (N p hp).1) hlt hJ' F' N'
    · intro m' news' h tk hJ' F' N'
      rw [hlen] at hJ'
      exact done m' news' h tk hJ' F' N'
theorem endR {L : Addr} {I : Addr} {o1 : Obj} {J : (Str → Option Value) → List (Addr × Obj) → Prop} {h' : Heap} {tk : Nat} {m' : Str → Option Value} {all : List (Addr × Obj)} (F : Fr h₀ L h' m') (N : News h₀ L h' all) (news' : List (Addr × Obj))
    (sub : ∀ p ∈ (I, o1) :: news', p ∈ all) (lt : ∀ p ∈ news', p.1 ≠ I ∧ p.1 ≠ I + 1) (r : J m' news') : UnrEndW h₀ L s [(I, o1)] (fun m' n' => SubL [] n' ∧ J m' n') { s with heap := h', toks := tk } :=
  ⟨h', tk, m', news', rfl, F, fun p hp => N p (sub p hp), fun p hp q hq => by
    rw [List.mem_singleton.mp hq]; exact (lt p hp).1, trivial, r⟩
theorem compJ {L : Addr} {m : Str → Option Value} {elt : Expr} {x : Str} {scope : Scope} {cl : List (Str × Addr)} {S : List (Addr × Obj) → Prop} {P : Nat → Value → Prop} {Fin : List Value → List (Addr × Obj) → Prop} {n : Nat} (J : Nat → List Value → List (Addr × Obj) → Prop)
    (turn : ∀ i v ys news I oI C oC D m₂ h tk (E' : Value → Shared → Prop), i < n → J i ys news → P i v → LCg.NsObj oC m₂ → m₂ x = some v → Fr h₀ L h m → News h₀ L h ((I, oI) :: (C, oC) :: (D, LCg.lst ys) :: news) → LCg.Off3 I C D news → ((@Ne Nat I C) ∧ (@Ne Nat I D) ∧ (@Ne Nat C D)) →
      wpAny (model prog w) A (eval elt (compEnvC scope cl C env)) (LCg.CompEnd h₀ L m { s with heap := h, toks := tk } I oI C oC D (LCg.lst ys) S (fun y news' => J (i + 1) (ys ++ [y]) news')) E' { s with heap := h, toks := tk })
    (done : ∀ ys news, J n ys news → Fin ys news) :
    ∀ (k i : Nat) (ys : List Value) (news : List (Addr × Obj)), i + k = n → J i ys news → LCg.CompRest prog w A h₀ L m env elt x scope cl s S P Fin k i ys news := by
  intro k
  induction k with
  | zero =>
    intro i ys news hi hJ
    have : i = n := by lia
    subst this
    exact LCg.CompRest.zero (done ys news hJ)
  | succ k ih =>
    intro i ys news hi hJ
    refine LCg.CompRest.succ fun v I oI C oC D m₂ h tk E' hP hC hx F N off ne => ?_
    refine wpAny_mono (turn i v ys news I oI C oC D m₂ h tk E' (by lia) hJ hP hC hx F N off ne) (fun y s₂ q => ?_) fun _ _ e => e
    obtain ⟨h', tk', news', e, F', N', o', hS, r⟩ := q
    exact ⟨h', tk', news', e, F', N', o', hS, ih (i + 1) _ _ (by lia) r⟩
theorem compEnd {L I C D : Addr} {m : Str → Option Value} {oI oC oD : Obj} {S : List (Addr × Obj) → Prop} {rest : Value → List (Addr × Obj) → Prop} {y : Value} {h' : Heap} {tk : Nat} {all : List (Addr × Obj)}
    (F : Fr h₀ L h' m) (N : News h₀ L h' all) (news' : List (Addr × Obj)) (sub : ∀ p ∈ (I, oI) :: (C, oC) :: (D, oD) :: news', p ∈ all) (off : ∀ p ∈ news', p.1 ≠ I ∧ p.1 ≠ C ∧ p.1 ≠ D) (hS : S news') (r : rest y news') :
    LCg.CompEnd h₀ L m s I oI C oC D oD S rest y { s with heap := h', toks := tk } := ⟨h', tk, news', rfl, F, fun p hp => N p (sub p hp), LCg.Off3.of off, hS, r⟩
end
end Mine
end
section
open PySem PySem.W PyProof.Rows
namespace Mine
/-- three texts in a list of the ledger -/
noncomputable def TxtsIn (news : List (Addr × Obj)) (X : Addr) (tx : Nat → PySem.Str) (b : Nat) : Prop :=
  ∃ (vs : List Value) (n : Nat), (X, listOf vs.toArray n) ∈ news ∧ vs.length = 3 ∧ ∀ (j : Nat) v, vs[j]? = some v → ∃ t, v = Value.str (tx j) t ∧ (tx j).length ≤ b
noncomputable def IntsRow (news : List (Addr × Obj)) (v : Value) (f : Nat → Int) : Prop :=
  ∃ (a : Addr) (vs : List Value) (n : Nat), v = Value.ref a ∧ (a, listOf vs.toArray n) ∈ news ∧ vs.length = 3 ∧ ∀ (j : Nat) v, vs[j]? = some v → ∃ t, v = Value.int (f j) t
/-- three rows of three ints -/
noncomputable def ToldIn (news : List (Addr × Obj)) (T : Addr) (f : Nat → Nat → Int) : Prop :=
  ∃ (vs : List Value) (n : Nat), (T, listOf vs.toArray n) ∈ news ∧ vs.length = 3 ∧ ∀ (j : Nat) v, vs[j]? = some v → IntsRow news v (f j)
noncomputable def RowAt (news : List (Addr × Obj)) (v : Value) (r : List El) : Prop := ∃ (a : Addr) (ws : List Value) (n : Nat), v = Value.ref a ∧ (a, listOf ws.toArray n) ∈ news ∧ DatAll news ws (r.map elD)
theorem TxtsIn.mono {news news' : List (Addr × Obj)} {X : Addr} {tx : Nat → PySem.Str} {b : Nat} (h : TxtsIn news X tx b) (hs : ∀ p ∈ news, p ∈ news') : TxtsIn news' X tx b :=
  let ⟨vs, n, h1, h2⟩ := h; ⟨vs, n, hs _ h1, h2⟩
theorem IntsRow.mono {news news' : List (Addr × Obj)} {v : Value} {f : Nat → Int} (h : IntsRow news v f) (hs : ∀ p ∈ news, p ∈ news') : IntsRow news' v f :=
  let ⟨a, vs, n, h0, h1, h2⟩ := h; ⟨a, vs, n, h0, hs _ h1, h2⟩
theorem ToldIn.mono {news news' : List (Addr × Obj)} {T : Addr} {f : Nat → Nat → Int} (h : ToldIn news T f) (hs : ∀ p ∈ news, p ∈ news') : ToldIn news' T f :=
  let ⟨vs, n, h1, h2, h3⟩ := h; ⟨vs, n, hs _ h1, h2, fun j v hv => (h3 j v hv).mono hs⟩
theorem RowAt.mono {news news' : List (Addr × Obj)} {v : Value} {r : List El} (h : RowAt news v r) (hs : ∀ p ∈ news, p ∈ news') : RowAt news' v r :=
  let ⟨a, ws, n, h0, h1, h2⟩ := h; ⟨a, ws, n, h0, hs _ h1, h2.mono hs⟩
section
variable {prog : Program} {w : World} {A : Around} {E : Value → Shared → Prop} {s : Shared} {value slice : PySem.Expr} {h₀ : Heap} {Lo : Addr} {news : List (Addr × Obj)} {u : Tok} {Q : Value → Shared → Prop}
theorem item_of {l : Addr} {vs : List Value} {n i : Nat} (p : Value → Prop) (N : News h₀ Lo s.heap news) (hm : (l, listOf vs.toArray n) ∈ news) (h3 : vs.length = 3) (hp : ∀ v, vs[i]? = some v → p v) (hi : i < 3) (h : ∀ v, p v → Q v s)
    (hs : subscripted slice false (.ref l) (.int (i : Int) u) = operate [.ref l, .int (i : Int) u] (getItem (.ref l) (.int (i : Int) u)) := by with_unfolding_all rfl) :
    wpAny (model prog w) A (subscriptTail value slice (.ref l) (.int (i : Int) u)) Q E s := by
  have hl : s.heap.IsList l vs.toArray := ⟨_, (N _ hm).1, rfl, n, rfl⟩
  have hlt : i < vs.length := by omega
  have e : vs[i]? = some vs[i] := List.getElem?_eq_getElem hlt
  exact tail_any hl.typeIs slot_list_getitem.lookup (wpAny_getItem_list hl (Int.natCast_nonneg _) (by omega) (x := vs[i]) (by simpa using e) (h _ (hp _ e))) hs
theorem item_told {T : Addr} {f : Nat → Nat → Int} {i : Nat} (N : News h₀ Lo s.heap news) (hT : ToldIn news T f) (hi : i < 3) (h : ∀ a, IntsRow news (.ref a) (f i) → Q (.ref a) s)
    (hs : subscripted slice false (.ref T) (.int (i : Int) u) = operate [.ref T, .int (i : Int) u] (getItem (.ref T) (.int (i : Int) u)) := by with_unfolding_all rfl) :
    wpAny (model prog w) A (subscriptTail value slice (.ref T) (.int (i : Int) u)) Q E s := by
  obtain ⟨vs, n, h1, h2, h3⟩ := hT
  refine item_of (fun v => IntsRow news v (f i)) N h1 h2 (h3 i) hi (fun v hv => ?_) hs
  obtain ⟨a, vs', n', rfl, h'⟩ := id hv
  exact h a hv
theorem item_row {a : Addr} {f : Nat → Int} {i : Nat} (N : News h₀ Lo s.heap news) (hT : IntsRow news (.ref a) f) (hi : i < 3) (h : ∀ t, Q (.int (f i) t) s)
    (hs : subscripted slice false (.ref a) (.int (i : Int) u) = operate [.ref a, .int (i : Int) u] (getItem (.ref a) (.int (i : Int) u)) := by with_unfolding_all rfl) :
    wpAny (model prog w) A (subscriptTail value slice (.ref a) (.int (i : Int) u)) Q E s := by
  obtain ⟨a', vs, n, e, h1, h2, h3⟩ := hT
  cases e
  exact item_of (fun v => ∃ t, v = Value.int (f i) t) N h1 h2 (h3 i) hi (fun v ⟨t, e⟩ => e ▸ h t) hs
theorem item_txt {X : Addr} {tx : Nat → PySem.Str} {b i : Nat} (N : News h₀ Lo s.heap news) (hT : TxtsIn news X tx b) (hi : i < 3) (h : ∀ t, (tx i).length ≤ b → Q (.str (tx i) t) s)
    (hs : subscripted slice false (.ref X) (.int (i : Int) u) = operate [.ref X, .int (i : Int) u] (getItem (.ref X) (.int (i : Int) u)) := by with_unfolding_all rfl) :
    wpAny (model prog w) A (subscriptTail value slice (.ref X) (.int (i : Int) u)) Q E s := by
  obtain ⟨vs, n, h1, h2, h3⟩ := hT
  exact item_of (fun v => ∃ t, v = Value.str (tx i) t ∧ (tx i).length ≤ b) N h1 h2 (h3 i) hi (fun v ⟨t, e, hb⟩ => e ▸ h t hb) hs
end
/-- the rows of the texts, made one by one -/
noncomputable def RowsJ (news : List (Addr × Obj)) (r : Nat → List El) (i : Nat) (ys : List Value) (nx : List (Addr × Obj)) : Prop :=
  ys.length = i ∧ (∀ p ∈ news, p ∈ nx) ∧ ∀ (j : Nat) v, ys[j]? = some v → RowAt nx v (r j)
theorem rowsJ0 {news : List (Addr × Obj)} {r : Nat → List El} : RowsJ news r 0 [] news := ⟨rfl, fun _ h => h, fun j v h => by simp at h⟩
theorem rowsJ1 {news nx : List (Addr × Obj)} {r : Nat → List El} {i : Nat} {ys : List Value} {R : Addr} {ws : List Value} {n : Nat} {tl : List (Addr × Obj)} (h : RowsJ news r i ys nx) (D : DatAll tl ws ((r i).map elD)) : RowsJ news r (i + 1) (ys ++ [.ref R]) ((R, listOf ws.toArray n) :: (tl ++ nx)) := by
  obtain ⟨h1, h2, h3⟩ := h
  refine ⟨by simp [h1], fun p hp => .tail _ (List.mem_append.mpr (.inr (h2 p hp))), fun j v hv => ?_⟩
  by_cases hj : j < ys.length
  · rw [List.getElem?_append_left hj] at hv
    exact (h3 j v hv).mono fun p hp => .tail _ (List.mem_append.mpr (.inr hp))
  · have hlt := (List.getElem?_eq_some_iff.mp hv).1
    rw [List.length_append, List.length_singleton] at hlt
    have : j = i := by omega
    subst this
    rw [List.getElem?_append_right (by omega)] at hv
    have : v = .ref R := by
      rw [h1, Nat.sub_self] at hv
      simpa using hv.symm
    subst this
    exact ⟨R, ws, n, rfl, .head _, D.mono fun p hp => .tail _ (List.mem_append.mpr (.inl hp))⟩
end Mine
namespace Mine
theorem news_add {h₀ h : Heap} {Lo : Addr} {l : List (Addr × Obj)} {q : Addr × Obj} (N : News h₀ Lo h l) (hq : q ∈ l) : News h₀ Lo h (q :: l) := fun p hp => by
  rcases List.mem_cons.mp hp with rfl | hp
  · exact N _ hq
  · exact N _ hp
end Mine
namespace Mine
theorem rowsEnd {h₀ h' : Heap} {Lo I C D R : Addr} {m : Str → Option Value} {s : Shared} {oI oC oD ro : Obj} {S : List (Addr × Obj) → Prop} {rest : Value → List (Addr × Obj) → Prop} {y : Value} {tk : Nat} {c9 : Addr × Obj} {tl nx : List (Addr × Obj)}
    (F : Fr h₀ Lo h' m) (N : News h₀ Lo h' ((R, ro) :: (tl ++ (c9 :: (I, oI) :: (C, oC) :: (D, oD) :: nx)))) (off : LCg.Off3 I C D nx) (hR : ∀ p ∈ c9 :: (I, oI) :: (C, oC) :: (D, oD) :: nx, p.1 < R) (ht : ∀ p ∈ tl, R < p.1)
    (hS : S ((R, ro) :: (tl ++ nx))) (r : rest y ((R, ro) :: (tl ++ nx))) : LCg.CompEnd h₀ Lo m s I oI C oC D oD S rest y { s with heap := h', toks := tk } := by
  have hI : I < R := hR (I, oI) (.tail _ (.head _))
  have hC : C < R := hR (C, oC) (.tail _ (.tail _ (.head _)))
  have hD : D < R := hR (D, oD) (.tail _ (.tail _ (.tail _ (.head _))))
  refine compEnd F N _ (fun p hp => ?_) (fun p hp => ?_) hS r
  · rcases List.mem_cons.mp hp with rfl | hp
    · exact .tail _ (List.mem_append.mpr (.inr (.tail _ (.head _))))
    · rcases List.mem_cons.mp hp with rfl | hp
      · exact .tail _ (List.mem_append.mpr (.inr (.tail _ (.tail _ (.head _)))))
      · rcases List.mem_cons.mp hp with rfl | hp
        · exact .tail _ (List.mem_append.mpr (.inr (.tail _ (.tail _ (.tail _ (.head _))))))
        · rcases List.mem_cons.mp hp with rfl | hp
          · exact .head _
          · rcases List.mem_append.mp hp with hp | hp
            · exact .tail _ (List.mem_append.mpr (.inl hp))
            · exact .tail _ (List.mem_append.mpr (.inr (.tail _ (.tail _ (.tail _ (.tail _ hp))))))
  · rcases List.mem_cons.mp hp with rfl | hp
    · exact ⟨Nat.ne_of_gt hI, Nat.ne_of_gt hC, Nat.ne_of_gt hD⟩
    · rcases List.mem_append.mp hp with hp | hp
      · have := ht p hp
        exact ⟨Nat.ne_of_gt (Nat.lt_trans hI this), Nat.ne_of_gt (Nat.lt_trans hC this), Nat.ne_of_gt (Nat.lt_trans hD this)⟩
      · exact off.mem p hp
/-- nothing but names of the frame has changed -/
noncomputable def StJ (led : List (Addr × Obj)) (stored : List Str) (m₀ : Str → Option Value) (m : Str → Option Value) (nx : List (Addr × Obj)) : Prop :=
  nx = led ∧ ∃ u : Str → Option Value, m = fun z => if stored.contains z then u z else m₀ z
theorem stJ0 {led : List (Addr × Obj)} {stored : List Str} {m₀ : Str → Option Value} : StJ led stored m₀ m₀ led := ⟨rfl, m₀, by funext z; simp⟩
theorem stJ1 {led : List (Addr × Obj)} {stored : List Str} {m₀ m : Str → Option Value} (h : ∀ z, stored.contains z = false → m z = m₀ z) : StJ led stored m₀ m led := ⟨rfl, m, by
  funext z
  cases hz : stored.contains z with
  | true => simp
  | false => simp [h z hz]⟩
section
variable {prog : Program} {w : World} {A : Around} {E : Value → Shared → Prop} {s : Shared} {env : Env} {h₀ : Heap} {target : Expr} {body : List Stmt} {Q : Flow → Shared → Prop}
theorem enumS {elts : List Expr} {kk : Nat} {pos : Pos} {l : Addr} {vs : List Value} {n : Nat} {m₀ : Str → Option Value} {news : List (Addr × Obj)} (stored : List Str)
    (hh : A.handled = none) (F : Fr h₀ env.locals s.heap m₀) (N : News h₀ env.locals s.heap news) (hm : (l, listOf vs.toArray n) ∈ news)
    (turn : ∀ (I : Addr) (o1 o2 : Obj) (i : Nat) (v : Value) (u : Str → Option Value) h tk T t, (∀ p ∈ news, p.1 < I) → vs[i]? = some v → IsTup h T #[.int (i : Int) t, v] → Fr h₀ env.locals h (fun z => if stored.contains z then u z else m₀ z) → News h₀ env.locals h ((I + 1, o1) :: (I, o2) :: news) →
      wpAny (model prog w) A (assign (.Tuple elts kk pos) env (.ref T)) (fun _ s₂ => wpAny (model prog w) A (execs body env) (UnrPostW h₀ env.locals { s with heap := h, toks := tk } [(I + 1, o1), (I, o2)] (fun m' n' => SubL [(l, listOf vs.toArray n)] n' ∧ StJ news stored m₀ m' n') Q) E s₂) E { s with heap := h, toks := tk })
    (done : ∀ (u : Str → Option Value) h tk, Fr h₀ env.locals h (fun z => if stored.contains z then u z else m₀ z) → News h₀ env.locals h news → Q .next { s with heap := h, toks := tk }) :
    wpAny (model prog w) A (call (.type "enumerate") [.ref l]) (fun xv s₁ => wpAny (model prog w) A (pyIter xv) (fun it s₂ => TurnsAt prog w A h₀ env (.Tuple elts kk pos) body Q E it s₂) E s₁) E s := by
  refine enumJ (fun _ m nx => StJ news stored m₀ m nx) hh F N hm stJ0 ?_ ?_
  · rintro I o1 o2 i v m₁ news₁ h tk T t hI hv ⟨rfl, u, rfl⟩ _ ht F' N'
    exact turn I o1 o2 i v u h tk T t hI hv ht F' N'
  · rintro m' news' h tk ⟨rfl, u, rfl⟩ F' N'
    exact done u h tk F' N'
theorem endS_enum {L : Addr} {I : Addr} {o1 o2 : Obj} {l : Addr} {lo : Obj} {stored : List Str} {m₀ : Str → Option Value} {h' : Heap} {tk : Nat} {m' : Str → Option Value} {news all : List (Addr × Obj)} (hI : ∀ p ∈ news, p.1 < I) (hl : (l, lo) ∈ news) (F : Fr h₀ L h' m') (N : News h₀ L h' all)
    (sub : ∀ p ∈ (I + 1, o1) :: (I, o2) :: news, p ∈ all) (hr : ∀ z, stored.contains z = false → m' z = m₀ z) : UnrEndW h₀ L s [(I + 1, o1), (I, o2)] (fun m' n' => SubL [(l, lo)] n' ∧ StJ news stored m₀ m' n') { s with heap := h', toks := tk } :=
  endJ F N news sub (lt_off hI) hl (stJ1 hr)
theorem rangeS {x : Str} {px : Pos} {r : Addr} {n : Nat} {t u v : Tok} {m₀ : Str → Option Value} {news : List (Addr × Obj)} (stored : List Str)
    (hh : A.handled = none) (F : Fr h₀ env.locals s.heap m₀) (N : News h₀ env.locals s.heap news) (hr : IsRange s.heap r 0 (n : Int) 1 t u v) (hsm : Builtin.Range.small 0 (n : Int) 1 = true) (hn : Builtin.Range.rangeSize 0 (n : Int) 1 = (n : Int))
    (turn : ∀ (I : Addr) (o1 : Obj) (i : Nat) (u : Str → Option Value) h tk t, (∀ p ∈ news, p.1 < I) → i < n → Fr h₀ env.locals h (fun z => if stored.contains z then u z else m₀ z) → News h₀ env.locals h ((I, o1) :: news) →
      wpAny (model prog w) A (assign (.Name x px) env (.int (i : Int) t)) (fun _ s₂ => wpAny (model prog w) A (execs body env) (UnrPostW h₀ env.locals { s with heap := h, toks := tk } [(I, o1)] (fun m' n' => SubL [] n' ∧ StJ news stored m₀ m' n') Q) E s₂) E { s with heap := h, toks := tk })
    (done : ∀ (u : Str → Option Value) h tk, Fr h₀ env.locals h (fun z => if stored.contains z then u z else m₀ z) → News h₀ env.locals h news → Q .next { s with heap := h, toks := tk }) :
    wpAny (model prog w) A (pyIter (.ref r)) (fun it s₂ => TurnsAt prog w A h₀ env (.Name x px) body Q E it s₂) E s := by
  refine rangeJ (fun _ m nx => StJ news stored m₀ m nx) hh F N hr hsm hn stJ0 ?_ ?_
  · rintro I o1 i m₁ news₁ h tk t hI hi ⟨rfl, u, rfl⟩ F' N'
    exact turn I o1 i u h tk t hI hi F' N'
  · rintro m' news' h tk ⟨rfl, u, rfl⟩ F' N'
    exact done u h tk F' N'
theorem endS_range {L : Addr} {I : Addr} {o1 : Obj} {stored : List Str} {m₀ : Str → Option Value} {h' : Heap} {tk : Nat} {m' : Str → Option Value} {news all : List (Addr × Obj)} (hI : ∀ p ∈ news, p.1 < I) (F : Fr h₀ L h' m') (N : News h₀ L h' all)
    (sub : ∀ p ∈ (I, o1) :: news, p ∈ all) (hr : ∀ z, stored.contains z = false → m' z = m₀ z) : UnrEndW h₀ L s [(I, o1)] (fun m' n' => SubL [] n' ∧ StJ news stored m₀ m' n') { s with heap := h', toks := tk } :=
  endR F N news sub (lt_off hI) (stJ1 hr)
end
end Mine
namespace Mine
section
variable {prog : Program} {w : World} {A : Around} {E : Value → Shared → Prop} {s : Shared} {value slice : PySem.Expr} {h₀ : Heap} {Lo : Addr} {news nw : List (Addr × Obj)} {u : Tok} {Q : Value → Shared → Prop}
theorem item_told' {T : Addr} {f : Nat → Nat → Int} {i : Nat} (hT : ToldIn news T f) (N : News h₀ Lo s.heap nw) (hs : ∀ p ∈ news, p ∈ nw) (hi : i < 3) (h : ∀ a, IntsRow news (.ref a) (f i) → Q (.ref a) s)
    (hz : subscripted slice false (.ref T) (.int (i : Int) u) = operate [.ref T, .int (i : Int) u] (getItem (.ref T) (.int (i : Int) u)) := by with_unfolding_all rfl) :
    wpAny (model prog w) A (subscriptTail value slice (.ref T) (.int (i : Int) u)) Q E s := item_told (sub_news N hs) hT hi h hz
theorem item_row' {a : Addr} {f : Nat → Int} {i : Nat} (hT : IntsRow news (.ref a) f) (N : News h₀ Lo s.heap nw) (hs : ∀ p ∈ news, p ∈ nw) (hi : i < 3) (h : ∀ t, Q (.int (f i) t) s)
    (hz : subscripted slice false (.ref a) (.int (i : Int) u) = operate [.ref a, .int (i : Int) u] (getItem (.ref a) (.int (i : Int) u)) := by with_unfolding_all rfl) :
    wpAny (model prog w) A (subscriptTail value slice (.ref a) (.int (i : Int) u)) Q E s := item_row (sub_news N hs) hT hi h hz
theorem item_txt' {X : Addr} {tx : Nat → PySem.Str} {b i : Nat} (hT : TxtsIn news X tx b) (N : News h₀ Lo s.heap nw) (hs : ∀ p ∈ news, p ∈ nw) (hi : i < 3) (h : ∀ t, (tx i).length ≤ b → Q (.str (tx i) t) s)
    (hz : subscripted slice false (.ref X) (.int (i : Int) u) = operate [.ref X, .int (i : Int) u] (getItem (.ref X) (.int (i : Int) u)) := by with_unfolding_all rfl) :
    wpAny (model prog w) A (subscriptTail value slice (.ref X) (.int (i : Int) u)) Q E s := item_txt (sub_news N hs) hT hi h hz
end
end Mine
end
section
open PySem PySem.W PyProof.Rows
namespace Mine
theorem offD12 {w : World} {A : Around} {Q : Flow → Shared → Prop} {E : Value → Shared → Prop} {s : Shared} {env : Env} (h : Q .next s) : wpAny (model prog w) A (execs [] env) Q E s := by
  k_with_none
  w_top off
  walk1
  exact h
theorem fill12 : (PySem.Challenge.rw_pc0252_01, hd.heap_39) = (PySem.Challenge.rw_pc0252_01, hd.heap_39) := by
  k_fill
  rfl
theorem wordD12_1 : True := by
  k_with "MyRoom" => first
        | (refine' roomL ?h1Y166 ?h2Y166; (case h1Y166 => assumption); (case h2Y166 => exact rfl))
        | (refine' roomA ?h1Y166; (case h1Y166 => assumption))
        | exact Nat.le_of_ble_eq_true rfl
  k_with "MyUnits" => first
        | (refine' unitL ?h1Y167 ?h2Y167; (case h1Y167 => assumption); (case h2Y167 => exact rfl))
        | exact Nat.le_of_ble_eq_true rfl
  k_with "MyLo" => first | assumption | exact Int.le_refl _ | exact Int.le_add_one (by assumption)
  k_with "MyHi" => first | assumption | exact lt_ne (by assumption) (by assumption) | exact Int.natCast_pos.mpr (by assumption) | exact Int.lt_of_lt_of_le (by assumption) (by assumption)
  k_with "call builtin:len" => (
        k_here; (with_reducible show wpAny _ _ (call (Value.builtin "len") [Value.str _ _]) _ _ _);
        k_dflt (refine' len_S ?h1Y170 ?_; (case h1Y170 => assumption)))
  k_with "subscriptTail Name Name str int" => (
        k_here; k_dflt (refine' item_S ?h1Y171 ?h2Y171 ?h3Y171 ?_ ?h4Y171 ?h5Y171; (case h1Y171 => walk_at "MyLo"); (case h2Y171 => walk_at "MyHi"); (case h3Y171 => assumption); (case h4Y171 => with_unfolding_all rfl); (case h5Y171 => intro _; with_unfolding_all rfl)); intro _)
  k_with "subscriptTail Name Constant str int" => (
        k_here; k_dflt (refine' item_S ?h1Y172 ?h2Y172 ?h3Y172 ?_ ?h4Y172 ?h5Y172; (case h1Y172 => walk_at "MyLo"); (case h2Y172 => walk_at "MyHi"); (case h3Y172 => assumption); (case h4Y172 => with_unfolding_all rfl); (case h5Y172 => intro _; with_unfolding_all rfl)); intro _)
  k_with "call builtin:ord" => (
        k_here; k_dflt (refine' ord_S ?h1Y173 ?_; (case h1Y173 => assumption)))
  k_with "MyUse" => (
        (case k1 => k_asm); (case k2 => k_asm); (case k3 => k_asm); (case k4 => k_asm); (case k5 => k_asm); (case k6 => first | exact rfl | assumption); (case k7 => ktr_room); (case k8 => ktr_units); intros; (try k_sweep); (try dsimp only); (try k_fold))
  k_with "MyNum" => first | assumption | omega
  k_with "eval Call" => (k_here; (with_reducible show wpAny _ _ (eval (PySem.Expr.Call (PySem.Expr.Name _ _) _ [] _) _) _ _ _); k_dflt (refine Call_ ?_))
  k_with "MySub" => first | with_reducible exact sub_refl | ((with_reducible refine sub_cons ?_); walk_at "MySub")
  k_with "MyOff" => first
        | exact List.forall_mem_nil _
        | assumption
        | exact off_lt (by assumption)
        | exact off_own (by assumption) (by first | exact List.Mem.head _ | simp)
        | (refine off_app ?_ ?_ <;> walk_at "MyOff")
        | (refine List.forall_mem_cons.mpr ⟨?_, ?_⟩; (focus k_ne); walk_at "MyOff")
  k_with "MyUpd" => first
        | k_upd
        | (refine' Upd.head ?aY179; (case aY179 => walk_at "MyOff"))
        | (refine' Upd.tail ?aY179 ?bY179; (case aY179 => k_ne); (case bY179 => walk_at "MyUpd"))
  k_with "MySize" => first
        | size_fits
        | ((simp only [List.size_toArray, List.length_append, List.length_cons, List.length_nil, PySem.sizeLine_eq]); omega)
  k_with "call builtin:list.append" => (
        k_here; (with_reducible show wpAny _ _ (call (Value.builtin "list.append") [Value.ref _, _]) _ _ _);
        k_dflt (refine' append_K ?k1 ?k2 ?k3 ?_ ?zY181; (case k1 => k_asm); (case k2 => k_asm); (case k3 => walk_at "MyUpd"); (case zY181 => walk_at "MySize"); k_whole);
        intro h'Z F'Z N'Z; (try k_sweep))
  k_with "MyEnterC" => (
        refine' code_defC ?k1 ?k2 ?k3 ?k4 ?k5 ?kAY182 ?kFY182 ?kKY182 ?k6 ?k7 ?k8 ?k9Y182 ?kBY182 ?kDY182 ?_ ?c2Y182 ?c3Y182 ?c4Y182; (case kAY182 => exact rfl); (case kFY182 => exact rfl); (case kKY182 => assumption); (case k1 => k_asm); (case k2 => k_asm); (case k3 => k_asm); (case k4 => k_asm); (case k5 => k_asm); (case k6 => k_is); (case k7 => k_is); (case k8 => ktr_room); (case k9Y182 => exact BindsTo.of_eq rfl); (case kBY182 => exact rfl); (case kDY182 => decide +kernel); (case c2Y182 => exact rfl); (case c3Y182 => exact rfl); (case c4Y182 => exact rfl); k_whole; intro g'Z L'Z h'Z tk'Z cells'Z FG'Z F'Z N'Z Y'Z B'Z X'Z T'Z l1Z; (try k_lt l1Z); k_cells Y'Z; (try simp only [List.cons_append, List.nil_append] at N'Z); (try dsimp only); (try k_lift B'Z); (try k_fold))
  k_with "exec For Tuple Call cons nil" => (k_here; (rename Fr _ _ _ _ => lF'); (with_unfolding_all refine' For_turns lF' ?_; k_whole))
  k_with "exec For Name List cons nil" => (k_here; (rename Fr _ _ _ _ => lF'); (with_unfolding_all refine' For_turns lF' ?_; k_whole))
  k_with "exec For Name Call cons nil" => (k_here; (rename Fr _ _ _ _ => lF'); (with_unfolding_all refine' For_turns lF' ?_; k_whole))
  k_with "call type:enumerate cons nil" => (k_here; refine hold ?_)
  k_with "UnrEndW" => (refine hold ?_)
  k_with "CompSrc" => (k_here; refine hold ?_)
  k_with "CompEnd" => (refine hold ?_)
  k_with "MySameN" => (intro zZ h3Z; (repeat (first
        | with_reducible exact rfl
        | with_reducible refine cont_step h3Z ?_
        | (refine ne_step (ne_st h3Z (by decide +kernel)) ?_)
        | (refine cont_step (ne_sub h3Z (by decide +kernel)) ?_))))
  k_with "call ref" => (
        k_here; (with_reducible show wpAny _ _ (call (.ref 119) _) _ _ _);
        k_dflt (refine' useR (law_row_ok _ _ _ _ _ ?p1Y191) ?k1 ?k2 ?k3 ?k4 ?k5 ?k6 ?k7 ?k8 ?_; (case p1Y191 => omega); walk_at "MyUse"))
  k_with "subscriptTail" => (
        k_here; (with_reducible show wpAny _ _ (subscriptTail _ _ (Value.ref _) (Value.int _ _)) _ _ _);
        k_dflt (first
         | (refine' item_told' ?TY192 ?NY192 ?sY192 ?iY192 ?_ ?zY192; (case TY192 => assumption); (case NY192 => k_asm); (case sY192 => walk_at "MySub"); (case iY192 => assumption); (case zY192 => with_unfolding_all rfl); intro a'Z hr'Z)
         | (refine' item_row' ?TY192 ?NY192 ?sY192 ?iY192 ?_ ?zY192; (case TY192 => assumption); (case NY192 => k_asm); (case sY192 => walk_at "MySub"); (case iY192 => assumption); (case zY192 => with_unfolding_all rfl); intro t'Z)))
  k_with "call ref" => (
        k_here; (with_reducible show wpAny _ _ (call (.ref 126) _) _ _ _);
        k_dflt (refine' useI (law_order_ok _ _ _ _ _ _ _ _ _ _ ?p1Y193 ?p2Y193 ?p3Y193 ?p4Y193) ?k1 ?k2 ?k3 ?k4 ?k5 ?k6 ?k7 ?k8 ?_; (case p1Y193 => assumption); (case p2Y193 => assumption); (case p3Y193 => assumption); (case p4Y193 => assumption); walk_at "MyUse"))
  k_with "call builtin:len" => (
        k_here; (with_reducible show wpAny _ _ (call (Value.builtin "len") [Value.ref _]) _ _ _);
        k_dflt (refine' KM.len_K (n := 3) ?NY194 ?mY194 ?sY194 ?fY194 ?_; (case NY194 => k_asm); (case mY194 => walk_at "MyMem"); (case sY194 => assumption); (case fY194 => decide)))
  k_with "pyIter ref" => (k_here; refine hold ?_)
  trivial
theorem law_is_order_ok (w : World) (news : Led) (T X : Addr) (tx : Nat → PySem.Str) (nc : Bool) (hX : TxtsIn news X tx 2000) (hT : ToldIn news T (fun k j => natR nc (Mine.L (tx k)) (Mine.L (tx j)))) :
   DoesB w 8 138 news [.ref T, .ref X, .bool nc] true := by
  unfold DoesB Does
  intro mean mg mb dp un gd cn cs a ccd cl outer A₀ base h₀ L m s Q E B F X9 N T9 hk hdp hu hret
  refine wpAny_call ?_
  k_dflt (walk_at "MyEnterC")
  k_steps
  refine unhold ?_
  obtain ⟨vs, n, hm, h3, hv⟩ := id hX
  rename News _ _ _ _ => N0
  rename Fr _ _ _ _ => F0
  obtain ⟨c9, hc9⟩ := name_addr N0
  subst hc9
  have h3' : vs.toArray.size = 3 := by simp [h3]
  refine LCg.CompSrc.ledger (ax := X) (its := vs.toArray) rfl F0 N0 (.tail _ hm) (by rw [h3']; exact Nat.le_of_ble_eq_true rfl) ?_
  intro g9
  rw [h3']
  refine compJ (n := 3) (RowsJ _ (fun k => Row nc (Mine.L (tx k)))) ?_ ?_ 3 0 [] _ rfl rowsJ0
  · intro i v ys nx I oI C oC D m₂ h tk E' hi hJ hP hC hx F1 N1 off ne
    obtain ⟨t, rfl, hb⟩ := hv i v (by simpa using hP)
    have N2 := news_add N1 (show _ ∈ _ from .tail _ (.tail _ (.tail _ (hJ.2.1 _ (.head _)))))
    clear N1 N0 F0
    k_steps
    refine unhold (rowsEnd (by k_asm) (by k_asm) off (by assumption) (by assumption) (.inr ⟨_, .tail _ (List.mem_append.mpr (.inr (hJ.2.1 _ (.tail _ hm)))), rfl, _, rfl⟩) (rowsJ1 hJ (by assumption)))
  · intro ys nx hJ
    clear N0 F0
    unfold LCg.FinA
    intro D h8 tk8 F8 N8 o8
    (try dsimp only)
    (try k_fold)
    k_steps
    refine unhold ?_
    rename News _ _ _ _ => N9
    rename Fr _ _ _ _ => F8
    obtain ⟨u9, F9⟩ := fr_open F8 [(Str.ofString "rows", Value.ref D), (Str.ofString "told_rows", Value.ref T)] (by kst_all)
    replace F9 := kclean2 F9
    clear F8
    have hT2 : ToldIn ((D, LCg.lst ys) :: nx) T (fun k j => natR nc (Mine.L (tx k)) (Mine.L (tx j))) := hT.mono fun p hp => .tail _ (hJ.2.1 _ (.tail _ hp))
    have hR2 : ∀ (j : Nat) v, ys[j]? = some v → RowAt ((D, LCg.lst ys) :: nx) v (Row nc (Mine.L (tx j))) := fun j v hv => (hJ.2.2 j v hv).mono fun p hp => .tail _ hp
    have hy3 : ys.length = 3 := hJ.1
    have hy4 : ys.toArray.size = 3 := by simp [hJ.1]
    have hsn : ∀ p ∈ news, p ∈ nx := fun p hp => hJ.2.1 _ (.tail _ hp)
    clear hJ hT hX hm hv o8
    refine enumS [Str.ofString "k", Str.ofString "one", Str.ofString "j", Str.ofString "other", Str.ofString "i"] rfl (by exact F9) (by exact N9) (by exact .head _) ?_ ?_
    · intro I o1 o2 i v u h1 tk1 T1 t1 hI hv hT1 F1 N1
      clear F9 N9
      obtain ⟨a1, ws1, n1, rfl, hm1, hD1⟩ := hR2 i v hv
      have hi : i < 3 := by have := (List.getElem?_eq_some_iff.mp hv).1; omega
      (try dsimp only)
      (try k_fold)
      k_steps
      refine unhold ?_
      rename News _ _ _ _ => N9
      rename Fr _ _ _ _ => F9
      refine enumS [Str.ofString "j", Str.ofString "other", Str.ofString "i"] rfl F9 N9 (.tail _ (.tail _ (.head _))) ?_ ?_
      · intro I2 o3 o4 j v2 u2 h2 tk2 T2 t2 hI2 hv2 hT2' F2 N2
        clear F9 N9
        obtain ⟨a2, ws2, n2, rfl, hm2, hD2⟩ := hR2 j v2 hv2
        have hj : j < 3 := by have := (List.getElem?_eq_some_iff.mp hv2).1; omega
        have hs2 : ∀ p ∈ (D, LCg.lst ys) :: nx, p ∈ (I2 + 1, o3) :: (I2, o4) :: (I + 1, o1) :: (I, o2) :: (D, LCg.lst ys) :: nx := by walk_at "MySub"
        have hma := hs2 _ hm1
        have hmb := hs2 _ hm2
        have hDa := hD1.mono hs2
        have hDb := hD2.mono hs2
        have hq1 : natR nc (Mine.L (tx i)) (Mine.L (tx j)) = ordRow (Row nc (Mine.L (tx i))) (Row nc (Mine.L (tx j))) := rfl
        have hq2 : natR nc (Mine.L (tx j)) (Mine.L (tx i)) = - natR nc (Mine.L (tx i)) (Mine.L (tx j)) := natR_neg _ _ _
        (try dsimp only)
        (try k_fold)
        k_steps
        · exact absurd hq1 (by assumption)
        · omega
        · refine unhold ?_
          rename IsRange _ _ _ _ _ _ _ _ => hr3
          rename News _ _ _ _ => N9
          rename Fr _ _ _ _ => F9
          refine rangeS (n := 3) [Str.ofString "i"] rfl F9 N9 hr3 (by decide) (by decide) ?_ ?_
          · intro I3 o5 i3 u3 h3 tk3 t3 hI3 hi3 F3 N3
            clear F9 N9
            have hq3 : natR nc (Mine.L (tx i)) (Mine.L (tx j)) ≤ 0 → natR nc (Mine.L (tx j)) (Mine.L (tx i3)) ≤ 0 → natR nc (Mine.L (tx i)) (Mine.L (tx i3)) ≤ 0 := fun a b => natR_trans a b
            (try dsimp only)
            (try k_fold)
            k_steps
            · have := hq3 (by assumption) (by assumption)
              omega
            all_goals refine unhold (endS_range hI3 (by k_asm) (by k_asm) (by walk_at "MySub") (by walk_at "MySameN"))
          · intro u3 h3 tk3 F3 N3
            clear F9 N9
            (try dsimp only)
            (try k_fold)
            k_steps
            refine unhold (endS_enum hI2 (.tail _ (.tail _ (.head _))) (by k_asm) (by k_asm) (by walk_at "MySub") (by walk_at "MySameN"))
      · intro u2 h2 tk2 F2 N2
        clear F9 N9
        (try dsimp only)
        (try k_fold)
        k_steps
        refine unhold (endS_enum hI (.head _) (by k_asm) (by k_asm) (by walk_at "MySub") (by walk_at "MySameN"))
    · intro u h1 tk1 F1 N1
      clear F9 N9
      (try dsimp only)
      (try k_fold)
      k_steps
      exact hret _ news _ _ (by k_asm) (sub_news (by k_asm) (fun p hp => .tail _ (hsn p hp))) ⟨rfl, rfl⟩
end Mine
end
section
open PySem PySem.W PyProof.Rows
namespace Mine
theorem offD13 {w : World} {A : Around} {Q : Flow → Shared → Prop} {E : Value → Shared → Prop} {s : Shared} {env : Env} (h : Q .next s) : wpAny (model prog w) A (execs [] env) Q E s := by
  k_with_none
  w_top off
  walk1
  exact h
theorem fill13 : (PySem.Challenge.rw_pc0252_01, hd.heap_39) = (PySem.Challenge.rw_pc0252_01, hd.heap_39) := by
  k_fill
  rfl
theorem wordD13_1 : True := by
  k_with "MyRoom" => first
        | (refine' roomL ?h1Y196 ?h2Y196; (case h1Y196 => assumption); (case h2Y196 => exact rfl))
        | (refine' roomA ?h1Y196; (case h1Y196 => assumption))
        | exact Nat.le_of_ble_eq_true rfl
  k_with "MyUnits" => first
        | (refine' unitL ?h1Y197 ?h2Y197; (case h1Y197 => assumption); (case h2Y197 => exact rfl))
        | exact Nat.le_of_ble_eq_true rfl
  k_with "MyLo" => first | assumption | exact Int.le_refl _ | exact Int.le_add_one (by assumption)
  k_with "MyHi" => first | assumption | exact lt_ne (by assumption) (by assumption) | exact Int.natCast_pos.mpr (by assumption) | exact Int.lt_of_lt_of_le (by assumption) (by assumption)
  k_with "call builtin:len" => (
        k_here; (with_reducible show wpAny _ _ (call (Value.builtin "len") [Value.str _ _]) _ _ _);
        k_dflt (refine' len_S ?h1Y200 ?_; (case h1Y200 => assumption)))
  k_with "subscriptTail Name Name str int" => (
        k_here; k_dflt (refine' item_S ?h1Y201 ?h2Y201 ?h3Y201 ?_ ?h4Y201 ?h5Y201; (case h1Y201 => walk_at "MyLo"); (case h2Y201 => walk_at "MyHi"); (case h3Y201 => assumption); (case h4Y201 => with_unfolding_all rfl); (case h5Y201 => intro _; with_unfolding_all rfl)); intro _)
  k_with "subscriptTail Name Constant str int" => (
        k_here; k_dflt (refine' item_S ?h1Y202 ?h2Y202 ?h3Y202 ?_ ?h4Y202 ?h5Y202; (case h1Y202 => walk_at "MyLo"); (case h2Y202 => walk_at "MyHi"); (case h3Y202 => assumption); (case h4Y202 => with_unfolding_all rfl); (case h5Y202 => intro _; with_unfolding_all rfl)); intro _)
  k_with "call builtin:ord" => (
        k_here; k_dflt (refine' ord_S ?h1Y203 ?_; (case h1Y203 => assumption)))
  k_with "MyUse" => (
        (case k1 => k_asm); (case k2 => k_asm); (case k3 => k_asm); (case k4 => k_asm); (case k5 => k_asm); (case k6 => first | exact rfl | assumption); (case k7 => ktr_room); (case k8 => ktr_units); intros; (try k_sweep); (try dsimp only); (try k_fold))
  k_with "MyNum" => first | assumption | omega
  k_with "eval Call" => (k_here; (with_reducible show wpAny _ _ (eval (PySem.Expr.Call (PySem.Expr.Name _ _) _ [] _) _) _ _ _); k_dflt (refine Call_ ?_))
  k_with "MySub" => first | with_reducible exact sub_refl | ((with_reducible refine sub_cons ?_); walk_at "MySub")
  k_with "MyOff" => first
        | exact List.forall_mem_nil _
        | assumption
        | exact off_lt (by assumption)
        | exact off_own (by assumption) (by first | exact List.Mem.head _ | simp)
        | (refine off_app ?_ ?_ <;> walk_at "MyOff")
        | (refine List.forall_mem_cons.mpr ⟨?_, ?_⟩; (focus k_ne); walk_at "MyOff")
  k_with "MyUpd" => first
        | k_upd
        | (refine' Upd.head ?aY209; (case aY209 => walk_at "MyOff"))
        | (refine' Upd.tail ?aY209 ?bY209; (case aY209 => k_ne); (case bY209 => walk_at "MyUpd"))
  k_with "MySize" => first
        | size_fits
        | ((simp only [List.size_toArray, List.length_append, List.length_cons, List.length_nil, PySem.sizeLine_eq]); omega)
  k_with "call builtin:list.append" => (
        k_here; (with_reducible show wpAny _ _ (call (Value.builtin "list.append") [Value.ref _, _]) _ _ _);
        k_dflt (refine' append_K ?k1 ?k2 ?k3 ?_ ?zY211; (case k1 => k_asm); (case k2 => k_asm); (case k3 => walk_at "MyUpd"); (case zY211 => walk_at "MySize"); k_whole);
        intro h'Z F'Z N'Z; (try k_sweep))
  k_with "exec For Tuple Call cons nil" => (k_here; (rename Fr _ _ _ _ => lF'); (with_unfolding_all refine' For_turns lF' ?_; k_whole))
  k_with "exec For Name List cons nil" => (k_here; (rename Fr _ _ _ _ => lF'); (with_unfolding_all refine' For_turns lF' ?_; k_whole))
  k_with "exec For Name Call cons nil" => (k_here; (rename Fr _ _ _ _ => lF'); (with_unfolding_all refine' For_turns lF' ?_; k_whole))
  k_with "call type:enumerate cons nil" => (k_here; refine hold ?_)
  k_with "UnrEndW" => (refine hold ?_)
  k_with "CompSrc" => (k_here; refine hold ?_)
  k_with "CompEnd" => (refine hold ?_)
  k_with "MySameN" => (intro zZ h3Z; (repeat (first
        | with_reducible exact rfl
        | with_reducible refine cont_step h3Z ?_
        | (refine ne_step (ne_st h3Z (by decide +kernel)) ?_)
        | (refine cont_step (ne_sub h3Z (by decide +kernel)) ?_))))
  k_with "subscriptTail" => (
        k_here; (with_reducible show wpAny _ _ (subscriptTail _ _ (Value.ref _) (Value.int _ _)) _ _ _);
        k_dflt (first
         | (refine' item_told' ?TY220 ?NY220 ?sY220 ?iY220 ?_ ?zY220; (case TY220 => assumption); (case NY220 => k_asm); (case sY220 => walk_at "MySub"); (case iY220 => assumption); (case zY220 => with_unfolding_all rfl); intro a'Z hr'Z)
         | (refine' item_row' ?TY220 ?NY220 ?sY220 ?iY220 ?_ ?zY220; (case TY220 => assumption); (case NY220 => k_asm); (case sY220 => walk_at "MySub"); (case iY220 => assumption); (case zY220 => with_unfolding_all rfl); intro t'Z)
         | (refine' item_txt' ?TY220 ?NY220 ?sY220 ?iY220 ?_ ?zY220; (case TY220 => assumption); (case NY220 => k_asm); (case sY220 => walk_at "MySub"); (case iY220 => assumption); (case zY220 => with_unfolding_all rfl); intro t'Z ht'Z)))
  k_with "call ref" => (
        k_here; (with_reducible show wpAny _ _ (call (.ref 91) _) _ _ _);
        k_dflt (refine' useI (natural_ok _ _ _ _ _ _ _ ?p1Y221 ?p2Y221) ?k1 ?k2 ?k3 ?k4 ?k5 ?k6 ?k7 ?k8 ?_; (case p1Y221 => assumption); (case p2Y221 => assumption); walk_at "MyUse"))
  trivial
theorem law_spells_ok (w : World) (news : Led) (X Y T : Addr) (tx sp : Nat → PySem.Str) (nc : Bool) (hX : TxtsIn news X tx 2000) (hY : TxtsIn news Y sp 2000) (hE : ∀ j, j < 3 → Row false (Mine.L (sp j)) = Row false (Mine.L (tx j))) (hT : ToldIn news T (fun k j => natR nc (Mine.L (tx k)) (Mine.L (tx j)))) :
   DoesB w 8 145 news [.ref X, .ref Y, .ref T, .bool nc] true := by
  unfold DoesB Does
  intro mean mg mb dp un gd cn cs a ccd cl outer A₀ base h₀ L m s Q E B F X9 N T9 hk hdp hu hret
  refine wpAny_call ?_
  k_dflt cell_enter
  k_steps
  refine unhold ?_
  rename News _ _ _ _ => N9
  rename Fr _ _ _ _ => F8
  obtain ⟨u9, F9⟩ := fr_open F8 [(Str.ofString "texts", Value.ref X), (Str.ofString "spellings", Value.ref Y), (Str.ofString "told_rows", Value.ref T), (Str.ofString "is_nocase", Value.bool nc)] (by kst_all)
  replace F9 := kclean4 F9
  clear F8
  obtain ⟨vx, nx, hmx, hx3, hvx⟩ := id hX
  obtain ⟨vy, ny, hmy, hy3, hvy⟩ := id hY
  refine enumS [Str.ofString "k", Str.ofString "spelling", Str.ofString "j", Str.ofString "text"] rfl F9 N9 hmy ?_ ?_
  · intro I o1 o2 i v u h1 tk1 T1 t1 hI hv hT1 F1 N1
    clear F9 N9
    obtain ⟨ty, rfl, hyb⟩ := hvy i v hv
    have hi : i < 3 := by have := (List.getElem?_eq_some_iff.mp hv).1; omega
    have hq1 : natR nc (Mine.L (sp i)) (Mine.L (tx i)) = 0 := natR_0 (hE i hi)
    (try dsimp only)
    (try k_fold)
    k_steps
    · exact absurd hq1 (by assumption)
    · refine unhold ?_
      rename News _ _ _ _ => N9
      rename Fr _ _ _ _ => F9
      refine enumS [Str.ofString "j", Str.ofString "text"] rfl F9 N9 (.tail _ (.tail _ hmx)) ?_ ?_
      · intro I2 o3 o4 j v2 u2 h2 tk2 T2 t2 hI2 hv2 hT2 F2 N2
        clear F9 N9
        obtain ⟨tx2, rfl, hxb⟩ := hvx j v2 hv2
        have hj : j < 3 := by have := (List.getElem?_eq_some_iff.mp hv2).1; omega
        have hq2 : natR nc (Mine.L (tx j)) (Mine.L (sp i)) = natR nc (Mine.L (tx j)) (Mine.L (tx i)) := natR_r (hE i hi)
        (try dsimp only)
        (try k_fold)
        k_steps
        · exact absurd hq2 (by assumption)
        · refine unhold (endS_enum hI2 (.tail _ (.tail _ hmx)) (by k_asm) (by k_asm) (by walk_at "MySub") (by walk_at "MySameN"))
      · intro u2 h2 tk2 F2 N2
        clear F9 N9
        (try dsimp only)
        (try k_fold)
        k_steps
        refine unhold (endS_enum hI hmy (by k_asm) (by k_asm) (by walk_at "MySub") (by walk_at "MySameN"))
  · intro u h1 tk1 F1 N1
    clear F9 N9
    (try dsimp only)
    (try k_fold)
    k_steps
    exact hret _ news _ _ (by k_asm) (by k_asm) ⟨rfl, rfl⟩
end Mine
end
section
open PySem PySem.W PyProof.Rows PySem.Spec
namespace Mine
noncomputable def cellObj : Obj := { cls := .type "cell", data := .cell none }
/-- the room of a block that has one cell -/
theorem newEnv_cell {M : Model} {A : Around} {E : Value → Shared → Prop} {s : Shared} {scope : Scope} {globals bi : Addr} {cl : List (Str × Addr)} {qual : Str} {x : Str} {outer : Env} {Q : Env → Shared → Prop}
    (h1 : ∀ n acc, cellsFrom n scope.names acc = (x, n) :: acc) (h2 : ∀ h, pushCells h scope.names = h.push cellObj)
    (hQ : Q { scope := scope, locals := s.heap.objs.size, globals := globals, cells := (x, s.heap.objs.size + 1) :: cl, qual := qual, func := none, code := outer.code, frame := outer.frame, builtins := outer.builtins }
      { s with heap := (s.heap.push { cls := .type "dict", data := .dict #[] }).push cellObj }) :
    wpAny M A (newFunctionEnv scope globals cl [] qual none .none (some outer) bi) Q E s := by
  simp only [newFunctionEnv, Option.isSome_some, if_true]
  refine wpAny_bind (wpAny_alloc ?_)
  refine wpAny_bind (wpAny_layCells _ (fun name kind cells => by cases hkc : kind == NameKind.cell <;> simp [hkc]) _ _ _ _ ?_)
  rw [h1, h2]
  simp only [List.forIn_nil, pure_bind, Heap.size_push]
  exact wpAny_pure hQ
end Mine
namespace Mine
/-- the four objects of the block that an element must leave as they are -/
noncomputable def Off4 (a b c d : Addr) (l : List (Addr × Obj)) : Prop := ∀ p ∈ l, p.1 ≠ a ∧ p.1 ≠ b ∧ p.1 ≠ c ∧ p.1 ≠ d
theorem isCell_of {h₀ h : Heap} {Lo c : Addr} {o : Obj} {v : Option Value} {l : List (Addr × Obj)} (N : News h₀ Lo h l) (hm : (c, o) ∈ l) (hd : o.data = .cell v) : h.IsCell c v := ⟨o, (N _ hm).1, hd⟩
section
variable {prog : Program} {w : World} {A : Around} {E : Value → Shared → Prop} {s : Shared} {env : Env} {h₀ : Heap} {L : Addr} {m : Str → Option Value}
theorem ALC_loop {elt iter : Expr} {x y : Str} {px py : Pos} {scope : Scope} {cl : List (Str × Addr)} {pos : Pos} {Q : Flow → Shared → Prop} {ax I C D K : Addr} {P : Heap} {vs : List Value} {nn : Nat} {news : List (Addr × Obj)}
    (J : Nat → List Value → List (Addr × Obj) → Prop) (hh : A.handled = none) (FP : Fr h₀ env.locals P m) (NP : News h₀ env.locals P news) (hax : (ax, listOf vs.toArray nn) ∈ news) (hsz : vs.length ≤ 1000) (hJ : J 0 [] news)
    (hkind : scope.kind = .function) (hxk : ∀ C c, (compEnvC scope c C env).kindOf x = some .cell) (hy : env.kindOf y = some .local) (hp : (env.scope.kind == .class || (env.scope.kind == .module && env.locals != env.globals)) = false)
    (hIL : env.locals ≠ I) (hDL : D ≠ env.locals) (hCL : C ≠ env.locals) (hKL : K ≠ env.locals) (hI₀ : h₀.get? I = none) (hD₀ : h₀.get? D = none) (hC₀ : h₀.get? C = none) (hK₀ : h₀.get? K = none)
    (hIK : I ≠ K) (hID : I ≠ D) (hIC : I ≠ C) (hCK : C ≠ K) (hDK : D ≠ K) (hDC : D ≠ C) (W : Walks prog w A I [I, ax] [I] vs.length (fun i v => vs.toArray[i]? = some v) (fun i h => h.IsListIter I ax i ∧ h.IsList ax vs.toArray))
    (st0 : P.IsListIter I ax 0 ∧ P.IsList ax vs.toArray) (hDP : P.get? D = some (LCg.lst [])) (hnsC : P.Ns C (fun _ => none)) (hKP : P.get? K = some cellObj) (off0 : Off4 I C D K news)
    (turn : ∀ i v ys nx I oI C oC D K oK h tk (E' : Value → Shared → Prop), vs[i]? = some v → J i ys nx → oK.data = .cell (some v) → (ax, listOf vs.toArray nn) ∈ nx → Fr h₀ env.locals h m →
      News h₀ env.locals h ((K, oK) :: (I, oI) :: (C, oC) :: (D, LCg.lst ys) :: nx) → Off4 I C D K nx → (I ≠ K ∧ C ≠ K ∧ D ≠ K ∧ I ≠ C ∧ I ≠ D ∧ C ≠ D) →
      wpAny (model prog w) A (eval elt (compEnvC scope ((x, K) :: cl) C env)) (fun r s₂ => ∃ h' tk' nx', s₂ = { s with heap := h', toks := tk' } ∧ Fr h₀ env.locals h' m ∧ News h₀ env.locals h' ((K, oK) :: (I, oI) :: (C, oC) :: (D, LCg.lst ys) :: nx') ∧ Off4 I C D K nx' ∧ (ax, listOf vs.toArray nn) ∈ nx' ∧ J (i + 1) (ys ++ [r]) nx') E' { s with heap := h, toks := tk })
    (done : ∀ ys nx D h tk, J vs.length ys nx → Fr h₀ env.locals h (fun z => if z = y then some (.ref D) else m z) → News h₀ env.locals h ((D, LCg.lst ys) :: nx) → (∀ p ∈ nx, p.1 ≠ D) → Q .next { s with heap := h, toks := tk }) :
    codeAny (model prog w) A (.compLoop (.ListComp elt [⟨.Name x px, iter, [], 0⟩] scope pos) 0 (.ref I) (.ref D) (compEnvC scope ((x, K) :: cl) C env))
        (compPost (model prog w) A E (some (assign (.Name y py) env)) (fun _ s' => Q .next s') (.ref D) C) { s with heap := P } := by
  refine codeAny_compLoop_tests
    (fun k s' => ∃ h' tk i ys m' oK v₀ nx, s' = { s with heap := h', toks := tk } ∧ i ≤ vs.length ∧ k = vs.length + 1 - i ∧ ys.length = i ∧ (h'.IsListIter I ax i ∧ h'.IsList ax vs.toArray) ∧ Fr h₀ env.locals h' m ∧ h'.Ns (C) m' ∧
      oK.data = .cell v₀ ∧ News h₀ env.locals h' ((K, oK) :: (D, LCg.lst ys) :: nx) ∧ Off4 I (C) (D) (K) nx ∧ (ax, listOf vs.toArray nn) ∈ nx ∧ J i ys nx) ?_ (vs.length + 1)
    ⟨P, _, 0, [], _, cellObj, none, news, rfl, Nat.zero_le _, rfl, rfl, st0, FP, hnsC, rfl, fun p hp => ?_, off0, hax, hJ⟩
  · rintro k s' ⟨h', tk, i, ys, m', oK, v₀, nx, rfl, hi, rfl, hyl, hst', F', hn', hoK, N', off', hax', hJ'⟩
    by_cases hlt' : i < vs.length
    · refine W.item i _ _ _ hlt' hst' fun v h₂ tk₂ hPv hst₂ hk₂ => ?_
      have hPv' : vs[i]? = some v := by simpa using hPv
      have gK := N' (K, oK) (.head _)
      have kp : ∀ b o, b ≠ I → h'.get? b = some o → h₂.get? b = some o := fun b o hb e => hk₂ b o (by simpa using hb) e
      have hcell₂ : h₂.IsCell (K) v₀ := ⟨oK, kp _ _ (Ne.symm hIK) gK.1, hoK⟩
      refine wpAny_assign_Name (wpAny_storeName_cell (env := compEnvC scope ((x, K) :: cl) (C) env) (c := K) (by simp [compEnvC, relabel, hkind]) (hxk _ _) (by simp [compEnvC]) hcell₂ fun h₃ hcell₃ hs₃ => ?_)
      refine wpAny_tests_nil ?_
      simp only [if_true]
      obtain ⟨oK', hoK', hdK'⟩ := hcell₃
      have ks : ∀ b o, b ≠ K → h₂.get? b = some o → h₃.get? b = some o := fun b o hb e => hs₃.extBut b o hb e
      have hax2 := N' _ (.tail _ (.tail _ hax'))
      have hxK : ax ≠ K := (off' _ hax').2.2.2
      have hst₃ : h₃.IsListIter I ax (i + 1) ∧ h₃.IsList ax vs.toArray := W.frame _ _ _ hst₂ fun b hb o e => ks b o (by
        rcases List.mem_cons.mp hb with rfl | hb
        · exact hIK
        · rw [List.mem_singleton.mp hb]; exact hxK) e
      have hIo : ∃ oI, h₃.get? I = some oI := by obtain ⟨o, e, _⟩ := hst₃.1; exact ⟨o, e⟩
      obtain ⟨oI, heI⟩ := hIo
      have hnC₃ : h₃.Ns (C) m' := (hn'.at' fun o e => kp _ o (Ne.symm hIC) e).sameBut hs₃ hCK
      obtain ⟨oC, heC, hoC⟩ := LCg.ns_obj hnC₃
      have F₃ : Fr h₀ env.locals h₃ m := (LCg.fr_but F' hk₂ hIL hI₀).change hs₃ hKL hK₀
      have N₃ : News h₀ env.locals h₃ ((K, oK') :: (I, oI) :: (C, oC) :: (D, LCg.lst ys) :: nx) := fun p hp => by
        rcases List.mem_cons.mp hp with rfl | hp
        · exact ⟨hoK', hKL, hK₀⟩
        · rcases List.mem_cons.mp hp with rfl | hp
          · exact ⟨heI, Ne.symm hIL, hI₀⟩
          · rcases List.mem_cons.mp hp with rfl | hp
            · exact ⟨heC, hCL, hC₀⟩
            · have hne : p.1 ≠ I ∧ p.1 ≠ K := by
                rcases List.mem_cons.mp hp with rfl | hp
                · exact ⟨Ne.symm hID, hDK⟩
                · exact ⟨(off' p hp).1, (off' p hp).2.2.2⟩
              have z := N' p (.tail _ hp)
              exact ⟨ks _ _ hne.2 (kp _ _ hne.1 z.1), z.2⟩
      refine wpAny_mono (turn i v ys nx I oI (C) oC (D) (K) oK' h₃ _ _ hPv' hJ' hdK' hax' F₃ N₃ off' ⟨hIK, hCK, hDK, hIC, hID, fun e => hDC e.symm⟩) (fun r s₄ h₄ => ?_) fun _ _ e => e
      obtain ⟨h₄, tk₄, nx₄, rfl, F₄, N₄, off₄, hax₄, hJ₄⟩ := h₄
      have zK := N₄ (K, oK') (.head _)
      have zI := (N₄ (I, oI) (.tail _ (.head _))).1
      have zC := (N₄ (C, oC) (.tail _ (.tail _ (.head _)))).1
      have zD := (N₄ (D, LCg.lst ys) (.tail _ (.tail _ (.tail _ (.head _))))).1
      have zx := (N₄ _ (.tail _ (.tail _ (.tail _ (.tail _ hax₄))))).1
      refine append_at (hsz := by show ys.toArray.size ≤ sizeLine; rw [List.size_toArray, hyl]; exact Nat.le_trans (Nat.le_trans hi hsz) (Nat.le_of_ble_eq_true rfl)) zD fun h₅ hs₅ hD₅ => ?_
      have k5 : ∀ b o, b ≠ D → h₄.get? b = some o → h₅.get? b = some o := fun b o hb e => hs₅.extBut b o hb e
      have hst₄ : h₄.IsListIter I ax (i + 1) ∧ h₄.IsList ax vs.toArray := by
        obtain ⟨o, q, r⟩ := hst₃.1
        rw [heI] at q; cases q
        exact ⟨⟨oI, zI, r⟩, ⟨_, zx, rfl, nn, rfl⟩⟩
      refine ⟨vs.length + 1 - (i + 1), by lia, h₅, tk₄, i + 1, ys ++ [r], m', oK', _, nx₄, rfl, hlt', rfl, by rw [List.length_append, List.length_singleton, hyl], ?_, F₄.change hs₅ hDL hD₀, (hoC.ns zC).sameBut hs₅ (fun e => hDC e.symm), hdK', fun p hp => ?_, off₄, hax₄, hJ₄⟩
      · exact W.frame _ _ _ hst₄ fun b hb o e => k5 b o (by
          rcases List.mem_cons.mp hb with rfl | hb
          · exact hID
          · rw [List.mem_singleton.mp hb]; exact (off₄ _ hax₄).2.2.1) e
      · rcases List.mem_cons.mp hp with rfl | hp
        · exact ⟨k5 _ _ (Ne.symm hDK) zK.1, zK.2⟩
        · rcases List.mem_cons.mp hp with rfl | hp
          · exact ⟨hD₅.trans (congrArg some (LCg.lst_snoc ys r)), hDL, hD₀⟩
          · have z := N₄ p (.tail _ (.tail _ (.tail _ (.tail _ hp))))
            exact ⟨k5 _ _ (off₄ p hp).2.2.1 z.1, z.2⟩
    · have hin : i = vs.length := Nat.le_antisymm hi (Nat.not_lt.mp hlt')
      subst hin
      refine W.done _ _ _ hst' fun h₂ tk₂ hk₂ => ?_
      have kp : ∀ b o, b ≠ I → h'.get? b = some o → h₂.get? b = some o := fun b o hb e => hk₂ b o (by simpa using hb) e
      have F₂ := LCg.fr_but F' hk₂ hIL hI₀
      have N₂ : News h₀ env.locals h₂ ((D, LCg.lst ys) :: nx) := fun p hp => by
        have z := N' p (.tail _ hp)
        refine ⟨kp _ _ ?_ z.1, z.2⟩
        rcases List.mem_cons.mp hp with rfl | hp
        · exact Ne.symm hID
        · exact (off' p hp).1
      have hnC₂ : h₂.Ns (C) m' := hn'.at' fun o e => kp _ o (Ne.symm hIC) e
      show wpAny _ A (assign (.Name y py) env (.ref (D))) _ _ _
      refine wpAny_assign_Name (wpAny_storeName_local hy F₂.ns (fun h₃ hn₃ hs₃ => ?_) hp)
      have hL₀ : h₀.get? env.locals = none := Heap.get?_none_of_le F₂.above
      have F₃ : Fr h₀ env.locals h₃ (fun z => if z = y then some (.ref (D)) else m z) := ⟨hn₃, fun b o e => hs₃.extBut b o (fun q => by rw [q, hL₀] at e; cases e) (F₂.keep b o e), F₂.above⟩
      refine ⟨m', hnC₂.sameBut hs₃ hCL, fun h₄ hs₄ => done ys nx (D) h₄ _ (hyl ▸ hJ') (F₃.change hs₄ hCL hC₀) (fun p hp => ?_) fun p hp => (off' p hp).2.2.1⟩
      have z := N₂ p hp
      refine ⟨hs₄.extBut _ _ ?_ (hs₃.extBut _ _ z.2.1 z.1), z.2⟩
      rcases List.mem_cons.mp hp with rfl | hp
      · exact hDC
      · exact (off' p hp).2.1
  · rcases List.mem_cons.mp hp with rfl | hp
    · exact ⟨hKP, hKL, hK₀⟩
    · rcases List.mem_cons.mp hp with rfl | hp
      · exact ⟨hDP, hDL, hD₀⟩
      · exact NP p hp
/-- told = [elt for x in xs], where x is kept in a cell and xs is a list of the ledger -/
theorem Assign_ListComp_C {elt iter : Expr} {x y : Str} {px py : Pos} {scope : Scope} {cl : List (Str × Addr)} {pos spos : Pos} {Q : Flow → Shared → Prop} {ax : Addr} {vs : List Value} {nn : Nat} {news : List (Addr × Obj)}
    (J : Nat → List Value → List (Addr × Obj) → Prop) (hh : A.handled = none) (F : Fr h₀ env.locals s.heap m) (N : News h₀ env.locals s.heap news) (hax : (ax, listOf vs.toArray nn) ∈ news) (hsz : vs.length ≤ 1000) (hJ : J 0 [] news)
    (hsw : swapsWith (.ListComp elt [⟨.Name x px, iter, [], 0⟩] scope pos) (some (.Name y py)) spos.line env = pure true)
    (hclos : closureFor scope env = pure cl) (h1 : ∀ n acc, cellsFrom n scope.names acc = (x, n) :: acc) (h2 : ∀ h, pushCells h scope.names = h.push cellObj) (hkind : scope.kind = .function)
    (hnames : ∀ z ∈ scope.names, z.2 = .local → scope.names.lookup z.1 = some .local) (hxk : ∀ C c, (compEnvC scope c C env).kindOf x = some .cell)
    (hy : env.kindOf y = some .local) (hp : (env.scope.kind == .class || (env.scope.kind == .module && env.locals != env.globals)) = false)
    (heval : ∀ Q' : Value → Shared → Prop, Q' (.ref ax) s → wpAny (model prog w) A (eval iter env) Q' E s)
    (turn : ∀ i v ys nx I oI C oC D K oK h tk (E' : Value → Shared → Prop), vs[i]? = some v → J i ys nx → oK.data = .cell (some v) → (ax, listOf vs.toArray nn) ∈ nx → Fr h₀ env.locals h m →
      News h₀ env.locals h ((K, oK) :: (I, oI) :: (C, oC) :: (D, LCg.lst ys) :: nx) → Off4 I C D K nx → (I ≠ K ∧ C ≠ K ∧ D ≠ K ∧ I ≠ C ∧ I ≠ D ∧ C ≠ D) →
      wpAny (model prog w) A (eval elt (compEnvC scope ((x, K) :: cl) C env)) (fun r s₂ => ∃ h' tk' nx', s₂ = { s with heap := h', toks := tk' } ∧ Fr h₀ env.locals h' m ∧ News h₀ env.locals h' ((K, oK) :: (I, oI) :: (C, oC) :: (D, LCg.lst ys) :: nx') ∧ Off4 I C D K nx' ∧ (ax, listOf vs.toArray nn) ∈ nx' ∧ J (i + 1) (ys ++ [r]) nx') E' { s with heap := h, toks := tk })
    (done : ∀ ys nx D h tk, J vs.length ys nx → Fr h₀ env.locals h (fun z => if z = y then some (.ref D) else m z) → News h₀ env.locals h ((D, LCg.lst ys) :: nx) → (∀ p ∈ nx, p.1 ≠ D) → Q .next { s with heap := h, toks := tk })
    (hs : ∀ x, foldedSetIterable iter env x = pure x := by intro _; rfl) :
    wpAny (model prog w) A (exec (.Assign [.Name y py] (.ListComp elt [⟨.Name x px, iter, [], 0⟩] scope pos) spos) env) Q E s := by
  rw [exec_Assign_Name_used _ _ _ _ hsw]
  refine wpAny_bind (wpAny_standAt (wpAny_bind ?_))
  show wpAny _ A (do let _ ← comprehension (.ListComp elt [⟨.Name x px, iter, [], 0⟩] scope pos) scope env _ (newList []) false (eval iter env) (some (assign (.Name y py) env))) _ _ s
  refine wpAny_bind (wpAny_mono (wpAny_comprehension_free (use := some (assign (.Name y py) env)) (Q := fun _ s' => Q .next s') rfl hs hclos hkind hnames (heval _ ?_)) (fun _ s' hq => wpAny_pure (wpAny_pure hq)) fun _ _ e => e)
  have hl : s.heap.IsList ax vs.toArray := ⟨_, (N _ hax).1, rfl, nn, rfl⟩
  have hlt : ax < s.heap.objs.size := Heap.lt_size (N _ hax).1
  refine wpAny_pyIter_list hl ?_
  generalize hH : s.heap.push { cls := .type "list_iterator", data := .fields #[.ref ax, .int 0 0] } = H
  have hHs : H.objs.size = s.heap.objs.size + 1 := by rw [← hH, Heap.size_push]
  have upH : ∀ b o, s.heap.get? b = some o → H.get? b = some o := fun b o e => hH ▸ Heap.get?_push_of_some _ e
  have hIget : H.get? s.heap.objs.size = some { cls := .type "list_iterator", data := .fields #[.ref ax, .int 0 0] } := hH ▸ Heap.get?_push_size _ rfl
  refine wpAny_newObj_type ?_
  dsimp only
  generalize hG : H.push { cls := .type "list", dict := none, data := .seq ([] : List Value).toArray } = G
  have hGs : G.objs.size = s.heap.objs.size + 2 := by rw [← hG, Heap.size_push, hHs]
  have upG : ∀ b o, H.get? b = some o → G.get? b = some o := fun b o e => hG ▸ Heap.get?_push_of_some _ e
  have hDget : G.get? (s.heap.objs.size + 1) = some (LCg.lst []) := by
    rw [← hHs, ← hG]
    exact Heap.get?_push_size _ rfl
  rw [hHs]
  refine newEnv_cell h1 h2 ?_
  dsimp only
  generalize hP : (G.push { cls := .type "dict", data := .dict #[] }).push cellObj = P
  rw [hGs]
  have upP : ∀ b o, G.get? b = some o → P.get? b = some o := fun b o e => hP ▸ Heap.get?_push_of_some _ (Heap.get?_push_of_some _ e)
  have up : ∀ b o, s.heap.get? b = some o → P.get? b = some o := fun b o e => upP _ _ (upG _ _ (upH _ _ e))
  have hIP : P.get? s.heap.objs.size = some { cls := .type "list_iterator", data := .fields #[.ref ax, .int 0 0] } := upP _ _ (upG _ _ hIget)
  have hDP : P.get? (s.heap.objs.size + 1) = some (LCg.lst []) := upP _ _ hDget
  have hnsC : P.Ns (s.heap.objs.size + 2) (fun _ => none) := by
    rw [← hP, ← hGs]
    exact (Heap.Ns.new G (.type "dict")).keeps fun b o e => Heap.get?_push_of_some _ e
  have hKP : P.get? (s.heap.objs.size + 3) = some cellObj := by
    rw [← hP]
    have := Heap.get?_push_size (G.push { cls := .type "dict", data := .dict #[] }) (o := cellObj) rfl
    rwa [Heap.size_push, hGs] at this
  have hLlt : env.locals < s.heap.objs.size := F.ns.lt
  have fresh₀ : ∀ a, s.heap.objs.size ≤ a → h₀.get? a = none := fun a ha => by
    cases e : h₀.get? a with
    | none => rfl
    | some o' => exact absurd (Heap.lt_size (F.keep a o' e)) (Nat.not_lt.mpr ha)
  have hI₀ := fresh₀ s.heap.objs.size (Nat.le_refl _)
  have hD₀ := fresh₀ (s.heap.objs.size + 1) (Nat.le_add_right _ _)
  have hC₀ := fresh₀ (s.heap.objs.size + 2) (Nat.le_add_right _ _)
  have hK₀ := fresh₀ (s.heap.objs.size + 3) (Nat.le_add_right _ _)
  have hIL : env.locals ≠ s.heap.objs.size := Nat.ne_of_lt hLlt
  have hDL : s.heap.objs.size + 1 ≠ env.locals := fun e => Nat.lt_irrefl _ (e ▸ Nat.lt_succ_of_lt hLlt)
  have hCL : s.heap.objs.size + 2 ≠ env.locals := fun e => Nat.lt_irrefl _ (e ▸ Nat.lt_succ_of_lt (Nat.lt_succ_of_lt hLlt))
  have hKL : s.heap.objs.size + 3 ≠ env.locals := fun e => Nat.lt_irrefl _ (e ▸ Nat.lt_succ_of_lt (Nat.lt_succ_of_lt (Nat.lt_succ_of_lt hLlt)))
  have hIK : s.heap.objs.size ≠ s.heap.objs.size + 3 := Nat.ne_of_lt (Nat.lt_add_of_pos_right (by decide))
  have hID : s.heap.objs.size ≠ s.heap.objs.size + 1 := Nat.ne_of_lt (Nat.lt_add_of_pos_right (by decide))
  have hIC : s.heap.objs.size ≠ s.heap.objs.size + 2 := Nat.ne_of_lt (Nat.lt_add_of_pos_right (by decide))
  have hCK : s.heap.objs.size + 2 ≠ s.heap.objs.size + 3 := Nat.ne_of_lt (Nat.add_lt_add_left (by decide) _)
  have hDK : s.heap.objs.size + 1 ≠ s.heap.objs.size + 3 := Nat.ne_of_lt (Nat.add_lt_add_left (by decide) _)
  have hDC : s.heap.objs.size + 1 ≠ s.heap.objs.size + 2 := Nat.ne_of_lt (Nat.add_lt_add_left (by decide) _)
  have W := Walks.list (prog := prog) (w := w) hh s.heap.objs.size ax (Nat.ne_of_lt hlt) vs.toArray
  have hlen : vs.toArray.size = vs.length := by simp
  rw [hlen] at W
  have st0 : P.IsListIter s.heap.objs.size ax 0 ∧ P.IsList ax vs.toArray := ⟨⟨_, hIP, rfl, rfl⟩, hl.at fun o e => up _ o e⟩
  have off0 : Off4 s.heap.objs.size (s.heap.objs.size + 2) (s.heap.objs.size + 1) (s.heap.objs.size + 3) news := fun p hp => by
    have h9 : p.1 < s.heap.objs.size := Heap.lt_size (N p hp).1
    exact ⟨Nat.ne_of_lt h9, Nat.ne_of_lt (Nat.lt_succ_of_lt (Nat.lt_succ_of_lt h9)), Nat.ne_of_lt (Nat.lt_succ_of_lt h9), Nat.ne_of_lt (Nat.lt_succ_of_lt (Nat.lt_succ_of_lt (Nat.lt_succ_of_lt h9)))⟩
  have loop : codeAny (model prog w) A (.compLoop (.ListComp elt [⟨.Name x px, iter, [], 0⟩] scope pos) 0 (.ref s.heap.objs.size) (.ref (s.heap.objs.size + 1)) (compEnvC scope ((x, s.heap.objs.size + 3) :: cl) (s.heap.objs.size + 2) env))
        (compPost (model prog w) A E (some (assign (.Name y py) env)) (fun _ s' => Q .next s') (.ref (s.heap.objs.size + 1)) (s.heap.objs.size + 2)) { s with heap := P } :=
    ALC_loop J hh (F.keeps up) (N.grown up) hax hsz hJ hkind hxk hy hp hIL hDL hCL hKL hI₀ hD₀ hC₀ hK₀ hIK hID hIC hCK hDK hDC W st0 hDP hnsC hKP off0 turn done
  exact codeAny_compStart_list loop (W.self 0 _ _ _ st0 loop)
end
end Mine
end
section
open PySem PySem.W PyProof.Rows
namespace Mine
noncomputable def TextOk (x : PySem.Str) : Prop := x.length ≤ 66 ∧ Signs (L x)
noncomputable abbrev LawLed (bl : List (Addr × Obj)) (D : Addr) (dO : Obj) (TA SA c1 c2 c3 : Addr) (o1 o2 o3 : Obj) (tv sv : List Value) (n1 n2 : Nat) : List (Addr × Obj) :=
  (TA, listOf tv.toArray n1) :: (SA, listOf sv.toArray n2) :: (c2, o2) :: (c1, o1) :: (c3, o3) :: (D, dO) :: bl
/-- between two turns of law's first loop -/
noncomputable def LawJ (bl : List (Addr × Obj)) (D : Addr) (dO : Obj) (TA SA c1 c2 c3 : Addr) (o1 o3 : Obj) (stored : List Str) (m₀ : Str → Option Value) (i : Nat) (m : Str → Option Value) (nx : List (Addr × Obj)) : Prop :=
  ∃ (tv sv : List Value) (xs ys : List PySem.Str) (n1 n2 : Nat) (o2 : Obj) (pv : Option Value) (u : Str → Option Value), nx = LawLed bl D dO TA SA c1 c2 c3 o1 o2 o3 tv sv n1 n2 ∧ o2.data = .cell pv ∧ StrsAre tv xs ∧ StrsAre sv ys ∧ xs.length = i ∧ ys.length = i ∧
    (∀ x ∈ xs, TextOk x) ∧ (∀ y ∈ ys, y.length ≤ 600) ∧ (∀ (j : Nat) x y, xs[j]? = some x → ys[j]? = some y → Row false (L y) = Row false (L x)) ∧ m = fun z => if stored.contains z then u z else m₀ z
theorem lawJ0 {bl : List (Addr × Obj)} {D : Addr} {dO : Obj} {TA SA c1 c2 c3 : Addr} {o1 o2 o3 : Obj} {stored : List Str} {m₀ : Str → Option Value} {pv : Option Value} (h : o2.data = .cell pv) :
    LawJ bl D dO TA SA c1 c2 c3 o1 o3 stored m₀ 0 m₀ (LawLed bl D dO TA SA c1 c2 c3 o1 o2 o3 [] [] 0 0) :=
  ⟨[], [], [], [], 0, 0, o2, pv, m₀, rfl, h, .nil, .nil, rfl, rfl, fun _ h => (nomatch h), fun _ h => (nomatch h), fun j x y h => by simp at h, by funext z; simp⟩
theorem law_name {h₀ h : Heap} {Lo a TA SA c1 c2 c3 D : Addr} {ao to o1 o2 o3 : Obj} {bl : List (Addr × Obj)}
    (N : News h₀ Lo h ((a, ao) :: (bl ++ [(D, to), (SA, listOf #[] 0), (TA, listOf #[] 0), (c3, o3), (c2, o2), (c1, o1)]))) :
    ∃ a' TA' SA' c1' c2' c3' o1' o2' o3' bl', a' = a ∧ TA' = TA ∧ SA' = SA ∧ c1' = c1 ∧ c2' = c2 ∧ c3' = c3 ∧ o1' = o1 ∧ o2' = o2 ∧ o3' = o3 ∧ bl' = bl ∧ News h₀ Lo h (LawLed bl' a' ao TA' SA' c1' c2' c3' o1' o2' o3' [] [] 0 0) := by
  refine ⟨a, TA, SA, c1, c2, c3, o1, o2, o3, bl, rfl, rfl, rfl, rfl, rfl, rfl, rfl, rfl, rfl, rfl, fun p hp => N p ?_⟩
  have hb : ∀ q ∈ [(D, to), (SA, listOf #[] 0), (TA, listOf #[] 0), (c3, o3), (c2, o2), (c1, o1)], q ∈ (a, ao) :: (bl ++ [(D, to), (SA, listOf #[] 0), (TA, listOf #[] 0), (c3, o3), (c2, o2), (c1, o1)]) := fun q hq => .tail _ (List.mem_append.mpr (.inr hq))
  rcases List.mem_cons.mp hp with rfl | hp
  · exact hb _ (.tail _ (.tail _ (.head _)))
  · rcases List.mem_cons.mp hp with rfl | hp
    · exact hb _ (.tail _ (.head _))
    · rcases List.mem_cons.mp hp with rfl | hp
      · exact hb _ (.tail _ (.tail _ (.tail _ (.tail _ (.head _)))))
      · rcases List.mem_cons.mp hp with rfl | hp
        · exact hb _ (.tail _ (.tail _ (.tail _ (.tail _ (.tail _ (.head _))))))
        · rcases List.mem_cons.mp hp with rfl | hp
          · exact hb _ (.tail _ (.tail _ (.tail _ (.head _))))
          · rcases List.mem_cons.mp hp with rfl | hp
            · exact .head _
            · exact .tail _ (List.mem_append.mpr (.inl hp))
end Mine
namespace Mine
theorem sum_pick {prog : Program} {w : World} {A : Around} {E : Value → Shared → Prop} {s : Shared} {h₀ : Heap} {Lo l : Addr} {m : Str → Option Value} {news : List (Addr × Obj)} {vs : List Value} {ns : List Int} {lo hi st : Option Int} {c : Nat} {Q : Value → Shared → Prop}
    (F : Fr h₀ Lo s.heap m) (N : News h₀ Lo s.heap news) (hh : A.handled = none) (hm : (l, ({ cls := .type "list", data := .seq (slicePick vs.toArray lo hi st) c } : Obj)) ∈ news) (hi' : IntsAre vs ns)
    (h : ∀ v h' tk t', Fr h₀ Lo h' m → News h₀ Lo h' news → Q (.int v t') { s with heap := h', toks := tk }) : wpAny (model prog w) A (call (.builtin "sum") [.ref l]) Q E s :=
  LSm.sum_ints F N hh (vs := (slicePick vs.toArray lo hi st).toList) ⟨_, (N _ hm).1, rfl, c, by simp⟩ (hi'.pick lo hi st) fun h' tk t' F' N' => h _ h' tk t' F' N'
end Mine
namespace Mine
theorem sum_drop {prog : Program} {w : World} {A : Around} {E : Value → Shared → Prop} {s : Shared} {h₀ : Heap} {Lo l : Addr} {m : Str → Option Value} {rest : List (Addr × Obj)} {vs : List Value} {ns : List Int} {lo hi st : Option Int} {c : Nat} {Q : Value → Shared → Prop}
    (F : Fr h₀ Lo s.heap m) (N : News h₀ Lo s.heap ((l, ({ cls := .type "list", data := .seq (slicePick vs.toArray lo hi st) c } : Obj)) :: rest)) (hh : A.handled = none) (hi' : IntsAre vs ns)
    (h : ∀ v h' tk t', Fr h₀ Lo h' m → News h₀ Lo h' rest → Q (.int v t') { s with heap := h', toks := tk }) : wpAny (model prog w) A (call (.builtin "sum") [.ref l]) Q E s :=
  sum_pick F N hh (.head _) hi' fun v h' tk t' F' N' => h v h' tk t' F' (news_tl N')
end Mine
namespace Mine
noncomputable def IntsOk (ws : List Value) : Prop := ws.length = 6 ∧ ∀ v ∈ ws, ∃ i t, v = Value.int i t
theorem add_pen {prog : Program} {w : World} {A : Around} {E : Value → Shared → Prop} {s : Shared} {h₀ : Heap} {Lo l b : Addr} {m : Str → Option Value} {rest : List (Addr × Obj)} {ws : List Value} {v : Int} {t : Tok} {k nn : Nat} {Q : Value → Shared → Prop}
    (F : Fr h₀ Lo s.heap m) (N : News h₀ Lo s.heap ((l, listOf #[.int v t] k) :: rest)) (hb : (b, listOf ws.toArray nn) ∈ rest) (hw : IntsOk ws)
    (h : ∀ P h' pv n, Pen pv → (∀ p ∈ rest, p.1 < P) → Fr h₀ Lo h' m → News h₀ Lo h' ((P, listOf pv.toArray n) :: rest) → Q (.ref P) { s with heap := h' }) :
    wpAny (model prog w) A (binaryOp .Add (.ref l) (.ref b)) Q E s := by
  have h6 := hw.1
  refine add_lists (vs := [.int v t]) (ws := ws) F N ⟨_, (N _ (.head _)).1, rfl, k, rfl⟩ ⟨_, (N _ (.tail _ hb)).1, rfl, nn, rfl⟩ (fun h' F' N' => ?_) (by simp only [List.length_cons, List.length_nil]; rw [h6]; exact Nat.le_of_ble_eq_true rfl)
  have N2 : News h₀ Lo h' ((s.heap.objs.size, listOf ([Value.int v t] ++ ws).toArray 0) :: rest) := fun p hp => N' p (by
    rcases List.mem_cons.mp hp with rfl | hp
    · exact .head _
    · exact .tail _ (.tail _ hp))
  refine h _ h' ([Value.int v t] ++ ws) _ ⟨by simp, by simp [h6], fun x hx => ?_⟩ (fun p hp => Heap.lt_size (N p (.tail _ hp)).1) F' N2
  · rcases List.mem_append.mp hx with hx | hx
    · exact ⟨v, t, List.mem_singleton.mp hx⟩
    · exact hw.2 x hx
end Mine
namespace Mine
theorem name_pen {h₀ h : Heap} {Lo P : Addr} {pv : List Value} {n : Nat} {l : List (Addr × Obj)} (N : News h₀ Lo h ((P, listOf pv.toArray n) :: l)) :
    ∃ P' pv' n' l', P' = P ∧ pv' = pv ∧ n' = n ∧ l' = l ∧ News h₀ Lo h ((P', listOf pv'.toArray n') :: l') := ⟨P, pv, n, l, rfl, rfl, rfl, rfl, N⟩
noncomputable def PieceOk (x : PySem.Str) : Prop := x.length ≤ 11 ∧ Signs (L x)
noncomputable def Pieces (vs : List Value) : Prop := vs.length = 22 ∧ ∀ v ∈ vs, ∃ x t, v = Value.str x t ∧ PieceOk x
theorem item_piece {prog : Program} {w : World} {A : Around} {E : Value → Shared → Prop} {s : Shared} {value slice : PySem.Expr} {h₀ : Heap} {Lo l : Addr} {vs : List Value} {n : Nat} {news : List (Addr × Obj)} {i : Int} {u : Tok} {Q : Value → Shared → Prop}
    (hp : Pieces vs) (N : News h₀ Lo s.heap news) (hm : (l, listOf vs.toArray n) ∈ news) (h0 : 0 ≤ i) (h1 : i < 22) (h : ∀ x t, PieceOk x → Q (.str x t) s)
    (hs : subscripted slice false (.ref l) (.int i u) = operate [.ref l, .int i u] (getItem (.ref l) (.int i u)) := by with_unfolding_all rfl) :
    wpAny (model prog w) A (subscriptTail value slice (.ref l) (.int i u)) Q E s :=
  item_prop PieceOk N hm (by simpa using hp.2) h0 (by rw [List.size_toArray, hp.1]; exact h1) (by rw [List.size_toArray, hp.1]; decide) h hs
/-- the texts drawn, one by one -/
noncomputable def DrawJ (P : Addr) (rest : List (Addr × Obj)) (i : Nat) (ys : List Value) (nx : List (Addr × Obj)) : Prop :=
  ∃ (pv : List Value) (n : Nat) (us : List PySem.Str), Pen pv ∧ nx = (P, listOf pv.toArray n) :: rest ∧ StrsAre ys us ∧ us.length = i ∧ ∀ x ∈ us, PieceOk x
theorem drawJ1 {P : Addr} {rest : List (Addr × Obj)} {i n : Nat} {ys pv : List Value} {us : List PySem.Str} {x : PySem.Str} {t : Tok} (hp : Pen pv) (hs : StrsAre ys us) (hl : us.length = i) (ho : ∀ x ∈ us, PieceOk x) (hx : PieceOk x) : DrawJ P rest (i + 1) (ys ++ [.str x t]) ((P, listOf pv.toArray n) :: rest) :=
  ⟨pv, n, us ++ [x], hp, rfl, strs_snoc hs, by simp [hl], fun y hy => (List.mem_append.mp hy).elim (ho y) fun h => by rw [List.mem_singleton.mp h]; exact hx⟩
theorem drawEnd {h₀ h' : Heap} {Lo I C D P : Addr} {m : Str → Option Value} {s : Shared} {oI oC oD po po' : Obj} {rst : Value → List (Addr × Obj) → Prop} {y : Value} {tk : Nat} {q c9 : Addr × Obj} {nx : List (Addr × Obj)}
    (F : Fr h₀ Lo h' m) (N : News h₀ Lo h' (q :: c9 :: (I, oI) :: (C, oC) :: (D, oD) :: (P, po) :: nx)) (off : LCg.Off3 I C D ((P, po') :: nx)) (r : rst y ((P, po) :: nx)) : LCg.CompEnd h₀ Lo m s I oI C oC D oD (fun _ => True) rst y { s with heap := h', toks := tk } :=
  compEnd F N _ (fun p hp => .tail _ (.tail _ hp)) (fun p hp => by
    rcases List.mem_cons.mp hp with rfl | hp
    · exact off.mem (P, po') (.head _)
    · exact off.mem p (.tail _ hp)) trivial r
end Mine
namespace Mine
theorem updPen {P a : Addr} {ao o : Obj} {tl : List (Addr × Obj)} (h1 : ∀ p ∈ (P, o) :: tl, p.1 < a) (h2 : ∀ p ∈ tl, p.1 ≠ P) : UpdF P o ((a, ao) :: (P, o) :: tl) (fun o' => (a, ao) :: (P, o') :: tl) :=
  UpdF.tail (Nat.ne_of_gt (h1 _ (.head _))) (UpdF.head h2)
theorem draw_news {h₀ h : Heap} {Lo I C D P : Addr} {oI oC oD po : Obj} {c9 : Addr × Obj} {rest : List (Addr × Obj)} (N : News h₀ Lo h ((I, oI) :: (C, oC) :: (D, oD) :: (P, po) :: rest)) (hc : c9 ∈ rest) (off : LCg.Off3 I C D ((P, po) :: rest)) (hr : ∀ p ∈ rest, p.1 ≠ P) :
    News h₀ Lo h ((P, po) :: c9 :: (I, oI) :: (C, oC) :: (D, oD) :: rest) ∧ ∀ p ∈ c9 :: (I, oI) :: (C, oC) :: (D, oD) :: rest, p.1 ≠ P := by
  refine ⟨fun p hp => N p ?_, ?_⟩
  · rcases List.mem_cons.mp hp with rfl | hp
    · exact .tail _ (.tail _ (.tail _ (.head _)))
    · rcases List.mem_cons.mp hp with rfl | hp
      · exact .tail _ (.tail _ (.tail _ (.tail _ hc)))
      · rcases List.mem_cons.mp hp with rfl | hp
        · exact .head _
        · rcases List.mem_cons.mp hp with rfl | hp
          · exact .tail _ (.head _)
          · rcases List.mem_cons.mp hp with rfl | hp
            · exact .tail _ (.tail _ (.head _))
            · exact .tail _ (.tail _ (.tail _ (.tail _ hp)))
  · have h3 := off.1
    exact List.forall_mem_cons.mpr ⟨hr _ hc, List.forall_mem_cons.mpr ⟨Ne.symm h3.1, List.forall_mem_cons.mpr ⟨Ne.symm h3.2.1, List.forall_mem_cons.mpr ⟨Ne.symm h3.2.2, hr⟩⟩⟩⟩
theorem drawEnd' {h₀ h' : Heap} {Lo I C D P : Addr} {m : Str → Option Value} {s : Shared} {oI oC oD po po' : Obj} {rst : Value → List (Addr × Obj) → Prop} {y : Value} {tk : Nat} {q c9 : Addr × Obj} {nx : List (Addr × Obj)}
    (F : Fr h₀ Lo h' m) (N : News h₀ Lo h' (q :: (P, po) :: c9 :: (I, oI) :: (C, oC) :: (D, oD) :: nx)) (off : LCg.Off3 I C D ((P, po') :: nx)) (r : rst y ((P, po) :: nx)) : LCg.CompEnd h₀ Lo m s I oI C oC D oD (fun _ => True) rst y { s with heap := h', toks := tk } :=
  compEnd F N _ (fun p hp => by
    rcases List.mem_cons.mp hp with rfl | hp
    · exact .tail _ (.tail _ (.tail _ (.head _)))
    · rcases List.mem_cons.mp hp with rfl | hp
      · exact .tail _ (.tail _ (.tail _ (.tail _ (.head _))))
      · rcases List.mem_cons.mp hp with rfl | hp
        · exact .tail _ (.tail _ (.tail _ (.tail _ (.tail _ (.head _)))))
        · rcases List.mem_cons.mp hp with rfl | hp
          · exact .tail _ (.head _)
          · exact .tail _ (.tail _ (.tail _ (.tail _ (.tail _ (.tail _ hp)))))) (fun p hp => by
    rcases List.mem_cons.mp hp with rfl | hp
    · exact off.mem (P, po') (.head _)
    · exact off.mem p (.tail _ hp)) trivial r
end Mine
namespace Mine
theorem join_pieces : ∀ us : List PySem.Str, (∀ x ∈ us, PieceOk x) → (Str.join ⟨#[]⟩ us).length ≤ 11 * us.length ∧ Signs (L (Str.join ⟨#[]⟩ us))
  | [], _ => ⟨Nat.zero_le _, fun c hc => by cases hc⟩
  | [x], h => ⟨by have := (h x (.head _)).1; show x.length ≤ _; simp; exact this, (h x (.head _)).2⟩
  | x :: y :: r, h => by
    have ih := join_pieces (y :: r) fun z hz => h z (.tail _ hz)
    have hx := h x (.head _)
    show (x ++ ⟨#[]⟩ ++ Str.join ⟨#[]⟩ (y :: r)).length ≤ _ ∧ Signs (L (x ++ ⟨#[]⟩ ++ Str.join ⟨#[]⟩ (y :: r)))
    have e : L (x ++ ⟨#[]⟩ ++ Str.join ⟨#[]⟩ (y :: r)) = L x ++ L (Str.join ⟨#[]⟩ (y :: r)) := by
      rw [L_app, L_app]
      have : L (⟨#[]⟩ : PySem.Str) = [] := rfl
      rw [this, List.append_nil]
    refine ⟨?_, fun c hc => ?_⟩
    · rw [len_L, e, List.length_append, ← len_L, ← len_L]
      have h1 := hx.1
      have h2 := ih.1
      simp only [List.length_cons] at h2 ⊢
      omega
    · rw [e] at hc
      rcases List.mem_append.mp hc with hc | hc
      · exact hx.2 c hc
      · exact ih.2 c hc
theorem join_text {us : List PySem.Str} (hl : us.length = 6) (h : ∀ x ∈ us, PieceOk x) : TextOk (Txt.join (PySem.Str.ofString "") us) := by
  have e : PySem.Str.ofString "" = ⟨#[]⟩ := by decide +kernel
  have := join_pieces us h
  rw [hl] at this
  rw [e]
  show TextOk (Builtin.Str.glued _ _)
  rw [StrLaws.glued_eq_join]
  exact this
theorem join_fits : ∀ us : List PySem.Str, (∀ x ∈ us, PieceOk x) → (us.map (·.length)).sum + us.length * 64 ≤ 75 * us.length
  | [], _ => by simp
  | x :: r, h => by
    have ih := join_fits r fun z hz => h z (.tail _ hz)
    have := (h x (.head _)).1
    rw [List.map_cons, List.sum_cons, List.length_cons]
    omega
theorem join_fit6 {us : List PySem.Str} (hl : us.length = 6) (h : ∀ x ∈ us, PieceOk x) : (us.map (·.length)).sum + us.length * 64 ≤ 16777216 := by
  have := join_fits us h
  rw [hl] at *
  omega
theorem off1_mem {D : Addr} : ∀ {l : List (Addr × Obj)}, LCg.Off1 D l → ∀ p ∈ l, p.1 ≠ D
  | [], _, _, h => nomatch h
  | _ :: _, x, p, h => by
    rcases List.mem_cons.mp h with rfl | h
    · exact x.1
    · exact off1_mem x.2 p h
theorem off_all {d : Addr} : ∀ {l : List (Addr × Obj)}, AllLt d l → ∀ p ∈ l, p.1 ≠ d
  | [], _, _, h => nomatch h
  | _ :: _, x, p, h => by
    rcases List.mem_cons.mp h with rfl | h
    · exact Nat.ne_of_lt x.1
    · exact off_all x.2 p h
theorem item_last {prog : Program} {w : World} {A : Around} {E : Value → Shared → Prop} {s : Shared} {value slice : PySem.Expr} {h₀ : Heap} {Lo l : Addr} {tv : List Value} {v : Value} {n i : Nat} {news : List (Addr × Obj)} {u : Tok} {Q : Value → Shared → Prop}
    (N : News h₀ Lo s.heap news) (hm : (l, listOf (tv.toArray.push v) n) ∈ news) (hi : tv.length = i) (h3 : i < 3) (h : Q v s)
    (hs : subscripted slice false (.ref l) (.int (i : Int) u) = operate [.ref l, .int (i : Int) u] (getItem (.ref l) (.int (i : Int) u)) := by with_unfolding_all rfl) :
    wpAny (model prog w) A (subscriptTail value slice (.ref l) (.int (i : Int) u)) Q E s := by
  have hl : s.heap.IsList l (tv.toArray.push v) := ⟨_, (N _ hm).1, rfl, n, rfl⟩
  refine tail_any hl.typeIs slot_list_getitem.lookup (wpAny_getItem_list hl (Int.natCast_nonneg _) (by omega) (x := v) ?_ h) hs
  subst hi
  simp
theorem lawEnd {bl all : List (Addr × Obj)} {D : Addr} {dO : Obj} {TA SA c1 c2 c3 I Lo : Addr} {oI oI' o1 o2 o2i o3 : Obj} {stored : List Str} {m₀ m' : Str → Option Value} {tv sv : List Value} {xs ys : List PySem.Str} {n1 n2 : Nat} {pv : Option Value} {i : Nat} {x y : PySem.Str} {tx ty : Tok} {h₀ h' : Heap} {s : Shared} {tk : Nat}
    (hI : ∀ p ∈ LawLed bl D dO TA SA c1 c2 c3 o1 o2i o3 [] [] 0 0, p.1 < I) (hpv : o2.data = .cell pv) (hxs : StrsAre tv xs) (hys : StrsAre sv ys) (hxl : xs.length = i) (hyl : ys.length = i) (hxo : ∀ x ∈ xs, TextOk x) (hyo : ∀ y ∈ ys, y.length ≤ 600) (hro : ∀ (j : Nat) x y, xs[j]? = some x → ys[j]? = some y → Row false (L y) = Row false (L x))
    (hx : TextOk x) (hy : y.length ≤ 600) (hxy : Row false (L y) = Row false (L x)) (F : Fr h₀ Lo h' m') (N : News h₀ Lo h' all)
    (sub : ∀ p ∈ (I + 1, oI) :: (I, oI') :: LawLed bl D dO TA SA c1 c2 c3 o1 o2 o3 (tv ++ [.str x tx]) (sv ++ [.str y ty]) n1 n2, p ∈ all) (hr : ∀ z, stored.contains z = false → m' z = m₀ z) :
    UnrEndW h₀ Lo s [(I + 1, oI), (I, oI')] (fun m' n' => SubL [(D, dO)] n' ∧ LawJ bl D dO TA SA c1 c2 c3 o1 o3 stored m₀ (i + 1) m' n') { s with heap := h', toks := tk } := by
  have gl : ∀ (zs : List PySem.Str) (z : PySem.Str), zs.length = i → ∀ (j : Nat) v, (zs ++ [z])[j]? = some v → zs[j]? = some v ∨ (j = i ∧ v = z) := by
    intro zs z hz j v hv
    by_cases hj : j < zs.length
    · rw [List.getElem?_append_left hj] at hv; exact .inl hv
    · have hlt := (List.getElem?_eq_some_iff.mp hv).1
      rw [List.length_append, List.length_singleton] at hlt
      have hji : j = i := by omega
      subst hji
      rw [List.getElem?_append_right (by omega), hz, Nat.sub_self] at hv
      exact .inr ⟨rfl, by simpa using hv.symm⟩
  refine endJ F N _ sub (fun p hp => ?_) (.tail _ (.tail _ (.tail _ (.tail _ (.tail _ (.head _))))))
    ⟨tv ++ [.str x tx], sv ++ [.str y ty], xs ++ [x], ys ++ [y], n1, n2, o2, pv, m', rfl, hpv, strs_snoc hxs, strs_snoc hys, by simp [hxl], by simp [hyl], ?_, ?_, ?_, ?_⟩
  · have h9 : p.1 < I := by
      rcases List.mem_cons.mp hp with rfl | hp
      · exact hI (TA, listOf [].toArray 0) (.head _)
      · rcases List.mem_cons.mp hp with rfl | hp
        · exact hI (SA, listOf [].toArray 0) (.tail _ (.head _))
        · rcases List.mem_cons.mp hp with rfl | hp
          · exact hI (c2, o2i) (.tail _ (.tail _ (.head _)))
          · exact hI p (.tail _ (.tail _ (.tail _ hp)))
    exact ⟨Nat.ne_of_lt h9, Nat.ne_of_lt (Nat.lt_succ_of_lt h9)⟩
  · intro z hz
    rcases List.mem_append.mp hz with hz | hz
    · exact hxo z hz
    · rw [List.mem_singleton.mp hz]; exact hx
  · intro z hz
    rcases List.mem_append.mp hz with hz | hz
    · exact hyo z hz
    · rw [List.mem_singleton.mp hz]; exact hy
  · intro j a b ha hb
    rcases gl xs x hxl j a ha with ha | ⟨ha, rfl⟩
    · rcases gl ys y hyl j b hb with hb | ⟨hb, rfl⟩
      · exact hro j a b ha hb
      · have := (List.getElem?_eq_some_iff.mp ha).1
        omega
    · rcases gl ys y hyl j b hb with hb | ⟨hb, rfl⟩
      · have := (List.getElem?_eq_some_iff.mp hb).1
        omega
      · exact hxy
  · funext z
    cases hz : stored.contains z with
    | true => simp
    | false => simp [hr z hz]
end Mine
end
section
open PySem PySem.W PyProof.Rows
namespace Mine
theorem offD14a {w : World} {A : Around} {Q : Flow → Shared → Prop} {E : Value → Shared → Prop} {s : Shared} {env : Env} (h : Q .next s) : wpAny (model prog w) A (execs [] env) Q E s := by
  k_with_none
  w_top off
  walk1
  exact h
theorem fill140 : (PySem.Challenge.rw_pc0252_01, hd.heap_39) = (PySem.Challenge.rw_pc0252_01, hd.heap_39) := by
  k_fill
  rfl
theorem wordD14a_1 : True := by
  k_with "MyRoom" => first
        | (refine' roomL ?h1Y222 ?h2Y222; (case h1Y222 => assumption); (case h2Y222 => exact rfl))
        | (refine' roomA ?h1Y222; (case h1Y222 => assumption))
        | exact Nat.le_of_ble_eq_true rfl
  k_with "MyUnits" => first
        | (refine' unitL ?h1Y223 ?h2Y223; (case h1Y223 => assumption); (case h2Y223 => exact rfl))
        | exact Nat.le_of_ble_eq_true rfl
  k_with "MyLo" => first | assumption | exact Int.le_refl _ | exact Int.le_add_one (by assumption)
  k_with "MyHi" => first | assumption | exact lt_ne (by assumption) (by assumption) | exact Int.natCast_pos.mpr (by assumption) | exact Int.lt_of_lt_of_le (by assumption) (by assumption)
  k_with "call builtin:len" => (
        k_here; (with_reducible show wpAny _ _ (call (Value.builtin "len") [Value.str _ _]) _ _ _);
        k_dflt (refine' len_S ?h1Y226 ?_; (case h1Y226 => assumption)))
  k_with "subscriptTail Name Name str int" => (
        k_here; k_dflt (refine' item_S ?h1Y227 ?h2Y227 ?h3Y227 ?_ ?h4Y227 ?h5Y227; (case h1Y227 => walk_at "MyLo"); (case h2Y227 => walk_at "MyHi"); (case h3Y227 => assumption); (case h4Y227 => with_unfolding_all rfl); (case h5Y227 => intro _; with_unfolding_all rfl)); intro _)
  k_with "subscriptTail Name Constant str int" => (
        k_here; k_dflt (refine' item_S ?h1Y228 ?h2Y228 ?h3Y228 ?_ ?h4Y228 ?h5Y228; (case h1Y228 => walk_at "MyLo"); (case h2Y228 => walk_at "MyHi"); (case h3Y228 => assumption); (case h4Y228 => with_unfolding_all rfl); (case h5Y228 => intro _; with_unfolding_all rfl)); intro _)
  k_with "call builtin:ord" => (
        k_here; k_dflt (refine' ord_S ?h1Y229 ?_; (case h1Y229 => assumption)))
  k_with "MyUse" => (
        (case k1 => k_asm); (case k2 => k_asm); (case k3 => k_asm); (case k4 => k_asm); (case k5 => k_asm); (case k6 => first | exact rfl | assumption); (case k7 => ktr_room); (case k8 => ktr_units); intros; (try k_sweep); (try dsimp only); (try k_fold))
  k_with "MyNum" => first | assumption | omega
  k_with "eval Call" => (k_here; (with_reducible show wpAny _ _ (eval (PySem.Expr.Call (PySem.Expr.Name _ _) _ [] _) _) _ _ _); k_dflt (refine Call_ ?_))
  k_with "MySub" => first | with_reducible exact sub_refl | ((with_reducible refine sub_cons ?_); walk_at "MySub")
  k_with "MyOff" => first
        | exact List.forall_mem_nil _
        | assumption
        | exact off_lt (by assumption)
        | exact off_own (by assumption) (by first | exact List.Mem.head _ | simp)
        | (refine off_app ?_ ?_ <;> walk_at "MyOff")
        | (refine List.forall_mem_cons.mpr ⟨?_, ?_⟩; (focus k_ne); walk_at "MyOff")
  k_with "MyUpd" => first
        | k_upd
        | (refine' Upd.head ?aY235; (case aY235 => walk_at "MyOff"))
        | (refine' Upd.tail ?aY235 ?bY235; (case aY235 => k_ne); (case bY235 => walk_at "MyUpd"))
  k_with "MySize" => first
        | size_fits
        | ((simp only [List.size_toArray, List.length_append, List.length_cons, List.length_nil, PySem.sizeLine_eq]); omega)
  k_with "call builtin:list.append" => (
        k_here; (with_reducible show wpAny _ _ (call (Value.builtin "list.append") [Value.ref _, _]) _ _ _);
        k_dflt (refine' append_K ?k1 ?k2 ?k3 ?_ ?zY237; (case k1 => k_asm); (case k2 => k_asm); (case k3 => walk_at "MyUpd"); (case zY237 => walk_at "MySize"); k_whole);
        intro h'Z F'Z N'Z; (try k_sweep))
  trivial
theorem piece_of {x : PySem.Str} (h : (decide (x.length ≤ 11) && (Mine.L x).all fun c => decide (0 < c) && decide (c < 256)) = true) : PieceOk x := by
  rw [Bool.and_eq_true, List.all_eq_true] at h
  refine ⟨by simpa using h.1, fun c hc => ?_⟩
  have := h.2 c hc
  simpa using this
theorem pieces_nil : ∀ v ∈ ([] : List Value), ∃ x t, v = Value.str x t ∧ PieceOk x := fun _ h => nomatch h
theorem pieces_cons {vs : List Value} {x : PySem.Str} {t : Tok} (hx : PieceOk x) (h : ∀ v ∈ vs, ∃ x t, v = Value.str x t ∧ PieceOk x) : ∀ v ∈ (Value.str x t :: vs), ∃ x t, v = Value.str x t ∧ PieceOk x := fun v hv => by
  rcases List.mem_cons.mp hv with rfl | hv
  · exact ⟨_, _, rfl, hx⟩
  · exact h v hv
noncomputable def PiecesOut (news : Led) (r : Value) (nw : Led) : Prop := ∃ (a : Addr) (vs : List Value) (n : Nat), r = .ref a ∧ nw = (a, listOf vs.toArray n) :: news ∧ (∀ p ∈ news, p.1 < a) ∧ Pieces vs
theorem law_pieces_ok (w : World) (news : Led) : Does w 1 105 news [] (PiecesOut news) := by
  unfold Does
  intro mean mg mb dp un gd cn cs a ccd cl outer A₀ base h₀ L m s Q E B F X N T hk hdp hu hret
  refine wpAny_call ?_
  k_dflt cell_enter
  k_steps
  refine hret _ _ _ _ (by k_asm) (by k_asm) ⟨_, _, _, rfl, rfl, by assumption, rfl, ?_⟩
  repeat (refine pieces_cons (piece_of (by decide +kernel)) ?_)
  exact pieces_nil
noncomputable def BaseOut (news : Led) (r : Value) (nw : Led) : Prop :=
  ∃ (a : Addr) (vs : List Value) (n : Nat) (bl : Led), r = .ref a ∧ nw = (a, listOf vs.toArray n) :: (bl ++ news) ∧ (∀ p ∈ news, p.1 < a) ∧ (∀ p ∈ bl, p.1 < a) ∧ (∀ p ∈ news, ∀ q ∈ bl, p.1 < q.1) ∧ vs.length = 3 ∧
    ∀ (j : Nat) v, vs[j]? = some v → ∃ (b : Addr) (ws : List Value) (nn : Nat), v = Value.ref b ∧ (b, listOf ws.toArray nn) ∈ bl ∧ IntsOk ws
theorem base3 {news : Led} {a0 a1 a2 d : Addr} {w0 w1 w2 : List Value} {n0 n1 n2 n : Nat} (h0 : ∀ p ∈ news, p.1 < a0) (h1 : a0 < a1 ∧ AllLt a1 news) (h2 : a1 < a2 ∧ a0 < a2 ∧ AllLt a2 news) (h3 : a2 < d ∧ a1 < d ∧ a0 < d ∧ AllLt d news) (i0 : IntsOk w0) (i1 : IntsOk w1) (i2 : IntsOk w2) :
    BaseOut news (.ref d) ((d, listOf [Value.ref a0, Value.ref a1, Value.ref a2].toArray n) :: ([(a2, listOf w2.toArray n2), (a1, listOf w1.toArray n1), (a0, listOf w0.toArray n0)] ++ news)) := by
  refine ⟨d, _, n, _, rfl, rfl, fun p hp => Nat.lt_trans (h0 p hp) h3.2.2.1, ?_, ?_, rfl, ?_⟩
  · intro p hp
    simp only [List.mem_cons, List.not_mem_nil, or_false] at hp
    rcases hp with rfl | rfl | rfl
    · exact h3.1
    · exact h3.2.1
    · exact h3.2.2.1
  · intro p hp q hq
    have := h0 p hp
    simp only [List.mem_cons, List.not_mem_nil, or_false] at hq
    rcases hq with rfl | rfl | rfl
    · exact Nat.lt_trans this h2.2.1
    · exact Nat.lt_trans this h1.1
    · exact this
  · intro j v hv
    match j, hv with
    | 0, hv => cases hv; exact ⟨a0, w0, n0, rfl, .tail _ (.tail _ (.head _)), i0⟩
    | 1, hv => cases hv; exact ⟨a1, w1, n1, rfl, .tail _ (.head _), i1⟩
    | 2, hv => cases hv; exact ⟨a2, w2, n2, rfl, .head _, i2⟩
    | j + 3, hv => simp at hv
theorem law_base_ok (w : World) (news : Led) : Does w 1 112 news [] (BaseOut news) := by
  unfold Does
  intro mean mg mb dp un gd cn cs a ccd cl outer A₀ base h₀ L m s Q E B F X N T hk hdp hu hret
  refine wpAny_call ?_
  k_dflt cell_enter
  k_steps
  refine hret _ _ _ _ (by k_asm) (by k_asm) (base3 (by assumption) (by assumption) (by assumption) (by assumption) ?_ ?_ ?_)
  all_goals exact ⟨rfl, by simp⟩
end Mine
end
section
open PySem PySem.W PyProof.Rows
namespace Mine
noncomputable def Nth (xs : List PySem.Str) (j : Nat) : PySem.Str := xs.getD j (PySem.Str.ofString "")
theorem nth_some {xs : List PySem.Str} {j : Nat} (h : j < xs.length) : xs[j]? = some (Nth xs j) := by
  unfold Nth
  rw [List.getD_eq_getElem?_getD, List.getElem?_eq_getElem h]
  rfl
theorem txts_of {news : List (Addr × Obj)} {X : Addr} {vs : List Value} {xs : List PySem.Str} {n b : Nat} (hm : (X, listOf vs.toArray n) ∈ news) (hs : StrsAre vs xs) (h3 : xs.length = 3) (hb : ∀ x ∈ xs, x.length ≤ b) : TxtsIn news X (Nth xs) b := by
  have hl := strs_len hs
  refine ⟨vs, n, hm, by omega, fun j v hv => ?_⟩
  have hj : j < xs.length := by have := (List.getElem?_eq_some_iff.mp hv).1; omega
  have h1 := nth_some hj
  obtain ⟨t, ht⟩ := hs.at h1
  rw [hv] at ht
  exact ⟨t, Option.some.inj ht, hb _ (List.mem_of_getElem? h1)⟩
theorem rows_of {xs ys : List PySem.Str} (hx : xs.length = 3) (hy : ys.length = 3) (h : ∀ (j : Nat) x y, xs[j]? = some x → ys[j]? = some y → Row false (L y) = Row false (L x)) : ∀ j, j < 3 → Row false (L (Nth ys j)) = Row false (L (Nth xs j)) := fun j hj =>
  h j _ _ (nth_some (by omega)) (nth_some (by omega))
section
variable {prog : Program} {w : World} {A : Around} {E : Value → Shared → Prop} {s : Shared} {env : Env} {h₀ : Heap} {target : Expr} {body : List Stmt} {Q : Flow → Shared → Prop}
/-- a for over a written list of the ledger -/
theorem listJ {ax : Addr} {vs : List Value} {n : Nat} {m₀ : Str → Option Value} {news : List (Addr × Obj)} (J : Nat → (Str → Option Value) → List (Addr × Obj) → Prop)
    (hh : A.handled = none) (F : Fr h₀ env.locals s.heap m₀) (N : News h₀ env.locals s.heap news) (hm : (ax, listOf vs.toArray n) ∈ news) (hJ : J 0 m₀ news)
    (turn : ∀ (I : Addr) (o1 : Obj) (i : Nat) (v : Value) m₁ news₁ h tk, (∀ p ∈ news, p.1 < I) → vs[i]? = some v → J i m₁ news₁ → Fr h₀ env.locals h m₁ → News h₀ env.locals h ((I, o1) :: news₁) →
      wpAny (model prog w) A (assign target env v) (fun _ s₂ => wpAny (model prog w) A (execs body env) (UnrPostW h₀ env.locals { s with heap := h, toks := tk } [(I, o1)] (fun m' n' => SubL [(ax, listOf vs.toArray n)] n' ∧ J (i + 1) m' n') Q) E s₂) E { s with heap := h, toks := tk })
    (done : ∀ m' news' h tk, J vs.length m' news' → Fr h₀ env.locals h m' → News h₀ env.locals h news' → Q .next { s with heap := h, toks := tk }) :
    wpAny (model prog w) A (pyIter (.ref ax)) (fun it s₂ => TurnsAt prog w A h₀ env target body Q E it s₂) E s := by
  refine iter_listTurns (lo := listOf vs.toArray n) hh F N hm rfl rfl fun I hI => ?_
  refine itemsJ (xs := vs.map .val) J ?_ ?_ vs.length 0 m₀ news (by simp) hJ (And.intro hm trivial)
  · intro i a v m₁ news₁ h tk its ha hv hJ' hk F' ho N'
    obtain ⟨o1, rfl⟩ := objs1 ho
    have ha' : ∃ x, vs[i]? = some x ∧ a = .val x := by
      rw [List.getElem?_map] at ha
      cases hx : vs[i]? with
      | none => rw [hx] at ha; cases ha
      | some x => rw [hx] at ha; exact ⟨x, rfl, (Option.some.inj ha).symm⟩
    obtain ⟨x, hx, rfl⟩ := ha'
    have hv' : v = x := hv
    subst hv'
    exact turn I o1 i v m₁ news₁ h tk hI hx hJ' F' N'
  · intro m' news' h tk hJ' F' N'
    rw [List.length_map] at hJ'
    exact done m' news' h tk hJ' F' N'
end
/-- between two turns of law's second loop -/
noncomputable def CaseJ (c3 : Addr) (base : List (Addr × Obj)) (stored : List Str) (m₀ : Str → Option Value) (m : Str → Option Value) (nx : List (Addr × Obj)) : Prop :=
  ∃ (o : Obj) (pv : Option Value) (u : Str → Option Value), nx = (c3, o) :: base ∧ o.data = .cell pv ∧ m = fun z => if stored.contains z then u z else m₀ z
theorem caseJ0 {c3 : Addr} {base : List (Addr × Obj)} {stored : List Str} {m₀ : Str → Option Value} {o : Obj} {pv : Option Value} (h : o.data = .cell pv) : CaseJ c3 base stored m₀ m₀ ((c3, o) :: base) := ⟨o, pv, m₀, rfl, h, by funext z; simp⟩
theorem caseEnd {h₀ h' : Heap} {Lo c3 ax I : Addr} {oI o oi lo : Obj} {base all : List (Addr × Obj)} {stored : List Str} {m₀ m' : Str → Option Value} {s : Shared} {tk : Nat} {pv : Option Value} (hI : ∀ p ∈ (c3, oi) :: base, p.1 < I) (hl : (ax, lo) ∈ base) (hp : o.data = .cell pv) (F : Fr h₀ Lo h' m') (N : News h₀ Lo h' all)
    (sub : ∀ p ∈ (I, oI) :: (c3, o) :: base, p ∈ all) (hr : ∀ z, stored.contains z = false → m' z = m₀ z) : UnrEndW h₀ Lo s [(I, oI)] (fun m' n' => SubL [(ax, lo)] n' ∧ CaseJ c3 base stored m₀ m' n') { s with heap := h', toks := tk } :=
  ⟨h', tk, m', (c3, o) :: base, rfl, F, fun p hp => N p (sub p hp), fun p hp q hq => by
    rw [List.mem_singleton.mp hq]
    rcases List.mem_cons.mp hp with rfl | hp
    · exact Nat.ne_of_lt (hI (c3, oi) (.head _))
    · exact Nat.ne_of_lt (hI p (.tail _ hp)), And.intro (.tail _ hl) trivial, o, pv, m', rfl, hp, by
    funext z
    cases hz : stored.contains z with
    | true => simp
    | false => simp [hr z hz]⟩
/-- the rows of what was told, one by one -/
noncomputable def ToldJ (base : List (Addr × Obj)) (f : Nat → Nat → Int) (i : Nat) (ys : List Value) (nx : List (Addr × Obj)) : Prop :=
  ys.length = i ∧ (∀ p ∈ base, p ∈ nx) ∧ ∀ (j : Nat) v, ys[j]? = some v → IntsRow nx v (f j)
theorem toldJ0 {base : List (Addr × Obj)} {f : Nat → Nat → Int} : ToldJ base f 0 [] base := ⟨rfl, fun _ h => h, fun j v h => by simp at h⟩
theorem told_of {base nx : List (Addr × Obj)} {f : Nat → Nat → Int} {ys : List Value} {D : Addr} (h : ToldJ base f 3 ys nx) : ToldIn ((D, LCg.lst ys) :: nx) D f := ⟨ys, _, .head _, h.1, fun j v hv => (h.2.2 j v hv).mono fun p hp => .tail _ hp⟩
/-- one row told -/
noncomputable def NatJ (nx : List (Addr × Obj)) (g : Nat → Int) (i : Nat) (ys : List Value) (nx' : List (Addr × Obj)) : Prop := nx' = nx ∧ ys.length = i ∧ ∀ (j : Nat) v, ys[j]? = some v → ∃ t, v = Value.int (g j) t
theorem natJ0 {nx : List (Addr × Obj)} {g : Nat → Int} : NatJ nx g 0 [] nx := ⟨rfl, rfl, fun j v h => by simp at h⟩
theorem natJ1 {nx nx' : List (Addr × Obj)} {g : Nat → Int} {i : Nat} {ys : List Value} {t : Tok} (h : NatJ nx g i ys nx') : NatJ nx g (i + 1) (ys ++ [.int (g i) t]) nx' := by
  obtain ⟨h1, h2, h3⟩ := h
  refine ⟨h1, by simp [h2], fun j v hv => ?_⟩
  by_cases hj : j < ys.length
  · rw [List.getElem?_append_left hj] at hv; exact h3 j v hv
  · have hlt := (List.getElem?_eq_some_iff.mp hv).1
    rw [List.length_append, List.length_singleton] at hlt
    have hji : j = i := by omega
    subst hji
    rw [List.getElem?_append_right (by omega), h2, Nat.sub_self] at hv
    exact ⟨t, by simpa using hv.symm⟩
theorem toldJ1 {base nx : List (Addr × Obj)} {f : Nat → Nat → Int} {i : Nat} {ys zs : List Value} {D : Addr} (h : ToldJ base f i ys nx) (hz : NatJ nx (f i) 3 zs nx) : ToldJ base f (i + 1) (ys ++ [.ref D]) ((D, LCg.lst zs) :: nx) := by
  obtain ⟨h1, h2, h3⟩ := h
  refine ⟨by simp [h1], fun p hp => .tail _ (h2 p hp), fun j v hv => ?_⟩
  by_cases hj : j < ys.length
  · rw [List.getElem?_append_left hj] at hv
    exact (h3 j v hv).mono fun p hp => .tail _ hp
  · have hlt := (List.getElem?_eq_some_iff.mp hv).1
    rw [List.length_append, List.length_singleton] at hlt
    have hji : j = i := by omega
    subst hji
    rw [List.getElem?_append_right (by omega), h1, Nat.sub_self] at hv
    have : v = .ref D := by simpa using hv.symm
    subst this
    exact ⟨D, zs, _, rfl, .head _, hz.2.1, hz.2.2⟩
end Mine
namespace Mine
theorem case_open {h₀ h : Heap} {Lo ax TA SA c1 c2 c3 D : Addr} {lo dO o1 o2 o3 : Obj} {bl : List (Addr × Obj)} {tv sv : List Value} {n1 n2 : Nat} (N : News h₀ Lo h ((ax, lo) :: LawLed bl D dO TA SA c1 c2 c3 o1 o2 o3 tv sv n1 n2))
    (hoff : ∀ p ∈ (ax, lo) :: (TA, listOf tv.toArray n1) :: (SA, listOf sv.toArray n2) :: (c2, o2) :: (c1, o1) :: (D, dO) :: bl, p.1 ≠ c3) :
    ∃ base, News h₀ Lo h ((c3, o3) :: base) ∧ (ax, lo) ∈ base ∧ (TA, listOf tv.toArray n1) ∈ base ∧ (SA, listOf sv.toArray n2) ∈ base ∧ (c1, o1) ∈ base ∧ ∀ p ∈ base, p.1 ≠ c3 := by
  refine ⟨_, fun p hp => N p ?_, .head _, .tail _ (.head _), .tail _ (.tail _ (.head _)), .tail _ (.tail _ (.tail _ (.tail _ (.head _)))), hoff⟩
  rcases List.mem_cons.mp hp with rfl | hp
  · exact .tail _ (.tail _ (.tail _ (.tail _ (.tail _ (.head _)))))
  · rcases List.mem_cons.mp hp with rfl | hp
    · exact .head _
    · rcases List.mem_cons.mp hp with rfl | hp
      · exact .tail _ (.head _)
      · rcases List.mem_cons.mp hp with rfl | hp
        · exact .tail _ (.tail _ (.head _))
        · rcases List.mem_cons.mp hp with rfl | hp
          · exact .tail _ (.tail _ (.tail _ (.head _)))
          · rcases List.mem_cons.mp hp with rfl | hp
            · exact .tail _ (.tail _ (.tail _ (.tail _ (.head _))))
            · exact .tail _ (.tail _ (.tail _ (.tail _ (.tail _ (.tail _ hp)))))
theorem two_bools {t1 t2 : Value} {i : Nat} {v : Value} {a b : Bool} (e1 : t1 = .bool a) (e2 : t2 = .bool b) (h : [t1, t2][i]? = some v) : ∃ nb, v = .bool nb := by
  match i, h with
  | 0, h => exact ⟨a, by cases h; exact e1⟩
  | 1, h => exact ⟨b, by cases h; exact e2⟩
  | i + 2, h => simp at h
end Mine
namespace Mine
theorem txt_at {tv : List Value} {xs : List PySem.Str} {i : Nat} {v : Value} (hs : StrsAre tv xs) (h3 : xs.length = 3) (hb : ∀ x ∈ xs, TextOk x) (hv : tv[i]? = some v) : ∃ t, v = .str (Nth xs i) t ∧ (Nth xs i).length ≤ 2000 := by
  have hl := strs_len hs
  have hj : i < xs.length := by have := (List.getElem?_eq_some_iff.mp hv).1; omega
  have h1 := nth_some hj
  obtain ⟨t, ht⟩ := hs.at h1
  rw [hv] at ht
  exact ⟨t, Option.some.inj ht, Nat.le_trans (hb _ (List.mem_of_getElem? h1)).1 (by decide)⟩
theorem told_news {h₀ h : Heap} {Lo K I C D c1 c3 : Addr} {oK oI oC oD o1 o3 : Obj} {nx : List (Addr × Obj)} (N : News h₀ Lo h ((K, oK) :: (I, oI) :: (C, oC) :: (D, oD) :: nx)) (h1 : (c1, o1) ∈ nx) (h3 : (c3, o3) ∈ nx) :
    News h₀ Lo h ((K, oK) :: (c1, o1) :: (c3, o3) :: (I, oI) :: (C, oC) :: (D, oD) :: nx) := fun p hp => N p (by
  rcases List.mem_cons.mp hp with rfl | hp
  · exact .head _
  · rcases List.mem_cons.mp hp with rfl | hp
    · exact .tail _ (.tail _ (.tail _ (.tail _ h1)))
    · rcases List.mem_cons.mp hp with rfl | hp
      · exact .tail _ (.tail _ (.tail _ (.tail _ h3)))
      · exact .tail _ hp)
theorem told_turn {h₀ h' : Heap} {Lo K I C D c1 c3 E ax : Addr} {oK oI oC oD o1 o3 xo : Obj} {m : Str → Option Value} {nx base : List (Addr × Obj)} {ys zs : List Value} {f : Nat → Nat → Int} {i : Nat} {s : Shared} {tk : Nat}
    (hJ : ToldJ base f i ys nx) (hz : NatJ ((K, oK) :: (c1, o1) :: (c3, o3) :: (I, oI) :: (C, oC) :: (D, oD) :: nx) (f i) 3 zs ((K, oK) :: (c1, o1) :: (c3, o3) :: (I, oI) :: (C, oC) :: (D, oD) :: nx)) (hax : (ax, xo) ∈ nx) (off : Off4 I C D K nx)
    (F : Fr h₀ Lo h' m) (N : News h₀ Lo h' ((E, LCg.lst zs) :: (K, oK) :: (c1, o1) :: (c3, o3) :: (I, oI) :: (C, oC) :: (D, oD) :: nx)) (o4 : LCg.Off1 E ((K, oK) :: (c1, o1) :: (c3, o3) :: (I, oI) :: (C, oC) :: (D, oD) :: nx)) :
    ∃ h'' tk' nx', ({ s with heap := h', toks := tk } : Shared) = { s with heap := h'', toks := tk' } ∧ Fr h₀ Lo h'' m ∧ News h₀ Lo h'' ((K, oK) :: (I, oI) :: (C, oC) :: (D, oD) :: nx') ∧ Off4 I C D K nx' ∧ (ax, xo) ∈ nx' ∧ ToldJ base f (i + 1) (ys ++ [.ref E]) nx' := by
  have oE := off1_mem o4
  refine ⟨h', tk, (E, LCg.lst zs) :: nx, rfl, F, fun p hp => N p ?_, fun p hp => ?_, .tail _ hax, toldJ1 hJ ⟨rfl, hz.2.1, hz.2.2⟩⟩
  · rcases List.mem_cons.mp hp with rfl | hp
    · exact .tail _ (.head _)
    · rcases List.mem_cons.mp hp with rfl | hp
      · exact .tail _ (.tail _ (.tail _ (.tail _ (.head _))))
      · rcases List.mem_cons.mp hp with rfl | hp
        · exact .tail _ (.tail _ (.tail _ (.tail _ (.tail _ (.head _)))))
        · rcases List.mem_cons.mp hp with rfl | hp
          · exact .tail _ (.tail _ (.tail _ (.tail _ (.tail _ (.tail _ (.head _))))))
          · rcases List.mem_cons.mp hp with rfl | hp
            · exact .head _
            · exact .tail _ (.tail _ (.tail _ (.tail _ (.tail _ (.tail _ (.tail _ hp))))))
  · rcases List.mem_cons.mp hp with rfl | hp
    · exact ⟨Ne.symm (oE (I, oI) (.tail _ (.tail _ (.tail _ (.head _))))), Ne.symm (oE (C, oC) (.tail _ (.tail _ (.tail _ (.tail _ (.head _)))))), Ne.symm (oE (D, oD) (.tail _ (.tail _ (.tail _ (.tail _ (.tail _ (.head _))))))), Ne.symm (oE (K, oK) (.head _))⟩
    · exact off p hp
end Mine
end
section
open PySem PySem.W PyProof.Rows
namespace Mine
theorem offD14 {w : World} {A : Around} {Q : Flow → Shared → Prop} {E : Value → Shared → Prop} {s : Shared} {env : Env} (h : Q .next s) : wpAny (model prog w) A (execs [] env) Q E s := by
  k_with_none
  w_top off
  walk1
  exact h
theorem fill14 : (PySem.Challenge.rw_pc0252_01, hd.heap_39) = (PySem.Challenge.rw_pc0252_01, hd.heap_39) := by
  k_fill
  rfl
theorem wordD14_1 : True := by
  k_with "MyRoom" => first
        | (refine' roomL ?h1Y238 ?h2Y238; (case h1Y238 => assumption); (case h2Y238 => exact rfl))
        | (refine' roomA ?h1Y238; (case h1Y238 => assumption))
        | exact Nat.le_of_ble_eq_true rfl
  k_with "MyUnits" => first
        | (refine' unitL ?h1Y239 ?h2Y239; (case h1Y239 => assumption); (case h2Y239 => exact rfl))
        | exact Nat.le_of_ble_eq_true rfl
  k_with "MyLo" => first | assumption | exact Int.le_refl _ | exact Int.le_add_one (by assumption)
  k_with "MyHi" => first | assumption | exact lt_ne (by assumption) (by assumption) | exact Int.natCast_pos.mpr (by assumption) | exact Int.lt_of_lt_of_le (by assumption) (by assumption)
  k_with "call builtin:len" => (
        k_here; (with_reducible show wpAny _ _ (call (Value.builtin "len") [Value.str _ _]) _ _ _);
        k_dflt (refine' len_S ?h1Y242 ?_; (case h1Y242 => assumption)))
  k_with "subscriptTail Name Name str int" => (
        k_here; k_dflt (refine' item_S ?h1Y243 ?h2Y243 ?h3Y243 ?_ ?h4Y243 ?h5Y243; (case h1Y243 => walk_at "MyLo"); (case h2Y243 => walk_at "MyHi"); (case h3Y243 => assumption); (case h4Y243 => with_unfolding_all rfl); (case h5Y243 => intro _; with_unfolding_all rfl)); intro _)
  k_with "subscriptTail Name Constant str int" => (
        k_here; k_dflt (refine' item_S ?h1Y244 ?h2Y244 ?h3Y244 ?_ ?h4Y244 ?h5Y244; (case h1Y244 => walk_at "MyLo"); (case h2Y244 => walk_at "MyHi"); (case h3Y244 => assumption); (case h4Y244 => with_unfolding_all rfl); (case h5Y244 => intro _; with_unfolding_all rfl)); intro _)
  k_with "call builtin:ord" => (
        k_here; k_dflt (refine' ord_S ?h1Y245 ?_; (case h1Y245 => assumption)))
  k_with "MyUse" => (
        (case k1 => k_asm); (case k2 => k_asm); (case k3 => k_asm); (case k4 => k_asm); (case k5 => k_asm); (case k6 => first | exact rfl | assumption); (case k7 => ktr_room); (case k8 => ktr_units); intros; (try k_sweep); (try dsimp only); (try k_fold))
  k_with "MyNum" => first | assumption | omega
  k_with "eval Call" => (k_here; (with_reducible show wpAny _ _ (eval (PySem.Expr.Call (PySem.Expr.Name _ _) _ [] _) _) _ _ _); k_dflt (refine Call_ ?_))
  k_with "MySub" => first | with_reducible exact sub_refl | ((with_reducible refine sub_cons ?_); walk_at "MySub")
  k_with "MyOff" => first
        | exact List.forall_mem_nil _
        | assumption
        | exact off_lt (by assumption)
        | exact off_own (by assumption) (by first | exact List.Mem.head _ | simp)
        | (refine off_app ?_ ?_ <;> walk_at "MyOff")
        | (refine List.forall_mem_cons.mpr ⟨?_, ?_⟩; (focus k_ne); walk_at "MyOff")
  k_with "MyUpd" => first
        | k_upd
        | (refine' Upd.head ?aY251; (case aY251 => walk_at "MyOff"))
        | (refine' Upd.tail ?aY251 ?bY251; (case aY251 => k_ne); (case bY251 => walk_at "MyUpd"))
  k_with "MySize" => first
        | size_fits
        | ((simp only [List.size_toArray, List.length_append, List.length_cons, List.length_nil, PySem.sizeLine_eq]); omega)
  k_with "call builtin:list.append" => (
        k_here; (with_reducible show wpAny _ _ (call (Value.builtin "list.append") [Value.ref _, _]) _ _ _);
        k_dflt (refine' append_K ?k1 ?k2 ?k3 ?_ ?zY253; (case k1 => k_asm); (case k2 => k_asm); (case k3 => walk_at "MyUpd"); (case zY253 => walk_at "MySize"); k_whole);
        intro h'Z F'Z N'Z; (try k_sweep))
  k_with "exec For Tuple Call cons nil" => (k_here; (rename Fr _ _ _ _ => lF'); (with_unfolding_all refine' For_turns lF' ?_; k_whole))
  k_with "exec For Name List cons nil" => (k_here; (rename Fr _ _ _ _ => lF'); (with_unfolding_all refine' For_turns lF' ?_; k_whole))
  k_with "exec For Name Call cons nil" => (k_here; (rename Fr _ _ _ _ => lF'); (with_unfolding_all refine' For_turns lF' ?_; k_whole))
  k_with "call type:enumerate cons nil" => (k_here; refine hold ?_)
  k_with "UnrEndW" => (refine hold ?_)
  k_with "CompSrc" => (k_here; refine hold ?_)
  k_with "CompEnd" => (refine hold ?_)
  k_with "MySameN" => (intro zZ h3Z; (repeat (first
        | with_reducible exact rfl
        | with_reducible refine cont_step h3Z ?_
        | (refine ne_step (ne_st h3Z (by decide +kernel)) ?_)
        | (refine cont_step (ne_sub h3Z (by decide +kernel)) ?_))))
  trivial
theorem useAny {w : World} {lv : Nat} {f : Addr} {news : Led} {vs : List Value} {mean : ExcName → Option Value} {mg mb : Str → Option Value} {dp un : Nat} {gd : Option (List Code)} {cn : Str} {cs : Scope} {a : Addr} {ccd : Value} {cl : List (Str × Addr)} {outer : List Env} {A₀ : Around} {base h₀ : Heap} {L : Addr} {m : Str → Option Value} {s : Shared} {Q E : Value → Shared → Prop}
    {O : Value → Led → Prop} (C : Does w lv f news vs O) (B : Below A₀ base outer h₀) (F : Fr h₀ L s.heap m) (X : (hd.heap_39 w.params).In h₀) (N : News h₀ L s.heap news) (T : Top hd.view_39 (looseW hd.view_39 []) mean mg mb h₀) (hk : cs.kind = .function) (hd : dp + lv < recursionLimit) (hu : un + Us lv < cLine)
    (h : ∀ r nw h' tk', O r nw → Fr h₀ L h' m → News h₀ L h' nw → Q r { s with heap := h', toks := tk' }) : wpAny (model prog w) (ktrTop dp un gd cn cs L a ccd cl outer) (call (.ref f) vs) Q E s :=
  C _ _ _ _ _ _ _ _ _ _ _ _ _ _ _ _ _ _ _ _ B F X N T hk hd hu (fun _ _ _ _ F' N' o => h _ _ _ _ o F' N')
theorem usePc {w : World} {news : Led} {mean : ExcName → Option Value} {mg mb : Str → Option Value} {dp un : Nat} {gd : Option (List Code)} {cn : Str} {cs : Scope} {a : Addr} {ccd : Value} {cl : List (Str × Addr)} {outer : List Env} {A₀ : Around} {base h₀ : Heap} {L : Addr} {m : Str → Option Value} {s : Shared} {Q E : Value → Shared → Prop}
    (B : Below A₀ base outer h₀) (F : Fr h₀ L s.heap m) (X : (hd.heap_39 w.params).In h₀) (N : News h₀ L s.heap news) (T : Top hd.view_39 (looseW hd.view_39 []) mean mg mb h₀) (hk : cs.kind = .function) (hd : dp + 1 < recursionLimit) (hu : un + Us 1 < cLine)
    (h : ∀ a vs n h' tk', (∀ p ∈ news, p.1 < a) → Pieces vs → Fr h₀ L h' m → News h₀ L h' ((a, listOf vs.toArray n) :: news) → Q (.ref a) { s with heap := h', toks := tk' }) : wpAny (model prog w) (ktrTop dp un gd cn cs L a ccd cl outer) (call (.ref 105) []) Q E s :=
  law_pieces_ok w news _ _ _ _ _ _ _ _ _ _ _ _ _ _ _ _ _ _ _ _ B F X N T hk hd hu (fun _ _ _ _ F' N' o => by
    obtain ⟨a, vs, n, rfl, rfl, h1, h2⟩ := o
    exact h _ _ _ _ _ h1 h2 F' N')
theorem wordD14_2 : True := by
  k_with "MyAny" => ((case k1 => k_asm); (case k2 => k_asm); (case k3 => k_asm); (case k4 => k_asm); (case k5 => k_asm); (case k6 => first | exact rfl | assumption); (case k7 => ktr_room); (case k8 => ktr_units))
  k_with "call ref" => (
        k_here; (with_reducible show wpAny _ _ (call (.ref 112) _) _ _ _);
        k_dflt (refine' useAny (law_base_ok _ _) ?k1 ?k2 ?k3 ?k4 ?k5 ?k6 ?k7 ?k8 ?_; walk_at "MyAny"); intro r'Z nw'Z h'Z tk'Z hO'Z F'Z N'Z; (obtain ⟨a', vs', n', bl', e1', e2', hb1', hb2', hb3', hb4', hb5'⟩ := hO'Z); subst e1' e2'; (try k_sweep); (try dsimp only); (try k_fold))
  k_with "MyMem" => first | with_reducible exact List.mem_cons_self | ((with_reducible refine List.mem_cons_of_mem _ ?_); walk_at "MyMem")
  k_with "call builtin:sum" => (
        k_here; (with_reducible show wpAny _ _ (call (Value.builtin "sum") [Value.ref _]) _ _ _);
        k_dflt (refine' sum_drop ?FY265 ?NY265 ?hY265 ?iY265 ?_; (case FY265 => k_asm); (case NY265 => k_asm); (case hY265 => exact rfl); (case iY265 => assumption)); intro v'Z h'Z tk'Z t'Z F'Z N'Z; (try k_sweep))
  k_with "binaryOp Add ref ref" => (
        k_here; (with_reducible show wpAny _ _ (binaryOp _ (Value.ref _) (Value.ref _)) _ _ _);
        k_dflt (refine' add_pen ?FY266 ?NY266 ?bY266 ?wY266 ?_; (case FY266 => k_asm); (case NY266 => k_asm); (case bY266 => walk_at "MyMem"); (case wY266 => assumption)); intro P'Z h'Z pv'Z n'Z hp'Z l1'Z F'Z N'Z; (have l2'Z := l1'Z); (try k_lt l1'Z); (try k_sweep))
  k_with "storeName" => (
        k_here; (with_reducible show wpAny _ _ (storeName (envOfC _ _ _ _ _) _ _) _ _ _);
        k_dflt (refine' storeX_C ?FY267 ?NY267 ?cY267 ?UY267 ?dY267 ?_ ?hkY267 ?hxY267; (case FY267 => k_asm); (case NY267 => k_asm); (case cY267 => exact rfl); (case hkY267 => exact rfl); (case hxY267 => exact rfl); (case UY267 => walk_at "MyUpdF"); (case dY267 => assumption)); intro h'Z o'Z F'Z N'Z d'Z; (try k_sweep); (try dsimp only at N'Z); (try dsimp only); (try k_fold))
  k_with "MyUpdF" => first
        | (refine' UpdF.head ?aY268; (case aY268 => walk_at "MyOff"))
        | (refine' UpdF.tail ?aY268 ?bY268; (case aY268 => first | k_ne | exact Nat.ne_of_gt (by assumption)); (case bY268 => walk_at "MyUpdF"))
  k_with "call ref" => (
        k_here; (with_reducible show wpAny _ _ (call (.ref 98) _) _ _ _);
        k_dflt (refine' useT ?hpY269 ?UY269 ?q1Y269 ?q2Y269 ?k1 ?k2 ?k3 ?k4 ?k5 ?k6 ?k7 ?k8 ?_; (case k4 => k_asm); (case UY269 => first | exact updPen (by assumption) (by assumption) | walk_at "MyUpdF"); (case hpY269 => assumption); (case q1Y269 => decide); (case q2Y269 => decide); (case k1 => k_asm); (case k2 => k_asm); (case k3 => k_asm); (case k5 => k_asm); (case k6 => first | exact rfl | assumption); (case k7 => ktr_room); (case k8 => ktr_units));
        intro d'Z t'Z ws'Z n'Z h'Z tk'Z d0'Z d1'Z hp'Z F'Z N'Z; (try k_sweep); (try dsimp only at N'Z); (try dsimp only); (try k_fold))
  k_with "call ref" => (
        k_here; (with_reducible show wpAny _ _ (call (.ref 105) _) _ _ _);
        k_dflt (refine' usePc ?k1 ?k2 ?k3 ?k4 ?k5 ?k6 ?k7 ?k8 ?_; (case k1 => k_asm); (case k2 => k_asm); (case k3 => k_asm); (case k4 => k_asm); (case k5 => k_asm); (case k6 => first | exact rfl | assumption); (case k7 => ktr_room); (case k8 => ktr_units));
        intro a'Z vs'Z n'Z h'Z tk'Z l1'Z pc'Z F'Z N'Z; (have l2'Z := l1'Z); (try k_lt l1'Z); (try k_sweep); (try dsimp only); (try k_fold))
  k_with "subscriptTail" => (
        k_here; (with_reducible show wpAny _ _ (subscriptTail _ _ (Value.ref _) (Value.int _ _)) _ _ _);
        k_dflt (refine' item_piece ?pY271 ?NY271 ?mY271 ?aY271 ?bY271 ?_ ?zY271; (case pY271 => assumption); (case NY271 => k_asm); (case mY271 => walk_at "MyMem"); (case aY271 => assumption); (case bY271 => assumption); (case zY271 => with_unfolding_all rfl)); intro gx'Z gt'Z gp'Z)
  trivial
theorem useSp {w : World} {mean : ExcName → Option Value} {mg mb : Str → Option Value} {dp un : Nat} {gd : Option (List Code)} {cn : Str} {cs : Scope} {a : Addr} {ccd : Value} {cl : List (Str × Addr)} {outer : List Env} {A₀ : Around} {base h₀ : Heap} {L : Addr} {m : Str → Option Value} {s : Shared} {Q E : Value → Shared → Prop}
    {P : Addr} {pv : List Value} {pn : Nat} {rest : Led} {x : PySem.Str} {tx : Tok} (hp : Pen pv) (hr : ∀ p ∈ rest, p.1 ≠ P) (hl : x.length ≤ 100) (hS : Signs (Mine.L x)) (B : Below A₀ base outer h₀) (F : Fr h₀ L s.heap m) (X : (hd.heap_39 w.params).In h₀) (N : News h₀ L s.heap ((P, listOf pv.toArray pn) :: rest)) (T : Top hd.view_39 (looseW hd.view_39 []) mean mg mb h₀) (hk : cs.kind = .function) (hd : dp + 6 < recursionLimit) (hu : un + Us 6 < cLine)
    (h : ∀ (y : PySem.Str) t vs n h' tk', y.length ≤ 600 → Row false (Mine.L y) = Row false (Mine.L x) → Fr h₀ L h' m → News h₀ L h' ((P, listOf (vs : List Value).toArray n) :: rest) → Q (.str y t) { s with heap := h', toks := tk' }) : wpAny (model prog w) (ktrTop dp un gd cn cs L a ccd cl outer) (call (.ref 133) [.ref P, .str x tx]) Q E s :=
  law_spelled_ok w rest P pv pn hp hr x tx hl hS _ _ _ _ _ _ _ _ _ _ _ _ _ _ _ _ _ _ _ _ B F X N T hk hd hu (fun _ _ _ _ F' N' o => by
    obtain ⟨y, t, vs, n, rfl, h1, h2, rfl⟩ := o
    exact h _ _ _ _ _ _ h1 h2 F' N')
theorem wordD14_3 : True := by
  k_with "MyOff" => first
        | exact List.forall_mem_nil _
        | assumption
        | exact off_all (by assumption)
        | (refine List.forall_mem_cons.mpr ⟨?_, ?_⟩; (focus k_ne); walk_at "MyOff")
  k_with "MyUpd" => first
        | (refine' Upd.head ?aY273; (case aY273 => walk_at "MyOff"))
        | (refine' Upd.tail ?aY273 ?bY273; (case aY273 => k_ne); (case bY273 => walk_at "MyUpd"))
  k_with "call builtin:str.join" => (
          k_here; (with_reducible show wpAny _ _ (call (Value.builtin "str.join") [Value.str _ _, Value.ref _]) _ _ _);
          k_dflt (refine' join_listC ?k1 ?k2 ?k3 ?k4 ?_; (case k1 => is_list); (case k2 => assumption); (case k3 => decide); (case k4 => assumption)); intro _ _)
  k_with "call ref" => (
        k_here; (with_reducible show wpAny _ _ (call (.ref 133) _) _ _ _);
        k_dflt (refine' useSp ?hpY275 ?hrY275 ?hlY275 ?hSY275 ?k1 ?k2 ?k3 ?k4 ?k5 ?k6 ?k7 ?k8 ?_; (case k4 => k_asm); (case hrY275 => walk_at "MyOff"); (case hpY275 => exact pen_of (by simp) (by simp) (by simp)); (case hlY275 => assumption); (case hSY275 => assumption); (case k1 => k_asm); (case k2 => k_asm); (case k3 => k_asm); (case k5 => k_asm); (case k6 => first | exact rfl | assumption); (case k7 => ktr_room); (case k8 => ktr_units));
        intro y'Z t'Z vs'Z n'Z h'Z tk'Z hy1'Z hy2'Z F'Z N'Z; (try k_sweep); (try dsimp only); (try k_fold))
  k_with "subscriptTail" => (
        k_here; (with_reducible show wpAny _ _ (subscriptTail _ _ (Value.ref _) (Value.int (Nat.cast _) _)) _ _ _);
        k_dflt (refine' item_last ?NY276 ?mY276 ?lY276 ?iY276 ?_ ?zY276; (case NY276 => k_asm); (case mY276 => walk_at "MyMem"); (case lY276 => assumption); (case iY276 => assumption); (case zY276 => with_unfolding_all rfl)))
  k_with "pyIter ref" => (k_here; refine hold ?_)
  k_with "exec Assign cons ListComp" => (k_here; refine hold ?_)
  k_with "call ref" => (
        k_here; (with_reducible show wpAny _ _ (call (.ref 91) _) _ _ _);
        k_dflt (refine' useI (natural_ok _ _ _ _ _ _ _ ?p1Y279 ?p2Y279) ?k1 ?k2 ?k3 ?k4 ?k5 ?k6 ?k7 ?k8 ?_; (case p1Y279 => assumption); (case p2Y279 => assumption); walk_at "MyUse"))
  k_with "call ref" => (
        k_here; (with_reducible show wpAny _ _ (call (.ref 138) _) _ _ _);
        k_dflt (refine' useB (law_is_order_ok _ _ _ _ _ _ ?p1Y280 ?p2Y280) ?k1 ?k2 ?k3 ?k4 ?k5 ?k6 ?k7 ?k8 ?_; (case k4 => k_asm); (case p1Y280 => assumption); (case p2Y280 => assumption); (case k1 => k_asm); (case k2 => k_asm); (case k3 => k_asm); (case k5 => k_asm); (case k6 => first | exact rfl | assumption); (case k7 => ktr_room); (case k8 => ktr_units)); intros; (try k_sweep); (try dsimp only); (try k_fold))
  k_with "call ref" => (
        k_here; (with_reducible show wpAny _ _ (call (.ref 145) _) _ _ _);
        k_dflt (refine' useB (law_spells_ok _ _ _ _ _ _ _ _ ?p1Y281 ?p2Y281 ?p3Y281 ?p4Y281) ?k1 ?k2 ?k3 ?k4 ?k5 ?k6 ?k7 ?k8 ?_; (case k4 => k_asm); (case p1Y281 => assumption); (case p2Y281 => assumption); (case p3Y281 => assumption); (case p4Y281 => assumption); (case k1 => k_asm); (case k2 => k_asm); (case k3 => k_asm); (case k5 => k_asm); (case k6 => first | exact rfl | assumption); (case k7 => ktr_room); (case k8 => ktr_units)); intros; (try k_sweep); (try dsimp only); (try k_fold))
  k_with "eval ListComp" => (k_here; (with_reducible show wpAny _ _ (eval (PySem.Expr.ListComp _ _ _ _) (compEnvC _ _ _ _)) _ _ _); k_dflt (refine LCg.ListComp_U (F₀ := by k_asm) (by with_unfolding_all rfl) (by decide) (by rfl) (by decide) (by rfl) ?_); k_dflt lcg_toSrc)
  k_with "call ref" => (
        k_here; (with_reducible show wpAny _ _ (call (.ref 112) _) _ _ _); refine hold ?_)
  trivial
theorem fin : PySem.Challenge.rw_pc0252_01.Holds := by
  refine hd ?_
  k_go0
  all_goals try k_fold
  k_steps
  refine unhold ?_
  k_dflt (refine' useAny (law_base_ok _ _) ?k1 ?k2 ?k3 ?k4 ?k5 ?k6 ?k7 ?k8 ?_; walk_at "MyAny")
  intro r' nw' h' tk' hO' F' N'
  obtain ⟨a', vs, n', bl', e1', e2', hb1, hb2, hb3, hb4, hb5⟩ := hO'
  subst e1' e2'
  (try k_sweep)
  (try dsimp only)
  (try k_fold)
  k_steps
  refine unhold ?_
  rename News _ _ _ _ => N9
  rename Fr _ _ _ _ => F8
  obtain ⟨u9, F9⟩ := fr_open F8 [(Str.ofString "spellings", Value.ref _), (Str.ofString "script", Value.ref _)] (by kst_all)
  replace F9 := kclean2 F9
  clear F8
  obtain ⟨D, TA, SA, c1, c2, c3, o1, o2, o3, bl, rfl, rfl, rfl, rfl, rfl, rfl, rfl, rfl, rfl, rfl, N8⟩ := law_name N9
  have hTD : @LT.lt Nat _ TA D := hb1 (TA, _) (.tail _ (.tail _ (.head _)))
  have hSD : @LT.lt Nat _ SA D := hb1 (SA, _) (.tail _ (.head _))
  have hTb : ∀ p ∈ bl, p.1 ≠ TA := fun p hp => Nat.ne_of_gt (hb3 (TA, _) (.tail _ (.tail _ (.head _))) p hp)
  have hSb : ∀ p ∈ bl, p.1 ≠ SA := fun p hp => Nat.ne_of_gt (hb3 (SA, _) (.tail _ (.head _)) p hp)
  have hPb : ∀ p ∈ bl, p.1 ≠ _ := fun p hp => Nat.ne_of_gt (hb3 (_, o2) (.tail _ (.tail _ (.tail _ (.tail _ (.head _))))) p hp)
  have hPD := hb1 (_, o2) (.tail _ (.tail _ (.tail _ (.tail _ (.head _)))))
  have hCb : ∀ p ∈ bl, p.1 ≠ _ := fun p hp => Nat.ne_of_gt (hb3 (_, o3) (.tail _ (.tail _ (.tail _ (.head _)))) p hp)
  have hCD := hb1 (_, o3) (.tail _ (.tail _ (.tail _ (.head _))))
  (try dsimp only at hCb hCD)
  clear hb1 hb3 N9
  refine enumJ (l := D) (vs := vs) (n := n') (LawJ bl D (listOf vs.toArray n') TA SA _ _ _ o1 o3 [Str.ofString "k", Str.ofString "base"] _) rfl F9 N8 (.tail _ (.tail _ (.tail _ (.tail _ (.tail _ (.head _)))))) (lawJ0 (by assumption)) ?_ ?_
  · intro I oI1 oI2 i v m₁ news₁ h1 tk1 T1 t1 hI hv hJ hl1 hT1 F1 N1
    clear F9 N8
    obtain ⟨tv, sv, xs, ys, n1, n2, o2', pv, u, rfl, hpv, hxs, hys, hxl, hyl, hxo, hyo, hro, rfl⟩ := hJ
    obtain ⟨b, ws, nn, rfl, hbm, hws⟩ := hb5 i v hv
    have hi : i < 3 := by have := (List.getElem?_eq_some_iff.mp hv).1; omega
    have N2 := news_add N1 (show (b, listOf ws.toArray nn) ∈ _ from .tail _ (.tail _ (.tail _ (.tail _ (.tail _ (.tail _ (.tail _ (.tail _ hbm))))))))
    clear N1
    have hbT : b ≠ TA := hTb _ hbm
    have hbS : b ≠ SA := hSb _ hbm
    have hbP := hPb _ hbm
    have hIT : @LT.lt Nat _ TA I := hI (TA, _) (.head _)
    have hIS : @LT.lt Nat _ SA I := hI (SA, _) (.tail _ (.head _))
    have hIP := hI (_, o2) (.tail _ (.tail _ (.head _)))
    (try dsimp only at hbP hIP hPb)
    (try dsimp only)
    (try k_fold)
    k_steps
    rename Obj => o'
    rename Shared => s1
    refine unhold ?_
    rename IsRange _ _ _ _ _ _ _ _ => hr3
    rename News _ _ _ _ => N9
    rename Fr _ _ _ _ => F9
    rename (∀ p ∈ (b, listOf ws.toArray nn) :: _, p.1 < _) => l2
    have hblP := fun p hp => Nat.ne_of_lt (l2 p (.tail _ (.tail _ (.tail _ (.tail _ (.tail _ (.tail _ (.tail _ (.tail _ (.tail _ hp))))))))))
    obtain ⟨P, pv9, n9, rest, rfl, rfl, rfl, erest, N8⟩ := name_pen N9
    have hPr : ∀ p ∈ rest, p.1 ≠ P := by rw [erest]; walk_at "MyOff"
    have hc9 : (s1.heap.objs.size + 1 + 1, o') ∈ rest := by rw [erest]; exact .tail _ (.tail _ (.tail _ (.tail _ (.tail _ (.head _)))))
    clear N9
    refine LCg.CompSrc.range (n := 6) rfl F9 N8 hr3 (by decide) (by decide) (by decide) ?_
    intro g9
    refine compJ (n := 6) (DrawJ P rest) ?_ ?_ 6 0 [] _ rfl ⟨pv9, n9, [], by assumption, rfl, .nil, rfl, fun _ h => nomatch h⟩
    · intro i9 v9 ys9 nx9 I9 oI9 C9 oC9 D9 m9 h9 tk9 E9 hi9 hJ9 hP9 hC9 hx9 F3 N3 off9 ne9
      obtain ⟨pv3, n3, us, hpv3, rfl, hus, hul, huo⟩ := hJ9
      obtain ⟨N4, hoP⟩ := draw_news N3 hc9 off9 hPr
      clear N3 N8
      (try dsimp only)
      (try k_fold)
      k_steps
      refine unhold (drawEnd' (by k_asm) (by k_asm) off9 (drawJ1 (by assumption) hus hul huo (by assumption)))
    · intro ys9 nx9 hJ9
      obtain ⟨pv4, n4, us, hpv4, rfl, hus, hul, huo⟩ := hJ9
      unfold LCg.FinE
      intro D9 h9 tk9 F3 N3 off9
      have hoff := off1_mem off9
      clear F9 N8 hPr hc9
      subst erest
      have hTD9 : D9 ≠ TA := Ne.symm (hoff (TA, _) (.tail _ (.tail _ (.tail _ (.tail _ (.head _))))))
      have hSD9 : D9 ≠ SA := Ne.symm (hoff (SA, _) (.tail _ (.tail _ (.tail _ (.tail _ (.tail _ (.head _)))))))
      have hjt := join_text hul huo
      have hjl : (Txt.join (PySem.Str.ofString "") us).length ≤ 100 := Nat.le_trans hjt.1 (by decide)
      have hjs := hjt.2
      have hj6 := join_fit6 hul huo
      have htv : tv.length = i := (strs_len hxs).trans hxl
      have hsv : sv.length = i := (strs_len hys).trans hyl
      clear hoff off9
      (try dsimp only)
      (try k_fold)
      k_steps
      refine unhold ?_
      rename News _ _ _ _ => nE
      simp only [List.push_toArray] at nE
      exact lawEnd hI (by assumption) hxs hys hxl hyl hxo hyo hro hjt (by assumption) (by assumption) (by k_asm) nE (by walk_at "MySub") (by walk_at "MySameN")
  · intro m9 news9 h1 tk1 hJ F1 N1
    clear F9 N8
    obtain ⟨tv, sv, xs, ys, n1, n2, o2', pv, u, rfl, hpv, hxs, hys, hxl, hyl, hxo, hyo, hro, rfl⟩ := hJ
    (try dsimp only)
    (try k_fold)
    have hx3 : xs.length = 3 := hxl.trans hb4
    have hy3 : ys.length = 3 := hyl.trans hb4
    k_steps
    refine unhold ?_
    rename News _ _ _ _ => N9
    rename Fr _ _ _ _ => F8
    obtain ⟨u8, F9⟩ := fr_open F8 [(Str.ofString "spellings", Value.ref SA)] (by kst_all)
    replace F9 := kclean1 F9
    clear F8
    rename Shared => s1
    obtain ⟨base, N8, hax, hta, hsa, hc1, hoff⟩ := case_open N9 (by walk_at "MyOff")
    clear N9
    have hX : TxtsIn base TA (Nth xs) 2000 := txts_of hta hxs hx3 fun x hx => Nat.le_trans (hxo x hx).1 (by decide)
    have hY : TxtsIn base SA (Nth ys) 2000 := txts_of hsa hys hy3 fun y hy => Nat.le_trans (hyo y hy) (by decide)
    have hE := rows_of hx3 hy3 hro
    refine listJ (fun _ m nx => CaseJ (s1.heap.objs.size + 1 + 1 + 1) base [Str.ofString "told_rows"] _ m nx) rfl F9 N8 (.tail _ hax) (caseJ0 (by assumption)) ?_ ?_
    · intro I oI i v m₁ news₁ h1 tk1 hI hv hJ F1 N1
      obtain ⟨o, pv, u, rfl, ho, rfl⟩ := hJ
      obtain ⟨nb, rfl⟩ := two_bools rfl rfl hv
      clear F9 N8
      have hIc : @LT.lt Nat _ (s1.heap.objs.size + 1 + 1 + 1) I := hI (_, o3) (.head _)
      (try dsimp only)
      (try k_fold)
      k_steps
      refine unhold ?_
      rename Obj => o'
      rename News _ _ _ _ => N9
      rename Fr _ _ _ _ => F9
      have N8 := news_add N9 (show (s1.heap.objs.size + 1, o1) ∈ _ from .tail _ (.tail _ hc1))
      clear N9
      have htv3 : tv.length = 3 := (strs_len hxs).trans hx3
      have hsz3 : tv.toArray.size = 3 := by simp [htv3]
      refine Assign_ListComp_C (ToldJ _ (fun k j => natR nb (Mine.L (Nth xs k)) (Mine.L (Nth xs j)))) (ax := TA) (vs := tv) (nn := n1) rfl F9 N8 (.tail _ (.tail _ (.tail _ hta))) (by rw [htv3]; decide) toldJ0 (by with_unfolding_all rfl) (by with_unfolding_all rfl) (by intros; rfl) (by intros; rfl) rfl (by decide) (by intros; rfl) rfl rfl ?_ ?_ ?_
      · intro Q' hq
        k_steps
        exact hq
      · intro i v ys9 nx9 Ia oIa C oC D9 K oK h2 tk2 E2 hv hJ hK hax9 F2 N2 off9 ne9
        obtain ⟨t9, rfl, hl9⟩ := txt_at hxs hx3 hxo hv
        have N3 := told_news N2 (hJ.2.1 _ (.head _)) (hJ.2.1 _ (.tail _ (.tail _ (.head _))))
        clear F9 N8 N2
        (try dsimp only)
        (try k_fold)
        k_steps
        refine unhold ?_
        rename News _ _ _ _ => N4
        rename Fr _ _ _ _ => F4
        refine LCg.CompSrc.ledger (ax := TA) (its := tv.toArray) rfl F4 N4 (.tail _ (.tail _ (.tail _ (.tail _ (.tail _ (.tail _ hax9)))))) (by rw [hsz3]; exact Nat.le_of_ble_eq_true rfl) ?_
        intro g9
        rw [hsz3]
        refine compJ (n := 3) (NatJ _ (fun k => natR nb (Mine.L (Nth xs i)) (Mine.L (Nth xs k)))) ?_ ?_ 3 0 [] _ rfl natJ0
        · intro i2 v2 zs nz I3 oI3 C3 oC3 D3 m3 h3 tk3 E3 hi3 hJ3 hP3 hC3 hx3' F5 N5 off3 ne3
          obtain ⟨t8, rfl, hl8⟩ := txt_at hxs hx3 hxo (show tv[i2]? = some v2 by simpa using hP3)
          obtain ⟨rfl, hz1, hz2⟩ := id hJ3
          clear F4 N4
          (try dsimp only)
          (try k_fold)
          k_steps
          refine unhold (compEnd (by k_asm) (by k_asm) _ (by walk_at "MySub") (fun p hp => off3.mem p hp) (.inr ⟨_, .tail _ (.tail _ (.tail _ (.tail _ (.tail _ (.tail _ hax9))))), rfl, _, rfl⟩) (natJ1 hJ3))
        · intro zs nz hJ3
          obtain ⟨rfl, hz1, hz2⟩ := id hJ3
          unfold LCg.FinE
          intro D3 h3 tk3 F5 N5 off3
          exact told_turn hJ hJ3 hax9 off9 F5 N5 off3
      · intro ys9 nx9 D9 h2 tk2 hJ F2 N2 off9
        rw [htv3] at hJ
        have hT := told_of (D := D9) hJ
        clear F9 N8
        have N3 := news_add (news_add N2 (show (s1.heap.objs.size + 1, o1) ∈ _ from .tail _ (hJ.2.1 _ (.head _)))) (show (s1.heap.objs.size + 1 + 1 + 1, o') ∈ _ from .tail _ (.tail _ (hJ.2.1 _ (.tail _ (.tail _ (.head _))))))
        clear N2
        have hbs : ∀ p ∈ base, p ∈ (s1.heap.objs.size + 1 + 1 + 1, o') :: (s1.heap.objs.size + 1, o1) :: (D9, LCg.lst ys9) :: nx9 := fun p hp => .tail _ (.tail _ (.tail _ (hJ.2.1 _ (.tail _ (.tail _ (.tail _ hp))))))
        have hYm := hY.mono hbs
        have hXm := hX.mono hbs
        have hTm := hT.mono (news' := (s1.heap.objs.size + 1 + 1 + 1, o') :: (s1.heap.objs.size + 1, o1) :: (D9, LCg.lst ys9) :: nx9) fun p hp => .tail _ (.tail _ hp)
        (try dsimp only)
        (try k_fold)
        k_steps
        refine unhold (caseEnd hI hax (by assumption) (by k_asm) (by k_asm) (fun p hp => .tail _ (.tail _ (.tail _ (hJ.2.1 p (.tail _ hp))))) (by walk_at "MySameN"))
    · intro m9 news9 h1 tk1 hJ F1 N1
      obtain ⟨o, pv, u, rfl, ho, rfl⟩ := hJ
      clear F9 N8
      (try dsimp only)
      (try k_fold)
      k_steps
end Mine
end
theorem PySem.Challenge.cw_pc0252_01_holds : PySem.Challenge.rw_pc0252_01.Holds := by
  exact Mine.fin
