import PyProof.Rows.All
import Wide.All
import OpenK.AllK
import Wide.FinOn
import Lean
import PySem.Challenge.RW_on0086_01
set_option Elab.async false

section
open PySem PySem.W PyProof.Rows
set_option maxRecDepth 100000
set_option maxHeartbeats 0
namespace Mine
open_top hd for PySem.Challenge.rw_on0086_01
end Mine
end

section
open PySem PySem.W PyProof.Rows
set_option maxRecDepth 100000
namespace Mine
/-- the signs of a text from a place on -/
def suf (x : Str) (e : Int) : List Nat := x.cps.toList.drop e.toNat
theorem suf_lt {x : Str} {e : Int} (h0 : 0 ≤ e) (h1 : e < x.length) : ∃ c r, suf x e = c :: r ∧ Txt.item x e = ⟨#[c]⟩ ∧ suf x (e + 1) = r := by
  obtain ⟨k, rfl⟩ := Int.eq_ofNat_of_zero_le h0
  have hk : k < x.cps.size := by have h := h1; unfold Str.length at h; omega
  refine ⟨x.cps.toList[k]'(by simpa using hk), x.cps.toList.drop (k + 1), ?_, ?_, ?_⟩
  · show x.cps.toList.drop k = _
    exact List.drop_eq_getElem_cons (by simpa using hk)
  · have e1 : seqIndex? ((k : Nat) : Int) x.length = some k := by
      have := PySem.seqIndex_of (k := (k : Int)) (n := x.length) (by omega) (by omega)
      simpa using this
    unfold Txt.item Txt.charAt
    rw [e1]
    simp [hk]
  · show x.cps.toList.drop ((k : Int) + 1).toNat = _
    rw [show ((k : Int) + 1).toNat = k + 1 by omega]
theorem suf_ge {x : Str} {e : Int} (h1 : (x.length : Int) ≤ e) : suf x e = [] := by
  unfold suf
  refine List.drop_eq_nil_of_le ?_
  have h := h1
  unfold Str.length at h
  rw [Array.length_toList]
  omega
theorem suf_len {x : Str} {e : Int} (h0 : 0 ≤ e) : ((suf x e).length : Int) = max 0 ((x.length : Int) - e) := by
  unfold suf
  rw [List.length_drop, Array.length_toList]
  show _ = max 0 ((x.cps.size : Int) - e)
  omega
theorem suf_add {x : Str} {e k : Int} (h0 : 0 ≤ e) (h1 : 0 ≤ k) : suf x (e + k) = (suf x e).drop k.toNat := by
  unfold suf
  rw [List.drop_drop, show (e + k).toNat = e.toNat + k.toNat by omega]
theorem slice_suf {x : Str} {e j : Int} (h0 : 0 ≤ e) (h1 : e ≤ j) : Txt.slice x (some e) (some j) = ⟨((suf x e).take (j - e).toNat).toArray⟩ := by
  obtain ⟨a, rfl⟩ := Int.eq_ofNat_of_zero_le h0
  obtain ⟨b, rfl⟩ := Int.eq_ofNat_of_zero_le (Int.le_trans h0 h1)
  have key : Builtin.Str.strSliceIndices (some (a : Int)) (some (b : Int)) 1 x.length = Builtin.Str.strSliceIndices (some ((min a x.length : Nat) : Int)) (some ((min b x.length : Nat) : Int)) 1 x.length := by
    simp only [Builtin.Str.strSliceIndices]
    have e1 : ¬ ((a : Int) < 0) := by omega
    have e2 : ¬ ((b : Int) < 0) := by omega
    have e3 : ¬ (((min a x.length : Nat) : Int) < 0) := by omega
    have e4 : ¬ (((min b x.length : Nat) : Int) < 0) := by omega
    simp only [e1, e2, e3, e4, if_false, show (1 : Int) > 0 by decide, if_true]
    congr 1 <;> omega
  have e5 : Txt.slice x (some (a : Int)) (some (b : Int)) = Txt.slice x (some ((min a x.length : Nat) : Int)) (some ((min b x.length : Nat) : Int)) := by
    unfold Txt.slice
    rw [key]
  rw [e5]
  have hm : min a x.length ≤ min b x.length := by omega
  have h := slice_closes (x := x) (i := ((min a x.length : Nat) : Int)) (j := ((min b x.length : Nat) : Int)) ⟨by omega, by omega, by rw [Array.length_toList]; show _ ≤ ((x.length : Nat) : Int); omega⟩
  rw [beq_iff_eq] at h
  rw [h]
  congr 2
  unfold suf
  have hs : x.cps.toList.length = x.length := by rw [Array.length_toList]; rfl
  have e6 : ((a : Int)).toNat = a := by omega
  have e7 : ((min a x.length : Nat) : Int).toNat = min a x.length := by omega
  have e8 : (((min b x.length : Nat) : Int) - ((min a x.length : Nat) : Int)).toNat = min b x.length - min a x.length := by omega
  have e9 : ((b : Int) - (a : Int)).toNat = b - a := by omega
  rw [e6, e7, e8, e9]
  by_cases h : a ≤ x.length
  · rw [Nat.min_eq_left h]
    by_cases h' : b ≤ x.length
    · rw [Nat.min_eq_left h']
    · rw [Nat.min_eq_right (by omega)]
      rw [List.take_of_length_le (by rw [List.length_drop]; omega), List.take_of_length_le (by rw [List.length_drop]; omega)]
  · rw [Nat.min_eq_right (by omega), List.drop_eq_nil_of_le (by omega), List.drop_eq_nil_of_le (by omega)]
    simp

theorem one_eq {c d : Nat} : ((⟨#[c]⟩ : Str) == ⟨#[d]⟩) = (c == d) := by
  by_cases h : c = d
  · subst h; simp
  · have : (⟨#[c]⟩ : Str) ≠ ⟨#[d]⟩ := by intro e; injection e with e; simp at e; exact h e
    rw [beq_eq_false_iff_ne.mpr this, beq_eq_false_iff_ne.mpr h]
def rowLen : List Nat → Nat
  | [] => 0
  | c :: r => if c = 10 then 0 else rowLen r + 1

theorem ofs_nl : Str.ofString "\n" = ⟨#[10]⟩ := by decide +kernel
theorem ofs_q : Str.ofString "\"" = ⟨#[34]⟩ := by decide +kernel
theorem ofs_b : Str.ofString "\\" = ⟨#[92]⟩ := by decide +kernel
theorem ofs_0 : Str.ofString "" = ⟨#[]⟩ := by decide +kernel
theorem ofs_ss : Str.ofString "//" = ⟨#[47, 47]⟩ := by decide +kernel
theorem ofs_sa : Str.ofString "/*" = ⟨#[47, 42]⟩ := by decide +kernel
theorem ofs_as : Str.ofString "*/" = ⟨#[42, 47]⟩ := by decide +kernel
theorem mk_eq {a b : List Nat} : ((⟨a.toArray⟩ : Str) == ⟨b.toArray⟩) = (a == b) := by
  by_cases h : a = b
  · subst h; simp
  · have : (⟨a.toArray⟩ : Str) ≠ ⟨b.toArray⟩ := by intro e; injection e with e; exact h (by simpa using congrArg Array.toList e)
    rw [beq_eq_false_iff_ne.mpr this, beq_eq_false_iff_ne.mpr h]
theorem mk_eq' {a : List Nat} {b : Array Nat} : ((⟨a.toArray⟩ : Str) == ⟨b⟩) = (a == b.toList) := by
  rw [← mk_eq]
/-! row_end -/
def rowEnd (x : Str) (i : Int) : Int := i + (rowLen (suf x i) : Int)
theorem row_step {x : Str} {i e : Int} (h0 : 0 ≤ e) (h : rowEnd x e = rowEnd x i) (hl : e < (x.length : Int)) (hc : (Txt.item x e != Str.ofString "\n") = true) : 0 ≤ e + 1 ∧ rowEnd x (e + 1) = rowEnd x i := by
  obtain ⟨c, r, h1, h2, h3⟩ := suf_lt h0 hl
  rw [h2, ofs_nl, bne, one_eq] at hc
  have hc' : c ≠ 10 := by simpa using hc
  refine ⟨by omega, ?_⟩
  rw [← h]
  unfold rowEnd
  rw [h3, h1]
  simp only [rowLen, hc', if_false]
  omega
theorem row_out1 {x : Str} {i e : Int} (h0 : 0 ≤ e) (h : rowEnd x e = rowEnd x i) (hl : e < (x.length : Int)) (hc : (Txt.item x e != Str.ofString "\n") = false) : e = rowEnd x i := by
  obtain ⟨c, r, h1, h2, h3⟩ := suf_lt h0 hl
  rw [h2, ofs_nl, bne, one_eq] at hc
  have hc' : c = 10 := by simpa using hc
  rw [← h]
  unfold rowEnd
  rw [h1]
  simp [rowLen, hc']
theorem row_out2 {x : Str} {i e : Int} (h : rowEnd x e = rowEnd x i) (hl : ¬ e < (x.length : Int)) : e = rowEnd x i := by
  rw [← h]
  unfold rowEnd
  rw [suf_ge (by omega)]
  simp [rowLen]
/-! string_end -/
def strLen : List Nat → Nat
  | [] => 0
  | [c] => if c = 10 then 0 else 1
  | c :: d :: r => if c = 10 then 0 else if c = 34 then 1 else if c = 92 then (if d = 10 then 1 else strLen r + 2) else strLen (d :: r) + 1
def stringEnd (x : Str) (i : Int) : Int := i + (strLen (suf x i) : Int)
theorem str_step1 {x : Str} {T e : Int} (h0 : 0 ≤ e) (h : stringEnd x e = T) (hl : e < (x.length : Int)) (hn : (Txt.item x e != Str.ofString "\n") = true) (hq : (Txt.item x e == Str.ofString "\"") = false) (hb : (Txt.item x e == Str.ofString "\\") = false) : 0 ≤ e + 1 ∧ stringEnd x (e + 1) = T := by
  obtain ⟨c, r, h1, h2, h3⟩ := suf_lt h0 hl
  rw [h2, ofs_nl, bne, one_eq] at hn
  rw [h2, ofs_q, one_eq] at hq
  rw [h2, ofs_b, one_eq] at hb
  have hn' : c ≠ 10 := by simpa using hn
  have hq' : c ≠ 34 := by simpa using hq
  have hb' : c ≠ 92 := by simpa using hb
  refine ⟨by omega, ?_⟩
  rw [← h]
  unfold stringEnd
  rw [h3, h1]
  cases r <;> simp only [strLen, hn', hq', hb', if_false] <;> omega
theorem slice1 {x : Str} {e : Int} (h0 : 0 ≤ e) : Txt.slice x (some (e + 1)) (some (e + 2)) = ⟨((suf x (e + 1)).take 1).toArray⟩ := by
  rw [slice_suf (by omega) (by omega), show (e + 2 - (e + 1)).toNat = 1 by omega]
theorem slice0 {x : Str} {e : Int} (h0 : 0 ≤ e) : Txt.slice x (some e) (some (e + 1)) = ⟨((suf x e).take 1).toArray⟩ := by
  rw [slice_suf (by omega) (by omega), show (e + 1 - e).toNat = 1 by omega]
theorem slice2 {x : Str} {e : Int} (h0 : 0 ≤ e) : Txt.slice x (some e) (some (e + 2)) = ⟨((suf x e).take 2).toArray⟩ := by
  rw [slice_suf (by omega) (by omega), show (e + 2 - e).toNat = 2 by omega]
theorem slice3 {x : Str} {e : Int} (h0 : 0 ≤ e) : Txt.slice x (some e) (some (e + 3)) = ⟨((suf x e).take 3).toArray⟩ := by
  rw [slice_suf (by omega) (by omega), show (e + 3 - e).toNat = 3 by omega]
theorem any2 {r : List Nat} : ([Str.ofString "", Str.ofString "\n"].any fun y => y == ⟨(r.take 1).toArray⟩) = (match r with | [] => true | d :: _ => d == 10) := by
  rw [ofs_0, ofs_nl]
  cases r with
  | nil => simp
  | cons d r =>
    simp only [List.any_cons, List.any_nil, List.take_succ_cons, List.take_zero, Bool.or_false]
    have e1 : ((⟨#[]⟩ : Str) == ⟨[d].toArray⟩) = false := by
      rw [beq_eq_false_iff_ne]; intro e; injection e with e; simp at e
    rw [e1]
    have := @one_eq 10 d
    rw [show ([d].toArray : Array Nat) = #[d] from rfl, this]
    simp only [Bool.false_or]
    exact Bool.eq_iff_iff.mpr (by simp only [beq_iff_eq]; exact eq_comm)
theorem str_step2 {x : Str} {T e : Int} (h0 : 0 ≤ e) (h : stringEnd x e = T) (hl : e < (x.length : Int)) (hb : (Txt.item x e == Str.ofString "\\") = true)
    (ha : ([Str.ofString "", Str.ofString "\n"].any fun y => y == Txt.slice x (some (e + 1)) (some (e + 2))) = true) : 0 ≤ e + 1 ∧ stringEnd x (e + 1) = T := by
  obtain ⟨c, r, h1, h2, h3⟩ := suf_lt h0 hl
  rw [h2, ofs_b, one_eq] at hb
  have hb' : c = 92 := by simpa using hb
  rw [slice1 h0, h3, any2] at ha
  refine ⟨by omega, ?_⟩
  rw [← h]
  unfold stringEnd
  rw [h3, h1, hb']
  cases r with
  | nil => simp [strLen] <;> omega
  | cons d r =>
    have : d = 10 := by simpa using ha
    subst this
    cases r <;> simp [strLen] <;> omega
theorem str_step3 {x : Str} {T e : Int} (h0 : 0 ≤ e) (h : stringEnd x e = T) (hl : e < (x.length : Int)) (hb : (Txt.item x e == Str.ofString "\\") = true)
    (ha : ([Str.ofString "", Str.ofString "\n"].any fun y => y == Txt.slice x (some (e + 1)) (some (e + 2))) = false) : 0 ≤ e + 1 + 1 ∧ stringEnd x (e + 1 + 1) = T := by
  obtain ⟨c, r, h1, h2, h3⟩ := suf_lt h0 hl
  rw [h2, ofs_b, one_eq] at hb
  have hb' : c = 92 := by simpa using hb
  rw [slice1 h0, h3, any2] at ha
  refine ⟨by omega, ?_⟩
  rw [← h]
  unfold stringEnd
  have h4 : suf x (e + 1 + 1) = r.drop 1 := by rw [suf_add (by omega) (by omega), h3]; rfl
  rw [h4, h1, hb']
  cases r with
  | nil => simp at ha
  | cons d r =>
    have : d ≠ 10 := by simpa using ha
    simp [strLen, this] <;> omega
theorem str_out1 {x : Str} {T e : Int} (h0 : 0 ≤ e) (h : stringEnd x e = T) (hl : e < (x.length : Int)) (hq : (Txt.item x e == Str.ofString "\"") = true) : e + 1 = T := by
  obtain ⟨c, r, h1, h2, h3⟩ := suf_lt h0 hl
  rw [h2, ofs_q, one_eq] at hq
  have hq' : c = 34 := by simpa using hq
  rw [← h]
  unfold stringEnd
  rw [h1, hq']
  cases r <;> simp [strLen]
theorem str_out2 {x : Str} {T e : Int} (h0 : 0 ≤ e) (h : stringEnd x e = T) (hl : e < (x.length : Int)) (hc : (Txt.item x e != Str.ofString "\n") = false) : e = T := by
  obtain ⟨c, r, h1, h2, h3⟩ := suf_lt h0 hl
  rw [h2, ofs_nl, bne, one_eq] at hc
  have hc' : c = 10 := by simpa using hc
  rw [← h]
  unfold stringEnd
  rw [h1, hc']
  cases r <;> simp [strLen]
theorem str_out3 {x : Str} {T e : Int} (h : stringEnd x e = T) (hl : ¬ e < (x.length : Int)) : e = T := by
  rw [← h]
  unfold stringEnd
  rw [suf_ge (by omega)]
  simp [strLen]
end Mine
end

section
open PySem PySem.W PyProof.Rows
set_option maxRecDepth 100000
namespace Mine
/-! remark_end -/
def blkLen : List Nat → Nat
  | [] => 0
  | c :: r => if (c :: r).take 2 = [42, 47] then 2 else blkLen r + 1
def remLen (s : List Nat) : Nat := if s.take 2 = [47, 47] then rowLen s else if s.take 2 = [47, 42] then blkLen (s.drop 2) + 2 else 0
def remEnd (x : Str) (i : Int) : Int := i + (remLen (suf x i) : Int)
def blkEnd (x : Str) (i : Int) : Int := i + (blkLen (suf x i) : Int)
theorem sl2 {x : Str} {e : Int} {b : Array Nat} (h0 : 0 ≤ e) : (Txt.slice x (some e) (some (e + 2)) == ⟨b⟩) = ((suf x e).take 2 == b.toList) := by
  rw [slice2 h0, mk_eq']
theorem sl3 {x : Str} {e : Int} {b : Array Nat} (h0 : 0 ≤ e) : (Txt.slice x (some e) (some (e + 3)) == ⟨b⟩) = ((suf x e).take 3 == b.toList) := by
  rw [slice3 h0, mk_eq']
theorem sl1 {x : Str} {e : Int} {b : Array Nat} (h0 : 0 ≤ e) : (Txt.slice x (some (e + 1)) (some (e + 2)) == ⟨b⟩) = ((suf x (e + 1)).take 1 == b.toList) := by
  rw [slice1 h0, mk_eq']
theorem rem_out1 {x : Str} {i : Int} (h0 : 0 ≤ i) (h : (Txt.slice x (some i) (some (i + 2)) == Str.ofString "//") = true) : rowEnd x i = remEnd x i := by
  rw [ofs_ss, sl2 h0] at h
  have h : (suf x i).take 2 = [47, 47] := by simpa using h
  unfold rowEnd remEnd remLen
  rw [if_pos h]
theorem rem_out2 {x : Str} {i : Int} (h0 : 0 ≤ i) (h : (Txt.slice x (some i) (some (i + 2)) == Str.ofString "//") = false) (h' : (Txt.slice x (some i) (some (i + 2)) != Str.ofString "/*") = true) : i = remEnd x i := by
  rw [ofs_ss, sl2 h0] at h
  rw [bne, ofs_sa, sl2 h0] at h'
  have h : ¬ (suf x i).take 2 = [47, 47] := by simpa using h
  have h' : ¬ (suf x i).take 2 = [47, 42] := by simpa using h'
  unfold remEnd remLen
  rw [if_neg h, if_neg h']
  simp
theorem rem_start {x : Str} {i : Int} (h0 : 0 ≤ i) (h' : (Txt.slice x (some i) (some (i + 2)) != Str.ofString "/*") = false) : 0 ≤ i + 2 ∧ i + 2 ≤ (x.length : Int) ∧ blkEnd x (i + 2) = remEnd x i := by
  rw [bne, ofs_sa, sl2 h0] at h'
  have h' : (suf x i).take 2 = [47, 42] := by simpa using h'
  have hl := suf_len (x := x) h0
  have h2 : 2 ≤ (suf x i).length := by
    have := congrArg List.length h'
    rw [List.length_take] at this
    simp only [List.length_cons, List.length_nil] at this
    omega
  refine ⟨by omega, by omega, ?_⟩
  unfold blkEnd remEnd remLen
  rw [if_neg (by rw [h']; simp), if_pos h', suf_add h0 (by omega)]
  simp only [show (2 : Int).toNat = 2 by rfl]
  omega
theorem blk_step {x : Str} {T e : Int} (h0 : 0 ≤ e) (h : blkEnd x e = T) (hl : e < (x.length : Int)) (hc : (Txt.slice x (some e) (some (e + 2)) != Str.ofString "*/") = true) : 0 ≤ e + 1 ∧ e + 1 ≤ (x.length : Int) ∧ blkEnd x (e + 1) = T := by
  rw [bne, ofs_as, sl2 h0] at hc
  have hc : ¬ (suf x e).take 2 = [42, 47] := by simpa using hc
  obtain ⟨c, r, h1, h2, h3⟩ := suf_lt h0 hl
  refine ⟨by omega, by omega, ?_⟩
  rw [← h]
  unfold blkEnd
  rw [h1] at hc
  rw [h3, h1]
  simp only [blkLen, hc, if_false]
  omega
theorem blk_out1 {x : Str} {T e : Int} (h0 : 0 ≤ e) (h : blkEnd x e = T) (hl : e < (x.length : Int)) (hc : (Txt.slice x (some e) (some (e + 2)) != Str.ofString "*/") = false) : e + 2 = T ∧ e + 2 ≤ (x.length : Int) := by
  rw [bne, ofs_as, sl2 h0] at hc
  have hc : (suf x e).take 2 = [42, 47] := by simpa using hc
  have hl' := suf_len (x := x) h0
  have h2 : 2 ≤ (suf x e).length := by
    have := congrArg List.length hc
    rw [List.length_take] at this
    simp only [List.length_cons, List.length_nil] at this
    omega
  obtain ⟨c, r, h1, _, h3⟩ := suf_lt h0 hl
  refine ⟨?_, by omega⟩
  rw [← h]
  unfold blkEnd
  rw [h1] at hc
  rw [h1]
  simp only [blkLen, hc, if_true]
  omega
theorem blk_out2 {x : Str} {T e : Int} (h : blkEnd x e = T) (hl : ¬ e < (x.length : Int)) : e = T := by
  rw [← h]
  unfold blkEnd
  rw [suf_ge (by omega)]
  simp [blkLen]
theorem rem_fin1 {x : Str} {T e : Int} (h0 : 0 ≤ e) (h : blkEnd x e = T) (hl : e < (x.length : Int)) (hc : (Txt.slice x (some e) (some (e + 2)) != Str.ofString "*/") = false) : (if (x.length : Int) < e + 2 then (x.length : Int) else e + 2) = T := by
  have := blk_out1 h0 h hl hc
  rw [if_neg (by omega)]
  exact this.1
theorem rem_fin2 {x : Str} {T e : Int} (h1 : e ≤ (x.length : Int)) (h : blkEnd x e = T) (hl : ¬ e < (x.length : Int)) : (if (x.length : Int) < e + 2 then (x.length : Int) else e + 2) = T := by
  have := blk_out2 h hl
  rw [if_pos (by omega)]
  omega
/-! escaped_end -/
def isBlank (c : Nat) : Bool := [32, 9, 13, 10, 12, 11].contains c
def escLen : List Nat → Nat
  | [] => 0
  | c :: r => if isBlank c then 0 else escLen r + 1
def escEnd (x : Str) (i : Int) : Int := i + (escLen (suf x i) : Int)
abbrev blanks : Str := Str.ofString " \t\x0d\n\x0c\x0b"
theorem blank_in {c : Nat} : (Builtin.Str.occurrences blanks ⟨#[c]⟩ 0 blanks.length 1).isEmpty = !isBlank c := by
  have := StrLaws.found_one blanks c
  rw [← Bool.not_not ((Builtin.Str.occurrences blanks ⟨#[c]⟩ 0 blanks.length 1).isEmpty), this]
  congr 1
  rw [show blanks.cps.toList = [32, 9, 13, 10, 12, 11] by decide +kernel]
  unfold isBlank
  rw [Bool.eq_iff_iff]
  simp
theorem esc_step {x : Str} {T e : Int} (h0 : 0 ≤ e) (h : escEnd x e = T) (hl : e < (x.length : Int)) (hc : (Builtin.Str.occurrences blanks (Txt.item x e) 0 blanks.length 1).isEmpty = true) : 0 ≤ e + 1 ∧ escEnd x (e + 1) = T := by
  obtain ⟨c, r, h1, h2, h3⟩ := suf_lt h0 hl
  rw [h2, blank_in] at hc
  have hc : isBlank c = false := by simpa using hc
  refine ⟨by omega, ?_⟩
  rw [← h]
  unfold escEnd
  rw [h3, h1]
  simp only [escLen, hc, Bool.false_eq_true, if_false]
  omega
theorem esc_out1 {x : Str} {T e : Int} (h0 : 0 ≤ e) (h : escEnd x e = T) (hl : e < (x.length : Int)) (hc : (Builtin.Str.occurrences blanks (Txt.item x e) 0 blanks.length 1).isEmpty = false) : e = T := by
  obtain ⟨c, r, h1, h2, h3⟩ := suf_lt h0 hl
  rw [h2, blank_in] at hc
  have hc : isBlank c = true := by simpa using hc
  rw [← h]
  unfold escEnd
  rw [h1]
  simp [escLen, hc]
theorem esc_out2 {x : Str} {T e : Int} (h : escEnd x e = T) (hl : ¬ e < (x.length : Int)) : e = T := by
  rw [← h]
  unfold escEnd
  rw [suf_ge (by omega)]
  simp [escLen]
/-! is_name_char, whole_end -/
def nameStr (x : Str) : Bool :=
  if (x == Str.ofString "_") = true then true else if (x == Str.ofString "$") = true then true
  else if ¬ x.cps.toList < (Str.ofString "0").cps.toList ∧ ¬ (Str.ofString "9").cps.toList < x.cps.toList then true
  else (!decide (x.cps.toList < (Str.ofString "a").cps.toList) && !decide ((Str.ofString "z").cps.toList < x.cps.toList)) || (!decide (x.cps.toList < (Str.ofString "A").cps.toList) && !decide ((Str.ofString "Z").cps.toList < x.cps.toList))
def nameC (c : Nat) : Bool := c == 95 || c == 36 || (48 ≤ c && c ≤ 57) || (97 ≤ c && c ≤ 122) || (65 ≤ c && c ≤ 90)
theorem nameStr_nil : nameStr ⟨#[]⟩ = false := by decide +kernel
theorem one_lt {c d : Nat} : ([c] < [d]) ↔ c < d := by simp [List.cons_lt_cons_iff]
theorem nameStr_one (c : Nat) : nameStr ⟨#[c]⟩ = nameC c := by
  unfold nameStr nameC
  rw [show Str.ofString "_" = ⟨#[95]⟩ by decide +kernel, show Str.ofString "$" = ⟨#[36]⟩ by decide +kernel, show (Str.ofString "0").cps.toList = [48] by decide +kernel, show (Str.ofString "9").cps.toList = [57] by decide +kernel,
    show (Str.ofString "a").cps.toList = [97] by decide +kernel, show (Str.ofString "z").cps.toList = [122] by decide +kernel, show (Str.ofString "A").cps.toList = [65] by decide +kernel, show (Str.ofString "Z").cps.toList = [90] by decide +kernel]
  simp only [one_eq, show (#[c] : Array Nat).toList = [c] from rfl, one_lt]
  rw [Bool.eq_iff_iff]
  repeat' split
  all_goals simp_all
  all_goals omega
def nameLen : List Nat → Nat
  | [] => 0
  | c :: r => if nameC c then nameLen r + 1 else 0
def nameEnd (x : Str) (i : Int) : Int := i + (nameLen (suf x i) : Int)
theorem name_slice {x : Str} {e : Int} (h0 : 0 ≤ e) : nameStr (Txt.slice x (some e) (some (e + 1))) = (match suf x e with | [] => false | c :: _ => nameC c) := by
  rw [slice0 h0]
  cases suf x e with
  | nil => exact nameStr_nil
  | cons c r => exact nameStr_one c
theorem name_step {x : Str} {T e : Int} (h0 : 0 ≤ e) (h : nameEnd x e = T) (hc : nameStr (Txt.slice x (some e) (some (e + 1))) = true) : 0 ≤ e + 1 ∧ nameEnd x (e + 1) = T := by
  rw [name_slice h0] at hc
  refine ⟨by omega, ?_⟩
  rw [← h]
  unfold nameEnd
  rw [suf_add h0 (by omega)]
  cases hs : suf x e with
  | nil => rw [hs] at hc; exact absurd hc (by simp)
  | cons c r =>
    rw [hs] at hc
    have hc : nameC c = true := hc
    simp only [show (1 : Int).toNat = 1 by rfl, List.drop_succ_cons, List.drop_zero, nameLen, hc, if_true]
    omega
theorem name_lt {x : Str} {e : Int} (h0 : 0 ≤ e) (hc : nameStr (Txt.slice x (some e) (some (e + 1))) = true) : e < (x.length : Int) := by
  rw [name_slice h0] at hc
  have hl := suf_len (x := x) h0
  cases hs : suf x e with
  | nil => rw [hs] at hc; exact absurd hc (by simp)
  | cons c r => rw [hs] at hl; simp only [List.length_cons] at hl; omega
theorem name_out {x : Str} {T e : Int} (h0 : 0 ≤ e) (h : nameEnd x e = T) (hc : nameStr (Txt.slice x (some e) (some (e + 1))) = false) : e = T := by
  rw [name_slice h0] at hc
  rw [← h]
  unfold nameEnd
  cases hs : suf x e with
  | nil => simp [nameLen]
  | cons c r =>
    rw [hs] at hc
    have hc : nameC c = false := hc
    simp [nameLen, hc]
theorem name_meas {x : Str} {e : Int} (h0 : 0 ≤ e) (hc : nameStr (Txt.slice x (some e) (some (e + 1))) = true) : ((x.length : Int) - (e + 1)).toNat < ((x.length : Int) - e).toNat := by
  have := name_lt h0 hc
  omega
theorem ofs_ap : Str.ofString "'" = ⟨#[39]⟩ := by decide +kernel
def wholeLen : List Nat → Nat
  | [] => 0
  | c :: r => if c = 34 then strLen r + 1 else if c = 92 then escLen (c :: r) else if c = 39 then nameLen r + 1 else max (nameLen (c :: r)) 1
def wholeEnd (x : Str) (i : Int) : Int := i + (wholeLen (suf x i) : Int)
theorem wh_str {x : Str} {i : Int} (h0 : 0 ≤ i) (hl : i < (x.length : Int)) (hq : (Txt.item x i == Str.ofString "\"") = true) : stringEnd x (i + 1) = wholeEnd x i := by
  obtain ⟨c, r, h1, h2, h3⟩ := suf_lt h0 hl
  rw [h2, ofs_q, one_eq] at hq
  have hq : c = 34 := by simpa using hq
  unfold stringEnd wholeEnd
  rw [h3, h1]
  simp only [wholeLen, hq, if_true]
  omega
theorem wh_esc {x : Str} {i : Int} (h0 : 0 ≤ i) (hl : i < (x.length : Int)) (hq : (Txt.item x i == Str.ofString "\\") = true) : escEnd x i = wholeEnd x i := by
  obtain ⟨c, r, h1, h2, h3⟩ := suf_lt h0 hl
  rw [h2, ofs_b, one_eq] at hq
  have hq : c = 92 := by simpa using hq
  unfold escEnd wholeEnd
  rw [h1]
  simp only [wholeLen, hq]
  simp
theorem wh_ap {x : Str} {i e : Int} (h0 : 0 ≤ i) (hl : i < (x.length : Int)) (hq : (Txt.item x i == Str.ofString "\"") = false) (hb : (Txt.item x i == Str.ofString "\\") = false) (ha : (Txt.item x i == Str.ofString "'") = true) (h' : 0 ≤ e) (h'' : nameEnd x e = nameEnd x (i + 1)) (ho : nameStr (Txt.slice x (some e) (some (e + 1))) = false) : (if i + 1 > e then i + 1 else e) = wholeEnd x i := by
  obtain ⟨c, r, h1, h2, h3⟩ := suf_lt h0 hl
  rw [h2, ofs_ap, one_eq] at ha
  have ha : c = 39 := by simpa using ha
  have h := name_out h' h'' ho
  rw [h]
  rw [show (if i + 1 > nameEnd x (i + 1) then i + 1 else nameEnd x (i + 1)) = max (nameEnd x (i + 1)) (i + 1) by split <;> omega]
  unfold nameEnd wholeEnd
  rw [h3, h1]
  simp only [wholeLen, ha]
  simp
  omega
theorem wh_no {x : Str} {i e : Int} (h0 : 0 ≤ i) (hl : i < (x.length : Int)) (hq : (Txt.item x i == Str.ofString "\"") = false) (hb : (Txt.item x i == Str.ofString "\\") = false) (ha : (Txt.item x i == Str.ofString "'") = false) (h' : 0 ≤ e) (h'' : nameEnd x e = nameEnd x i) (ho : nameStr (Txt.slice x (some e) (some (e + 1))) = false) : (if i + 1 > e then i + 1 else e) = wholeEnd x i := by
  obtain ⟨c, r, h1, h2, h3⟩ := suf_lt h0 hl
  rw [h2, ofs_ap, one_eq] at ha
  rw [h2, ofs_q, one_eq] at hq
  rw [h2, ofs_b, one_eq] at hb
  have ha : c ≠ 39 := by simpa using ha
  have hb : c ≠ 92 := by simpa using hb
  have hq : c ≠ 34 := by simpa using hq
  have h := name_out h' h'' ho
  rw [h]
  rw [show (if i + 1 > nameEnd x i then i + 1 else nameEnd x i) = max (nameEnd x i) (i + 1) by split <;> omega]
  unfold nameEnd wholeEnd
  rw [h1]
  simp only [wholeLen, ha, hb, hq, if_false]
  omega
end Mine
end

section
open PySem PySem.W PyProof.Rows
set_option maxRecDepth 100000
namespace Mine
def bodyStep (s : List Nat) : Option (List Nat × Nat) := match s with
  | [] => none
  | c :: r => if c = 10 then none else if 0 < remLen (c :: r) then some ([32], remLen (c :: r)) else if (c :: r).take 2 = [92, 10] then some ([32], 2) else if (c :: r).take 3 = [92, 13, 10] then some ([32], 3) else some ((c :: r).take (wholeLen (c :: r)), wholeLen (c :: r))
inductive Body : List Nat → List Nat → Nat → Prop
  | done {s : List Nat} : bodyStep s = none → Body s [] 0
  | step {s t₁ t : List Nat} {n₁ n : Nat} : bodyStep s = some (t₁, n₁) → Body (s.drop n₁) t n → Body s (t₁ ++ t) (n₁ + n)
def joined (ps : List Str) : List Nat := ps.flatMap fun q => q.cps.toList
theorem joined_snoc {ps : List Str} {q : Str} : joined (ps ++ [q]) = joined ps ++ q.cps.toList := by simp [joined]
def BInv (x : Str) (tt : List Nat) (N : Int) (idx : Int) (ps : List Str) : Prop := ∃ t n, Body (suf x idx) t n ∧ joined ps ++ t = tt ∧ idx + ((n : Nat) : Int) = N
theorem b_le {x : Str} {tt : List Nat} {N e : Int} {ps : List Str} (h : BInv x tt N e ps) (hN : N ≤ 4000) : e ≤ 4000 := by
  obtain ⟨t, n, _, _, h3⟩ := h
  omega
theorem b_end {x : Str} {tt : List Nat} {N e : Int} {ps : List Str} (h : BInv x tt N e ps) (hs : bodyStep (suf x e) = none) : joined ps = tt ∧ e = N := by
  obtain ⟨t, n, h1, h2, h3⟩ := h
  cases h1 with
  | done _ => exact ⟨by simpa using h2, by simpa using h3⟩
  | step h _ => rw [hs] at h; cases h
theorem b_step {x : Str} {tt : List Nat} {N e : Int} {ps : List Str} {t₁ : List Nat} {n₁ : Nat} {q : Str} (h0 : 0 ≤ e) (h : BInv x tt N e ps) (hs : bodyStep (suf x e) = some (t₁, n₁)) (hq : q.cps.toList = t₁) : BInv x tt N (e + (n₁ : Int)) (ps ++ [q]) := by
  obtain ⟨t, n, h1, h2, h3⟩ := h
  cases h1 with
  | done hd => rw [hd] at hs; cases hs
  | @step _ u₁ u m₁ m hd hb =>
    rw [hd] at hs
    injection hs with hs
    injection hs with e1 e2
    subst e1 e2
    refine ⟨u, m, ?_, ?_, by omega⟩
    · rw [suf_add h0 (by omega)]
      exact hb
    · rw [joined_snoc, hq, List.append_assoc]
      exact h2
theorem step_end1 {x : Str} {e : Int} (h0 : 0 ≤ e) (hl : e < (x.length : Int)) (hn : (Txt.item x e != Str.ofString "\n") = false) : bodyStep (suf x e) = none := by
  obtain ⟨c, r, h1, h2, h3⟩ := suf_lt h0 hl
  rw [h2, ofs_nl, bne, one_eq] at hn
  have hc' : c = 10 := by simpa using hn
  rw [h1, hc']
  rfl
theorem step_end2 {x : Str} {e : Int} (hl : ¬ e < (x.length : Int)) : bodyStep (suf x e) = none := by
  rw [suf_ge (by omega)]
  rfl
structure Went (x : Str) (tt : List Nat) (N : Int) (e e' : Int) (ps' : List Str) : Prop where
  p : 0 ≤ e' ∧ e' ≤ 4000 ∧ (ps'.length : Int) ≤ e' ∧ BInv x tt N e' ps'
  m : ((x.length : Int) - e').toNat < ((x.length : Int) - e).toNat
theorem went {x : Str} {tt : List Nat} {N e e' : Int} {ps : List Str} {t₁ : List Nat} {n₁ : Nat} {q : Str} (hN : N ≤ 4000) (h0 : 0 ≤ e) (hp : (ps.length : Int) ≤ e) (h : BInv x tt N e ps) (hl : e < (x.length : Int)) (hs : bodyStep (suf x e) = some (t₁, n₁)) (h1 : 0 < n₁) (hq : q.cps.toList = t₁) (he : e' = e + (n₁ : Int)) :
    Went x tt N e e' (ps ++ [q]) := by
  subst he
  have hb := b_step h0 h hs hq
  refine ⟨⟨by omega, b_le hb hN, ?_, hb⟩, by omega⟩
  rw [List.length_append]
  simp only [List.length_cons, List.length_nil]
  omega
section
variable {x : Str} {tt : List Nat} {N e : Int} {ps : List Str}
theorem sp_cps : (Str.ofString " ").cps.toList = [32] := by decide +kernel
theorem went_a (hN : N ≤ 4000) (h0 : 0 ≤ e) (hp : (ps.length : Int) ≤ e) (h : BInv x tt N e ps) (hl : e < (x.length : Int)) (hn : (Txt.item x e != Str.ofString "\n") = true) (hr : e < remEnd x e) : Went x tt N e (remEnd x e) (ps ++ [Str.ofString " "]) := by
  obtain ⟨c, r, h1, h2, h3⟩ := suf_lt h0 hl
  rw [h2, ofs_nl, bne, one_eq] at hn
  have hn : c ≠ 10 := by simpa using hn
  unfold remEnd at hr
  have hr' : 0 < remLen (suf x e) := by omega
  refine went hN h0 hp h hl (t₁ := [32]) (n₁ := remLen (suf x e)) ?_ hr' sp_cps rfl
  rw [h1] at hr' ⊢
  simp only [bodyStep, hn, if_false, hr', if_true]
theorem rem0 (hr : ¬ e < remEnd x e) : remLen (suf x e) = 0 := by unfold remEnd at hr; omega
theorem ofs_bcn : Str.ofString "\\\x0d\n" = ⟨#[92, 13, 10]⟩ := by decide +kernel
theorem went_b (hN : N ≤ 4000) (h0 : 0 ≤ e) (hp : (ps.length : Int) ≤ e) (h : BInv x tt N e ps) (hl : e < (x.length : Int)) (hr : ¬ e < remEnd x e) (hb : (Txt.item x e == Str.ofString "\\") = true) (hs : (Txt.slice x (some (e + 1)) (some (e + 2)) == Str.ofString "\n") = true) : Went x tt N e (e + 2) (ps ++ [Str.ofString " "]) := by
  obtain ⟨c, r, h1, h2, h3⟩ := suf_lt h0 hl
  rw [h2, ofs_b, one_eq] at hb
  have hb : c = 92 := by simpa using hb
  rw [ofs_nl, sl1 h0, h3] at hs
  have hs : r.take 1 = [10] := by simpa using hs
  have hr := rem0 hr
  refine went hN h0 hp h hl (t₁ := [32]) (n₁ := 2) ?_ (by omega) sp_cps rfl
  rw [h1, hb] at hr ⊢
  have e2 : (92 :: r).take 2 = [92, 10] := by simp [hs]
  simp [bodyStep, hr, hs]
theorem went_c (hN : N ≤ 4000) (h0 : 0 ≤ e) (hp : (ps.length : Int) ≤ e) (h : BInv x tt N e ps) (hl : e < (x.length : Int)) (hr : ¬ e < remEnd x e) (hs : (Txt.slice x (some e) (some (e + 3)) == Str.ofString "\\\x0d\n") = true) : Went x tt N e (e + 3) (ps ++ [Str.ofString " "]) := by
  obtain ⟨c, r, h1, h2, h3⟩ := suf_lt h0 hl
  rw [ofs_bcn, sl3 h0] at hs
  have hs : (suf x e).take 3 = [92, 13, 10] := by simpa using hs
  have hr := rem0 hr
  refine went hN h0 hp h hl (t₁ := [32]) (n₁ := 3) ?_ (by omega) sp_cps rfl
  rw [h1] at hr hs ⊢
  have hc : c = 92 := by
    simp only [List.take_succ_cons] at hs
    injection hs
  subst hc
  have e3 : r.take 2 = [13, 10] := by simpa using hs
  have e4 : r.take 1 = [13] := by
    have := congrArg (List.take 1) e3
    simpa [List.take_take] using this
  simp [bodyStep, hr, e3, e4]
theorem whole_pos {c : Nat} {r : List Nat} : 0 < wholeLen (c :: r) := by
  simp only [wholeLen]
  split
  · omega
  · split
    · rename_i h
      subst h
      simp [escLen, isBlank]
    · split <;> omega
theorem went_d' (hN : N ≤ 4000) (h0 : 0 ≤ e) (hp : (ps.length : Int) ≤ e) (h : BInv x tt N e ps) (hl : e < (x.length : Int)) (hn : (Txt.item x e != Str.ofString "\n") = true) (hr : ¬ e < remEnd x e) (hs : (Txt.slice x (some e) (some (e + 3)) == Str.ofString "\\\x0d\n") = false) (h2n : ¬ (suf x e).take 2 = [92, 10]) : Went x tt N e (wholeEnd x e) (ps ++ [Txt.slice x (some e) (some (wholeEnd x e))]) := by
  obtain ⟨c, r, h1, h2, h3⟩ := suf_lt h0 hl
  rw [h2, ofs_nl, bne, one_eq] at hn
  have hn : c ≠ 10 := by simpa using hn
  rw [ofs_bcn, sl3 h0] at hs
  have hs : ¬ (suf x e).take 3 = [92, 13, 10] := by simpa using hs
  have hr := rem0 hr
  refine went hN h0 hp h hl (t₁ := (suf x e).take (wholeLen (suf x e))) (n₁ := wholeLen (suf x e)) ?_ (by rw [h1]; exact whole_pos) ?_ rfl
  · rw [h1] at hr hs h2n ⊢
    simp only [bodyStep, hn, if_false, hr, Nat.lt_irrefl, h2n, hs]
  · rw [slice_suf h0 (by unfold wholeEnd; omega)]
    unfold wholeEnd
    rw [show (e + (wholeLen (suf x e) : Int) - e).toNat = wholeLen (suf x e) by omega]
theorem went_d1 (hN : N ≤ 4000) (h0 : 0 ≤ e) (hp : (ps.length : Int) ≤ e) (h : BInv x tt N e ps) (hl : e < (x.length : Int)) (hn : (Txt.item x e != Str.ofString "\n") = true) (hr : ¬ e < remEnd x e) (hs1 : (Txt.slice x (some (e + 1)) (some (e + 2)) == Str.ofString "\n") = false) (hs : (Txt.slice x (some e) (some (e + 3)) == Str.ofString "\\\x0d\n") = false) : Went x tt N e (wholeEnd x e) (ps ++ [Txt.slice x (some e) (some (wholeEnd x e))]) := by
  refine went_d' hN h0 hp h hl hn hr hs ?_
  obtain ⟨c, r, h1, h2, h3⟩ := suf_lt h0 hl
  rw [ofs_nl, sl1 h0, h3] at hs1
  have hs1 : ¬ r.take 1 = [10] := by simpa using hs1
  rw [h1]
  simp [hs1]
theorem went_d2 (hN : N ≤ 4000) (h0 : 0 ≤ e) (hp : (ps.length : Int) ≤ e) (h : BInv x tt N e ps) (hl : e < (x.length : Int)) (hn : (Txt.item x e != Str.ofString "\n") = true) (hr : ¬ e < remEnd x e) (hb : (Txt.item x e == Str.ofString "\\") = false) (hs : (Txt.slice x (some e) (some (e + 3)) == Str.ofString "\\\x0d\n") = false) : Went x tt N e (wholeEnd x e) (ps ++ [Txt.slice x (some e) (some (wholeEnd x e))]) := by
  refine went_d' hN h0 hp h hl hn hr hs ?_
  obtain ⟨c, r, h1, h2, h3⟩ := suf_lt h0 hl
  rw [h2, ofs_b, one_eq] at hb
  have hb : c ≠ 92 := by simpa using hb
  rw [h1]
  simp [hb]
end
theorem fold_cps : ∀ (l : List Str) (a : Array Nat), (l.foldl (fun acc p => acc ++ (Str.ofString "").cps ++ p.cps) a).toList = a.toList ++ joined l
  | [], a => by simp [joined]
  | p :: r, a => by
    rw [List.foldl_cons, fold_cps r]
    rw [show (Str.ofString "").cps = #[] by decide +kernel]
    simp [joined]
theorem join_cps (ps : List Str) : Txt.join (Str.ofString "") ps = ⟨(joined ps).toArray⟩ := by
  unfold Txt.join Builtin.Str.glued
  have h := fold_cps (ps.drop 1) (ps.headD Str.empty).cps
  rw [show ((ps.drop 1).foldl (fun acc p => acc ++ (Str.ofString "").cps ++ p.cps) (ps.headD Str.empty).cps) = (joined ps).toArray from ?_]
  apply Array.toList_inj.mp
  rw [h]
  cases ps with
  | nil => simp [joined, Str.empty]
  | cons p r => simp [joined]
theorem joined_len (ps : List Str) : (ps.map (·.length)).sum = (joined ps).length := by
  unfold joined
  induction ps with
  | nil => rfl
  | cons p r ih => simp only [List.map_cons, List.sum_cons, List.flatMap_cons, List.length_append, ih]; simp [Str.length]
theorem b_size {x : Str} {tt : List Nat} {N e : Int} {ps : List Str} (h : BInv x tt N e ps) (ht : tt.length ≤ 4000) : (ps.map (·.length)).sum + ps.length * (Str.ofString "").length ≤ 16777216 := by
  obtain ⟨t, n, _, h2, _⟩ := h
  rw [joined_len, show (Str.ofString "").length = 0 by decide +kernel]
  have := congrArg List.length h2
  rw [List.length_append] at this
  omega
theorem b_join {x : Str} {tt : List Nat} {N e : Int} {ps : List Str} (h : BInv x tt N e ps) (hs : bodyStep (suf x e) = none) : Txt.join (Str.ofString "") ps = ⟨tt.toArray⟩ := by
  rw [join_cps, (b_end h hs).1]
/-! _law_draw -/
theorem dr_div {V k : Int} (h0 : 0 ≤ V) (h1 : V < 10 ^ 60) (hk : 0 < k) : (0 ≤ V.fdiv k ∧ V.fdiv k < 10 ^ 60) ∧ (0 ≤ V.fmod k ∧ V.fmod k < k) := by
  rw [Int.fdiv_eq_ediv_of_nonneg _ (by omega), Int.fmod_eq_emod_of_nonneg _ (by omega)]
  refine ⟨⟨Int.ediv_nonneg h0 (by omega), ?_⟩, Int.emod_nonneg _ (by omega), Int.emod_lt_of_pos _ hk⟩
  exact Int.lt_of_le_of_lt (Int.ediv_le_self _ h0) h1
theorem dr_mod (C : Int) : 0 ≤ C.fmod (10 ^ Int.toNat 60) ∧ C.fmod (10 ^ Int.toNat 60) < 10 ^ 60 := by
  have e : Int.toNat 60 = 60 := rfl
  rw [e, Int.fmod_eq_emod_of_nonneg _ (by decide)]
  exact ⟨Int.emod_nonneg _ (by decide), Int.emod_lt_of_pos _ (by decide)⟩
theorem dr_low {C b : Int} (h0 : 0 ≤ b) (h1 : b ≤ 100) : 0 ≤ (C.fmod 1000000007 + 7919 * (b + 1) + 3) * (C.fmod 1000000007 + 7919 * (b + 1) + 3) * 69069 + (b + 1) ∧ (C.fmod 1000000007 + 7919 * (b + 1) + 3) * (C.fmod 1000000007 + 7919 * (b + 1) + 3) * 69069 + (b + 1) < 10 ^ 60 := by
  rw [Int.fmod_eq_emod_of_nonneg _ (by decide)]
  have e1 : 0 ≤ C % 1000000007 := Int.emod_nonneg _ (by decide)
  have e2 : C % 1000000007 < 1000000007 := Int.emod_lt_of_pos _ (by decide)
  generalize hz : C % 1000000007 + 7919 * (b + 1) + 3 = z
  have z0 : 0 ≤ z := by omega
  have z1 : z ≤ 10000000000 := by omega
  have z2 : z * z ≤ 10000000000 * 10000000000 := Int.mul_le_mul z1 z1 z0 (by decide)
  have z3 : 0 ≤ z * z := Int.mul_nonneg z0 z0
  generalize z * z = y at z2 z3 ⊢
  have e3 : (10 : Int) ^ 60 = 1000000000000000000000000000000000000000000000000000000000000 := by decide
  rw [e3]
  omega
end Mine
end

section
open PySem PySem.W PyProof.Rows
set_option maxRecDepth 100000
set_option linter.all false
namespace Mine
def solidC : List (List Nat) := [[97], [97, 98, 95, 57, 36], [49, 50], [55, 120], [39, 104, 70, 48], [39], [43], [40], [96], [47], [34, 97, 32, 98, 34], [34, 47, 47, 32, 110, 111, 34], [34, 113, 92, 34, 114, 34], [34, 47, 42, 32, 92, 92, 34], [92, 120, 43, 121], [92, 47, 47, 122]]
def softC : List (List Nat) := [[47, 42, 32, 114, 32, 42, 47], [47, 42, 32, 114, 10, 32, 115, 32, 42, 47], [47, 42, 42, 47], [47, 42, 32, 34, 116, 32, 42, 47], [92, 10], [92, 13, 10], [47, 42, 47, 47, 42, 47]]
inductive Built (ah : List Nat) : List Nat → List Nat → List (Int × Int) → Nat → Prop
  | start : Built ah ah [] [] 0
  | soft {x t : List Nat} {d : List (Int × Int)} {n : Nat} {q : List Nat} : Built ah x t d n → q ∈ softC → Built ah (x ++ q ++ [32]) (t ++ [32, 32]) d (n + 1)
  | solid {x t : List Nat} {d : List (Int × Int)} {n : Nat} {q : List Nat} : Built ah x t d n → q ∈ solidC → Built ah (x ++ q ++ [32]) (t ++ q ++ [32]) (d ++ [((x.length : Int), (x.length : Int) + (q.length : Int))]) (n + 1)
theorem space_step (z : List Nat) : bodyStep (32 :: z) = some ([32], 1) := by
  simp [bodyStep, remLen, wholeLen, nameLen, nameC]
theorem solid0 (z : List Nat) : bodyStep (97 :: 32 :: z) = some ([97], 1) ∧ wholeLen (97 :: 32 :: z) = 1 := by
  simp [bodyStep, remLen, rowLen, blkLen, wholeLen, nameLen, nameC, strLen, escLen, isBlank]
theorem solid1 (z : List Nat) : bodyStep (97 :: 98 :: 95 :: 57 :: 36 :: 32 :: z) = some ([97, 98, 95, 57, 36], 5) ∧ wholeLen (97 :: 98 :: 95 :: 57 :: 36 :: 32 :: z) = 5 := by
  simp [bodyStep, remLen, rowLen, blkLen, wholeLen, nameLen, nameC, strLen, escLen, isBlank]
theorem solid2 (z : List Nat) : bodyStep (49 :: 50 :: 32 :: z) = some ([49, 50], 2) ∧ wholeLen (49 :: 50 :: 32 :: z) = 2 := by
  simp [bodyStep, remLen, rowLen, blkLen, wholeLen, nameLen, nameC, strLen, escLen, isBlank]
theorem solid3 (z : List Nat) : bodyStep (55 :: 120 :: 32 :: z) = some ([55, 120], 2) ∧ wholeLen (55 :: 120 :: 32 :: z) = 2 := by
  simp [bodyStep, remLen, rowLen, blkLen, wholeLen, nameLen, nameC, strLen, escLen, isBlank]
theorem solid4 (z : List Nat) : bodyStep (39 :: 104 :: 70 :: 48 :: 32 :: z) = some ([39, 104, 70, 48], 4) ∧ wholeLen (39 :: 104 :: 70 :: 48 :: 32 :: z) = 4 := by
  simp [bodyStep, remLen, rowLen, blkLen, wholeLen, nameLen, nameC, strLen, escLen, isBlank]
theorem solid5 (z : List Nat) : bodyStep (39 :: 32 :: z) = some ([39], 1) ∧ wholeLen (39 :: 32 :: z) = 1 := by
  simp [bodyStep, remLen, rowLen, blkLen, wholeLen, nameLen, nameC, strLen, escLen, isBlank]
theorem solid6 (z : List Nat) : bodyStep (43 :: 32 :: z) = some ([43], 1) ∧ wholeLen (43 :: 32 :: z) = 1 := by
  simp [bodyStep, remLen, rowLen, blkLen, wholeLen, nameLen, nameC, strLen, escLen, isBlank]
theorem solid7 (z : List Nat) : bodyStep (40 :: 32 :: z) = some ([40], 1) ∧ wholeLen (40 :: 32 :: z) = 1 := by
  simp [bodyStep, remLen, rowLen, blkLen, wholeLen, nameLen, nameC, strLen, escLen, isBlank]
theorem solid8 (z : List Nat) : bodyStep (96 :: 32 :: z) = some ([96], 1) ∧ wholeLen (96 :: 32 :: z) = 1 := by
  simp [bodyStep, remLen, rowLen, blkLen, wholeLen, nameLen, nameC, strLen, escLen, isBlank]
theorem solid9 (z : List Nat) : bodyStep (47 :: 32 :: z) = some ([47], 1) ∧ wholeLen (47 :: 32 :: z) = 1 := by
  simp [bodyStep, remLen, rowLen, blkLen, wholeLen, nameLen, nameC, strLen, escLen, isBlank]
theorem solid10 (z : List Nat) : bodyStep (34 :: 97 :: 32 :: 98 :: 34 :: 32 :: z) = some ([34, 97, 32, 98, 34], 5) ∧ wholeLen (34 :: 97 :: 32 :: 98 :: 34 :: 32 :: z) = 5 := by
  simp [bodyStep, remLen, rowLen, blkLen, wholeLen, nameLen, nameC, strLen, escLen, isBlank]
theorem solid11 (z : List Nat) : bodyStep (34 :: 47 :: 47 :: 32 :: 110 :: 111 :: 34 :: 32 :: z) = some ([34, 47, 47, 32, 110, 111, 34], 7) ∧ wholeLen (34 :: 47 :: 47 :: 32 :: 110 :: 111 :: 34 :: 32 :: z) = 7 := by
  simp [bodyStep, remLen, rowLen, blkLen, wholeLen, nameLen, nameC, strLen, escLen, isBlank]
theorem solid12 (z : List Nat) : bodyStep (34 :: 113 :: 92 :: 34 :: 114 :: 34 :: 32 :: z) = some ([34, 113, 92, 34, 114, 34], 6) ∧ wholeLen (34 :: 113 :: 92 :: 34 :: 114 :: 34 :: 32 :: z) = 6 := by
  simp [bodyStep, remLen, rowLen, blkLen, wholeLen, nameLen, nameC, strLen, escLen, isBlank]
theorem solid13 (z : List Nat) : bodyStep (34 :: 47 :: 42 :: 32 :: 92 :: 92 :: 34 :: 32 :: z) = some ([34, 47, 42, 32, 92, 92, 34], 7) ∧ wholeLen (34 :: 47 :: 42 :: 32 :: 92 :: 92 :: 34 :: 32 :: z) = 7 := by
  simp [bodyStep, remLen, rowLen, blkLen, wholeLen, nameLen, nameC, strLen, escLen, isBlank]
theorem solid14 (z : List Nat) : bodyStep (92 :: 120 :: 43 :: 121 :: 32 :: z) = some ([92, 120, 43, 121], 4) ∧ wholeLen (92 :: 120 :: 43 :: 121 :: 32 :: z) = 4 := by
  simp [bodyStep, remLen, rowLen, blkLen, wholeLen, nameLen, nameC, strLen, escLen, isBlank]
theorem solid15 (z : List Nat) : bodyStep (92 :: 47 :: 47 :: 122 :: 32 :: z) = some ([92, 47, 47, 122], 4) ∧ wholeLen (92 :: 47 :: 47 :: 122 :: 32 :: z) = 4 := by
  simp [bodyStep, remLen, rowLen, blkLen, wholeLen, nameLen, nameC, strLen, escLen, isBlank]
theorem soft0 (z : List Nat) : bodyStep (47 :: 42 :: 32 :: 114 :: 32 :: 42 :: 47 :: 32 :: z) = some ([32], 7) := by
  simp [bodyStep, remLen, rowLen, blkLen, wholeLen, nameLen, nameC, strLen, escLen, isBlank]
theorem soft1 (z : List Nat) : bodyStep (47 :: 42 :: 32 :: 114 :: 10 :: 32 :: 115 :: 32 :: 42 :: 47 :: 32 :: z) = some ([32], 10) := by
  simp [bodyStep, remLen, rowLen, blkLen, wholeLen, nameLen, nameC, strLen, escLen, isBlank]
theorem soft2 (z : List Nat) : bodyStep (47 :: 42 :: 42 :: 47 :: 32 :: z) = some ([32], 4) := by
  simp [bodyStep, remLen, rowLen, blkLen, wholeLen, nameLen, nameC, strLen, escLen, isBlank]
theorem soft3 (z : List Nat) : bodyStep (47 :: 42 :: 32 :: 34 :: 116 :: 32 :: 42 :: 47 :: 32 :: z) = some ([32], 8) := by
  simp [bodyStep, remLen, rowLen, blkLen, wholeLen, nameLen, nameC, strLen, escLen, isBlank]
theorem soft4 (z : List Nat) : bodyStep (92 :: 10 :: 32 :: z) = some ([32], 2) := by
  simp [bodyStep, remLen, rowLen, blkLen, wholeLen, nameLen, nameC, strLen, escLen, isBlank]
theorem soft5 (z : List Nat) : bodyStep (92 :: 13 :: 10 :: 32 :: z) = some ([32], 3) := by
  simp [bodyStep, remLen, rowLen, blkLen, wholeLen, nameLen, nameC, strLen, escLen, isBlank]
theorem soft6 (z : List Nat) : bodyStep (47 :: 42 :: 47 :: 47 :: 42 :: 47 :: 32 :: z) = some ([32], 6) := by
  simp [bodyStep, remLen, rowLen, blkLen, wholeLen, nameLen, nameC, strLen, escLen, isBlank]
theorem solid_step {q : List Nat} (h : q ∈ solidC) (z : List Nat) : bodyStep (q ++ 32 :: z) = some (q, q.length) ∧ wholeLen (q ++ 32 :: z) = q.length ∧ q.length ≤ 10 ∧ q ≠ [] := by
  unfold solidC at h
  simp only [List.mem_cons, List.not_mem_nil, or_false] at h
  rcases h with rfl | rfl | rfl | rfl | rfl | rfl | rfl | rfl | rfl | rfl | rfl | rfl | rfl | rfl | rfl | rfl
  · exact ⟨(solid0 z).1, (solid0 z).2, by decide, by decide⟩
  · exact ⟨(solid1 z).1, (solid1 z).2, by decide, by decide⟩
  · exact ⟨(solid2 z).1, (solid2 z).2, by decide, by decide⟩
  · exact ⟨(solid3 z).1, (solid3 z).2, by decide, by decide⟩
  · exact ⟨(solid4 z).1, (solid4 z).2, by decide, by decide⟩
  · exact ⟨(solid5 z).1, (solid5 z).2, by decide, by decide⟩
  · exact ⟨(solid6 z).1, (solid6 z).2, by decide, by decide⟩
  · exact ⟨(solid7 z).1, (solid7 z).2, by decide, by decide⟩
  · exact ⟨(solid8 z).1, (solid8 z).2, by decide, by decide⟩
  · exact ⟨(solid9 z).1, (solid9 z).2, by decide, by decide⟩
  · exact ⟨(solid10 z).1, (solid10 z).2, by decide, by decide⟩
  · exact ⟨(solid11 z).1, (solid11 z).2, by decide, by decide⟩
  · exact ⟨(solid12 z).1, (solid12 z).2, by decide, by decide⟩
  · exact ⟨(solid13 z).1, (solid13 z).2, by decide, by decide⟩
  · exact ⟨(solid14 z).1, (solid14 z).2, by decide, by decide⟩
  · exact ⟨(solid15 z).1, (solid15 z).2, by decide, by decide⟩
theorem soft_step {q : List Nat} (h : q ∈ softC) (z : List Nat) : bodyStep (q ++ 32 :: z) = some ([32], q.length) ∧ q.length ≤ 10 := by
  unfold softC at h
  simp only [List.mem_cons, List.not_mem_nil, or_false] at h
  rcases h with rfl | rfl | rfl | rfl | rfl | rfl | rfl
  · exact ⟨soft0 z, by decide⟩
  · exact ⟨soft1 z, by decide⟩
  · exact ⟨soft2 z, by decide⟩
  · exact ⟨soft3 z, by decide⟩
  · exact ⟨soft4 z, by decide⟩
  · exact ⟨soft5 z, by decide⟩
  · exact ⟨soft6 z, by decide⟩
theorem Body.go {s t₁ r t : List Nat} {n₁ n : Nat} (h : bodyStep s = some (t₁, n₁)) (e : s.drop n₁ = r) (b : Body r t n) : Body s (t₁ ++ t) (n₁ + n) := .step h (e ▸ b)
theorem solid_body {q z t : List Nat} {n : Nat} (h : q ∈ solidC) (b : Body z t n) : Body (q ++ 32 :: z) (q ++ 32 :: t) (q.length + 1 + n) := by
  have := Body.go (solid_step h z).1 (r := 32 :: z) (by simp) (Body.go (space_step z) rfl b)
  rw [show q.length + 1 + n = q.length + (1 + n) by omega]
  exact this
theorem soft_body {q z t : List Nat} {n : Nat} (h : q ∈ softC) (b : Body z t n) : Body (q ++ 32 :: z) (32 :: 32 :: t) (q.length + 1 + n) := by
  have := Body.go (soft_step h z).1 (r := 32 :: z) (by simp) (Body.go (space_step z) rfl b)
  rw [show q.length + 1 + n = q.length + (1 + n) by omega]
  exact this
def SpotOK (y : List Nat) (p : Int × Int) : Prop := 0 ≤ p.1 ∧ p.1 < (y.length : Int) ∧ p.2 = p.1 + (wholeLen (y.drop p.1.toNat) : Int)
theorem Built.ok {ah x t : List Nat} {d : List (Int × Int)} {n : Nat} (h : Built ah x t d n) : (∃ y, x = ah ++ y ∧ ∀ z t' n', Body z t' n' → Body (y ++ z) (t ++ t') (y.length + n')) ∧ (∀ z, ∀ p ∈ d, SpotOK (x ++ z) p) ∧ x.length ≤ ah.length + 11 * n ∧ t.length ≤ 11 * n := by
  induction h with
  | start => exact ⟨⟨[], by simp, fun z t' n' b => by simpa using b⟩, fun _ _ h => (nomatch h), by omega, by simp⟩
  | @soft x t d n q _ hq ih =>
    obtain ⟨⟨y, hy, hb⟩, hs, hl, ht⟩ := ih
    refine ⟨⟨y ++ q ++ [32], by rw [hy]; simp, fun z t' n' b => ?_⟩, fun z p hp => ?_, ?_, ?_⟩
    · have := hb _ _ _ (soft_body hq b)
      simp only [List.append_assoc, List.cons_append, List.nil_append, List.length_append, List.length_cons, List.length_nil] at this ⊢
      rw [show y.length + (q.length + (0 + 1)) + n' = y.length + (q.length + 1 + n') by omega]
      exact this
    · have := hs (q ++ [32] ++ z) p hp
      simpa [List.append_assoc] using this
    · have := (soft_step hq []).2
      simp only [List.length_append, List.length_cons, List.length_nil]
      omega
    · simp only [List.length_append, List.length_cons, List.length_nil]
      omega
  | @solid x t d n q _ hq ih =>
    obtain ⟨⟨y, hy, hb⟩, hs, hl, ht⟩ := ih
    have hq3 := (solid_step hq []).2.2
    refine ⟨⟨y ++ q ++ [32], by rw [hy]; simp, fun z t' n' b => ?_⟩, fun z p hp => ?_, ?_, ?_⟩
    · have := hb _ _ _ (solid_body hq b)
      simp only [List.append_assoc, List.cons_append, List.nil_append, List.length_append, List.length_cons, List.length_nil] at this ⊢
      rw [show y.length + (q.length + (0 + 1)) + n' = y.length + (q.length + 1 + n') by omega]
      exact this
    · rcases List.mem_append.mp hp with hp | hp
      · have := hs (q ++ [32] ++ z) p hp
        simpa [List.append_assoc] using this
      · rw [List.mem_singleton.mp hp]
        refine ⟨by simp, ?_, ?_⟩
        · simp only [List.length_append, List.length_cons, List.length_nil]
          omega
        · have e : (x ++ q ++ [32] ++ z).drop ((x.length : Int)).toNat = q ++ 32 :: z := by
            rw [show ((x.length : Int)).toNat = x.length by omega]
            simp [List.append_assoc]
          simp only [e, (solid_step hq z).2.1]
    · simp only [List.length_append, List.length_cons, List.length_nil]
      omega
    · simp only [List.length_append, List.length_cons, List.length_nil]
      omega
def tail1 : List Nat := [47, 47, 32, 116, 111, 32, 116, 104, 101, 32, 101, 110, 100, 32, 34, 32, 92]
def tail2 : List Nat := [34, 111, 112, 101, 110, 32, 47]
def moreC : List Nat := [10, 109, 111, 114, 101, 32, 34, 32, 116, 101, 120, 116]
theorem done0 : Body [] [] 0 := .done rfl
theorem done1 : Body moreC [] 0 := .done rfl
theorem t1_step0 : bodyStep tail1 = some ([32], 17) := by
  unfold tail1
  simp [bodyStep, remLen, rowLen, blkLen, wholeLen, nameLen, nameC, strLen, escLen, isBlank]
theorem t1_step1 : bodyStep (tail1 ++ moreC) = some ([32], 17) := by
  unfold tail1 moreC
  simp [bodyStep, remLen, rowLen, blkLen, wholeLen, nameLen, nameC, strLen, escLen, isBlank]
theorem t2_step0 : bodyStep tail2 = some (tail2, 7) ∧ wholeLen tail2 = 7 := by
  unfold tail2
  simp [bodyStep, remLen, rowLen, blkLen, wholeLen, nameLen, nameC, strLen, escLen, isBlank]
theorem t2_step1 : bodyStep (tail2 ++ moreC) = some (tail2, 7) ∧ wholeLen (tail2 ++ moreC) = 7 := by
  unfold tail2 moreC
  simp [bodyStep, remLen, rowLen, blkLen, wholeLen, nameLen, nameC, strLen, escLen, isBlank]
theorem end10 : Body tail1 [32] 17 := Body.go t1_step0 (r := []) rfl done0
theorem end11 : Body (tail1 ++ moreC) [32] 17 := Body.go t1_step1 (r := moreC) rfl done1
theorem end20 : Body tail2 tail2 7 := Body.go t2_step0.1 (r := []) rfl done0
theorem end21 : Body (tail2 ++ moreC) tail2 7 := Body.go t2_step1.1 (r := moreC) rfl done1
def fixedC : List Nat := [97, 32, 34, 47, 47, 32, 98, 34, 32, 47, 42, 32, 99, 10, 32, 100, 32, 42, 47, 32, 101, 92, 10, 102, 32, 47, 47, 32, 103, 10, 104]
def fixedT : List Nat := [97, 32, 34, 47, 47, 32, 98, 34, 32, 32, 32, 101, 32, 102, 32, 32]
theorem fx0 : bodyStep [97, 32, 34, 47, 47, 32, 98, 34, 32, 47, 42, 32, 99, 10, 32, 100, 32, 42, 47, 32, 101, 92, 10, 102, 32, 47, 47, 32, 103, 10, 104] = some ([97], 1) := by
  simp [bodyStep, remLen, rowLen, blkLen, wholeLen, nameLen, nameC, strLen, escLen, isBlank]
theorem fx1 : bodyStep [32, 34, 47, 47, 32, 98, 34, 32, 47, 42, 32, 99, 10, 32, 100, 32, 42, 47, 32, 101, 92, 10, 102, 32, 47, 47, 32, 103, 10, 104] = some ([32], 1) := by
  simp [bodyStep, remLen, rowLen, blkLen, wholeLen, nameLen, nameC, strLen, escLen, isBlank]
theorem fx2 : bodyStep [34, 47, 47, 32, 98, 34, 32, 47, 42, 32, 99, 10, 32, 100, 32, 42, 47, 32, 101, 92, 10, 102, 32, 47, 47, 32, 103, 10, 104] = some ([34, 47, 47, 32, 98, 34], 6) := by
  simp [bodyStep, remLen, rowLen, blkLen, wholeLen, nameLen, nameC, strLen, escLen, isBlank]
theorem fx3 : bodyStep [32, 47, 42, 32, 99, 10, 32, 100, 32, 42, 47, 32, 101, 92, 10, 102, 32, 47, 47, 32, 103, 10, 104] = some ([32], 1) := by
  simp [bodyStep, remLen, rowLen, blkLen, wholeLen, nameLen, nameC, strLen, escLen, isBlank]
theorem fx4 : bodyStep [47, 42, 32, 99, 10, 32, 100, 32, 42, 47, 32, 101, 92, 10, 102, 32, 47, 47, 32, 103, 10, 104] = some ([32], 10) := by
  simp [bodyStep, remLen, rowLen, blkLen, wholeLen, nameLen, nameC, strLen, escLen, isBlank]
theorem fx5 : bodyStep [32, 101, 92, 10, 102, 32, 47, 47, 32, 103, 10, 104] = some ([32], 1) := by
  simp [bodyStep, remLen, rowLen, blkLen, wholeLen, nameLen, nameC, strLen, escLen, isBlank]
theorem fx6 : bodyStep [101, 92, 10, 102, 32, 47, 47, 32, 103, 10, 104] = some ([101], 1) := by
  simp [bodyStep, remLen, rowLen, blkLen, wholeLen, nameLen, nameC, strLen, escLen, isBlank]
theorem fx7 : bodyStep [92, 10, 102, 32, 47, 47, 32, 103, 10, 104] = some ([32], 2) := by
  simp [bodyStep, remLen, rowLen, blkLen, wholeLen, nameLen, nameC, strLen, escLen, isBlank]
theorem fx8 : bodyStep [102, 32, 47, 47, 32, 103, 10, 104] = some ([102], 1) := by
  simp [bodyStep, remLen, rowLen, blkLen, wholeLen, nameLen, nameC, strLen, escLen, isBlank]
theorem fx9 : bodyStep [32, 47, 47, 32, 103, 10, 104] = some ([32], 1) := by
  simp [bodyStep, remLen, rowLen, blkLen, wholeLen, nameLen, nameC, strLen, escLen, isBlank]
theorem fx10 : bodyStep [47, 47, 32, 103, 10, 104] = some ([32], 4) := by
  simp [bodyStep, remLen, rowLen, blkLen, wholeLen, nameLen, nameC, strLen, escLen, isBlank]
theorem fixed_body : Body fixedC fixedT 29 := (Body.go fx0 rfl (Body.go fx1 rfl (Body.go fx2 rfl (Body.go fx3 rfl (Body.go fx4 rfl (Body.go fx5 rfl (Body.go fx6 rfl (Body.go fx7 rfl (Body.go fx8 rfl (Body.go fx9 rfl (Body.go fx10 rfl (Body.done (s := [10, 104]) rfl))))))))))))
end Mine
end

section
open PySem PySem.W PyProof.Rows
set_option maxRecDepth 100000
set_option maxHeartbeats 0
set_option linter.all false
namespace Mine
theorem fill (w : World) : (hd.heap_39 w.params, PySem.Challenge.rw_on0086_01) = (hd.heap_39 w.params, PySem.Challenge.rw_on0086_01) := by
  k_fill
  rfl
section
variable {w : World} {prog : Program} {p : Program} {loose : List Str} {mean : ExcName → Option Value} {mg mb : Str → Option Value} {news : List (Addr × Obj)}
  {dp un : Nat} {gd : Option (List Code)} {cn : Str} {cs : Scope} {a : Addr} {ccd : Value} {cl : List (Str × Addr)} {outer : List Env} {A₀ : Around} {base h₀ : Heap} {L : Addr} {m : Str → Option Value} {s : Shared} {Q E : Value → Shared → Prop}
theorem c_name (x : Str) (t : Tok)
    (B : Below A₀ base outer h₀) (F : Fr h₀ L s.heap m) (X : (hd.heap_39 w.params).In h₀) (N : News h₀ L s.heap news) (T : Top p loose mean mg mb h₀) (hk : cs.kind = .function)
    (hp : x.length ≤ 2000) (hd : dp + 1 < recursionLimit) (hu : un + 8 < cLine)
    (hret : ∀ (t : Tok) (h' : Heap) (tk' : Nat), Fr h₀ L h' m → News h₀ L h' news → Q (.bool (nameStr x)) { s with heap := h', toks := tk' }) :
    wpAny (model prog w) (ktrTop dp un gd cn cs L a ccd cl outer) (call (.ref 21) [.str x t]) Q E s := by
  w_top off
  refine wpAny_call ?_
  (first | k_dflt cell_enter | ktn_no "the def is not entered")
  k_with_none
  k_steps
  all_goals (refine cb_retB hret ?_ (by k_asm) (by k_asm))
  all_goals (first | (simp only [nameStr, *]; done) | (simp [nameStr, *]; done))

theorem c_row (x : Str) (t : Tok) (i : Int) (u : Tok)
    (B : Below A₀ base outer h₀) (F : Fr h₀ L s.heap m) (X : (hd.heap_39 w.params).In h₀) (N : News h₀ L s.heap news) (T : Top p loose mean mg mb h₀) (hk : cs.kind = .function)
    (hp : 0 ≤ i ∧ x.length ≤ 2000) (hd : dp + 1 < recursionLimit) (hu : un + 8 < cLine)
    (hret : ∀ (t : Tok) (h' : Heap) (tk' : Nat), Fr h₀ L h' m → News h₀ L h' news → Q (.int (rowEnd x i) t) { s with heap := h', toks := tk' }) :
    wpAny (model prog w) (ktrTop dp un gd cn cs L a ccd cl outer) (call (.ref 28) [.str x t, .int i u]) Q E s := by
  w_top off
  refine wpAny_call ?_
  (first | k_dflt cell_enter | ktn_no "the def is not entered")
  k_with_none
  obtain ⟨h0, hlen⟩ := hp
  k_with "exec While BoolOp cons nil" => (k_dflt (k_while (fun _ e => 0 ≤ e ∧ rowEnd x e = rowEnd x i) (fun _ e => (x.length - e).toNat) "end"))
  k_with "state" => first | exact ⟨h0, rfl⟩ | with_reducible exact row_step (by assumption) (by assumption) (by assumption) (by assumption)
  k_steps
  all_goals (refine cb_retI hret ?_ (by k_asm) (by k_asm))
  all_goals first | with_reducible exact row_out1 (by assumption) (by assumption) (by assumption) (by assumption) | with_reducible exact row_out2 (by assumption) (by assumption)

theorem c_str (x : Str) (t : Tok) (i : Int) (u : Tok)
    (B : Below A₀ base outer h₀) (F : Fr h₀ L s.heap m) (X : (hd.heap_39 w.params).In h₀) (N : News h₀ L s.heap news) (T : Top p loose mean mg mb h₀) (hk : cs.kind = .function)
    (hp : 0 ≤ i ∧ i ≤ 4000 ∧ x.length ≤ 2000) (hd : dp + 1 < recursionLimit) (hu : un + 8 < cLine)
    (hret : ∀ (t : Tok) (h' : Heap) (tk' : Nat), Fr h₀ L h' m → News h₀ L h' news → Q (.int (stringEnd x (i + 1)) t) { s with heap := h', toks := tk' }) :
    wpAny (model prog w) (ktrTop dp un gd cn cs L a ccd cl outer) (call (.ref 35) [.str x t, .int i u]) Q E s := by
  w_top off
  refine wpAny_call ?_
  (first | k_dflt cell_enter | ktn_no "the def is not entered")
  k_with_none
  obtain ⟨h0, hi1, hlen⟩ := hp
  k_with "exec While BoolOp cons nil" => (k_dflt (k_while (fun _ e => 0 ≤ e ∧ stringEnd x e = stringEnd x (i + 1)) (fun _ e => (x.length - e).toNat) "end"))
  k_with "state" => first | exact ⟨by omega, rfl⟩ | with_reducible exact str_step1 (by assumption) (by assumption) (by assumption) (by assumption) (by assumption) (by assumption) | with_reducible exact str_step2 (by assumption) (by assumption) (by assumption) (by assumption) (by assumption) | with_reducible exact str_step3 (by assumption) (by assumption) (by assumption) (by assumption) (by assumption)
  k_steps
  all_goals (refine cb_retI hret ?_ (by k_asm) (by k_asm))
  all_goals first | with_reducible exact str_out1 (by assumption) (by assumption) (by assumption) (by assumption) | with_reducible exact str_out2 (by assumption) (by assumption) (by assumption) (by assumption) | with_reducible exact str_out3 (by assumption) (by assumption)

theorem c_esc (x : Str) (t : Tok) (i : Int) (u : Tok)
    (B : Below A₀ base outer h₀) (F : Fr h₀ L s.heap m) (X : (hd.heap_39 w.params).In h₀) (N : News h₀ L s.heap news) (T : Top p loose mean mg mb h₀) (hk : cs.kind = .function)
    (hp : 0 ≤ i ∧ i ≤ 4000 ∧ x.length ≤ 2000) (hd : dp + 1 < recursionLimit) (hu : un + 8 < cLine)
    (hret : ∀ (t : Tok) (h' : Heap) (tk' : Nat), Fr h₀ L h' m → News h₀ L h' news → Q (.int (escEnd x i) t) { s with heap := h', toks := tk' }) :
    wpAny (model prog w) (ktrTop dp un gd cn cs L a ccd cl outer) (call (.ref 49) [.str x t, .int i u]) Q E s := by
  w_top off
  refine wpAny_call ?_
  (first | k_dflt cell_enter | ktn_no "the def is not entered")
  k_with_none
  obtain ⟨h0, hi1, hlen⟩ := hp
  k_with "exec While BoolOp cons nil" => (k_dflt (k_while (fun _ e => 0 ≤ e ∧ escEnd x e = escEnd x i) (fun _ e => (x.length - e).toNat) "end"))
  k_with "state" => first | exact ⟨by omega, rfl⟩ | with_reducible exact esc_step (by assumption) (by assumption) (by assumption) (by assumption)
  k_steps
  all_goals (refine cb_retI hret ?_ (by k_asm) (by k_asm))
  all_goals first | with_reducible exact esc_out1 (by assumption) (by assumption) (by assumption) (by assumption) | with_reducible exact esc_out2 (by assumption) (by assumption)

end
end Mine
end

section
open PySem PySem.W PyProof.Rows
set_option maxRecDepth 100000
set_option maxHeartbeats 0
set_option linter.all false
namespace Mine
theorem fill2 (w : World) : (hd.heap_39 w.params, PySem.Challenge.rw_on0086_01) = (hd.heap_39 w.params, PySem.Challenge.rw_on0086_01) := by
  k_fill
  rfl
local macro_rules | `(tactic| walk_at "call ref") => `(tactic| (k_here; k_dflt (refine' c_row _ _ _ _ ?k1 ?k2 ?k3 ?k4 ?k5 ?kK ?kp ?kd ?ku ?_); (case k1 => k_asm); (case k2 => k_asm); (case k3 => k_asm); (case k4 => k_asm); (case k5 => k_asm); (case kK => first | exact rfl | assumption); (case kp => first | omega | assumption | (repeat' constructor <;> omega)); (case kd => ktr_room); (case ku => ktr_units); intro t9 h9 tk9 F9 N9; (try dsimp only); (try k_fold)))
section
variable {w : World} {prog : Program} {p : Program} {loose : List Str} {mean : ExcName → Option Value} {mg mb : Str → Option Value} {news : List (Addr × Obj)}
  {dp un : Nat} {gd : Option (List Code)} {cn : Str} {cs : Scope} {a : Addr} {ccd : Value} {cl : List (Str × Addr)} {outer : List Env} {A₀ : Around} {base h₀ : Heap} {L : Addr} {m : Str → Option Value} {s : Shared} {Q E : Value → Shared → Prop}
theorem c_rem (x : Str) (t : Tok) (i : Int) (u : Tok)
    (B : Below A₀ base outer h₀) (F : Fr h₀ L s.heap m) (X : (hd.heap_39 w.params).In h₀) (N : News h₀ L s.heap news) (T : Top p loose mean mg mb h₀) (hk : cs.kind = .function)
    (hp : 0 ≤ i ∧ i ≤ 4000 ∧ x.length ≤ 2000) (hd : dp + 2 < recursionLimit) (hu : un + 16 < cLine)
    (hret : ∀ (t : Tok) (h' : Heap) (tk' : Nat), Fr h₀ L h' m → News h₀ L h' news → Q (.int (remEnd x i) t) { s with heap := h', toks := tk' }) :
    wpAny (model prog w) (ktrTop dp un gd cn cs L a ccd cl outer) (call (.ref 42) [.str x t, .int i u]) Q E s := by
  w_top off
  refine wpAny_call ?_
  (first | k_dflt cell_enter | ktn_no "the def is not entered")
  k_with_none
  obtain ⟨h0, hi1, hlen⟩ := hp
  k_with "exec While BoolOp cons nil" => (k_dflt (k_while (fun _ e => 0 ≤ e ∧ e ≤ (x.length : Int) ∧ blkEnd x e = remEnd x i) (fun _ e => (x.length - e).toNat) "end"))
  k_with "state" => first | with_reducible exact rem_start (by assumption) (by assumption) | with_reducible exact blk_step (by assumption) (by assumption) (by assumption) (by assumption)
  k_steps
  all_goals (refine cb_retI hret ?_ (by k_asm) (by k_asm))
  all_goals first | with_reducible exact rem_out1 (by assumption) (by assumption) | with_reducible exact rem_out2 (by assumption) (by assumption) (by assumption) | with_reducible exact rem_fin1 (by assumption) (by assumption) (by assumption) (by assumption) | with_reducible exact rem_fin2 (by assumption) (by assumption) (by assumption)

end
end Mine
end

section
open PySem PySem.W PyProof.Rows
set_option maxRecDepth 100000
set_option maxHeartbeats 0
set_option linter.all false
namespace Mine
theorem fill3 (w : World) : (hd.heap_39 w.params, PySem.Challenge.rw_on0086_01) = (hd.heap_39 w.params, PySem.Challenge.rw_on0086_01) := by
  k_fill
  rfl
local macro_rules | `(tactic| walk_at "call ref") => `(tactic| (k_here; k_dflt (refine' c_name _ _ ?k1 ?k2 ?k3 ?k4 ?k5 ?kK ?kp ?kd ?ku ?_); (case k1 => k_asm); (case k2 => k_asm); (case k3 => k_asm); (case k4 => k_asm); (case k5 => k_asm); (case kK => first | exact rfl | assumption); (case kp => first | omega | assumption | (repeat' constructor <;> omega)); (case kd => ktr_room); (case ku => ktr_units); intro t9 h9 tk9 F9 N9; (try dsimp only); (try k_fold)))
local macro_rules | `(tactic| walk_at "call ref") => `(tactic| (k_here; k_dflt (refine' c_str _ _ _ _ ?k1 ?k2 ?k3 ?k4 ?k5 ?kK ?kp ?kd ?ku ?_); (case k1 => k_asm); (case k2 => k_asm); (case k3 => k_asm); (case k4 => k_asm); (case k5 => k_asm); (case kK => first | exact rfl | assumption); (case kp => first | omega | assumption | (repeat' constructor <;> omega)); (case kd => ktr_room); (case ku => ktr_units); intro t9 h9 tk9 F9 N9; (try dsimp only); (try k_fold)))
local macro_rules | `(tactic| walk_at "call ref") => `(tactic| (k_here; k_dflt (refine' c_esc _ _ _ _ ?k1 ?k2 ?k3 ?k4 ?k5 ?kK ?kp ?kd ?ku ?_); (case k1 => k_asm); (case k2 => k_asm); (case k3 => k_asm); (case k4 => k_asm); (case k5 => k_asm); (case kK => first | exact rfl | assumption); (case kp => first | omega | assumption | (repeat' constructor <;> omega)); (case kd => ktr_room); (case ku => ktr_units); intro t9 h9 tk9 F9 N9; (try dsimp only); (try k_fold)))
section
variable {w : World} {prog : Program} {p : Program} {loose : List Str} {mean : ExcName → Option Value} {mg mb : Str → Option Value} {news : List (Addr × Obj)}
  {dp un : Nat} {gd : Option (List Code)} {cn : Str} {cs : Scope} {a : Addr} {ccd : Value} {cl : List (Str × Addr)} {outer : List Env} {A₀ : Around} {base h₀ : Heap} {L : Addr} {m : Str → Option Value} {s : Shared} {Q E : Value → Shared → Prop}
theorem c_wh (x : Str) (t : Tok) (i : Int) (u : Tok)
    (B : Below A₀ base outer h₀) (F : Fr h₀ L s.heap m) (X : (hd.heap_39 w.params).In h₀) (N : News h₀ L s.heap news) (T : Top p loose mean mg mb h₀) (hk : cs.kind = .function)
    (hp : 0 ≤ i ∧ i ≤ 4000 ∧ x.length ≤ 2000 ∧ i < (x.length : Int)) (hd : dp + 2 < recursionLimit) (hu : un + 16 < cLine)
    (hret : ∀ (t : Tok) (h' : Heap) (tk' : Nat), Fr h₀ L h' m → News h₀ L h' news → Q (.int (wholeEnd x i) t) { s with heap := h', toks := tk' }) :
    wpAny (model prog w) (ktrTop dp un gd cn cs L a ccd cl outer) (call (.ref 56) [.str x t, .int i u]) Q E s := by
  w_top off
  refine wpAny_call ?_
  (first | k_dflt cell_enter | ktn_no "the def is not entered")
  k_with_none
  obtain ⟨h0, hi1, hlen, hlt⟩ := hp
  k_with "exec While Call cons nil" => (first | ((have hAp : (Txt.item x i == Str.ofString "'") = true := by with_reducible assumption); k_dflt (k_while (fun _ e => 0 ≤ e ∧ nameEnd x e = nameEnd x (i + 1)) (fun _ e => (x.length - e).toNat) "end")) | ((have hAp : (Txt.item x i == Str.ofString "'") = false := by with_reducible assumption); k_dflt (k_while (fun _ e => 0 ≤ e ∧ nameEnd x e = nameEnd x i) (fun _ e => (x.length - e).toNat) "end")))
  k_with "state" => first | exact ⟨by omega, rfl⟩ | with_reducible exact name_step (by assumption) (by assumption) (by assumption)
  k_with "measure" => with_reducible exact name_meas (by assumption) (by assumption)
  k_steps
  all_goals (refine cb_retI hret ?_ (by k_asm) (by k_asm))
  all_goals first | with_reducible exact wh_str (by assumption) (by assumption) (by assumption) | with_reducible exact wh_esc (by assumption) (by assumption) (by assumption) | with_reducible exact wh_ap (by assumption) (by assumption) (by assumption) (by assumption) (by assumption) (by assumption) (by assumption) (by assumption) | with_reducible exact wh_no (by assumption) (by assumption) (by assumption) (by assumption) (by assumption) (by assumption) (by assumption) (by assumption)

end
end Mine
end

section
open PySem PySem.W PyProof.Rows
set_option maxRecDepth 100000
set_option maxHeartbeats 0
set_option linter.all false
namespace Mine
theorem fill4 (w : World) : (hd.heap_39 w.params, PySem.Challenge.rw_on0086_01) = (hd.heap_39 w.params, PySem.Challenge.rw_on0086_01) := by
  k_fill
  rfl
local macro_rules | `(tactic| walk_at "call ref") => `(tactic| (k_here; k_dflt (refine' c_rem _ _ _ _ ?k1 ?k2 ?k3 ?k4 ?k5 ?kK ?kp ?kd ?ku ?_); (case k1 => k_asm); (case k2 => k_asm); (case k3 => k_asm); (case k4 => k_asm); (case k5 => k_asm); (case kK => first | exact rfl | assumption); (case kp => first | omega | assumption | (repeat' constructor <;> omega)); (case kd => ktr_room); (case ku => ktr_units); intro t9 h9 tk9 F9 N9; (try dsimp only); (try k_fold)))
local macro_rules | `(tactic| walk_at "call ref") => `(tactic| (k_here; k_dflt (refine' c_wh _ _ _ _ ?k1 ?k2 ?k3 ?k4 ?k5 ?kK ?kp ?kd ?ku ?_); (case k1 => k_asm); (case k2 => k_asm); (case k3 => k_asm); (case k4 => k_asm); (case k5 => k_asm); (case kK => first | exact rfl | assumption); (case kp => first | omega | assumption | (repeat' constructor <;> omega)); (case kd => ktr_room); (case ku => ktr_units); intro t9 h9 tk9 F9 N9; (try dsimp only); (try k_fold)))
section
variable {w : World} {prog : Program} {p : Program} {loose : List Str} {mean : ExcName → Option Value} {mg mb : Str → Option Value} {news : List (Addr × Obj)}
  {dp un : Nat} {gd : Option (List Code)} {cn : Str} {cs : Scope} {a : Addr} {ccd : Value} {cl : List (Str × Addr)} {outer : List Env} {A₀ : Around} {base h₀ : Heap} {L : Addr} {m : Str → Option Value} {s : Shared} {Q E : Value → Shared → Prop}
theorem b_end_turn {x : Str} {tt : List Nat} {NN : Int} {h₀ : Heap} {L l : Addr} {s : Shared} {news : List (Addr × Obj)} {m₀ m' : Str → Option Value} {e e' : Int} {et et' : Tok} {vs : List Value} {ps : List Str} {n n' : Nat} {q : Str} {tq : Tok} {h' : Heap} {tk : Nat}
    (hw : Went x tt NN e e' (ps ++ [q])) (FE : Fr h₀ L h' m') (NE : News h₀ L h' ((l, listOf (vs.toArray.push (.str q tq)) n') :: news)) (hs : StrsAre vs ps) (hk : m' (Str.ofString "index") = some (.int e' et')) (hr : ∀ z, z ≠ Str.ofString "index" → z ≠ Str.ofString "end" → m' z = m₀ z) :
    KswEnd h₀ L s (fun c : (Int × Tok) × (List Value × List Str × Nat) => (l, listOf c.2.1.toArray c.2.2.2) :: news) (fun c => [(Str.ofString "index", .int c.1.1 c.1.2)]) (fun c => StrsAre c.2.1 c.2.2.1) [Str.ofString "end"] m₀ (fun c => 0 ≤ c.1.1 ∧ c.1.1 ≤ 4000 ∧ (c.2.2.1.length : Int) ≤ c.1.1 ∧ BInv x tt NN c.1.1 c.2.2.1) (fun c => ((x.length : Int) - c.1.1).toNat) ((e, et), (vs, ps, n)) { s with heap := h', toks := tk } := by
  rw [List.push_toArray] at NE
  refine ksw_end ((e', et'), (vs ++ [.str q tq], ps ++ [q], n')) FE NE (fun _ h => h) (PyProof.Rows.StrsAre.append' hs (.cons _ _ .nil)) ?_ ?_ hw.p hw.m
  · intro p hp
    rcases List.mem_cons.mp hp with rfl | hp
    · exact hk
    · cases hp
  · intro z h1 h2
    refine hr z (h1 _ (.head _)) ?_
    intro h3
    subst h3
    simp at h2
theorem c_body (x : Str) (t : Tok) (i : Int) (u : Tok) (tt : List Nat) (NN : Int)
    (B : Below A₀ base outer h₀) (F : Fr h₀ L s.heap m) (X : (hd.heap_39 w.params).In h₀) (N : News h₀ L s.heap news) (T : Top p loose mean mg mb h₀) (hk : cs.kind = .function)
    (hp : 0 ≤ i ∧ NN ≤ 4000 ∧ x.length ≤ 2000 ∧ tt.length ≤ 4000 ∧ BInv x tt NN i []) (hd : dp + 3 < recursionLimit) (hu : un + 24 < cLine)
    (hret : ∀ (b : Addr) (c : Nat) (t1 t2 : Tok) (h' : Heap) (tk' : Nat), Fr h₀ L h' m → News h₀ L h' ((b, { cls := .type "tuple", data := .seq #[.str (Txt.strip ⟨tt.toArray⟩) t1, .int NN t2] c }) :: news) → (∀ q ∈ news, q.1 < b) → Q (.ref b) { s with heap := h', toks := tk' }) :
    wpAny (model prog w) (ktrTop dp un gd cn cs L a ccd cl outer) (call (.ref 63) [.str x t, .int i u]) Q E s := by
  w_top off
  refine wpAny_call ?_
  (first | k_dflt cell_enter | ktn_no "the def is not entered")
  k_with_none
  obtain ⟨h0, hN, hlen, htt, hinv⟩ := hp
  k_with "exec While BoolOp cons nil" => ((rename Fr _ _ _ _ => lF'); (rename News _ _ _ _ => lN'); (k_dflt (refine' ksw_while (σ := (Int × Tok) × (List Value × List Str × Nat)) (fun c => (_, listOf c.2.1.toArray c.2.2.2) :: news) (fun c => [(Str.ofString "index", .int c.1.1 c.1.2)]) (fun c => StrsAre c.2.1 c.2.2.1) [Str.ofString "end"] (fun c => 0 ≤ c.1.1 ∧ c.1.1 ≤ 4000 ∧ (c.2.2.1.length : Int) ≤ c.1.1 ∧ BInv x tt NN c.1.1 c.2.2.1) (fun c => ((x.length : Int) - c.1.1).toNat) ((i, u), ([], [], 0)) lF' ?kn ?kf ?kk ?kp ?_)); (case kn => exact lN'); (case kf => exact PyProof.Rows.StrsAre.nil); (case kk => kst_all); (case kp => exact ⟨h0, b_le hinv hN, (by simpa using h0), hinv⟩); clear lF' lN'; rintro ⟨⟨e, et⟩, vs, ps, n⟩ kU kH kTk kFacts kInv kFr kNews; (dsimp only at kInv); (obtain ⟨k0, k1, k2, kB⟩ := kInv); (dsimp only [kstB] at kFr); (dsimp only at kNews); (dsimp only at kFacts); (have kMark := kstMark); (have kLen := PyProof.Rows.StrsAre.length kFacts); (try k_fold))
  k_with "KswEnd cons" => ((have hw : Went x tt NN e _ _ := (by first | with_reducible exact went_a (by assumption) (by assumption) (by assumption) (by assumption) (by assumption) (by assumption) (by assumption)  | with_reducible exact went_b (by assumption) (by assumption) (by assumption) (by assumption) (by assumption) (by assumption) (by assumption) (by assumption)  | with_reducible exact went_c (by assumption) (by assumption) (by assumption) (by assumption) (by assumption) (by assumption) (by assumption)  | with_reducible exact went_d1 (by assumption) (by assumption) (by assumption) (by assumption) (by assumption) (by assumption) (by assumption) (by assumption) (by assumption)  | with_reducible exact went_d2 (by assumption) (by assumption) (by assumption) (by assumption) (by assumption) (by assumption) (by assumption) (by assumption) (by assumption) )); (rename Fr _ _ _ _ => FE); (rename News _ _ _ _ => NE); (k_dflt (refine' b_end_turn hw FE NE kFacts ?k ?r)); (case k => k_dflt (with_unfolding_all rfl)); (case r => (intro z h1 h2; simp [h1, h2])))
  k_with "call builtin:str.join cons nil" => ((have hSt : bodyStep (suf x e) = none := (by first | with_reducible exact step_end1 (by assumption) (by assumption) (by assumption) | with_reducible exact step_end2 (by assumption))); (have hEn := (b_end kB hSt).2); k_dflt (refine join_list (ys := ps) (by is_list) kFacts (b_size kB htt) ?_); intro t' k'; rw [b_join kB hSt]; (have hTl : (⟨tt.toArray⟩ : Str).length ≤ 4000 := (by simpa [Str.length] using htt)))
  k_steps
  all_goals ((with_reducible rename (_ ∧ AllLt _ _) => hlt); (rename News _ _ _ _ => NE); (rw [hEn] at NE); exact hret _ _ _ _ _ _ (by k_asm) (cb_drop NE (fun p hp => (List.mem_cons.mp hp).elim (fun h => h ▸ .head _) (fun h => .tail _ (.tail _ h)))) (kst_ltOf hlt.2))
end
end Mine
end

section
open PySem PySem.W PyProof.Rows
set_option maxRecDepth 100000
set_option maxHeartbeats 0
set_option linter.all false
namespace Mine
theorem fill5 (w : World) : (hd.heap_39 w.params, PySem.Challenge.rw_on0086_01) = (hd.heap_39 w.params, PySem.Challenge.rw_on0086_01) := by
  k_fill
  rfl
local macro_rules | `(tactic| k_all) => `(tactic| with_reducible assumption)
section
variable {w : World} {prog : Program} {p : Program} {loose : List Str} {mean : ExcName → Option Value} {mg mb : Str → Option Value} {news : List (Addr × Obj)}
  {dp un : Nat} {gd : Option (List Code)} {cn : Str} {cs : Scope} {a : Addr} {ccd : Value} {cl : List (Str × Addr)} {outer : List Env} {A₀ : Around} {base h₀ : Heap} {L : Addr} {m : Str → Option Value} {s : Shared} {Q E : Value → Shared → Prop}
theorem c_draw {j l : Addr} {vs : List Value} {ns : List Int} {A Bn k : Int} {ta tb tk : Tok} {c c2 : Nat} {rest : List (Addr × Obj)}
    (B : Below A₀ base outer h₀) (F : Fr h₀ L s.heap m) (X : (hd.heap_39 w.params).In h₀) (N : News h₀ L s.heap ((j, listOf #[.int A ta, .int Bn tb, .ref l] c) :: (l, listOf vs.toArray c2) :: rest)) (T : Top p loose mean mg mb h₀) (hk : cs.kind = .function)
    (hj : ∀ p ∈ rest, p.1 ≠ j) (hl : l ≠ j) (hi : IntsAre vs ns)
    (hp : 0 < ns.length ∧ ns.length ≤ 64 ∧ 0 ≤ A ∧ A < 10 ^ 60 ∧ 0 ≤ Bn ∧ Bn ≤ 100 ∧ 0 < k ∧ k ≤ 16) (hd : dp + 1 < recursionLimit) (hu : un + 8 < cLine)
    (hret : ∀ (A' B' r : Int) (ta' tb' tr : Tok) (h' : Heap) (tk' : Nat), 0 ≤ A' → A' < 10 ^ 60 → 0 ≤ B' → B' ≤ Bn + 1 → 0 ≤ r → r < k → Fr h₀ L h' m → News h₀ L h' ((j, listOf #[.int A' ta', .int B' tb', .ref l] c) :: (l, listOf vs.toArray c2) :: rest) → Q (.int r tr) { s with heap := h', toks := tk' }) :
    wpAny (model prog w) (ktrTop dp un gd cn cs L a ccd cl outer) (call (.ref 70) [.ref j, .int k tk]) Q E s := by
  w_top off
  refine wpAny_call ?_
  (first | k_dflt cell_enter | ktn_no "the def is not entered")
  k_with_none
  have kMark := kstMark
  obtain ⟨n1, n2, a1, a2, b1, b2, k1, k2⟩ := hp
  k_steps
  all_goals (refine' hret _ _ _ _ _ _ _ _ ?h1 ?h2 ?h3 ?h4 ?h5 ?h6 ?f ?n; (case n => k_asm); (case f => k_asm); (case h3 => omega); (case h4 => omega); (case h1 => first | with_reducible exact a1 | with_reducible exact a2 | exact Int.le_refl 0 | with_reducible exact k1 | with_reducible exact (dr_div a1 a2 k1).1.1 | with_reducible exact (dr_div a1 a2 k1).1.2 | with_reducible exact (dr_div a1 a2 k1).2.1 | with_reducible exact (dr_div a1 a2 k1).2.2 | with_reducible exact (dr_div (dr_mod _).1 (dr_mod _).2 k1).1.1 | with_reducible exact (dr_div (dr_mod _).1 (dr_mod _).2 k1).1.2 | with_reducible exact (dr_div (dr_mod _).1 (dr_mod _).2 k1).2.1 | with_reducible exact (dr_div (dr_mod _).1 (dr_mod _).2 k1).2.2 | with_reducible exact (dr_div (dr_low b1 b2).1 (dr_low b1 b2).2 k1).1.1 | with_reducible exact (dr_div (dr_low b1 b2).1 (dr_low b1 b2).2 k1).1.2 | with_reducible exact (dr_div (dr_low b1 b2).1 (dr_low b1 b2).2 k1).2.1 | with_reducible exact (dr_div (dr_low b1 b2).1 (dr_low b1 b2).2 k1).2.2); (case h2 => first | with_reducible exact a1 | with_reducible exact a2 | exact Int.le_refl 0 | with_reducible exact k1 | with_reducible exact (dr_div a1 a2 k1).1.1 | with_reducible exact (dr_div a1 a2 k1).1.2 | with_reducible exact (dr_div a1 a2 k1).2.1 | with_reducible exact (dr_div a1 a2 k1).2.2 | with_reducible exact (dr_div (dr_mod _).1 (dr_mod _).2 k1).1.1 | with_reducible exact (dr_div (dr_mod _).1 (dr_mod _).2 k1).1.2 | with_reducible exact (dr_div (dr_mod _).1 (dr_mod _).2 k1).2.1 | with_reducible exact (dr_div (dr_mod _).1 (dr_mod _).2 k1).2.2 | with_reducible exact (dr_div (dr_low b1 b2).1 (dr_low b1 b2).2 k1).1.1 | with_reducible exact (dr_div (dr_low b1 b2).1 (dr_low b1 b2).2 k1).1.2 | with_reducible exact (dr_div (dr_low b1 b2).1 (dr_low b1 b2).2 k1).2.1 | with_reducible exact (dr_div (dr_low b1 b2).1 (dr_low b1 b2).2 k1).2.2); (case h5 => first | with_reducible exact a1 | with_reducible exact a2 | exact Int.le_refl 0 | with_reducible exact k1 | with_reducible exact (dr_div a1 a2 k1).1.1 | with_reducible exact (dr_div a1 a2 k1).1.2 | with_reducible exact (dr_div a1 a2 k1).2.1 | with_reducible exact (dr_div a1 a2 k1).2.2 | with_reducible exact (dr_div (dr_mod _).1 (dr_mod _).2 k1).1.1 | with_reducible exact (dr_div (dr_mod _).1 (dr_mod _).2 k1).1.2 | with_reducible exact (dr_div (dr_mod _).1 (dr_mod _).2 k1).2.1 | with_reducible exact (dr_div (dr_mod _).1 (dr_mod _).2 k1).2.2 | with_reducible exact (dr_div (dr_low b1 b2).1 (dr_low b1 b2).2 k1).1.1 | with_reducible exact (dr_div (dr_low b1 b2).1 (dr_low b1 b2).2 k1).1.2 | with_reducible exact (dr_div (dr_low b1 b2).1 (dr_low b1 b2).2 k1).2.1 | with_reducible exact (dr_div (dr_low b1 b2).1 (dr_low b1 b2).2 k1).2.2); (case h6 => first | with_reducible exact a1 | with_reducible exact a2 | exact Int.le_refl 0 | with_reducible exact k1 | with_reducible exact (dr_div a1 a2 k1).1.1 | with_reducible exact (dr_div a1 a2 k1).1.2 | with_reducible exact (dr_div a1 a2 k1).2.1 | with_reducible exact (dr_div a1 a2 k1).2.2 | with_reducible exact (dr_div (dr_mod _).1 (dr_mod _).2 k1).1.1 | with_reducible exact (dr_div (dr_mod _).1 (dr_mod _).2 k1).1.2 | with_reducible exact (dr_div (dr_mod _).1 (dr_mod _).2 k1).2.1 | with_reducible exact (dr_div (dr_mod _).1 (dr_mod _).2 k1).2.2 | with_reducible exact (dr_div (dr_low b1 b2).1 (dr_low b1 b2).2 k1).1.1 | with_reducible exact (dr_div (dr_low b1 b2).1 (dr_low b1 b2).2 k1).1.2 | with_reducible exact (dr_div (dr_low b1 b2).1 (dr_low b1 b2).2 k1).2.1 | with_reducible exact (dr_div (dr_low b1 b2).1 (dr_low b1 b2).2 k1).2.2))
end
end Mine
end

section
open PySem PySem.W PyProof.Rows
set_option maxRecDepth 100000
set_option maxHeartbeats 0
set_option linter.all false
namespace Mine
theorem fill6 (w : World) : (hd.heap_39 w.params, PySem.Challenge.rw_on0086_01) = (hd.heap_39 w.params, PySem.Challenge.rw_on0086_01) := by
  k_fill
  rfl
local macro_rules | `(tactic| k_all) => `(tactic| with_reducible assumption)
def solids : List Str := [Str.ofString "a", Str.ofString "ab_9$", Str.ofString "12", Str.ofString "7x", Str.ofString "'hF0", Str.ofString "'", Str.ofString "+", Str.ofString "(", Str.ofString "`", Str.ofString "/", Str.ofString "\"a b\"", Str.ofString "\"// no\"", Str.ofString "\"q\\\"r\"", Str.ofString "\"/* \\\\\"", Str.ofString "\\x+y", Str.ofString "\\//z"]
def softs : List Str := [Str.ofString "/* r */", Str.ofString "/* r\n s */", Str.ofString "/**/", Str.ofString "/* \"t */", Str.ofString "\\\n", Str.ofString "\\\x0d\n", Str.ofString "/*//*/"]
theorem perm3 {h₀ : Heap} {L : Addr} {h : Heap} {x y z : Addr × Obj} {rest : List (Addr × Obj)} (N : News h₀ L h (x :: y :: z :: rest)) : News h₀ L h (y :: z :: x :: rest) := fun p hp => N p (by
  rcases List.mem_cons.mp hp with rfl | hp
  · exact .tail _ (.head _)
  rcases List.mem_cons.mp hp with rfl | hp
  · exact .tail _ (.tail _ (.head _))
  rcases List.mem_cons.mp hp with rfl | hp
  · exact .head _
  exact .tail _ (.tail _ (.tail _ hp)))
theorem drop3 {h₀ : Heap} {L : Addr} {h : Heap} {x y z : Addr × Obj} {rest : List (Addr × Obj)} (N : News h₀ L h (y :: z :: x :: rest)) : News h₀ L h (y :: z :: rest) := fun p hp => N p (by
  rcases List.mem_cons.mp hp with rfl | hp
  · exact .head _
  rcases List.mem_cons.mp hp with rfl | hp
  · exact .tail _ (.head _)
  exact .tail _ (.tail _ (.tail _ hp)))
theorem getD_mem {l : List Str} {k : Nat} (h : k < l.length) : l.getD k Str.empty ∈ l := by
  rw [List.getD_eq_getElem?_getD, List.getElem?_eq_getElem h]
  exact List.getElem_mem h
local macro_rules | `(tactic| walk_at "call ref") => `(tactic| (k_here; (rename News _ _ _ _ => NU); (k_dflt (refine' c_draw ?k1 ?k2 ?k3 (perm3 NU) ?k5 ?kK ?kj ?kl ?ki ?kp ?kd ?ku ?_); (case k1 => k_asm); (case k2 => k_asm); (case k3 => k_asm); (case k5 => k_asm); (case kK => first | exact rfl | assumption); (case kj => k_all); (case kl => assumption); (case ki => assumption); (case kp => (first | (refine ⟨?_, ?_, ?_, ?_, ?_, ?_, ?_, ?_⟩ <;> first | assumption | omega))); (case kd => ktr_room); (case ku => ktr_units); intro A9 B9 r9 ta9 tb9 tr9 h9 tk9 hA0 hA1 hB0 hB1 hr0 hr1 F9 N9; (try dsimp only); (try k_fold))))
section
variable {w : World} {prog : Program} {p : Program} {loose : List Str} {mean : ExcName → Option Value} {mg mb : Str → Option Value} {news : List (Addr × Obj)}
  {dp un : Nat} {gd : Option (List Code)} {cn : Str} {cs : Scope} {a : Addr} {ccd : Value} {cl : List (Str × Addr)} {outer : List Env} {A₀ : Around} {base h₀ : Heap} {L : Addr} {m : Str → Option Value} {s : Shared} {Q E : Value → Shared → Prop}
theorem c_solid {j l : Addr} {vs : List Value} {ns : List Int} {A Bn : Int} {ta tb : Tok} {c c2 : Nat} {rest : List (Addr × Obj)}
    (B : Below A₀ base outer h₀) (F : Fr h₀ L s.heap m) (X : (hd.heap_39 w.params).In h₀) (N : News h₀ L s.heap ((j, listOf #[.int A ta, .int Bn tb, .ref l] c) :: (l, listOf vs.toArray c2) :: rest)) (T : Top p loose mean mg mb h₀) (hk : cs.kind = .function)
    (hj : ∀ p ∈ rest, p.1 ≠ j) (hl : l ≠ j) (hi : IntsAre vs ns)
    (hp : 0 < ns.length ∧ ns.length ≤ 64 ∧ 0 ≤ A ∧ A < 10 ^ 60 ∧ 0 ≤ Bn ∧ Bn ≤ 100) (hd : dp + 2 < recursionLimit) (hu : un + 16 < cLine)
    (hret : ∀ (A' B' : Int) (q : Str) (ta' tb' tr : Tok) (h' : Heap) (tk' : Nat), 0 ≤ A' → A' < 10 ^ 60 → 0 ≤ B' → B' ≤ Bn + 1 → q ∈ solids → Fr h₀ L h' m → News h₀ L h' ((j, listOf #[.int A' ta', .int B' tb', .ref l] c) :: (l, listOf vs.toArray c2) :: rest) → Q (.str q tr) { s with heap := h', toks := tk' }) :
    wpAny (model prog w) (ktrTop dp un gd cn cs L a ccd cl outer) (call (.ref 77) [.ref j]) Q E s := by
  w_top off
  refine wpAny_call ?_
  (first | k_dflt cell_enter | ktn_no "the def is not entered")
  k_with_none
  k_with "table" => skip
  have kMark := kstMark
  obtain ⟨n1, n2, a1, a2, b1, b2⟩ := hp
  k_steps
  all_goals ((rename News _ _ _ _ => NE); refine' hret _ _ _ _ _ _ _ _ ?h1 ?h2 ?h3 ?h4 ?h5 ?f (drop3 NE); (case f => k_asm); (case h1 => with_reducible assumption); (case h2 => with_reducible assumption); (case h3 => with_reducible assumption); (case h4 => with_reducible assumption); (case h5 => (unfold solids; exact getD_mem (by simp only [List.length_cons, List.length_nil]; omega))))
theorem c_soft {j l : Addr} {vs : List Value} {ns : List Int} {A Bn : Int} {ta tb : Tok} {c c2 : Nat} {rest : List (Addr × Obj)}
    (B : Below A₀ base outer h₀) (F : Fr h₀ L s.heap m) (X : (hd.heap_39 w.params).In h₀) (N : News h₀ L s.heap ((j, listOf #[.int A ta, .int Bn tb, .ref l] c) :: (l, listOf vs.toArray c2) :: rest)) (T : Top p loose mean mg mb h₀) (hk : cs.kind = .function)
    (hj : ∀ p ∈ rest, p.1 ≠ j) (hl : l ≠ j) (hi : IntsAre vs ns)
    (hp : 0 < ns.length ∧ ns.length ≤ 64 ∧ 0 ≤ A ∧ A < 10 ^ 60 ∧ 0 ≤ Bn ∧ Bn ≤ 100) (hd : dp + 2 < recursionLimit) (hu : un + 16 < cLine)
    (hret : ∀ (A' B' : Int) (q : Str) (ta' tb' tr : Tok) (h' : Heap) (tk' : Nat), 0 ≤ A' → A' < 10 ^ 60 → 0 ≤ B' → B' ≤ Bn + 1 → q ∈ softs → Fr h₀ L h' m → News h₀ L h' ((j, listOf #[.int A' ta', .int B' tb', .ref l] c) :: (l, listOf vs.toArray c2) :: rest) → Q (.str q tr) { s with heap := h', toks := tk' }) :
    wpAny (model prog w) (ktrTop dp un gd cn cs L a ccd cl outer) (call (.ref 84) [.ref j]) Q E s := by
  w_top off
  refine wpAny_call ?_
  (first | k_dflt cell_enter | ktn_no "the def is not entered")
  k_with_none
  k_with "table" => skip
  have kMark := kstMark
  obtain ⟨n1, n2, a1, a2, b1, b2⟩ := hp
  k_steps
  all_goals ((rename News _ _ _ _ => NE); refine' hret _ _ _ _ _ _ _ _ ?h1 ?h2 ?h3 ?h4 ?h5 ?f (drop3 NE); (case f => k_asm); (case h1 => with_reducible assumption); (case h2 => with_reducible assumption); (case h3 => with_reducible assumption); (case h4 => with_reducible assumption); (case h5 => (unfold softs; exact getD_mem (by simp only [List.length_cons, List.length_nil]; omega))))
end
end Mine
end

section
open PySem PySem.W PyProof.Rows
set_option maxRecDepth 100000
set_option maxHeartbeats 0
set_option linter.all false
namespace Mine
theorem fill7 (w : World) : (hd.heap_39 w.params, PySem.Challenge.rw_on0086_01) = (hd.heap_39 w.params, PySem.Challenge.rw_on0086_01) := by
  k_fill
  rfl
section
variable {w : World} {prog : Program} {p : Program} {loose : List Str} {mean : ExcName → Option Value} {mg mb : Str → Option Value} {news : List (Addr × Obj)}
  {dp un : Nat} {gd : Option (List Code)} {cn : Str} {cs : Scope} {a : Addr} {ccd : Value} {cl : List (Str × Addr)} {outer : List Env} {A₀ : Around} {base h₀ : Heap} {L : Addr} {m : Str → Option Value} {s : Shared} {Q E : Value → Shared → Prop}
theorem c_right (x tl : Str) (t : Tok) (i st : Int) (u t3 t4 : Tok) (tt : List Nat) (NN : Int)
    (B : Below A₀ base outer h₀) (F : Fr h₀ L s.heap m) (X : (hd.heap_39 w.params).In h₀) (N : News h₀ L s.heap news) (T : Top p loose mean mg mb h₀) (hk : cs.kind = .function)
    (hp : 0 ≤ i ∧ NN ≤ 4000 ∧ x.length ≤ 2000 ∧ tt.length ≤ 4000 ∧ BInv x tt NN i []) (htl : tl = ⟨tt.toArray⟩) (hst : st = NN) (hd : dp + 4 < recursionLimit) (hu : un + 32 < cLine)
    (hret : ∀ (h' : Heap) (tk' : Nat), Fr h₀ L h' m → News h₀ L h' news → Q (.bool true) { s with heap := h', toks := tk' }) :
    wpAny (model prog w) (ktrTop dp un gd cn cs L a ccd cl outer) (call (.ref 91) [.str x t, .int i u, .str tl t3, .int st t4]) Q E s := by
  subst htl hst
  w_top off
  refine wpAny_call ?_
  (first | k_dflt cell_enter | ktn_no "the def is not entered")
  k_with_none
  have hsz : (⟨tt.toArray⟩ : Str).length ≤ 4000 := (by simpa [Str.length] using hp.2.2.2.1)
  k_with "call ref cons nil" => (k_dflt (refine' c_body _ _ _ _ tt st ?k1 ?k2 ?k3 ?k4 ?k5 ?kK ?kp ?kd ?ku ?_); (case k1 => k_asm); (case k2 => k_asm); (case k3 => k_asm); (case k4 => k_asm); (case k5 => k_asm); (case kK => first | exact rfl | assumption); (case kp => exact hp); (case kd => ktr_room); (case ku => ktr_units); intro b9 c9 t91 t92 h9 tk9 F9 N9 l9; (try dsimp only); (try k_fold))
  k_steps
  all_goals ((rename News _ _ _ _ => NE); exact cb_retB (x := true) (fun _ h' tk' => hret h' tk') (by simp) (by k_asm) (cb_drop NE (fun _ h => .tail _ h)))
end
end Mine
end

section
open PySem PySem.W PySem.Calls PyProof.Rows PyProof.V PySem.Spec
set_option maxRecDepth 100000
set_option linter.all false
set_option maxHeartbeats 0
namespace Mine
def spotD (p : Int × Int) : Dat := .tuple [.int p.1, .int p.2]
abbrev tupO (b e : Int) (t1 t2 : Tok) (n : Nat) : Obj := { cls := .type "tuple", data := .seq #[.int b t1, .int e t2] n }
section
variable {prog : Program} {w : World} {A : Around} {E : Value → Shared → Prop} {s : Shared} {env : Env} {h₀ : Heap} {body : List Stmt} {Q : Flow → Shared → Prop}
def SpEnd (h₀ : Heap) (L : Addr) (B C : Str) (m₀ : Str → Option Value) (led : List (Addr × Obj)) (s₁ s₂ : Shared) : Prop :=
  ∃ h' tk u1 u2, s₂ = { s₁ with heap := h', toks := tk } ∧ Fr h₀ L h' (fun y => if y = B then u1 else if y = C then u2 else m₀ y) ∧ News h₀ L h' led
def SpPost (h₀ : Heap) (L : Addr) (B C : Str) (m₀ : Str → Option Value) (led : List (Addr × Obj)) (s₁ : Shared) (Q : Flow → Shared → Prop) (f : Flow) (s₂ : Shared) : Prop :=
  match f with
  | .ret v => Q (.ret v) s₂
  | .brk => Q .next s₂
  | _ => SpEnd h₀ L B C m₀ led s₁ s₂
theorem sp_end {L : Addr} {B C : Str} {m₀ m' : Str → Option Value} {led led' : List (Addr × Obj)} {s₁ : Shared} {h' : Heap} {tk : Nat} (F : Fr h₀ L h' m') (N : News h₀ L h' led') (hs : ∀ p ∈ led, p ∈ led') (hm : ∀ y, y ≠ B → y ≠ C → m' y = m₀ y) :
    SpEnd h₀ L B C m₀ led s₁ { s₁ with heap := h', toks := tk } := by
  refine ⟨h', tk, m' B, m' C, rfl, ?_, fun p hp => N p (hs p hp)⟩
  have e : (fun y => if y = B then m' B else if y = C then m' C else m₀ y) = m' := by
    funext y
    by_cases h1 : y = B
    · rw [if_pos h1, h1]
    · rw [if_neg h1]
      by_cases h2 : y = C
      · rw [if_pos h2, h2]
      · rw [if_neg h2]; exact (hm y h1 h2).symm
  rw [e]
  exact F
theorem spot_in {news : List (Addr × Obj)} {v : Value} {p : Int × Int} (h : DatIn news v (spotD p)) : ∃ a n t1 t2, v = .ref a ∧ (a, tupO p.1 p.2 t1 t2 n) ∈ news := by
  unfold spotD at h
  cases h with
  | tuple hm hd =>
    cases hd with
    | cons h1 r =>
      cases h1
      cases r with
      | cons h2 r2 =>
        cases h2
        cases r2
        exact ⟨_, _, _, _, rfl, hm⟩
theorem spots_iter {target : PySem.Expr} {sp : Addr} {vs : List Value} {ds : List (Int × Int)} {nn : Nat} {m₀ : Str → Option Value} {news : List (Addr × Obj)} (B C : Str)
    (hh : A.handled = none) (hl : (sp, listOf vs.toArray nn) ∈ news) (hd : DatAll news vs (ds.map spotD)) (F : Fr h₀ env.locals s.heap m₀) (N : News h₀ env.locals s.heap news)
    (turn : ∀ (b e : Int) (a : Addr) (n : Nat) (t1 t2 : Tok) (u1 u2 : Option Value) h tk own, (b, e) ∈ ds → Fr h₀ env.locals h (fun y => if y = B then u1 else if y = C then u2 else m₀ y) → News h₀ env.locals h ((a, tupO b e t1 t2 n) :: (own ++ news)) →
      wpAny (model prog w) A (assign target env (.ref a)) (fun _ s₃ => wpAny (model prog w) A (execs body env) (SpPost h₀ env.locals B C m₀ (own ++ news) { s with heap := h, toks := tk } Q) E s₃) E { s with heap := h, toks := tk })
    (done : ∀ (u1 u2 : Option Value) h tk, Fr h₀ env.locals h (fun y => if y = B then u1 else if y = C then u2 else m₀ y) → News h₀ env.locals h news → Q .next { s with heap := h, toks := tk }) :
    wpAny (model prog w) A (pyIter (.ref sp)) (fun it s₂ => TurnsAt prog w A h₀ env target body Q E it s₂) E s := by
  have hol : s.heap.get? sp = some (listOf vs.toArray nn) := (N _ hl).1
  have hls : s.heap.IsList sp vs.toArray := ⟨_, hol, rfl, nn, rfl⟩
  have hne : sp ≠ s.heap.objs.size := Nat.ne_of_lt (Heap.lt_size hol)
  refine wpAny_pyIter_list hls ?_
  have W := Walks.list (prog := prog) (w := w) hh s.heap.objs.size sp hne vs.toArray
  have hlen : vs.toArray.size = vs.length := by simp
  rw [hlen] at W
  refine ⟨_, _, _, vs.length, _, _, _, m₀, news, (fun i m nx => nx = news ∧ ∃ u1 u2, m = fun y => if y = B then u1 else if y = C then u2 else m₀ y), rfl, KTurns.ofWalks W (fun i v s Q E st q => letGo_listiter st.1 q), ?_, ?_, ?_, ⟨⟨_, Heap.get?_push_size _ rfl, rfl, rfl⟩, hls.at fun o e => Heap.get?_push_of_some _ e⟩, F.push _, (fun p hp => ⟨Heap.get?_push_of_some _ (N p hp).1, (N p hp).2⟩), ⟨rfl, m₀ B, m₀ C, ?_⟩, ?_, ?_⟩
  · intro hm
    rcases List.mem_cons.mp hm with e | hm
    · exact absurd F.ns.lt (e ▸ Nat.lt_irrefl _)
    · exact (N _ hl).2.1 ((List.mem_singleton.mp hm).symm)
  · intro b hb
    rw [List.mem_singleton.mp hb]
    exact next_is_new F
  · intro p hp hI
    exact absurd (Heap.lt_size (N p hp).1) ((List.mem_singleton.mp hI) ▸ Nat.lt_irrefl _)
  · funext y
    by_cases h1 : y = B
    · rw [if_pos h1, h1]
    · rw [if_neg h1]
      by_cases h2 : y = C
      · rw [if_pos h2, h2]
      · rw [if_neg h2]
  · rintro i v m₁ news₁ h₁ tk₁ own hin hP ⟨rfl, u1, u2, rfl⟩ hoff hown hget hfp hst F₁ N₁
    have hP' : vs[i]? = some v := by simpa using hP
    have hi : i < (ds.map spotD).length := by rw [← hd.length]; exact (List.getElem?_eq_some_iff.mp hP').1
    obtain ⟨v', hv', hD⟩ := hd.get hi
    have ev : v' = v := by rw [hP'] at hv'; exact (Option.some.inj hv').symm
    rw [ev] at hD
    have hi' : i < ds.length := by simpa using hi
    have hg : (ds.map spotD)[i]'hi = spotD (ds[i]'hi') := by simp
    rw [hg] at hD
    obtain ⟨a, n, t1, t2, rfl, hm⟩ := spot_in hD
    have N₂ : News h₀ env.locals h₁ ((a, tupO (ds[i]'hi').1 (ds[i]'hi').2 t1 t2 n) :: (own ++ news₁)) := fun p hp => by
      rcases List.mem_cons.mp hp with rfl | hp
      · exact N₁ _ (List.mem_append_right _ hm)
      · exact N₁ _ hp
    refine wpAny_mono (turn _ _ a n t1 t2 u1 u2 h₁ tk₁ own (List.getElem_mem hi') F₁ N₂) (fun _ s₃ p => wpAny_mono p (fun f s₄ q => ?_) fun _ _ e => e) fun _ _ e => e
    have fin : SpEnd h₀ env.locals B C m₀ (own ++ news₁) { s with heap := h₁, toks := tk₁ } s₄ → LoopStepU h₀ env.locals [s.heap.objs.size] own (fun m nx => nx = news₁ ∧ ∃ u1 u2, m = fun y => if y = B then u1 else if y = C then u2 else m₀ y) { s with heap := h₁, toks := tk₁ } .next s₄ := by
      rintro ⟨h', tk, v1, v2, e, F', N'⟩
      exact ⟨rfl, h', tk, _, news₁, e, F', N', hoff, rfl, v1, v2, rfl⟩
    cases f with
    | ret v => exact .ret q
    | brk => exact .brk q
    | next => exact .next (fin q)
    | cont => exact .cont (fin q)
  · rintro h' tk m' news' F' N' _ ⟨rfl, u1, u2, rfl⟩
    exact done u1 u2 h' tk F' N'
/-! the loop that builds -/
structure LS where
  x : Str
  xt : Tok
  t : Str
  tt : Tok
  a : Int
  ta : Tok
  b : Int
  tb : Tok
  vs : List Value
  vn : Nat
  ds : List (Int × Int)
abbrev LLed (j l sp : Addr) (c0 c2 : Nat) (cells : List Value) (c : LS) : List (Addr × Obj) := [(j, listOf #[.int c.a c.ta, .int c.b c.tb, .ref l] c0), (l, listOf cells.toArray c2), (sp, listOf c.vs.toArray c.vn)]
abbrev LPs (c : LS) : List (Str × Value) := [(Str.ofString "letters", .str c.x c.xt), (Str.ofString "told", .str c.t c.tt)]
abbrev LFacts (news : List (Addr × Obj)) (c : LS) : Prop := DatAll news c.vs (c.ds.map spotD)
structure LInv (ah : List Nat) (k : Nat) (c : LS) : Prop where
  built : Built ah c.x.cps.toList c.t.cps.toList c.ds k
  a0 : 0 ≤ c.a
  a1 : c.a < 10 ^ 60
  b0 : 0 ≤ c.b
  b1 : c.b ≤ 2 + 2 * (k : Int)
abbrev LK (j l sp : Addr) (c0 c2 : Nat) (cells : List Value) (m₀ : Str → Option Value) (ah : List Nat) (pre : List Int) : (Str → Option Value) → List (Addr × Obj) → Prop :=
  KdS (LLed j l sp c0 c2 cells) [] LPs LFacts (Str.ofString "turn") [Str.ofString "piece"] m₀ (fun pre c => LInv ah pre.length c) [j, l, sp] pre
theorem lend_soft {j l sp : Addr} {c0 c2 : Nat} {cells : List Value} {m₀ m' : Str → Option Value} {ah : List Nat} {pre : List Int} {k : Int} {own tl : List (Addr × Obj)} {L : Addr} {s₁ : Shared} {h' : Heap} {tk : Nat} {x' t' : Str} {xt' tt' ta' tb' : Tok} {a' b' : Int} {vs : List Value} {vn : Nat} {ds : List (Int × Int)}
    (h0 : KdSep own tl [j, l, sp]) (F : Fr h₀ L h' m') (N : News h₀ L h' ((j, listOf #[.int a' ta', .int b' tb', .ref l] c0) :: (l, listOf cells.toArray c2) :: (sp, listOf vs.toArray vn) :: (tl ++ own)))
    (hf : DatAll tl vs (ds.map spotD)) (hx : m' (Str.ofString "letters") = some (.str x' xt')) (ht : m' (Str.ofString "told") = some (.str t' tt')) (hr : ∀ z, z ≠ Str.ofString "turn" → z ≠ Str.ofString "letters" → z ≠ Str.ofString "told" → z ≠ Str.ofString "piece" → m' z = m₀ z)
    (hi : LInv ah (pre.length + 1) ⟨x', xt', t', tt', a', ta', b', tb', vs, vn, ds⟩) :
    InvEndG h₀ L (LK j l sp c0 c2 cells m₀ ah (pre ++ [k])) own s₁ { s₁ with heap := h', toks := tk } := by
  refine kd_end (⟨x', xt', t', tt', a', ta', b', tb', vs, vn, ds⟩ : LS) [] h0 F N ?_ (fun p hp => .tail _ (.tail _ (.tail _ (List.mem_append.mpr (.inr hp))))) rfl (fun _ h => nomatch h) (fun _ h => nomatch h) ?_ ?_ hf ?_
  · intro p hp
    simp only [LLed, List.nil_append, List.cons_append, List.mem_cons] at hp ⊢
    rcases hp with rfl | rfl | rfl | hp
    · exact .inl rfl
    · exact .inr (.inl rfl)
    · exact .inr (.inr (.inl rfl))
    · exact .inr (.inr (.inr (List.mem_append.mpr (.inl hp))))
  · intro p hp
    rcases List.mem_cons.mp hp with rfl | hp
    · exact hx
    rcases List.mem_cons.mp hp with rfl | hp
    · exact ht
    cases hp
  · intro z h1 h2 h3
    refine hr z h1 (h2 _ (.head _)) (h2 _ (.tail _ (.head _))) ?_
    intro e; subst e; simp at h3
  · rw [List.length_append]; exact hi
theorem lend_solid {j l sp : Addr} {c0 c2 : Nat} {cells : List Value} {m₀ m' : Str → Option Value} {ah : List Nat} {pre : List Int} {k : Int} {own tl : List (Addr × Obj)} {L : Addr} {s₁ : Shared} {h' : Heap} {tk : Nat} {x' t' : Str} {xt' tt' ta' tb' : Tok} {a' b' : Int} {vs : List Value} {vn : Nat} {ds : List (Int × Int)} {q : Addr} {tb te : Int} {t1 t2 : Tok} {tn : Nat}
    (h0 : KdSep own tl [j, l, sp]) (F : Fr h₀ L h' m') (N : News h₀ L h' ((q, tupO tb te t1 t2 tn) :: (j, listOf #[.int a' ta', .int b' tb', .ref l] c0) :: (l, listOf cells.toArray c2) :: (sp, listOf (vs.toArray.push (.ref q)) vn) :: (tl ++ own)))
    (hq : j < q ∧ l < q ∧ sp < q ∧ AllLt q (tl ++ own))
    (hf : DatAll tl vs (ds.map spotD)) (hx : m' (Str.ofString "letters") = some (.str x' xt')) (ht : m' (Str.ofString "told") = some (.str t' tt')) (hr : ∀ z, z ≠ Str.ofString "turn" → z ≠ Str.ofString "letters" → z ≠ Str.ofString "told" → z ≠ Str.ofString "piece" → m' z = m₀ z)
    (hi : LInv ah (pre.length + 1) ⟨x', xt', t', tt', a', ta', b', tb', vs ++ [.ref q], vn, ds ++ [(tb, te)]⟩) :
    InvEndG h₀ L (LK j l sp c0 c2 cells m₀ ah (pre ++ [k])) own s₁ { s₁ with heap := h', toks := tk } := by
  rw [List.push_toArray] at N
  refine kd_end (⟨x', xt', t', tt', a', ta', b', tb', vs ++ [.ref q], vn, ds ++ [(tb, te)]⟩ : LS) [(q, tupO tb te t1 t2 tn)] h0 F N ?_ (fun p hp => .tail _ (.tail _ (.tail _ (.tail _ (List.mem_append.mpr (.inr hp)))))) rfl ?_ ?_ ?_ ?_ ?_ ?_
  · intro p hp
    simp only [LLed, List.nil_append, List.cons_append, List.mem_cons] at hp ⊢
    rcases hp with rfl | rfl | rfl | rfl | hp
    · exact .inr (.inl rfl)
    · exact .inr (.inr (.inl rfl))
    · exact .inr (.inr (.inr (.inl rfl)))
    · exact .inl rfl
    · exact .inr (.inr (.inr (.inr (List.mem_append.mpr (.inl hp)))))
  · intro p hp b hb
    rw [List.mem_singleton.mp hp]
    simp only [List.mem_cons, List.not_mem_nil, or_false] at hb
    rcases hb with rfl | rfl | rfl
    · exact Nat.ne_of_lt hq.1
    · exact Nat.ne_of_lt hq.2.1
    · exact Nat.ne_of_lt hq.2.2.1
  · intro p hp r hr'
    rw [List.mem_singleton.mp hp]
    exact Nat.ne_of_lt (kst_ltOf hq.2.2.2 r (List.mem_append.mpr (.inr hr')))
  · intro p hp
    rcases List.mem_cons.mp hp with rfl | hp
    · exact hx
    rcases List.mem_cons.mp hp with rfl | hp
    · exact ht
    cases hp
  · intro z h1 h2 h3
    refine hr z h1 (h2 _ (.head _)) (h2 _ (.tail _ (.head _))) ?_
    intro e; subst e; simp at h3
  · show DatAll ((q, tupO tb te t1 t2 tn) :: tl) (vs ++ [.ref q]) ((ds ++ [(tb, te)]).map spotD)
    rw [List.map_append]
    refine DatAll.append (DatAll.mono (fun p hp => .tail _ hp) hf) (DatAll.one ?_)
    exact DatIn.tuple (vs := [.int tb t1, .int te t2]) (.head _) (.cons (.int _ _) (.cons (.int _ _) .nil))
  · rw [List.length_append]; exact hi
end
end Mine
end

section
open PySem PySem.W PySem.Calls PyProof.Rows PyProof.V PySem.Spec
set_option maxRecDepth 100000
set_option linter.all false
set_option maxHeartbeats 0
namespace Mine
theorem cells_len (ns : List Int) : 0 < (List.take 40 (ns ++ [0])).length ∧ (List.take 40 (ns ++ [0])).length ≤ 64 := by
  simp only [List.length_take, List.length_append, List.length_cons, List.length_nil]
  omega
theorem solids_c : solids.map (fun q => q.cps.toList) = solidC := by decide +kernel
theorem softs_c : softs.map (fun q => q.cps.toList) = softC := by decide +kernel
theorem solid_c {q : Str} (h : q ∈ solids) : q.cps.toList ∈ solidC := solids_c ▸ List.mem_map.mpr ⟨q, h, rfl⟩
theorem soft_c {q : Str} (h : q ∈ softs) : q.cps.toList ∈ softC := softs_c ▸ List.mem_map.mpr ⟨q, h, rfl⟩
theorem len_c (q : Str) : q.length = q.cps.toList.length := by simp [Str.length]
theorem solid_len {q : Str} (h : q ∈ solids) : q.length ≤ 10 := by rw [len_c]; exact (solid_step (solid_c h) []).2.2.1
theorem soft_len {q : Str} (h : q ∈ softs) : q.length ≤ 10 := by rw [len_c]; exact (soft_step (soft_c h) []).2
def aheads : List Str := [Str.ofString "", Str.ofString "x ", Str.ofString "\n"]
theorem ahead_len {q : Str} (h : q ∈ aheads) : q.length ≤ 2 := by
  unfold aheads at h
  simp only [List.mem_cons, List.not_mem_nil, or_false] at h
  rcases h with rfl | rfl | rfl <;> decide +kernel
theorem linv_len {ah : Str} {k : Nat} {c : LS} (h : LInv ah.cps.toList k c) (hah : ah.length ≤ 2) (hk : k ≤ 8) : c.x.length ≤ 100 ∧ c.t.length ≤ 100 := by
  have := h.built.ok.2.2
  rw [len_c, len_c c.t]
  rw [len_c] at hah
  omega
theorem built_len {ah x t : List Nat} {d : List (Int × Int)} {n : Nat} (h : Built ah x t d n) : d.length ≤ n := by
  induction h with
  | start => simp
  | soft _ _ ih => omega
  | solid _ _ ih => simp only [List.length_append, List.length_cons, List.length_nil]; omega
theorem vs_len {ah : List Nat} {k : Nat} {x t : Str} {xt tt ta tb : Tok} {a b : Int} {vs : List Value} {vn : Nat} {ds : List (Int × Int)} {news : List (Addr × Obj)} (h : LInv ah k ⟨x, xt, t, tt, a, ta, b, tb, vs, vn, ds⟩) (hd : DatAll news vs (ds.map spotD)) (hk : k ≤ 8) : vs.length ≤ 8 := by
  have h1 := built_len h.built
  have h2 := hd.length
  rw [List.length_map] at h2
  have h3 : ds.length ≤ k := h1
  omega
theorem app_cps (a b : Str) : (a ++ b).cps.toList = a.cps.toList ++ b.cps.toList := by
  show (a.cps ++ b.cps).toList = _
  exact Array.toList_append
theorem sp_c : (Str.ofString " ").cps.toList = [32] := by decide +kernel
theorem sp2_c : (Str.ofString "  ").cps.toList = [32, 32] := by decide +kernel
section
variable {ah : Str} {k : Nat} {x t : Str} {xt tt ta tb : Tok} {a b : Int} {vs : List Value} {vn : Nat} {ds : List (Int × Int)}
theorem linv_soft {xt' tt' ta' tb' : Tok} {a' b' : Int} {q : Str} {vn' : Nat} (h : LInv ah.cps.toList k ⟨x, xt, t, tt, a, ta, b, tb, vs, vn, ds⟩) (hq : q ∈ softs) (h0 : 0 ≤ a') (h1 : a' < 10 ^ 60) (h2 : 0 ≤ b') (h3 : b' ≤ b + 1 + 1) :
    LInv ah.cps.toList (k + 1) ⟨x ++ q ++ Str.ofString " ", xt', t ++ Str.ofString "  ", tt', a', ta', b', tb', vs, vn', ds⟩ := by
  refine ⟨?_, h0, h1, h2, ?_⟩
  · show Built _ (x ++ q ++ Str.ofString " ").cps.toList (t ++ Str.ofString "  ").cps.toList ds (k + 1)
    rw [app_cps, app_cps, app_cps, sp_c, sp2_c]
    exact Built.soft h.built (soft_c hq)
  · have := h.b1
    show b' ≤ 2 + 2 * ((k + 1 : Nat) : Int)
    have e : b ≤ 2 + 2 * (k : Int) := this
    omega
theorem linv_solid {xt' tt' ta' tb' : Tok} {a' b' : Int} {q : Str} {vn' : Nat} {v : Value} (h : LInv ah.cps.toList k ⟨x, xt, t, tt, a, ta, b, tb, vs, vn, ds⟩) (hq : q ∈ solids) (h0 : 0 ≤ a') (h1 : a' < 10 ^ 60) (h2 : 0 ≤ b') (h3 : b' ≤ b + 1 + 1) :
    LInv ah.cps.toList (k + 1) ⟨x ++ q ++ Str.ofString " ", xt', t ++ q ++ Str.ofString " ", tt', a', ta', b', tb', vs ++ [v], vn', ds ++ [((x.length : Int), (x.length : Int) + (q.length : Int))]⟩ := by
  refine ⟨?_, h0, h1, h2, ?_⟩
  · show Built _ (x ++ q ++ Str.ofString " ").cps.toList (t ++ q ++ Str.ofString " ").cps.toList (ds ++ [((x.length : Int), (x.length : Int) + (q.length : Int))]) (k + 1)
    rw [app_cps, app_cps, app_cps, app_cps, sp_c, len_c x, len_c q]
    exact Built.solid h.built (solid_c hq)
  · have := h.b1
    show b' ≤ 2 + 2 * ((k + 1 : Nat) : Int)
    have e : b ≤ 2 + 2 * (k : Int) := this
    omega
end
section
variable {prog : Program} {w : World} {A : Around} {E : Value → Shared → Prop} {s : Shared} {env : Env} {h₀ : Heap} {body : List Stmt} {Q : Flow → Shared → Prop}
theorem item_menu {value slice : PySem.Expr} {l : Addr} {vs : List Value} {ws : List Str} {i : Int} {u : Tok} {Q : Value → Shared → Prop} (hl : s.heap.IsList l vs.toArray) (hw : StrsAre vs ws) (h0 : 0 ≤ i) (h1 : i < (ws.length : Int)) (hfit : i < 2 ^ 63) (h : ∀ q t', q ∈ ws → Q (.str q t') s)
    (hs : subscripted slice false (.ref l) (.int i u) = operate [.ref l, .int i u] (getItem (.ref l) (.int i u)) := by with_unfolding_all rfl) :
    wpAny (model prog w) A (subscriptTail value slice (.ref l) (.int i u)) Q E s :=
  KTb.item_list hl hw h0 h1 hfit (fun t' hlt => h _ t' (getD_mem hlt)) hs
theorem law_range {r : Addr} {b₀ : Int} {t₀ u₀ v₀ : Tok} {m₀ : Str → Option Value} {j l sp : Addr} {c0 c2 vn : Nat} {cells : List Value} {ah : Str} {t1 t2 : Tok} {a b : Int} {ta tb : Tok} {rest : List (Addr × Obj)}
    (hh : A.handled = none) (hr : IsRange s.heap r 0 b₀ 1 t₀ u₀ v₀) (hb0 : 0 ≤ b₀) (hb9 : b₀ < 9) (F : Fr h₀ env.locals s.heap m₀)
    (N : News h₀ env.locals s.heap ((j, listOf #[.int a ta, .int b tb, .ref l] c0) :: (l, listOf cells.toArray c2) :: (sp, listOf #[] vn) :: rest))
    (hx : m₀ (Str.ofString "letters") = some (.str ah t1)) (ht : m₀ (Str.ofString "told") = some (.str (Str.ofString "") t2)) (ha0 : 0 ≤ a) (ha1 : a < 10 ^ 60) (hc0 : 0 ≤ b) (hc1 : b ≤ 2)
    (turn : ∀ (x : Str) (xt : Tok) (t : Str) (tt : Tok) (a : Int) (ta : Tok) (b : Int) (tb : Tok) (vs : List Value) (vn : Nat) (ds : List (Int × Int)) (tl own : List (Addr × Obj)) (pre : List Int) (k : Int) (kt : Tok) (u : Str → Option Value) h tk, pre.length < 8 → KdSep own tl [j, l, sp] → (∀ p ∈ tl ++ own, p.1 ≠ j) → (∀ p ∈ tl ++ own, p.1 ≠ l) → (∀ p ∈ tl ++ own, p.1 ≠ sp) → DatAll tl vs (ds.map spotD) →
      LInv ah.cps.toList pre.length ⟨x, xt, t, tt, a, ta, b, tb, vs, vn, ds⟩ →
      Fr h₀ env.locals h (fun y => if y = Str.ofString "turn" then some (.int k kt) else if y = Str.ofString "letters" then some (.str x xt) else if y = Str.ofString "told" then some (.str t tt) else if [Str.ofString "piece"].contains y then u y else m₀ y) →
      News h₀ env.locals h ((j, listOf #[.int a ta, .int b tb, .ref l] c0) :: (l, listOf cells.toArray c2) :: (sp, listOf vs.toArray vn) :: (tl ++ own)) →
      wpAny (model prog w) A (execs body env) (InvPostG h₀ env.locals (LK j l sp c0 c2 cells m₀ ah.cps.toList (pre ++ [k])) own { s with heap := h, toks := tk } Q) E { s with heap := h, toks := tk })
    (done : ∀ (x : Str) (xt : Tok) (t : Str) (tt : Tok) (a : Int) (ta : Tok) (b : Int) (tb : Tok) (vs : List Value) (vn : Nat) (ds : List (Int × Int)) (tl : List (Addr × Obj)) (n : Nat) (u : Str → Option Value) h tk, n ≤ 8 → (∀ p ∈ tl, p.1 ≠ j) → (∀ p ∈ tl, p.1 ≠ l) → (∀ p ∈ tl, p.1 ≠ sp) → DatAll tl vs (ds.map spotD) →
      LInv ah.cps.toList n ⟨x, xt, t, tt, a, ta, b, tb, vs, vn, ds⟩ →
      Fr h₀ env.locals h (fun y => if y = Str.ofString "turn" then u y else if y = Str.ofString "letters" then some (.str x xt) else if y = Str.ofString "told" then some (.str t tt) else if [Str.ofString "piece"].contains y then u y else m₀ y) →
      News h₀ env.locals h ((j, listOf #[.int a ta, .int b tb, .ref l] c0) :: (l, listOf cells.toArray c2) :: (sp, listOf vs.toArray vn) :: tl) → Q .next { s with heap := h, toks := tk }) :
    wpAny (model prog w) A (pyIter (.ref r)) (fun it s₂ => LoopAtV prog w A h₀ env (Str.ofString "turn") body Q E it s₂) E s := by
  obtain ⟨n, rfl⟩ := Int.eq_ofNat_of_zero_le hb0
  have e0 : (Str.ofString "").cps.toList = [] := by decide +kernel
  refine kd_range (σ := LS) (LLed j l sp c0 c2 cells) [] LPs LFacts [Str.ofString "piece"] (fun pre c => LInv ah.cps.toList pre.length c) [j, l, sp] ⟨ah, t1, Str.ofString "", t2, a, ta, b, tb, [], vn, []⟩ hh hr (small_one (by omega) (by omega) (by omega) (by omega)) (n := n) ?_ F N ?_ (fun _ => rfl) .nil ?_ ⟨?_, ha0, ha1, hc0, by simpa using hc1⟩ ?_ ?_
  · exact rangeSize_nat _ _
  · intro p hp
    simp only [LLed, List.nil_append, List.cons_append, List.append_nil, List.mem_cons, List.not_mem_nil, or_false] at hp
    rcases hp with rfl | rfl | rfl
    · exact .head _
    · exact .tail _ (.head _)
    · exact .tail _ (.tail _ (.head _))
  · intro p hp
    rcases List.mem_cons.mp hp with rfl | hp
    · exact hx
    rcases List.mem_cons.mp hp with rfl | hp
    · exact ht
    cases hp
  · show Built _ ah.cps.toList (Str.ofString "").cps.toList [] 0
    rw [e0]
    exact .start
  · rintro ⟨x, xt, t, tt, a, ta, b, tb, vs, vn, ds⟩ tl pre k kt u h tk own hk hlt h1 h2 hf hi F N
    exact turn x xt t tt a ta b tb vs vn ds tl own pre k kt u h tk (by omega) h1 (fun p hp => h2 p hp j (.head _)) (fun p hp => h2 p hp l (.tail _ (.head _))) (fun p hp => h2 p hp sp (.tail _ (.tail _ (.head _)))) hf hi F N
  · rintro ⟨x, xt, t, tt, a, ta, b, tb, vs, vn, ds⟩ tl u h tk h2 hf hi F N
    refine done x xt t tt a ta b tb vs vn ds tl n u h tk (by omega) (fun p hp => h2 p hp j (.head _)) (fun p hp => h2 p hp l (.tail _ (.head _))) (fun p hp => h2 p hp sp (.tail _ (.tail _ (.head _)))) hf ?_ F N
    have hl : (rangeKs 0 n).length = n := rangeKs_length _ _
    have hi' : LInv ah.cps.toList (rangeKs 0 n).length ⟨x, xt, t, tt, a, ta, b, tb, vs, vn, ds⟩ := hi
    rw [hl] at hi'
    exact hi'
end
end Mine
end

section
open PySem PySem.W PySem.Calls PyProof.Rows PyProof.V PySem.Spec
set_option maxRecDepth 100000
set_option linter.all false
set_option maxHeartbeats 0
namespace Mine
abbrev T1 : Str := Str.ofString "// to the end \" \\"
abbrev T2 : Str := Str.ofString "\"open /"
abbrev MO : Str := Str.ofString "\nmore \" text"
theorem T1_c : T1.cps.toList = tail1 := by decide +kernel
theorem T2_c : T2.cps.toList = tail2 := by decide +kernel
theorem MO_c : MO.cps.toList = moreC := by decide +kernel
structure FinOK (ah X T : Str) (stop : Int) (ds : List (Int × Int)) : Prop where
  spots : ∀ b e, (b, e) ∈ ds → 0 ≤ b ∧ b < (X.length : Int) ∧ wholeEnd X b = e
  body : BInv X T.cps.toList stop (ah.length : Int) []
  lenX : X.length ≤ 200
  lenT : T.length ≤ 200
  stop : stop ≤ 200
theorem fin_gen {ah x t X T : Str} {k : Nat} {xt tt ta tb : Tok} {a b : Int} {vs : List Value} {vn : Nat} {ds ex : List (Int × Int)} {z tl : List Nat} {n : Nat} {st : Int}
    (h : LInv ah.cps.toList k ⟨x, xt, t, tt, a, ta, b, tb, vs, vn, ds⟩) (hk : k ≤ 8) (hah : ah.length ≤ 2)
    (hX : X.cps.toList = x.cps.toList ++ z) (hT : T.cps.toList = t.cps.toList ++ tl) (hb : Body z tl n) (hz : z.length ≤ 40) (ht : tl.length ≤ 40) (hn : n ≤ 40) (hst : st = (x.length : Int) + (n : Int)) (hex : ∀ p ∈ ex, SpotOK X.cps.toList p) :
    FinOK ah X T st (ds ++ ex) := by
  obtain ⟨⟨y, hy, hbd⟩, hs, hl, htl⟩ := h.built.ok
  dsimp only at hy hbd hs hl htl
  have e1 : ah.cps.toList.length = ah.length := (len_c ah).symm
  have e2 : x.cps.toList.length = x.length := (len_c x).symm
  have e3 : t.cps.toList.length = t.length := (len_c t).symm
  have e4 : X.length = x.length + z.length := by rw [len_c, hX, List.length_append, e2]
  have e5 : T.length = t.length + tl.length := by rw [len_c, hT, List.length_append, e3]
  have hyl : x.length = ah.length + y.length := by rw [← e2, hy, List.length_append, e1]
  refine ⟨fun b e hp => ?_, ⟨t.cps.toList ++ tl, y.length + n, ?_, by rw [hT]; rfl, by rw [hst]; omega⟩, by omega, by omega, by omega⟩
  · have hp' : SpotOK X.cps.toList (b, e) := by
      rcases List.mem_append.mp hp with hp | hp
      · rw [hX]; exact hs z _ hp
      · exact hex _ hp
    obtain ⟨q1, q2, q3⟩ := hp'
    refine ⟨q1, by rw [len_c]; exact q2, ?_⟩
    unfold wholeEnd suf
    exact q3.symm
  · have e : suf X (ah.length : Int) = y ++ z := by
      unfold suf
      rw [hX, hy, show ((ah.length : Int)).toNat = ah.cps.toList.length by rw [e1]; omega, List.append_assoc, List.drop_left]
    rw [e]
    exact hbd _ _ _ hb
section
variable {ah x t : Str} {k : Nat} {xt tt ta tb : Tok} {a b : Int} {vs : List Value} {vn : Nat} {ds : List (Int × Int)}
theorem fin00 (h : LInv ah.cps.toList k ⟨x, xt, t, tt, a, ta, b, tb, vs, vn, ds⟩) (hk : k ≤ 8) (hah : ah.length ≤ 2) : FinOK ah x t (x.length : Int) ds := by
  have := fin_gen (X := x) (T := t) (ex := []) (st := (x.length : Int)) h hk hah (by simp) (by simp) done0 (by decide) (by decide) (by decide) (by simp) (fun _ h => nomatch h)
  simpa using this
theorem fin01 (h : LInv ah.cps.toList k ⟨x, xt, t, tt, a, ta, b, tb, vs, vn, ds⟩) (hk : k ≤ 8) (hah : ah.length ≤ 2) : FinOK ah (x ++ MO) t (x.length : Int) ds := by
  have := fin_gen (X := x ++ MO) (T := t) (ex := []) (st := (x.length : Int)) h hk hah (by rw [app_cps, MO_c]) (by simp) done1 (by decide) (by decide) (by decide) (by simp) (fun _ h => nomatch h)
  simpa using this
theorem appLen (a b : Str) : (a ++ b).length = a.length + b.length := by rw [len_c, app_cps, List.length_append, ← len_c, ← len_c]
theorem fin10 (h : LInv ah.cps.toList k ⟨x, xt, t, tt, a, ta, b, tb, vs, vn, ds⟩) (hk : k ≤ 8) (hah : ah.length ≤ 2) : FinOK ah (x ++ T1) (t ++ Str.ofString " ") ((x ++ T1).length : Int) ds := by
  have := fin_gen (X := x ++ T1) (T := t ++ Str.ofString " ") (ex := []) (st := ((x ++ T1).length : Int)) h hk hah (by rw [app_cps, T1_c]) (by rw [app_cps, sp_c]) end10 (by decide) (by decide) (by decide) (by rw [appLen, show T1.length = 17 by decide +kernel]; omega) (fun _ h => nomatch h)
  simpa using this
theorem fin11 (h : LInv ah.cps.toList k ⟨x, xt, t, tt, a, ta, b, tb, vs, vn, ds⟩) (hk : k ≤ 8) (hah : ah.length ≤ 2) : FinOK ah (x ++ T1 ++ MO) (t ++ Str.ofString " ") ((x ++ T1).length : Int) ds := by
  have := fin_gen (X := x ++ T1 ++ MO) (T := t ++ Str.ofString " ") (ex := []) (st := ((x ++ T1).length : Int)) h hk hah (by rw [app_cps, app_cps, T1_c, MO_c, List.append_assoc]) (by rw [app_cps, sp_c]) end11 (by decide) (by decide) (by decide) (by rw [appLen, show T1.length = 17 by decide +kernel]; omega) (fun _ h => nomatch h)
  simpa using this
theorem spot2 {z : List Nat} (hw : wholeLen (tail2 ++ z) = 7) : SpotOK (x.cps.toList ++ (tail2 ++ z)) ((x.length : Int), (x.length : Int) + 7) := by
  have e2 : x.cps.toList.length = x.length := (len_c x).symm
  refine ⟨by simp, ?_, ?_⟩
  · simp only [List.length_append, e2, show tail2.length = 7 by decide]
    omega
  · have : (x.cps.toList ++ (tail2 ++ z)).drop ((x.length : Int)).toNat = tail2 ++ z := by
      rw [show ((x.length : Int)).toNat = x.cps.toList.length by rw [e2]; omega, List.drop_left]
    simp only [this, hw]
    rfl
theorem fin20 (h : LInv ah.cps.toList k ⟨x, xt, t, tt, a, ta, b, tb, vs, vn, ds⟩) (hk : k ≤ 8) (hah : ah.length ≤ 2) : FinOK ah (x ++ T2) (t ++ T2) ((x ++ T2).length : Int) (ds ++ [((x.length : Int), (x.length : Int) + 7)]) := by
  refine fin_gen (X := x ++ T2) (T := t ++ T2) (st := ((x ++ T2).length : Int)) h hk hah (by rw [app_cps, T2_c]) (by rw [app_cps, T2_c]) end20 (by decide) (by decide) (by decide) (by rw [appLen, show T2.length = 7 by decide +kernel]; omega) (fun p hp => ?_)
  rw [List.mem_singleton.mp hp, app_cps, T2_c]
  have := spot2 (x := x) (z := []) (by rw [List.append_nil]; exact t2_step0.2)
  simpa using this
theorem fin21 (h : LInv ah.cps.toList k ⟨x, xt, t, tt, a, ta, b, tb, vs, vn, ds⟩) (hk : k ≤ 8) (hah : ah.length ≤ 2) : FinOK ah (x ++ T2 ++ MO) (t ++ T2) ((x ++ T2).length : Int) (ds ++ [((x.length : Int), (x.length : Int) + 7)]) := by
  refine fin_gen (X := x ++ T2 ++ MO) (T := t ++ T2) (st := ((x ++ T2).length : Int)) h hk hah (by rw [app_cps, app_cps, T2_c, MO_c, List.append_assoc]) (by rw [app_cps, T2_c]) end21 (by decide) (by decide) (by decide) (by rw [appLen, show T2.length = 7 by decide +kernel]; omega) (fun p hp => ?_)
  rw [List.mem_singleton.mp hp, app_cps, app_cps, T2_c, MO_c, List.append_assoc]
  exact spot2 (x := x) t2_step1.2
end
theorem dat1 {tl news : List (Addr × Obj)} {vs : List Value} {ds : List (Int × Int)} (h : DatAll tl vs (ds.map spotD)) (hs : ∀ p ∈ tl, p ∈ news) : DatAll news vs (ds.map spotD) := DatAll.mono hs h
theorem dat2 {tl news : List (Addr × Obj)} {vs : List Value} {ds : List (Int × Int)} {q : Addr} {tb te : Int} {t1 t2 : Tok} {tn : Nat} (h : DatAll tl vs (ds.map spotD)) (hs : ∀ p ∈ tl, p ∈ news) (hq : (q, tupO tb te t1 t2 tn) ∈ news) : DatAll news (vs ++ [.ref q]) ((ds ++ [(tb, te)]).map spotD) := by
  rw [List.map_append]
  refine DatAll.append (DatAll.mono hs h) (DatAll.one ?_)
  exact DatIn.tuple (vs := [.int tb t1, .int te t2]) hq (.cons (.int _ _) (.cons (.int _ _) .nil))
/-! the law's fixed text -/
abbrev FX : Str := Str.ofString "a \"// b\" /* c\n d */ e\\\nf // g\nh"
abbrev FT : Str := Str.ofString "a \"// b\"   e f  "
theorem FX_c : FX.cps.toList = fixedC := by decide +kernel
theorem FT_c : FT.cps.toList = fixedT := by decide +kernel
theorem fx_inv : BInv FX fixedT 29 0 [] := by
  refine ⟨fixedT, 29, ?_, rfl, rfl⟩
  unfold suf
  rw [FX_c]
  exact fixed_body
theorem len_T1 {x : Str} (h : x.length ≤ 100) : x.length + T1.length ≤ 16777216 := by rw [show T1.length = 17 by decide +kernel]; omega
theorem len_T2 {x : Str} (h : x.length ≤ 100) : x.length + T2.length ≤ 16777216 := by rw [show T2.length = 7 by decide +kernel]; omega
theorem fx_find : Txt.find FX (Str.ofString "\nh") = 29 := by decide +kernel
end Mine
end

section
open PySem PySem.W PySem.Calls PyProof.Rows PyProof.V PySem.Spec
set_option linter.all false
namespace Mine
theorem law_true (l : OpenLaw) {cl : Str → Option Addr} {mean : ExcName → Option Value} {args : List WData} {s₁ s' : Shared} {L : Addr} {m : Str → Option Value} (F : Fr s₁.heap L s'.heap m) (hg : s'.gens = #[]) (hos : s'.os = s₁.os) :
    GoodW l.row.claim cl mean args s₁ (.ok (.ret (.bool true))) s' :=
  goodW_bool F hg (raisesW_false allW_false_nil) (postW_of (r := l.row.toRowW) (by rfl) (w_eq_bool (w_res rfl) w_lit) rfl) hos
theorem not_minus {st : Int} (h : st = -1) (h' : st = 29) : False := by omega
end Mine
end

section
open PySem PySem.W PyProof.Rows
set_option maxRecDepth 100000
set_option maxHeartbeats 0
set_option linter.all false
namespace Mine
theorem fill8 (w : World) : (hd.heap_39 w.params, PySem.Challenge.rw_on0086_01) = (hd.heap_39 w.params, PySem.Challenge.rw_on0086_01) := by
  k_fill
  rfl
section
variable {w : World} {prog : Program} {p : Program} {loose : List Str} {mean : ExcName → Option Value} {mg mb : Str → Option Value} {news : List (Addr × Obj)}
  {dp un : Nat} {gd : Option (List Code)} {cn : Str} {cs : Scope} {a : Addr} {ccd : Value} {cl : List (Str × Addr)} {outer : List Env} {A₀ : Around} {base h₀ : Heap} {L : Addr} {m : Str → Option Value} {s : Shared} {Q E : Value → Shared → Prop}
theorem u_wh {ah X T : Str} {stop : Int} {ds : List (Int × Int)} {b e : Int} (fin : FinOK ah X T stop ds) (hbe : (b, e) ∈ ds) (t : Tok) (u : Tok)
    (B : Below A₀ base outer h₀) (F : Fr h₀ L s.heap m) (X_ : (hd.heap_39 w.params).In h₀) (N : News h₀ L s.heap news) (T_ : Top p loose mean mg mb h₀) (hk : cs.kind = .function)
    (hd : dp + 2 < recursionLimit) (hu : un + 16 < cLine)
    (hret : ∀ (t : Tok) (h' : Heap) (tk' : Nat), Fr h₀ L h' m → News h₀ L h' news → Q (.int e t) { s with heap := h', toks := tk' }) :
    wpAny (model prog w) (ktrTop dp un gd cn cs L a ccd cl outer) (call (.ref 56) [.str X t, .int b u]) Q E s := by
  obtain ⟨h1, h2, h3⟩ := fin.spots b e hbe
  have h4 := fin.lenX
  refine c_wh X t b u B F X_ N T_ hk ⟨h1, by omega, by omega, h2⟩ hd hu ?_
  rw [h3]
  exact hret
theorem u_right {ah X T : Str} {stop st' : Int} {ds : List (Int × Int)} (fin : FinOK ah X T stop ds) (hst : st' = stop) (t u t3 t4 : Tok)
    (B : Below A₀ base outer h₀) (F : Fr h₀ L s.heap m) (X_ : (hd.heap_39 w.params).In h₀) (N : News h₀ L s.heap news) (T_ : Top p loose mean mg mb h₀) (hk : cs.kind = .function)
    (hd : dp + 4 < recursionLimit) (hu : un + 32 < cLine)
    (hret : ∀ (h' : Heap) (tk' : Nat), Fr h₀ L h' m → News h₀ L h' news → Q (.bool true) { s with heap := h', toks := tk' }) :
    wpAny (model prog w) (ktrTop dp un gd cn cs L a ccd cl outer) (call (.ref 91) [.str X t, .int (ah.length : Int) u, .str T t3, .int st' t4]) Q E s := by
  subst hst
  have h4 := fin.lenX
  have h5 := fin.lenT
  have h6 := fin.stop
  have h7 : T.cps.toList.length ≤ 4000 := by rw [← len_c]; omega
  exact c_right X T t (ah.length : Int) st' u t3 t4 T.cps.toList st' B F X_ N T_ hk ⟨by omega, by omega, by omega, h7, fin.body⟩ rfl rfl hd hu hret
theorem u_fixed {st' : Int} (hst : st' = 29) (t u t3 t4 : Tok)
    (B : Below A₀ base outer h₀) (F : Fr h₀ L s.heap m) (X_ : (hd.heap_39 w.params).In h₀) (N : News h₀ L s.heap news) (T_ : Top p loose mean mg mb h₀) (hk : cs.kind = .function)
    (hd : dp + 4 < recursionLimit) (hu : un + 32 < cLine)
    (hret : ∀ (h' : Heap) (tk' : Nat), Fr h₀ L h' m → News h₀ L h' news → Q (.bool true) { s with heap := h', toks := tk' }) :
    wpAny (model prog w) (ktrTop dp un gd cn cs L a ccd cl outer) (call (.ref 91) [.str FX t, .int 0 u, .str FT t3, .int st' t4]) Q E s := by
  subst hst
  exact c_right FX FT t 0 29 u t3 t4 fixedT 29 B F X_ N T_ hk ⟨by decide, by decide, by decide +kernel, by decide, fx_inv⟩ (by rw [← FT_c]) rfl hd hu hret
end
end Mine
end

section
open PySem PySem.W PySem.Calls PyProof.Rows PyProof.V PySem.Spec
set_option maxRecDepth 100000
set_option maxHeartbeats 0
set_option linter.all false
namespace Mine
local macro_rules | `(tactic| k_all) => `(tactic| with_reducible assumption)
theorem X : PySem.Challenge.rw_on0086_01.Holds := Mine.hd (by
  w_top off
  k_with_none
  k_with "call ref cons nil" => first | ((with_reducible show wpAny _ _ (call (Value.ref 70) _) _ _ _); (rename News _ _ _ _ => NU); k_dflt (refine' c_draw ?k1 ?k2 ?k3 NU ?k5 ?kK ?kj ?kl ?ki ?kp ?kd ?ku ?_); (case k1 => k_asm); (case k2 => k_asm); (case k3 => k_asm); (case k5 => k_asm); (case kK => first | exact rfl | assumption); (case kj => first | assumption | k_all); (case kl => first | assumption | k_ne); (case ki => assumption); (case kp => (refine ⟨(cells_len _).1, (cells_len _).2, ?_, ?_, ?_, ?_, ?_, ?_⟩ <;> first | assumption | omega | decide)); (case kd => ktr_room); (case ku => ktr_units); intro A9 B9 r9 ta9 tb9 tr9 h9 tk9 hA0 hA1 hB0 hB1 hr0 hr1 F9 N9; (first | ((have hr3 : r9 < 3 := by with_reducible exact hr1); (have hTl9 : n ≤ 8 := by with_reducible exact hlt); (clear hTl9); (obtain hr4 | hr4 | hr4 : r9 = 0 ∨ r9 = 1 ∨ r9 = 2 := by omega) <;> (subst hr4; clear hr0 hr1 hr3)) | skip); (try dsimp only); (try k_fold)) | ((with_reducible show wpAny _ _ (call (Value.ref 70) _) _ _ _); (rename News _ _ _ _ => NU); k_dflt (refine' c_draw ?k1 ?k2 ?k3 (perm3 NU) ?k5 ?kK ?kj ?kl ?ki ?kp ?kd ?ku ?_); (case k1 => k_asm); (case k2 => k_asm); (case k3 => k_asm); (case k5 => k_asm); (case kK => first | exact rfl | assumption); (case kj => first | assumption | k_all); (case kl => first | assumption | k_ne); (case ki => assumption); (case kp => (refine ⟨(cells_len _).1, (cells_len _).2, ?_, ?_, ?_, ?_, ?_, ?_⟩ <;> first | assumption | omega | decide)); (case kd => ktr_room); (case ku => ktr_units); intro A9 B9 r9 ta9 tb9 tr9 h9 tk9 hA0 hA1 hB0 hB1 hr0 hr1 F9 N9; (first | ((have hr3 : r9 < 3 := by with_reducible exact hr1); (have hTl9 : n ≤ 8 := by with_reducible exact hlt); (clear hTl9); (obtain hr4 | hr4 | hr4 : r9 = 0 ∨ r9 = 1 ∨ r9 = 2 := by omega) <;> (subst hr4; clear hr0 hr1 hr3)) | skip); (try dsimp only); (try k_fold)) | ((with_reducible show wpAny _ _ (call (Value.ref 70) _) _ _ _); (rename News _ _ _ _ => NU); k_dflt (refine' c_draw ?k1 ?k2 ?k3 (perm3 (perm3 NU)) ?k5 ?kK ?kj ?kl ?ki ?kp ?kd ?ku ?_); (case k1 => k_asm); (case k2 => k_asm); (case k3 => k_asm); (case k5 => k_asm); (case kK => first | exact rfl | assumption); (case kj => first | assumption | k_all); (case kl => first | assumption | k_ne); (case ki => assumption); (case kp => (refine ⟨(cells_len _).1, (cells_len _).2, ?_, ?_, ?_, ?_, ?_, ?_⟩ <;> first | assumption | omega | decide)); (case kd => ktr_room); (case ku => ktr_units); intro A9 B9 r9 ta9 tb9 tr9 h9 tk9 hA0 hA1 hB0 hB1 hr0 hr1 F9 N9; (first | ((have hr3 : r9 < 3 := by with_reducible exact hr1); (have hTl9 : n ≤ 8 := by with_reducible exact hlt); (clear hTl9); (obtain hr4 | hr4 | hr4 : r9 = 0 ∨ r9 = 1 ∨ r9 = 2 := by omega) <;> (subst hr4; clear hr0 hr1 hr3)) | skip); (try dsimp only); (try k_fold)) | ((with_reducible show wpAny _ _ (call (Value.ref 84) _) _ _ _); (rename News _ _ _ _ => NU); k_dflt (refine' c_soft ?k1 ?k2 ?k3 NU ?k5 ?kK ?kj ?kl ?ki ?kp ?kd ?ku ?_); (case k1 => k_asm); (case k2 => k_asm); (case k3 => k_asm); (case k5 => k_asm); (case kK => first | exact rfl | assumption); (case kj => first | assumption | k_all); (case kl => first | assumption | k_ne); (case ki => assumption); (case kp => (refine ⟨(cells_len _).1, (cells_len _).2, ?_, ?_, ?_, ?_⟩ <;> first | assumption | omega | decide)); (case kd => ktr_room); (case ku => ktr_units); intro A9 B9 q9 ta9 tb9 tr9 h9 tk9 hA0 hA1 hB0 hB1 hq9 F9 N9; (have hql := soft_len hq9); (try dsimp only); (try k_fold)) | ((with_reducible show wpAny _ _ (call (Value.ref 77) _) _ _ _); (rename News _ _ _ _ => NU); k_dflt (refine' c_solid ?k1 ?k2 ?k3 NU ?k5 ?kK ?kj ?kl ?ki ?kp ?kd ?ku ?_); (case k1 => k_asm); (case k2 => k_asm); (case k3 => k_asm); (case k5 => k_asm); (case kK => first | exact rfl | assumption); (case kj => first | assumption | k_all); (case kl => first | assumption | k_ne); (case ki => assumption); (case kp => (refine ⟨(cells_len _).1, (cells_len _).2, ?_, ?_, ?_, ?_⟩ <;> first | assumption | omega | decide)); (case kd => ktr_room); (case ku => ktr_units); intro A9 B9 q9 ta9 tb9 tr9 h9 tk9 hA0 hA1 hB0 hB1 hq9 F9 N9; (have hql := solid_len hq9); (try dsimp only); (try k_fold)) | ((first | ((with_reducible show wpAny _ _ (call (Value.ref 56) [Value.str x _, _]) _ _ _); k_dflt (refine' u_wh (fin00 hinv hlt hahl) hbe _ _ ?k1 ?k2 ?k3 ?k4 ?k5 ?kK ?kd ?ku ?_)) | ((with_reducible show wpAny _ _ (call (Value.ref 56) [Value.str (x ++ MO) _, _]) _ _ _); k_dflt (refine' u_wh (fin01 hinv hlt hahl) hbe _ _ ?k1 ?k2 ?k3 ?k4 ?k5 ?kK ?kd ?ku ?_)) | ((with_reducible show wpAny _ _ (call (Value.ref 56) [Value.str (x ++ T1) _, _]) _ _ _); k_dflt (refine' u_wh (fin10 hinv hlt hahl) hbe _ _ ?k1 ?k2 ?k3 ?k4 ?k5 ?kK ?kd ?ku ?_)) | ((with_reducible show wpAny _ _ (call (Value.ref 56) [Value.str (x ++ T1 ++ MO) _, _]) _ _ _); k_dflt (refine' u_wh (fin11 hinv hlt hahl) hbe _ _ ?k1 ?k2 ?k3 ?k4 ?k5 ?kK ?kd ?ku ?_)) | ((with_reducible show wpAny _ _ (call (Value.ref 56) [Value.str (x ++ T2) _, _]) _ _ _); k_dflt (refine' u_wh (fin20 hinv hlt hahl) hbe _ _ ?k1 ?k2 ?k3 ?k4 ?k5 ?kK ?kd ?ku ?_)) | ((with_reducible show wpAny _ _ (call (Value.ref 56) [Value.str (x ++ T2 ++ MO) _, _]) _ _ _); k_dflt (refine' u_wh (fin21 hinv hlt hahl) hbe _ _ ?k1 ?k2 ?k3 ?k4 ?k5 ?kK ?kd ?ku ?_))); (case k1 => k_asm); (case k2 => k_asm); (case k3 => k_asm); (case k4 => k_asm); (case k5 => k_asm); (case kK => first | exact rfl | assumption); (case kd => ktr_room); (case ku => ktr_units); intro t9 h9 tk9 F9 N9; (try dsimp only); (try k_fold)) | ((first | ((with_reducible show wpAny _ _ (call (Value.ref 91) [Value.str x _, _, _, _]) _ _ _); k_dflt (refine' u_right (fin00 hinv hlt hahl) ?kst _ _ _ _ ?k1 ?k2 ?k3 ?k4 ?k5 ?kK ?kd ?ku ?_)) | ((with_reducible show wpAny _ _ (call (Value.ref 91) [Value.str (x ++ MO) _, _, _, _]) _ _ _); k_dflt (refine' u_right (fin01 hinv hlt hahl) ?kst _ _ _ _ ?k1 ?k2 ?k3 ?k4 ?k5 ?kK ?kd ?ku ?_)) | ((with_reducible show wpAny _ _ (call (Value.ref 91) [Value.str (x ++ T1) _, _, _, _]) _ _ _); k_dflt (refine' u_right (fin10 hinv hlt hahl) ?kst _ _ _ _ ?k1 ?k2 ?k3 ?k4 ?k5 ?kK ?kd ?ku ?_)) | ((with_reducible show wpAny _ _ (call (Value.ref 91) [Value.str (x ++ T1 ++ MO) _, _, _, _]) _ _ _); k_dflt (refine' u_right (fin11 hinv hlt hahl) ?kst _ _ _ _ ?k1 ?k2 ?k3 ?k4 ?k5 ?kK ?kd ?ku ?_)) | ((with_reducible show wpAny _ _ (call (Value.ref 91) [Value.str (x ++ T2) _, _, _, _]) _ _ _); k_dflt (refine' u_right (fin20 hinv hlt hahl) ?kst _ _ _ _ ?k1 ?k2 ?k3 ?k4 ?k5 ?kK ?kd ?ku ?_)) | ((with_reducible show wpAny _ _ (call (Value.ref 91) [Value.str (x ++ T2 ++ MO) _, _, _, _]) _ _ _); k_dflt (refine' u_right (fin21 hinv hlt hahl) ?kst _ _ _ _ ?k1 ?k2 ?k3 ?k4 ?k5 ?kK ?kd ?ku ?_))); (case kst => first | with_reducible exact fx_find | with_reducible rfl | (rw [appLen]; done)); (case k1 => k_asm); (case k2 => k_asm); (case k3 => k_asm); (case k4 => k_asm); (case k5 => k_asm); (case kK => first | exact rfl | assumption); (case kd => ktr_room); (case ku => ktr_units); intro h9 tk9 F9 N9; (try dsimp only); (try k_fold)) | ((with_reducible show wpAny _ _ (call (Value.ref 91) [Value.str Mine.FX _, _, _, _]) _ _ _); k_dflt (refine' u_fixed ?kst _ _ _ _ ?k1 ?k2 ?k3 ?k4 ?k5 ?kK ?kd ?ku ?_); (case kst => first | with_reducible exact fx_find | with_reducible rfl | (rw [appLen]; done)); (case k1 => k_asm); (case k2 => k_asm); (case k3 => k_asm); (case k4 => k_asm); (case k5 => k_asm); (case kK => first | exact rfl | assumption); (case kd => ktr_room); (case ku => ktr_units); intro h9 tk9 F9 N9; (try dsimp only); k_dflt (exact law_true _ (by with_reducible assumption) (by with_reducible assumption) rfl))
  k_with "subscriptTail BinOp Call Add List Slice ref ref" => (k_dflt (refine kba_turn (value' := PySem.Expr.Name (PySem.Str.ofString "r") ⟨0, 0, 0, 0⟩) (fun _ => rfl) ?_))
  k_with "call builtin:len cons nil" => ((with_reducible show wpAny _ _ (call (Value.builtin "len") [Value.str (_ ++ _) _]) _ _ _); (k_dflt (refine KLn.len_app ?f ?_)); (case f => first | with_reducible exact len_T1 hln1 | with_reducible exact len_T2 hln1); intro kl1 kl2)
  k_with "subscriptTail List cons Call ref int" => ((rename News _ _ _ _ => NU); k_dflt (refine' item_menu (ws := aheads) ?k1 ?k2 ?k3 ?k4 ?k5 ?_); (case k1 => k_dflt (exact News.isList (by k_asm) (by k_mem))); (case k2 => k_dflt (unfold aheads; repeat constructor)); (case k3 => assumption); (case k4 => k_dflt (exact hr1)); (case k5 => omega); intro ah aht hah; (have hahl := ahead_len hah); (try k_fold))
  k_with "call type:range cons nil" => ((rename Fr _ _ _ _ => FU); (rename News _ _ _ _ => NU); k_dflt (refine range1_rows FU NU ?_); intro hR tkR t1R u1R v1R RU FR NR keepR)
  k_with "pyIter ref" => first | ((rename Fr _ _ _ _ => FU); (rename News _ _ _ _ => NU); (rename IsRange _ _ _ _ _ _ _ _ => RU); k_dflt (refine' law_range (ah := ah) (by rfl) RU hr0 hr1 FU NU ?kx ?kt ?ka ?kb ?kc ?kd ?_ ?_); (case kx => k_dflt (with_unfolding_all rfl)); (case kt => k_dflt (with_unfolding_all rfl)); (case ka => assumption); (case kb => assumption); (case kc => assumption); (case kd => omega); all_goals first | (intro x xt t tt a ta b tb vs vn ds tl own pre kk kt u h tk hlt hsep hTj hTl hTs hdat hinv FX NX; (have hln := linv_len hinv hahl (by omega)); (have hvl := vs_len hinv hdat (by omega)); (have hab := And.intro hinv.a0 (And.intro hinv.a1 (And.intro hinv.b0 hinv.b1))); (obtain ⟨hln1, hln2⟩ := hln); (obtain ⟨ha0, ha1, hb0, hb1⟩ := hab); (dsimp only at hln1 hln2 ha0 ha1 hb0 hb1); (k_dflt (dsimp only [envOf, envX] at FX)); (k_dflt (dsimp only [envOf, envX] at NX)); (have kMark := kstMark); (try k_fold)) | (intro x xt t tt a ta b tb vs vn ds tl n u h tk hlt hTj hTl hTs hdat hinv FX NX; (have hln := linv_len hinv hahl hlt); (have hvl := vs_len hinv hdat hlt); (have hab := And.intro hinv.a0 (And.intro hinv.a1 (And.intro hinv.b0 hinv.b1))); (obtain ⟨hln1, hln2⟩ := hln); (obtain ⟨ha0, ha1, hb0, hb1⟩ := hab); (dsimp only at hln1 hln2 ha0 ha1 hb0 hb1); (k_dflt (dsimp only [envOf, envX] at FX)); (k_dflt (dsimp only [envOf, envX] at NX)); (have kMark := kstMark); (try k_fold))) | ((rename Fr _ _ _ _ => FU); (rename News _ _ _ _ => NU); (try simp only [List.push_toArray] at NU); k_dflt (refine' spots_iter (Str.ofString "begin") (Str.ofString "end") (by rfl) ?kl ?kd FU NU ?_ ?_); (case kl => k_dflt k_mem); (case kd => k_dflt (first | exact dat1 hdat (fun p hp => .tail _ (.tail _ (.tail _ hp))) | exact dat2 hdat (fun p hp => .tail _ (.tail _ (.tail _ (.tail _ hp)))) (by k_mem))); all_goals first | (intro b e a n t1 t2 u1 u2 h tk own hbe FX NX; (k_dflt (dsimp only [envOf, envX] at FX)); (k_dflt (dsimp only [envOf, envX] at NX)); (have kMark := kstMark); (try k_fold)) | (intro u1 u2 h tk FX NX; (k_dflt (dsimp only [envOf, envX] at FX)); (k_dflt (dsimp only [envOf, envX] at NX)); (have kMark := kstMark); (try k_fold)))
  k_with "exec For Tuple Name cons nil" => ((rename Fr _ _ _ _ => FU); k_dflt (refine For_turns FU ?_))
  k_with "InvEndG" => first | ((rename Fr _ _ _ _ => FE); (rename News _ _ _ _ => NE); k_dflt (refine' lend_soft hsep FE NE hdat ?hx ?ht ?hr (linv_soft hinv hq9 hA0 hA1 hB0 (by omega))); (case hx => k_dflt (with_unfolding_all rfl)); (case ht => k_dflt (with_unfolding_all rfl)); (case hr => (intro z h1 h2 h3 h4; simp [h1, h2, h3, h4]))) | ((rename Fr _ _ _ _ => FE); (rename News _ _ _ _ => NE); k_dflt (refine' lend_solid hsep FE NE (by assumption) hdat ?hx ?ht ?hr (linv_solid hinv hq9 hA0 hA1 hB0 (by omega))); (case hx => k_dflt (with_unfolding_all rfl)); (case ht => k_dflt (with_unfolding_all rfl)); (case hr => (intro z h1 h2 h3 h4; simp [h1, h2, h3, h4])))
  k_with "SpPost next" => (dsimp only [SpPost])
  k_with "SpEnd" => first | ((rename Fr _ _ _ _ => FE); (rename News _ _ _ _ => NE); k_dflt (refine sp_end FE NE (fun p hp => .tail _ hp) ?_); intro y h1 h2; simp [h1, h2])
  w_strict (k_go0; (all_goals try k_fold); k_steps; all_goals first | (exact absurd (Eq.refl e) (by with_reducible assumption)) | ((have hFx : Txt.find Mine.FX (Str.ofString "\nh") = -1 := by with_reducible assumption); rw [fx_find] at hFx; exact absurd hFx (by decide))))
end Mine
end

set_option maxRecDepth 100000 in
set_option maxHeartbeats 0 in
theorem PySem.Challenge.cw_on0086_01_holds : PySem.Challenge.rw_on0086_01.Holds := by
  exact Mine.X
