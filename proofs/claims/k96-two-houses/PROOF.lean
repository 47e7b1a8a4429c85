import PyProof.Rows.All
import Wide.All
import OpenK.AllK
import Wide.FinOn
import KE.SortData
import KE.DataCmp
import KE.KIntText
import HandS.Text
import HandS.ForMost
import HandS.Iter
import HandS.Comp
import HandS.More
import HandS.Codes
import HandS.IsInst
import HandS.Defaults
import HandS.FStr
import HandS.Style
import HandS.Flow
import HandS.Walk
import HandS.CallLocal
import HandS.DictTup
import HandS.TupLen
import HandS.Deep
import HandS.Conv
import HandS.Exc
import HandS.StrMore
import PySem.Challenge.RW_spinemarks_k96_whole_two_houses
import HandS.SetFor
import PyProof.Rows.EqDataRows
import KE.GoesMore
import KE.GoesEnum
import KE.KCallOwn
import HandS.Nested
import KE.SortKeyHeap
import KE.KSortKey
import KE.KxIndex
import HandS.Head0
import HandS.Head1
import HandS.Head2
import HandS.HeadEnd
import HandS.HeadHook1
import HandS.HeadHook2
import HandS.HeadHook3
import HandS.HeadHook4
import HandS.HeadWalk
import KE.KStateDown
set_option Elab.async false
set_option linter.all false
section
set_option maxRecDepth 100000
set_option maxHeartbeats 4000000
/-! The mathematics of the marks, 1: how two keys lie (sideD), the parts of a mark, the seventeen ways. -/
namespace SM
open PySem PySem.W PyProof.Rows PySem.NumText

theorem beqd {α : Type} [BEq α] [LawfulBEq α] [DecidableEq α] (a b : α) : (a == b) = decide (a = b) := by
  rw [Bool.eq_iff_iff, beq_iff_eq, decide_eq_true_eq]
/-- how a key comes to another one: -1 ahead, 0 equal, 1 behind -/
def sideD (x y : PyData) : Int := if PyData.eqv x y = true then 0 else if dataLt x y = true then -1 else 1
theorem sideD_of {x y : PyData} {b c : Bool} (e : PyData.eqv x y = b) (l : dataLt x y = c) : sideD x y = if b = true then 0 else if c = true then -1 else 1 := by
  subst e l
  rfl
theorem sideD_int (i j : Int) : sideD (.int i) (.int j) = if i = j then 0 else if i < j then -1 else 1 := by
  rw [sideD_of (b := decide (i = j)) (by simp only [PyData.eqv]; exact beqd i j) (dataLt_int i j)]
  simp only [decide_eq_true_eq]
theorem sideD_str (x y : Str) : sideD (.str x) (.str y) = if x = y then 0 else if x.cps.toList < y.cps.toList then -1 else 1 := by
  rw [sideD_of (b := decide (x = y)) (by simp only [PyData.eqv]; exact beqd x y) (dataLt_str x y)]
  simp only [decide_eq_true_eq]
theorem sideD_bool (a b : Bool) : sideD (.bool a) (.bool b) = if a = b then 0 else if a = false then -1 else 1 := by
  rw [sideD_of (b := decide (a = b)) (by simp only [PyData.eqv]; exact beqd a b) (dataLt_bool a b)]
  cases a <;> cases b <;> rfl
theorem sideD_nn : sideD (.tuple []) (.tuple []) = 0 := by
  rw [sideD_of (b := true) (by simp only [PyData.eqv, PyData.eqvAll]) rfl]
  rfl
theorem sideD_nc (y : PyData) (ys : List PyData) : sideD (.tuple []) (.tuple (y :: ys)) = -1 := by
  rw [sideD_of (b := false) (c := true) (by simp only [PyData.eqv, PyData.eqvAll]) (by
    rw [dataLt_tuple, toks_all_cons]
    simp only [keyToksAll]
    rw [lex_diff (O := itemOrd) (by simp)]
    rfl)]
  rfl
theorem sideD_cn (y : PyData) (ys : List PyData) : sideD (.tuple (y :: ys)) (.tuple []) = 1 := by
  rw [sideD_of (b := false) (c := false) (by simp only [PyData.eqv, PyData.eqvAll]) (by
    rw [dataLt_tuple, toks_all_cons]
    simp only [keyToksAll]
    rw [lex_diff (O := itemOrd) (by simp)]
    rfl)]
  rfl
theorem sideD_zero {x y : PyData} : sideD x y = 0 ↔ PyData.eqv x y = true := by
  unfold sideD
  split
  · rename_i h
    simp [h]
  · rename_i h
    split <;> simp [h]
theorem sideD_cc {x y : PyData} (h : alike x y = true) (xs ys : List PyData) : sideD (.tuple (x :: xs)) (.tuple (y :: ys)) = if sideD x y = 0 then sideD (.tuple xs) (.tuple ys) else sideD x y := by
  cases e : PyData.eqv x y with
  | true =>
    rw [if_pos (sideD_zero.mpr e)]
    have e1 : PyData.eqv (.tuple (x :: xs)) (.tuple (y :: ys)) = PyData.eqv (.tuple xs) (.tuple ys) := by simp only [PyData.eqv, PyData.eqvAll, e, Bool.true_and]
    have e2 : dataLt (.tuple (x :: xs)) (.tuple (y :: ys)) = dataLt (.tuple xs) (.tuple ys) := by rw [dataLt_tuple, dataLt_tuple, dataLt_all_yes h e]
    rw [sideD_of e1 e2] <;> rfl
  | false =>
    have h0 : ¬ sideD x y = 0 := fun q => by rw [sideD_zero, e] at q; cases q
    rw [if_neg h0]
    have e1 : PyData.eqv (.tuple (x :: xs)) (.tuple (y :: ys)) = PyData.eqv x y := by simp only [PyData.eqv, PyData.eqvAll, e, Bool.false_and]
    have e2 : dataLt (.tuple (x :: xs)) (.tuple (y :: ys)) = dataLt x y := by rw [dataLt_tuple, dataLt_all_no h e]
    rw [sideD_of e1 e2] <;> rfl
theorem sideD_pair {x y x' y' : PyData} (h : alike x x' = true) (h' : alike y y' = true) : sideD (.tuple [x, y]) (.tuple [x', y']) = if sideD x x' = 0 then sideD y y' else sideD x x' := by
  rw [sideD_cc h, sideD_cc h', sideD_nn]
  split
  · split
    · rename_i e
      rw [e]
    · rfl
  · rfl
/-- equal keys have equal signs, and only they -/
theorem toks_ne {x y : PyData} (h : alike x y = true) (e : PyData.eqv x y = false) : keyToks x ≠ keyToks y := by
  intro q
  have z := (toks_eqv x y h).2 e [] [.inl 0]
  rw [q, lex_pre] at z
  have z2 : PyProof.Rows.lexLt itemOrd (keyToks y) (keyToks y) = false := lex_irrefl _
  rw [z2] at z
  exact absurd z (by decide)
theorem eqv_comm {x y : PyData} (h : alike x y = true) : PyData.eqv y x = PyData.eqv x y := by
  have h' : alike y x = true := by rw [alike_comm]; exact h
  cases e : PyData.eqv x y with
  | true =>
    cases e' : PyData.eqv y x with
    | true => rfl
    | false => exact absurd ((toks_eqv x y h).1 e).symm (toks_ne h' e')
  | false =>
    cases e' : PyData.eqv y x with
    | false => rfl
    | true => exact absurd ((toks_eqv y x h').1 e').symm (toks_ne h e)
theorem sideD_anti {x y : PyData} (h : alike x y = true) : sideD y x = - sideD x y := by
  cases e : PyData.eqv x y with
  | true =>
    rw [sideD_of e rfl, sideD_of ((eqv_comm h).trans e) rfl]
    rfl
  | false =>
    have h1 := toks_ne h e
    cases e1 : dataLt x y with
    | true =>
      have e2 : dataLt y x = false := KeyOrd.klt_asymm (O := listOrd itemOrd) e1
      rw [sideD_of e e1, sideD_of ((eqv_comm h).trans e) e2]
      rfl
    | false =>
      cases e2 : dataLt y x with
      | true =>
        rw [sideD_of e e1, sideD_of ((eqv_comm h).trans e) e2]
        rfl
      | false => exact absurd (lex_total (O := itemOrd) _ _ e1 e2) h1
theorem sideD_cases (x y : PyData) : sideD x y = 0 ∨ sideD x y = 1 ∨ sideD x y = -1 := by
  unfold sideD
  split
  · exact .inl rfl
  · split
    · exact .inr (.inr rfl)
    · exact .inr (.inl rfl)

/-! ### texts of figures -/
abbrev cs (x : Str) : List Nat := x.cps.toList
def figs (n : Int) : Str := Str.ofString (toString n)
def emp : Str := Str.ofString ""
theorem emp_cs : cs emp = [] := by decide +kernel
theorem cs_inj {x y : Str} (h : cs x = cs y) : x = y := str_of_cps h
theorem cs_len (x : Str) : x.length = (cs x).length := by
  unfold Str.length cs
  rw [Array.length_toList]
theorem cs_emp {x : Str} : cs x = [] ↔ x = emp := ⟨fun h => cs_inj (h.trans emp_cs.symm), fun h => by rw [h, emp_cs]⟩
theorem figs_digits {n : Int} (h : 0 ≤ n) : AllDigits (cs (figs n)) := by
  obtain ⟨m, rfl⟩ := Int.eq_ofNat_of_zero_le h
  intro c hc
  unfold figs cs at hc
  rw [KIN.signs_num] at hc
  obtain ⟨ch, hch, e⟩ := List.mem_map.mp hc
  have r := digit_range (Nat.isDigit_of_mem_toDigits (by decide) (by decide) hch)
  rw [← e]
  exact r
theorem figs_val {n : Int} (h : 0 ≤ n) : ((digitsVal (cs (figs n)) : Nat) : Int) = n := by
  obtain ⟨m, rfl⟩ := Int.eq_ofNat_of_zero_le h
  unfold figs cs
  rw [KIN.signs_num, KIN.val_back] <;> rfl
theorem figs_inj {n m : Int} (h : 0 ≤ n) (h' : 0 ≤ m) (e : figs n = figs m) : n = m := by
  rw [← figs_val h, ← figs_val h', e]
theorem figs_len {n : Nat} : (figs (n : Int)).length = (Nat.toDigits 10 n).length := by
  rw [cs_len]
  unfold figs cs
  rw [KIN.signs_num, List.length_map]
theorem figs_ge {n : Int} {k : Nat} (h : (10 : Int) ^ k ≤ n) : k + 1 ≤ (figs n).length := by
  have h0 : (0 : Int) ≤ n := Int.le_trans (Int.le_of_lt (Int.pow_pos (by decide))) h
  obtain ⟨m, rfl⟩ := Int.eq_ofNat_of_zero_le h0
  rw [figs_len]
  exact digits10_ge (by exact_mod_cast h)
theorem figs_le {n : Int} {k : Nat} (h0 : 0 ≤ n) (hk : 1 ≤ k) (h : n < (10 : Int) ^ k) : (figs n).length ≤ k := by
  obtain ⟨m, rfl⟩ := Int.eq_ofNat_of_zero_le h0
  rw [figs_len]
  exact digits10_le hk (by exact_mod_cast h)
theorem figs_one {n : Int} (h0 : 0 ≤ n) (h : n < 10) : (figs n).length = 1 := by
  have h1 := figs_le (k := 1) h0 (by decide) (by simpa using h)
  obtain ⟨m, rfl⟩ := Int.eq_ofNat_of_zero_le h0
  have h2 := Nat.lt_of_lt_of_le (Nat.lt_of_succ_le (toDigits_len_ge 10 m)) (Nat.le_refl _)
  rw [figs_len] at h1 ⊢
  omega
theorem figs_pos {n : Int} (h0 : 0 ≤ n) : 1 ≤ (figs n).length := by
  obtain ⟨m, rfl⟩ := Int.eq_ofNat_of_zero_le h0
  rw [figs_len]
  exact toDigits_len_ge 10 m
theorem figs_four {n : Int} (h0 : 1000 ≤ n) (h : n ≤ 2999) : (figs n).length = 4 := by
  have h1 := figs_le (n := n) (k := 4) (by omega) (by decide) (by show n < 10000; omega)
  have h2 := figs_ge (n := n) (k := 3) (by show (1000 : Int) ≤ n; omega)
  omega

/-! ### figures of one length: their order is that of their values -/
theorem foldl_lt : ∀ (l m : List Nat) (a b : Nat), l.length = m.length → AllDigits l → AllDigits m → a < b → l.foldl (fun acc c => acc * 10 + (c - 48)) a < m.foldl (fun acc c => acc * 10 + (c - 48)) b
  | [], [], a, b, _, _, _, h => h
  | [], _ :: _, _, _, e, _, _, _ => by simp at e
  | _ :: _, [], _, _, e, _, _, _ => by simp at e
  | x :: l, y :: m, a, b, e, hl, hm, h => by
    rw [List.foldl_cons, List.foldl_cons]
    have h1 := hl.head
    have h2 := hm.head
    exact foldl_lt l m _ _ (by simpa using e) hl.tail hm.tail (by omega)
theorem lex_val_aux : ∀ (l m : List Nat) (a : Nat), l.length = m.length → AllDigits l → AllDigits m →
    (l < m ↔ l.foldl (fun acc c => acc * 10 + (c - 48)) a < m.foldl (fun acc c => acc * 10 + (c - 48)) a) ∧ (l.foldl (fun acc c => acc * 10 + (c - 48)) a = m.foldl (fun acc c => acc * 10 + (c - 48)) a → l = m)
  | [], [], a, _, _, _ => ⟨by simp, fun _ => rfl⟩
  | [], _ :: _, _, e, _, _ => by simp at e
  | _ :: _, [], _, e, _, _ => by simp at e
  | x :: l, y :: m, a, e, hl, hm => by
    rw [List.foldl_cons, List.foldl_cons, List.cons_lt_cons_iff]
    have h1 := hl.head
    have h2 := hm.head
    have e' : l.length = m.length := by simpa using e
    rcases Nat.lt_trichotomy x y with h | h | h
    · have z := foldl_lt l m (a * 10 + (x - 48)) (a * 10 + (y - 48)) e' hl.tail hm.tail (by omega)
      exact ⟨⟨fun _ => z, fun _ => .inl h⟩, fun q => by omega⟩
    · subst h
      obtain ⟨i1, i2⟩ := lex_val_aux l m (a * 10 + (x - 48)) e' hl.tail hm.tail
      exact ⟨⟨fun q => q.elim (fun z => absurd z (Nat.lt_irrefl _)) fun z => i1.mp z.2, fun q => .inr ⟨rfl, i1.mpr q⟩⟩, fun q => by rw [i2 q]⟩
    · have z := foldl_lt m l (a * 10 + (y - 48)) (a * 10 + (x - 48)) e'.symm hm.tail hl.tail (by omega)
      exact ⟨⟨fun q => q.elim (fun z => by omega) fun z => by omega, fun q => by omega⟩, fun q => by omega⟩
theorem lex_val {l m : List Nat} (e : l.length = m.length) (hl : AllDigits l) (hm : AllDigits m) : l < m ↔ digitsVal l < digitsVal m := (lex_val_aux l m 0 e hl hm).1
theorem val_inj {l m : List Nat} (e : l.length = m.length) (hl : AllDigits l) (hm : AllDigits m) (h : digitsVal l = digitsVal m) : l = m := (lex_val_aux l m 0 e hl hm).2 h
theorem figs_lt {n m : Int} (hn : 0 ≤ n) (hm : 0 ≤ m) (e : (figs n).length = (figs m).length) : cs (figs n) < cs (figs m) ↔ n < m := by
  rw [cs_len, cs_len] at e
  rw [lex_val e (figs_digits hn) (figs_digits hm)]
  have a := figs_val hn
  have b := figs_val hm
  omega
theorem side_figs {n m : Int} (hn : 0 ≤ n) (hm : 0 ≤ m) (e : (figs n).length = (figs m).length) : sideD (.str (figs n)) (.str (figs m)) = sideD (.int n) (.int m) := by
  rw [sideD_str, sideD_int]
  by_cases h : n = m
  · rw [if_pos h, if_pos (by rw [h])]
  · rw [if_neg h, if_neg fun q => h (figs_inj hn hm q)]
    have z := figs_lt hn hm e
    by_cases h2 : n < m
    · rw [if_pos h2, if_pos (z.mpr h2)]
    · rw [if_neg h2, if_neg fun q => h2 (z.mp q)]
end SM
end

section
set_option maxRecDepth 100000
set_option maxHeartbeats 4000000
/-! The mathematics of the marks, 2: parts, ways, costs. -/
namespace SM
open PySem PySem.W PyProof.Rows PySem.NumText

/-- what one part of a mark holds -/
inductive PV where
  | s (x : Str) | i (n : Int) | l (xs : List Str) | o (y : Option Int)
  deriving DecidableEq

def hd1 (x : Str) : Str := ⟨((cs x).take 1).toArray⟩
def tl1 (x : Str) : Str := ⟨((cs x).drop 1).toArray⟩
def wholeOf (x : Str) : PyData := if x = emp then .tuple [.int 0, .int 0, .int 0] else .tuple [.int 1, .int (digitsVal (cs x) : Nat), .int (x.length : Nat)]
def figO (y : Option Int) : Str := match y with
  | none => emp
  | some n => figs n
def keyP : Nat → PV → PyData
  | 0, .s x => .str x
  | 1, .s x => .tuple [.int (x.length : Nat), .str x]
  | 2, .i n => .int n
  | 3, .i n => .str (figs n)
  | 4, .s x => .str x
  | 5, .s x => wholeOf x
  | 6, .s x => .tuple [.bool (decide (x = emp)), .str x]
  | 7, .l xs => .tuple (xs.map .str)
  | 8, .l xs => .tuple (xs.map fun m => .tuple [.str (hd1 m), wholeOf (tl1 m)])
  | 9, .l xs => .tuple [.int (xs.length : Nat), .tuple (xs.map .str)]
  | 10, .o y => .int (y.getD 0)
  | 11, .o y => .int (-(y.getD 0))
  | 12, .o y => .int (y.getD 10000)
  | 13, .o y => .str (figO y)
  | 14, .o y => .int (y.getD 0)
  | 15, .o y => .int (-(y.getD 0))
  | 16, .o y => .str (figO y)
  | _, _ => .none
/-- of a way its part -/
def wp : Nat → Nat
  | 0 => 0 | 1 => 0 | 2 => 1 | 3 => 1 | 4 => 2 | 5 => 2 | 6 => 2 | 7 => 3 | 8 => 3 | 9 => 3
  | 10 => 4 | 11 => 4 | 12 => 4 | 13 => 4 | 14 => 5 | 15 => 5 | 16 => 5 | _ => 6
def side (w : Nat) (u v : PV) : Int := sideD (keyP w u) (keyP w v)

def Low (c : Nat) : Prop := 97 ≤ c ∧ c ≤ 122
def OkFigs (l : List Nat) : Prop := l ≠ [] ∧ AllDigits l ∧ l.getLast? ≠ some 48 ∧ l.length ≤ 40
def OkLetters (x : Str) : Prop := 1 ≤ x.length ∧ x.length ≤ 3 ∧ ∀ c ∈ cs x, Low c
def OkPoints (x : Str) : Prop := x = emp ∨ OkFigs (cs x)
def OkMaker (x : Str) : Prop := ∃ a l, cs x = a :: l ∧ Low a ∧ OkFigs l
def OkYear (y : Option Int) : Prop := ∀ n, y = some n → 1000 ≤ n ∧ n ≤ 2999
def OkCopy (y : Option Int) : Prop := ∀ n, y = some n → 2 ≤ n ∧ n < 10 ^ 40
def OkP : Nat → PV → Prop
  | 0, .s x => OkLetters x
  | 1, .i n => 1 ≤ n ∧ n ≤ 9999
  | 2, .s x => OkPoints x
  | 3, .l xs => xs.length ≤ 3 ∧ ∀ x ∈ xs, OkMaker x
  | 4, .o y => OkYear y
  | 5, .o y => OkCopy y
  | _, _ => False
def cost : Nat → PV → Nat
  | 0, .s x => x.length
  | 1, .i n => (figs n).length
  | 2, .s x => if x = emp then 0 else 1 + x.length
  | 3, .l xs => (xs.map fun x => 1 + x.length).sum
  | 4, .o y => match y with
    | none => 0
    | some n => 1 + (figs n).length
  | 5, .o y => match y with
    | none => 0
    | some n => 3 + (figs n).length
  | _, _ => 0
def SOME : Nat → List PV
  | 0 => [.s (Str.ofString "a"), .s (Str.ofString "b"), .s (Str.ofString "aa")]
  | 1 => [.i 1, .i 2, .i 10]
  | 2 => [.s (Str.ofString ""), .s (Str.ofString "1"), .s (Str.ofString "2"), .s (Str.ofString "11")]
  | 3 => [.l [], .l [Str.ofString "a1"], .l [Str.ofString "a2"], .l [Str.ofString "a11"], .l [Str.ofString "a1", Str.ofString "a1"]]
  | 4 => [.o none, .o (some 1000), .o (some 1001)]
  | 5 => [.o none, .o (some 2), .o (some 10)]
  | _ => []

/-! ### keys are alike -/
theorem alike_str (x y : Str) : alike (.str x) (.str y) = true := by simp only [alike]
theorem alike_int (x y : Int) : alike (.int x) (.int y) = true := by simp only [alike]
theorem alike_bool (x y : Bool) : alike (.bool x) (.bool y) = true := by simp only [alike]
theorem alike_whole (x y : Str) : alike (wholeOf x) (wholeOf y) = true := by
  unfold wholeOf
  split <;> split <;> simp [alike, alikeAll]
theorem alike_strs : ∀ xs ys : List Str, alikeAll (xs.map .str) (ys.map .str) = true
  | [], _ => by simp [alikeAll]
  | _ :: _, [] => by simp [alikeAll]
  | x :: xs, y :: ys => by
    rw [List.map_cons, List.map_cons, alikeAll, alike_strs xs ys, alike_str]
    rfl
abbrev mkW (m : Str) : PyData := .tuple [.str (hd1 m), wholeOf (tl1 m)]
theorem alike_mkW (x y : Str) : alike (mkW x) (mkW y) = true := by
  simp only [alike, alikeAll, alike_whole, Bool.and_self]
theorem alike_mkWs : ∀ xs ys : List Str, alikeAll (xs.map mkW) (ys.map mkW) = true
  | [], _ => by simp [alikeAll]
  | _ :: _, [] => by simp [alikeAll]
  | x :: xs, y :: ys => by
    rw [List.map_cons, List.map_cons, alikeAll, alike_mkWs xs ys, alike_mkW]
    rfl
theorem key_alike {w : Nat} {u v : PV} (hw : w < 17) (hu : OkP (wp w) u) (hv : OkP (wp w) v) : alike (keyP w u) (keyP w v) = true := by
  have e : w = 0 ∨ w = 1 ∨ w = 2 ∨ w = 3 ∨ w = 4 ∨ w = 5 ∨ w = 6 ∨ w = 7 ∨ w = 8 ∨ w = 9 ∨ w = 10 ∨ w = 11 ∨ w = 12 ∨ w = 13 ∨ w = 14 ∨ w = 15 ∨ w = 16 := by omega
  rcases e with rfl | rfl | rfl | rfl | rfl | rfl | rfl | rfl | rfl | rfl | rfl | rfl | rfl | rfl | rfl | rfl | rfl <;> cases u <;> simp only [wp, OkP] at hu <;> cases v <;> simp only [wp, OkP] at hv <;> simp only [keyP]
  all_goals first
    | exact alike_str _ _
    | exact alike_int _ _
    | exact alike_whole _ _
    | (simp only [alike]; exact alike_strs _ _)
    | (simp only [alike]; exact alike_mkWs _ _)
    | simp only [alike, alikeAll, alike_strs, Bool.and_self]
theorem side_anti {w : Nat} {u v : PV} (hw : w < 17) (hu : OkP (wp w) u) (hv : OkP (wp w) v) : side w v u = - side w u v := sideD_anti (key_alike hw hu hv)
theorem side_cases (w : Nat) (u v : PV) : side w u v = 0 ∨ side w u v = 1 ∨ side w u v = -1 := sideD_cases _ _

/-! ### equal keys: equal parts -/
theorem side_self_eq {x y : PyData} (h : x = y) (ha : alike x x = true) : sideD x y = 0 := by
  subst h
  exact sideD_zero.mpr (eqv_refl_alike x ha)
theorem str_zero {x y : Str} : sideD (.str x) (.str y) = 0 ↔ x = y := by
  rw [sideD_str]
  split
  · simp_all
  · split <;> simp_all
theorem int_zero {x y : Int} : sideD (.int x) (.int y) = 0 ↔ x = y := by
  rw [sideD_int]
  split
  · simp_all
  · split <;> simp_all
theorem strs_zero : ∀ {xs ys : List Str}, sideD (.tuple (xs.map .str)) (.tuple (ys.map .str)) = 0 ↔ xs = ys
  | [], [] => by simp [sideD_nn]
  | [], y :: ys => by simp [sideD_nc]
  | x :: xs, [] => by simp [sideD_cn]
  | x :: xs, y :: ys => by
    rw [List.map_cons, List.map_cons, sideD_cc (alike_str x y)]
    by_cases h : sideD (.str x) (.str y) = 0
    · rw [if_pos h, strs_zero (xs := xs) (ys := ys), str_zero.mp h]
      simp
    · rw [if_neg h]
      refine ⟨fun q => absurd q h, fun q => ?_⟩
      exact absurd (str_zero.mpr (List.cons.inj q).1) h
/-- figures or none -/
def FigN (x : Str) : Prop := x = emp ∨ AllDigits (cs x)
theorem pos_of_ne {x : Str} (h : x ≠ emp) : 1 ≤ x.length := by
  rw [cs_len]
  cases q : cs x with
  | nil => exact absurd (cs_emp.mp q) h
  | cons a l => simp
theorem whole_zero {x y : Str} (hx : FigN x) (hy : FigN y) : sideD (wholeOf x) (wholeOf y) = 0 ↔ x = y := by
  unfold wholeOf
  by_cases h1 : x = emp
  · by_cases h2 : y = emp
    · rw [if_pos h1, if_pos h2, h1, h2]
      simp only [iff_true]
      exact side_self_eq rfl (by simp [alike, alikeAll])
    · rw [if_pos h1, if_neg h2, sideD_cc (alike_int _ _), if_neg (by rw [int_zero]; decide)]
      simp only [int_zero]
      exact ⟨fun q => absurd q (by decide), fun q => absurd (q ▸ h1) h2⟩
  · by_cases h2 : y = emp
    · rw [if_neg h1, if_pos h2, sideD_cc (alike_int _ _), if_neg (by rw [int_zero]; decide)]
      simp only [int_zero]
      exact ⟨fun q => absurd q (by decide), fun q => absurd (q ▸ h2) h1⟩
    · rw [if_neg h1, if_neg h2, sideD_cc (alike_int _ _), if_pos (int_zero.mpr rfl), sideD_pair (alike_int _ _) (alike_int _ _)]
      refine ⟨fun q => ?_, fun q => by subst q; rw [if_pos (int_zero.mpr rfl)]; exact int_zero.mpr rfl⟩
      by_cases h3 : sideD (.int ((digitsVal (cs x) : Nat) : Int)) (.int ((digitsVal (cs y) : Nat) : Int)) = 0
      · rw [if_pos h3] at q
        have e1 := int_zero.mp h3
        have e2 := int_zero.mp q
        have hx' : AllDigits (cs x) := hx.resolve_left h1
        have hy' : AllDigits (cs y) := hy.resolve_left h2
        rw [cs_len, cs_len] at e2
        exact cs_inj (val_inj (by omega) hx' hy' (by omega))
      · rw [if_neg h3] at q
        exact absurd q h3
theorem hd_tl {x y : Str} (h1 : hd1 x = hd1 y) (h2 : tl1 x = tl1 y) : x = y := by
  have e1 : (cs x).take 1 = (cs y).take 1 := by
    have q := congrArg cs h1
    simpa [hd1, cs] using q
  have e2 : (cs x).drop 1 = (cs y).drop 1 := by
    have q := congrArg cs h2
    simpa [tl1, cs] using q
  exact cs_inj (by rw [← List.take_append_drop 1 (cs x), ← List.take_append_drop 1 (cs y), e1, e2])
theorem figN_tl {x : Str} (h : OkMaker x) : FigN (tl1 x) := by
  obtain ⟨a, l, e, _, h2⟩ := h
  refine .inr ?_
  have q : cs (tl1 x) = l := by
    unfold tl1 cs
    show (List.drop 1 (cs x)).toArray.toList = l
    rw [e]
    rfl
  rw [q]
  exact h2.2.1
theorem mkW_zero {x y : Str} (hx : OkMaker x) (hy : OkMaker y) : sideD (mkW x) (mkW y) = 0 ↔ x = y := by
  rw [sideD_pair (alike_str _ _) (alike_whole _ _)]
  refine ⟨fun q => ?_, fun q => by subst q; rw [if_pos (str_zero.mpr rfl)]; exact (whole_zero (figN_tl hx) (figN_tl hx)).mpr rfl⟩
  by_cases h : sideD (.str (hd1 x)) (.str (hd1 y)) = 0
  · rw [if_pos h] at q
    exact hd_tl (str_zero.mp h) ((whole_zero (figN_tl hx) (figN_tl hy)).mp q)
  · rw [if_neg h] at q
    exact absurd q h
theorem mkWs_zero : ∀ {xs ys : List Str}, (∀ x ∈ xs, OkMaker x) → (∀ y ∈ ys, OkMaker y) → (sideD (.tuple (xs.map mkW)) (.tuple (ys.map mkW)) = 0 ↔ xs = ys)
  | [], [], _, _ => by simp [sideD_nn]
  | [], y :: ys, _, _ => by simp [sideD_nc]
  | x :: xs, [], _, _ => by simp [sideD_cn]
  | x :: xs, y :: ys, hx, hy => by
    have h1 := hx x List.mem_cons_self
    have h2 := hy y List.mem_cons_self
    rw [List.map_cons, List.map_cons, sideD_cc (alike_mkW x y)]
    by_cases h : sideD (mkW x) (mkW y) = 0
    · rw [if_pos h, mkWs_zero (xs := xs) (ys := ys) (fun z hz => hx z (List.mem_cons_of_mem _ hz)) (fun z hz => hy z (List.mem_cons_of_mem _ hz)), (mkW_zero h1 h2).mp h]
      simp
    · rw [if_neg h]
      refine ⟨fun q => absurd q h, fun q => ?_⟩
      exact absurd ((mkW_zero h1 h2).mpr (List.cons.inj q).1) h
theorem pair_zero {x y x' y' : PyData} (h : alike x x' = true) (h' : alike y y' = true) : sideD (.tuple [x, y]) (.tuple [x', y']) = 0 ↔ sideD x x' = 0 ∧ sideD y y' = 0 := by
  rw [sideD_pair h h']
  by_cases q : sideD x x' = 0
  · rw [if_pos q]
    exact ⟨fun z => ⟨q, z⟩, fun z => z.2⟩
  · rw [if_neg q]
    exact ⟨fun z => absurd z q, fun z => absurd z.1 q⟩
theorem figO_zero {y z : Option Int} (hy : ∀ n, y = some n → 0 ≤ n) (hz : ∀ n, z = some n → 0 ≤ n) : sideD (.str (figO y)) (.str (figO z)) = 0 ↔ y = z := by
  rw [str_zero]
  refine ⟨fun q => ?_, fun q => by rw [q]⟩
  have ne : ∀ n : Int, 0 ≤ n → figs n ≠ emp := fun n hn e => by
    have h1 := figs_pos hn
    rw [e, cs_len, emp_cs] at h1
    exact absurd h1 (by decide)
  cases y with
  | none =>
    cases z with
    | none => rfl
    | some m => exact absurd q.symm (ne m (hz m rfl))
  | some n =>
    cases z with
    | none => exact absurd q (ne n (hy n rfl))
    | some m => rw [figs_inj (hy n rfl) (hz m rfl) q]
theorem side_zero {w : Nat} {u v : PV} (hw : w < 17) (hu : OkP (wp w) u) (hv : OkP (wp w) v) : side w u v = 0 ↔ u = v := by
  unfold side
  have e : w = 0 ∨ w = 1 ∨ w = 2 ∨ w = 3 ∨ w = 4 ∨ w = 5 ∨ w = 6 ∨ w = 7 ∨ w = 8 ∨ w = 9 ∨ w = 10 ∨ w = 11 ∨ w = 12 ∨ w = 13 ∨ w = 14 ∨ w = 15 ∨ w = 16 := by omega
  rcases e with rfl | rfl | rfl | rfl | rfl | rfl | rfl | rfl | rfl | rfl | rfl | rfl | rfl | rfl | rfl | rfl | rfl <;> cases u <;> simp only [wp, OkP] at hu <;> cases v <;> simp only [wp, OkP] at hv <;> simp only [keyP]
  · rw [str_zero, PV.s.injEq]
  · rw [pair_zero (alike_int _ _) (alike_str _ _), str_zero, int_zero, PV.s.injEq]
    exact ⟨fun q => q.2, fun q => ⟨by rw [q], q⟩⟩
  · rw [int_zero, PV.i.injEq]
  · rw [str_zero, PV.i.injEq]
    exact ⟨fun q => figs_inj (by omega) (by omega) q, fun q => by rw [q]⟩
  · rw [str_zero, PV.s.injEq]
  · rw [whole_zero (hu.imp id fun z => z.2.1) (hv.imp id fun z => z.2.1), PV.s.injEq]
  · rw [pair_zero (alike_bool _ _) (alike_str _ _), str_zero, PV.s.injEq]
    exact ⟨fun q => q.2, fun q => ⟨side_self_eq (by rw [q]) (alike_bool _ _), q⟩⟩
  · rw [strs_zero, PV.l.injEq]
  · rw [mkWs_zero hu.2 hv.2, PV.l.injEq]
  · rw [pair_zero (alike_int _ _) (by simp only [alike]; exact alike_strs _ _), strs_zero, int_zero, PV.l.injEq]
    exact ⟨fun q => q.2, fun q => ⟨by rw [q], q⟩⟩
  · rename_i y z
    rw [int_zero, PV.o.injEq]
    refine ⟨fun q => ?_, fun q => by rw [q]⟩
    cases y <;> cases z <;> simp_all [OkYear] <;> omega
  · rename_i y z
    rw [int_zero, PV.o.injEq]
    refine ⟨fun q => ?_, fun q => by rw [q]⟩
    cases y <;> cases z <;> simp_all [OkYear] <;> omega
  · rename_i y z
    rw [int_zero, PV.o.injEq]
    refine ⟨fun q => ?_, fun q => by rw [q]⟩
    cases y <;> cases z <;> simp_all [OkYear] <;> omega
  · rw [figO_zero (fun n h => by have := hu n h; omega) (fun n h => by have := hv n h; omega), PV.o.injEq]
  · rename_i y z
    rw [int_zero, PV.o.injEq]
    refine ⟨fun q => ?_, fun q => by rw [q]⟩
    cases y <;> cases z <;> simp_all [OkCopy] <;> omega
  · rename_i y z
    rw [int_zero, PV.o.injEq]
    refine ⟨fun q => ?_, fun q => by rw [q]⟩
    cases y <;> cases z <;> simp_all [OkCopy] <;> omega
  · rw [figO_zero (fun n h => by have := hu n h; omega) (fun n h => by have := hv n h; omega), PV.o.injEq]
end SM
end

section
set_option maxRecDepth 100000
set_option maxHeartbeats 8000000
/-! The mathematics of the marks, 3: of each part the cheapest pair with given answers stands in SOME. -/
namespace SM
open PySem PySem.W PyProof.Rows PySem.NumText

theorem some_ok : ∀ p, p < 6 → ∀ u ∈ SOME p, OkP p u := by
  have d1 : ∀ x : Str, (decide (1 ≤ x.length ∧ x.length ≤ 3) && (cs x).all fun c => decide (97 ≤ c ∧ c ≤ 122)) = true → OkLetters x := fun x h => by
    simp only [Bool.and_eq_true, decide_eq_true_eq, List.all_eq_true] at h
    exact ⟨h.1.1, h.1.2, h.2⟩
  have d2 : ∀ l : List Nat, (decide (l ≠ [] ∧ l.getLast? ≠ some 48 ∧ l.length ≤ 40) && l.all fun c => decide (48 ≤ c ∧ c ≤ 57)) = true → OkFigs l := fun x h => by
    simp only [Bool.and_eq_true, decide_eq_true_eq, List.all_eq_true] at h
    exact ⟨h.1.1, h.2, h.1.2.1, h.1.2.2⟩
  have d3 : ∀ x : Str, (match cs x with
      | [] => false
      | a :: l => decide (97 ≤ a ∧ a ≤ 122) && ((decide (l ≠ [] ∧ l.getLast? ≠ some 48 ∧ l.length ≤ 40) && l.all fun c => decide (48 ≤ c ∧ c ≤ 57)))) = true → OkMaker x := fun x h => by
    cases e : cs x with
    | nil => rw [e] at h; cases h
    | cons a l =>
      rw [e] at h
      obtain ⟨h1, h2⟩ := Bool.and_eq_true_iff.mp h
      exact ⟨a, l, e, (of_decide_eq_true h1 : 97 ≤ a ∧ a ≤ 122), d2 l h2⟩
  intro p hp u hu
  have e : p = 0 ∨ p = 1 ∨ p = 2 ∨ p = 3 ∨ p = 4 ∨ p = 5 := by omega
  rcases e with rfl | rfl | rfl | rfl | rfl | rfl <;> simp only [SOME, List.mem_cons, List.not_mem_nil, or_false] at hu
  · rcases hu with rfl | rfl | rfl <;> exact d1 _ (by decide +kernel)
  · rcases hu with rfl | rfl | rfl <;> simp [OkP]
  · rcases hu with rfl | rfl | rfl | rfl
    · exact .inl rfl
    all_goals exact .inr (d2 _ (by decide +kernel))
  · rcases hu with rfl | rfl | rfl | rfl | rfl <;> refine ⟨by decide, fun x hx => ?_⟩ <;> simp only [List.mem_cons, List.not_mem_nil, or_false] at hx
    · subst hx; exact d3 _ (by decide +kernel)
    · subst hx; exact d3 _ (by decide +kernel)
    · subst hx; exact d3 _ (by decide +kernel)
    · rcases hx with rfl | rfl <;> exact d3 _ (by decide +kernel)
  · rcases hu with rfl | rfl | rfl <;> intro n h <;> simp at h <;> omega
  · rcases hu with rfl | rfl | rfl <;> intro n h <;> simp at h <;> omega

/-! ### what two ways of a part say of two values -/
/-- the least signs of two unlike values of which two ways say the same, or the opposite -/
def Lt : Nat → Nat → Bool → Nat
  | 0, 1, true => 2 | 0, 1, false => 3
  | 2, 3, true => 2 | 2, 3, false => 3
  | 4, 5, true => 2 | 4, 5, false => 5
  | 4, 6, true => 4 | 4, 6, false => 2
  | 5, 6, true => 4 | 5, 6, false => 2
  | 7, 8, true => 3 | 7, 8, false => 7
  | 7, 9, true => 3 | 7, 9, false => 9
  | 8, 9, true => 3 | 8, 9, false => 7
  | 10, 11, false => 5
  | 10, 12, true => 10 | 10, 12, false => 5
  | 10, 13, true => 5
  | 11, 12, true => 5 | 11, 12, false => 10
  | 11, 13, false => 5
  | 12, 13, true => 10 | 12, 13, false => 5
  | 14, 15, false => 4
  | 14, 16, true => 4 | 14, 16, false => 9
  | 15, 16, true => 9 | 15, 16, false => 4
  | _, _, _ => 1000
def base : Nat → Nat
  | 0 => 2 | 1 => 2 | 2 => 2 | 3 => 3 | 4 => 5 | 5 => 4 | _ => 1000
def L2b (a b : Nat) (k : Bool) : Nat := if a = b then (if k = true then base (wp a) else 1000) else if a < b then Lt a b k else Lt b a k
/-- a pair of SOME with these answers and so many signs -/
def hasPair (a b : Nat) (s : Int) (k : Bool) : Bool :=
  (SOME (wp a)).any fun x => (SOME (wp a)).any fun y => decide (side a x y = s) && (decide (side b x y = if k = true then s else -s) && decide (cost (wp a) x + cost (wp a) y = L2b a b k))
theorem pairs_there : ((List.range 17).all fun a => (List.range 17).all fun b => decide (wp a ≠ wp b) || ([true, false].all fun k => decide (L2b a b k = 1000) || (hasPair a b 1 k && hasPair a b (-1) k))) = true := by
  decide +kernel
theorem hasPair_of {a b : Nat} (ha : a < 17) (hb : b < 17) (e : wp a = wp b) {s : Int} (hs : s = 1 ∨ s = -1) {k : Bool} (hk : L2b a b k ≠ 1000) :
    ∃ x ∈ SOME (wp a), ∃ y ∈ SOME (wp a), side a x y = s ∧ side b x y = (if k = true then s else -s) ∧ cost (wp a) x + cost (wp a) y = L2b a b k := by
  have h1 := List.all_eq_true.mp pairs_there a (List.mem_range.mpr ha)
  have h2 := List.all_eq_true.mp h1 b (List.mem_range.mpr hb)
  have h3 := (Bool.or_eq_true_iff.mp h2).resolve_left (by simp [e])
  have h4 := List.all_eq_true.mp h3 k (by cases k <;> simp)
  have h5 := (Bool.or_eq_true_iff.mp h4).resolve_left (by simpa using hk)
  obtain ⟨h6, h7⟩ := Bool.and_eq_true_iff.mp h5
  have h8 : hasPair a b s k = true := by
    rcases hs with rfl | rfl
    · exact h6
    · exact h7
  obtain ⟨x, hx, h9⟩ := List.any_eq_true.mp h8
  obtain ⟨y, hy, h10⟩ := List.any_eq_true.mp h9
  obtain ⟨q1, q2⟩ := Bool.and_eq_true_iff.mp h10
  obtain ⟨q3, q4⟩ := Bool.and_eq_true_iff.mp q2
  exact ⟨x, hx, y, hy, of_decide_eq_true q1, of_decide_eq_true q3, of_decide_eq_true q4⟩

/-! ### the lower bounds -/
/-- what the ways of a part say of two unlike values: each the sign of the first one, or the opposite; fewest signs -/
theorem short_eq {x y : Str} (e : x.length = y.length) : side 1 (.s x) (.s y) = side 0 (.s x) (.s y) := by
  unfold side
  simp only [keyP]
  rw [sideD_pair (alike_int _ _) (alike_str _ _), if_pos (int_zero.mpr (by rw [e]))]
theorem num_one : ∀ n : Fin 10, ∀ m : Fin 10, side 3 (.i (n.val : Int)) (.i (m.val : Int)) = side 2 (.i (n.val : Int)) (.i (m.val : Int)) := by
  decide +kernel
theorem num_eq {n m : Int} (h0 : 0 ≤ n) (h1 : n < 10) (k0 : 0 ≤ m) (k1 : m < 10) : sideD (.str (figs n)) (.str (figs m)) = sideD (.int n) (.int m) :=
  side_figs h0 k0 (by rw [figs_one h0 h1, figs_one k0 k1])
theorem long_of {n : Int} (h : 10 ≤ n) : 2 ≤ (figs n).length := figs_ge (k := 1) (by simpa using h)
theorem nil_lt {x : Str} (h : x ≠ emp) : sideD (.str emp) (.str x) = -1 := by
  rw [sideD_str, if_neg (fun q => h q.symm), if_pos]
  show cs emp < cs x
  rw [emp_cs]
  cases q : cs x with
  | nil => exact absurd (cs_emp.mp q) h
  | cons a l => exact List.nil_lt_cons a l
theorem lt_nil {x : Str} (h : x ≠ emp) : sideD (.str x) (.str emp) = 1 := by
  rw [sideD_anti (alike_str emp x), nil_lt h]
  rfl
theorem whole_nl {x : Str} (h : x ≠ emp) : sideD (wholeOf emp) (wholeOf x) = -1 := by
  unfold wholeOf
  rw [if_pos rfl, if_neg h, sideD_cc (alike_int _ _), if_neg (by rw [int_zero]; decide), sideD_int]
  rfl
theorem whole_ln {x : Str} (h : x ≠ emp) : sideD (wholeOf x) (wholeOf emp) = 1 := by
  rw [sideD_anti (alike_whole emp x), whole_nl h]
  rfl
/-- figures of one length as points and as whole numbers -/
theorem whole_eq {x y : Str} (hx : AllDigits (cs x)) (hy : AllDigits (cs y)) (nx : x ≠ emp) (ny : y ≠ emp) (e : x.length = y.length) : sideD (wholeOf x) (wholeOf y) = sideD (.str x) (.str y) := by
  unfold wholeOf
  rw [if_neg nx, if_neg ny, sideD_cc (alike_int _ _), if_pos (int_zero.mpr rfl), sideD_pair (alike_int _ _) (alike_int _ _)]
  rw [cs_len, cs_len] at e
  by_cases h : x = y
  · subst h
    rw [if_pos (int_zero.mpr rfl), int_zero.mpr rfl, str_zero.mpr rfl]
  · have h1 : digitsVal (cs x) ≠ digitsVal (cs y) := fun q => h (cs_inj (val_inj e hx hy q))
    rw [if_neg (fun q => h1 (by have := int_zero.mp q; omega)), sideD_int, sideD_str, if_neg h, if_neg (by omega)]
    have z := lex_val e hx hy
    by_cases h2 : digitsVal (cs x) < digitsVal (cs y)
    · rw [if_pos (by omega), if_pos (show cs x < cs y from z.mpr h2)]
    · rw [if_neg (by omega), if_neg (show ¬ cs x < cs y from fun q => h2 (z.mp q))]
theorem bound0 {x y : Str} (hx : OkLetters x) (hy : OkLetters y) (ne : x ≠ y) :
    2 ≤ x.length + y.length ∧ (x.length + y.length < 3 → side 1 (.s x) (.s y) = side 0 (.s x) (.s y)) := by
  have := hx.1
  have := hy.1
  exact ⟨by omega, fun h => short_eq (by omega)⟩
theorem bound1 {n m : Int} (hn : 1 ≤ n ∧ n ≤ 9999) (hm : 1 ≤ m ∧ m ≤ 9999) : 2 ≤ (figs n).length + (figs m).length ∧ ((figs n).length + (figs m).length < 3 → side 3 (.i n) (.i m) = side 2 (.i n) (.i m)) := by
  have h1 := figs_pos (n := n) (by omega)
  have h2 := figs_pos (n := m) (by omega)
  refine ⟨by omega, fun h => ?_⟩
  have a : n < 10 := by
    rcases Int.lt_or_le n 10 with q | q
    · exact q
    · have := long_of q; omega
  have b : m < 10 := by
    rcases Int.lt_or_le m 10 with q | q
    · exact q
    · have := long_of q; omega
  exact num_eq (by omega) a (by omega) b
/-- points -/
theorem late_eq {x y : Str} (h : x ≠ emp) (h' : y ≠ emp) : side 6 (.s x) (.s y) = side 4 (.s x) (.s y) := by
  unfold side
  simp only [keyP]
  rw [sideD_pair (alike_bool _ _) (alike_str _ _), if_pos]
  rw [decide_eq_false h, decide_eq_false h']
  exact side_self_eq rfl (alike_bool _ _)
theorem late_nl {x : Str} (h : x ≠ emp) : side 6 (.s emp) (.s x) = 1 := by
  show sideD (.tuple [.bool (decide (emp = emp)), .str emp]) (.tuple [.bool (decide (x = emp)), .str x]) = 1
  rw [sideD_pair (alike_bool _ _) (alike_str _ _), decide_eq_true (rfl : emp = emp), decide_eq_false h, sideD_bool]
  rfl
theorem late_ln {x : Str} (h : x ≠ emp) : side 6 (.s x) (.s emp) = -1 := by
  show sideD (.tuple [.bool (decide (x = emp)), .str x]) (.tuple [.bool (decide (emp = emp)), .str emp]) = -1
  rw [sideD_pair (alike_bool _ _) (alike_str _ _), decide_eq_true (rfl : emp = emp), decide_eq_false h, sideD_bool]
  rfl
theorem bound2 {x y : Str} (hx : OkPoints x) (hy : OkPoints y) (ne : x ≠ y) :
    (side 5 (.s x) (.s y) = side 4 (.s x) (.s y) ∧ side 6 (.s x) (.s y) = - side 4 (.s x) (.s y) ∧ 2 ≤ cost 2 (.s x) + cost 2 (.s y)) ∨
    (side 6 (.s x) (.s y) = side 4 (.s x) (.s y) ∧ 4 ≤ cost 2 (.s x) + cost 2 (.s y) ∧ (cost 2 (.s x) + cost 2 (.s y) < 5 → side 5 (.s x) (.s y) = side 4 (.s x) (.s y))) := by
  by_cases h1 : x = emp
  · subst h1
    have h2 : y ≠ emp := fun q => ne q.symm
    refine .inl ⟨?_, ?_, ?_⟩
    · show sideD (wholeOf emp) (wholeOf y) = sideD (.str emp) (.str y)
      rw [whole_nl h2, nil_lt h2]
    · rw [late_nl h2]
      show (1 : Int) = - sideD (.str emp) (.str y)
      rw [nil_lt h2]
      rfl
    · have := pos_of_ne h2
      simp only [cost, if_neg h2]
      omega
  · by_cases h2 : y = emp
    · subst h2
      refine .inl ⟨?_, ?_, ?_⟩
      · show sideD (wholeOf x) (wholeOf emp) = sideD (.str x) (.str emp)
        rw [whole_ln h1, lt_nil h1]
      · rw [late_ln h1]
        show (-1 : Int) = - sideD (.str x) (.str emp)
        rw [lt_nil h1]
      · have := pos_of_ne h1
        simp only [cost, if_neg h1]
        omega
    · have p1 := pos_of_ne h1
      have p2 := pos_of_ne h2
      refine .inr ⟨late_eq h1 h2, ?_, fun h => ?_⟩
      · simp only [cost, if_neg h1, if_neg h2]
        omega
      · simp only [cost, if_neg h1, if_neg h2] at h
        exact whole_eq (hx.resolve_left h1).2.1 (hy.resolve_left h2).2.1 h1 h2 (by omega)
/-- makers -/
theorem maker_len {x : Str} (h : OkMaker x) : 2 ≤ x.length := by
  obtain ⟨a, l, e, _, h2⟩ := h
  rw [cs_len, e, List.length_cons]
  have : l ≠ [] := h2.1
  cases l with
  | nil => exact absurd rfl this
  | cons b r => rw [List.length_cons]; omega
theorem sum_ge : ∀ {xs : List Str}, (∀ x ∈ xs, OkMaker x) → 3 * xs.length ≤ (xs.map fun x => 1 + x.length).sum
  | [], _ => by simp
  | x :: xs, h => by
    have h1 := maker_len (h x List.mem_cons_self)
    have h2 := sum_ge (xs := xs) fun z hz => h z (List.mem_cons_of_mem _ hz)
    rw [List.map_cons, List.sum_cons, List.length_cons]
    omega
theorem few_eq {xs ys : List Str} (e : xs.length = ys.length) : side 9 (.l xs) (.l ys) = side 7 (.l xs) (.l ys) := by
  unfold side
  simp only [keyP]
  rw [sideD_pair (alike_int _ _) (by simp only [alike]; exact alike_strs _ _), if_pos (int_zero.mpr (by rw [e]))]
theorem tup_nl {f : Str → PyData} {y : Str} {ys : List Str} : sideD (.tuple (([] : List Str).map f)) (.tuple ((y :: ys).map f)) = -1 := sideD_nc _ _
theorem tup_ln {f : Str → PyData} {y : Str} {ys : List Str} : sideD (.tuple ((y :: ys).map f)) (.tuple (([] : List Str).map f)) = 1 := sideD_cn _ _
theorem few_nl {y : Str} {ys : List Str} : side 9 (.l []) (.l (y :: ys)) = -1 := by
  unfold side
  simp only [keyP]
  rw [sideD_pair (alike_int _ _) (by simp only [alike]; exact alike_strs _ _), if_neg (by rw [int_zero, List.length_cons, List.length_nil]; omega), sideD_int, if_neg (by rw [List.length_cons, List.length_nil]; omega), if_pos (by rw [List.length_cons, List.length_nil]; omega)]
theorem few_ln {y : Str} {ys : List Str} : side 9 (.l (y :: ys)) (.l []) = 1 := by
  unfold side
  simp only [keyP]
  rw [sideD_pair (alike_int _ _) (by simp only [alike]; exact alike_strs _ _), if_neg (by rw [int_zero, List.length_cons, List.length_nil]; omega), sideD_int, if_neg (by rw [List.length_cons, List.length_nil]; omega), if_neg (by rw [List.length_cons, List.length_nil]; omega)]
theorem str_two {x y : Str} {a b c d : Nat} (hx : cs x = [a, b]) (hy : cs y = [c, d]) : sideD (.str x) (.str y) = if sideD (.str (hd1 x)) (.str (hd1 y)) = 0 then sideD (.str (tl1 x)) (.str (tl1 y)) else sideD (.str (hd1 x)) (.str (hd1 y)) := by
  have hx1 : cs (hd1 x) = [a] := by unfold hd1 cs; show (List.take 1 (cs x)).toArray.toList = [a]; rw [hx]; rfl
  have hy1 : cs (hd1 y) = [c] := by unfold hd1 cs; show (List.take 1 (cs y)).toArray.toList = [c]; rw [hy]; rfl
  have hx2 : cs (tl1 x) = [b] := by unfold tl1 cs; show (List.drop 1 (cs x)).toArray.toList = [b]; rw [hx]; rfl
  have hy2 : cs (tl1 y) = [d] := by unfold tl1 cs; show (List.drop 1 (cs y)).toArray.toList = [d]; rw [hy]; rfl
  have e0 : x = y ↔ a = c ∧ b = d := ⟨fun q => by rw [q, hy] at hx; simp at hx; exact ⟨hx.1.symm, hx.2.symm⟩, fun q => cs_inj (by rw [hx, hy, q.1, q.2])⟩
  have e1 : hd1 x = hd1 y ↔ a = c := ⟨fun q => by rw [q, hy1] at hx1; simp at hx1; exact hx1.symm, fun q => cs_inj (by rw [hx1, hy1, q])⟩
  have e2 : tl1 x = tl1 y ↔ b = d := ⟨fun q => by rw [q, hy2] at hx2; simp at hx2; exact hx2.symm, fun q => cs_inj (by rw [hx2, hy2, q])⟩
  by_cases q1 : a = c
  · rw [if_pos (str_zero.mpr (e1.mpr q1)), sideD_str, sideD_str]
    by_cases q2 : b = d
    · rw [if_pos (e0.mpr ⟨q1, q2⟩), if_pos (e2.mpr q2)]
    · rw [if_neg (fun z => q2 (e0.mp z).2), if_neg (fun z => q2 (e2.mp z))]
      show (if cs x < cs y then (-1 : Int) else 1) = if cs (tl1 x) < cs (tl1 y) then -1 else 1
      have z : cs x < cs y ↔ cs (tl1 x) < cs (tl1 y) := by
        rw [hx, hy, hx2, hy2]
        simp only [List.cons_lt_cons_iff, List.not_lt_nil, and_false, or_false]
        omega
      simp only [z]
  · rw [if_neg (fun z => q1 (e1.mp (str_zero.mp z))), sideD_str, sideD_str, if_neg (fun z => q1 (e0.mp z).1), if_neg (fun z => q1 (e1.mp z))]
    show (if cs x < cs y then (-1 : Int) else 1) = if cs (hd1 x) < cs (hd1 y) then -1 else 1
    have z : cs x < cs y ↔ cs (hd1 x) < cs (hd1 y) := by
      rw [hx, hy, hx1, hy1]
      simp only [List.cons_lt_cons_iff, List.not_lt_nil, and_false, or_false]
      omega
    simp only [z]
theorem one_maker {x y : Str} (hx : OkMaker x) (hy : OkMaker y) (e1 : x.length = 2) (e2 : y.length = 2) : side 8 (.l [x]) (.l [y]) = side 7 (.l [x]) (.l [y]) := by
  unfold side
  simp only [keyP, List.map_cons, List.map_nil]
  rw [sideD_cc (alike_mkW x y), sideD_cc (alike_str x y), sideD_nn]
  obtain ⟨a, l, q1, _, q2⟩ := hx
  obtain ⟨c, m, q3, _, q4⟩ := hy
  rw [cs_len, q1, List.length_cons] at e1
  rw [cs_len, q3, List.length_cons] at e2
  obtain ⟨b, rfl⟩ : ∃ b, l = [b] := by
    match l, e1 with
    | [b], _ => exact ⟨b, rfl⟩
  obtain ⟨d, rfl⟩ : ∃ d, m = [d] := by
    match m, e2 with
    | [d], _ => exact ⟨d, rfl⟩
  have hx2 : cs (tl1 x) = [b] := by unfold tl1 cs; show (List.drop 1 (cs x)).toArray.toList = [b]; rw [q1]; rfl
  have hy2 : cs (tl1 y) = [d] := by unfold tl1 cs; show (List.drop 1 (cs y)).toArray.toList = [d]; rw [q3]; rfl
  have n1 : tl1 x ≠ emp := fun q => by rw [q, emp_cs] at hx2; cases hx2
  have n2 : tl1 y ≠ emp := fun q => by rw [q, emp_cs] at hy2; cases hy2
  have w : sideD (wholeOf (tl1 x)) (wholeOf (tl1 y)) = sideD (.str (tl1 x)) (.str (tl1 y)) := whole_eq (by rw [hx2]; exact q2.2.1) (by rw [hy2]; exact q4.2.1) n1 n2 (by rw [cs_len, cs_len, hx2, hy2]; rfl)
  rw [sideD_pair (alike_str _ _) (alike_whole _ _), w, str_two q1 q3]
theorem bound3 {xs ys : List Str} (hx : ∀ x ∈ xs, OkMaker x) (hy : ∀ y ∈ ys, OkMaker y) (ne : xs ≠ ys) :
    3 ≤ cost 3 (.l xs) + cost 3 (.l ys) ∧ (cost 3 (.l xs) + cost 3 (.l ys) < 7 → side 8 (.l xs) (.l ys) = side 7 (.l xs) (.l ys)) ∧ (cost 3 (.l xs) + cost 3 (.l ys) < 9 → side 9 (.l xs) (.l ys) = side 7 (.l xs) (.l ys)) := by
  have s1 := sum_ge hx
  have s2 := sum_ge hy
  simp only [cost]
  cases xs with
  | nil =>
    cases ys with
    | nil => exact absurd rfl ne
    | cons y ys =>
      rw [List.length_cons] at s2
      refine ⟨by omega, fun _ => ?_, fun _ => ?_⟩
      · show sideD (.tuple (([] : List Str).map mkW)) (.tuple ((y :: ys).map mkW)) = sideD (.tuple (([] : List Str).map .str)) (.tuple ((y :: ys).map .str))
        rw [tup_nl, tup_nl]
      · rw [few_nl]
        show (-1 : Int) = sideD (.tuple (([] : List Str).map .str)) (.tuple ((y :: ys).map .str))
        rw [tup_nl]
  | cons x xs =>
    cases ys with
    | nil =>
      rw [List.length_cons] at s1
      refine ⟨by omega, fun _ => ?_, fun _ => ?_⟩
      · show sideD (.tuple ((x :: xs).map mkW)) (.tuple (([] : List Str).map mkW)) = sideD (.tuple ((x :: xs).map .str)) (.tuple (([] : List Str).map .str))
        rw [tup_ln, tup_ln]
      · rw [few_ln]
        show (1 : Int) = sideD (.tuple ((x :: xs).map .str)) (.tuple (([] : List Str).map .str))
        rw [tup_ln]
    | cons y ys =>
      rw [List.length_cons] at s1 s2
      have m1 := maker_len (hx x List.mem_cons_self)
      have m2 := maker_len (hy y List.mem_cons_self)
      have t1 := sum_ge (xs := xs) fun z hz => hx z (List.mem_cons_of_mem _ hz)
      have t2 := sum_ge (xs := ys) fun z hz => hy z (List.mem_cons_of_mem _ hz)
      simp only [List.map_cons, List.sum_cons] at s1 s2 ⊢
      refine ⟨by omega, fun h => ?_, fun h => few_eq ?_⟩
      · have : xs.length = 0 := by omega
        have : ys.length = 0 := by omega
        obtain rfl : xs = [] := List.length_eq_zero_iff.mp (by omega)
        obtain rfl : ys = [] := List.length_eq_zero_iff.mp (by omega)
        exact one_maker (hx x List.mem_cons_self) (hy y List.mem_cons_self) (by simp at h; omega) (by simp at h; omega)
      · rw [List.length_cons, List.length_cons]
        omega
/-- years -/
theorem neg_side (a b : Int) : sideD (.int (-a)) (.int (-b)) = - sideD (.int a) (.int b) := by
  rw [sideD_int, sideD_int]
  by_cases h : a = b
  · rw [if_pos h, if_pos (by omega)]
    rfl
  · rw [if_neg h, if_neg (by omega)]
    by_cases h2 : a < b
    · rw [if_pos h2, if_neg (by omega)]
      rfl
    · rw [if_neg h2, if_pos (by omega)]
theorem bound4 {y z : Option Int} (hy : OkYear y) (hz : OkYear z) (ne : y ≠ z) : side 11 (.o y) (.o z) = - side 10 (.o y) (.o z) ∧ side 13 (.o y) (.o z) = side 10 (.o y) (.o z) ∧
    ((side 12 (.o y) (.o z) = - side 10 (.o y) (.o z) ∧ 5 ≤ cost 4 (.o y) + cost 4 (.o z)) ∨ (side 12 (.o y) (.o z) = side 10 (.o y) (.o z) ∧ 10 ≤ cost 4 (.o y) + cost 4 (.o z))) := by
  refine ⟨neg_side _ _, ?_⟩
  unfold side
  cases y with
  | none =>
    cases z with
    | none => exact absurd rfl ne
    | some m =>
      obtain ⟨m1, m2⟩ := hz m rfl
      have q : figs m ≠ emp := fun e => by
        have h1 := figs_pos (n := m) (by omega)
        rw [e, cs_len, emp_cs] at h1
        exact absurd h1 (by decide)
      simp only [keyP, figO, Option.getD, cost, figs_four m1 m2, sideD_int]
      rw [nil_lt q, if_neg (by omega), if_pos (by omega), if_neg (by omega), if_neg (by omega)]
      exact ⟨rfl, .inl ⟨rfl, by omega⟩⟩
  | some n =>
    obtain ⟨n1, n2⟩ := hy n rfl
    have q : figs n ≠ emp := fun e => by
      have h1 := figs_pos (n := n) (by omega)
      rw [e, cs_len, emp_cs] at h1
      exact absurd h1 (by decide)
    cases z with
    | none =>
      simp only [keyP, figO, Option.getD, cost, figs_four n1 n2, sideD_int]
      rw [lt_nil q, if_neg (by omega), if_neg (by omega), if_neg (by omega), if_pos (by omega)]
      exact ⟨rfl, .inl ⟨rfl, by omega⟩⟩
    | some m =>
      obtain ⟨m1, m2⟩ := hz m rfl
      simp only [keyP, figO, Option.getD, cost, figs_four n1 n2, figs_four m1 m2]
      exact ⟨side_figs (by omega) (by omega) (by rw [figs_four n1 n2, figs_four m1 m2]), .inr ⟨trivial, by omega⟩⟩
/-- copies -/
theorem bound5 {y z : Option Int} (hy : OkCopy y) (hz : OkCopy z) (ne : y ≠ z) : side 15 (.o y) (.o z) = - side 14 (.o y) (.o z) ∧
    4 ≤ cost 5 (.o y) + cost 5 (.o z) ∧ (cost 5 (.o y) + cost 5 (.o z) < 9 → side 16 (.o y) (.o z) = side 14 (.o y) (.o z)) := by
  refine ⟨neg_side _ _, ?_⟩
  unfold side
  cases y with
  | none =>
    cases z with
    | none => exact absurd rfl ne
    | some m =>
      obtain ⟨m1, m2⟩ := hz m rfl
      have h1 := figs_pos (n := m) (by omega)
      have q : figs m ≠ emp := fun e => by
        rw [e, cs_len, emp_cs] at h1
        exact absurd h1 (by decide)
      simp only [keyP, figO, Option.getD, cost, sideD_int]
      rw [nil_lt q, if_neg (by omega), if_pos (by omega)]
      exact ⟨by omega, fun _ => rfl⟩
  | some n =>
    obtain ⟨n1, n2⟩ := hy n rfl
    have h1 := figs_pos (n := n) (by omega)
    have q : figs n ≠ emp := fun e => by
      rw [e, cs_len, emp_cs] at h1
      exact absurd h1 (by decide)
    cases z with
    | none =>
      simp only [keyP, figO, Option.getD, cost, sideD_int]
      rw [lt_nil q, if_neg (by omega), if_neg (by omega)]
      exact ⟨by omega, fun _ => rfl⟩
    | some m =>
      obtain ⟨m1, m2⟩ := hz m rfl
      have h2 := figs_pos (n := m) (by omega)
      simp only [keyP, figO, Option.getD, cost]
      refine ⟨by omega, fun h => ?_⟩
      have a : n < 10 := by
        rcases Int.lt_or_le n 10 with q | q
        · exact q
        · have := long_of q; omega
      have b : m < 10 := by
        rcases Int.lt_or_le m 10 with q | q
        · exact q
        · have := long_of q; omega
      exact num_eq (by omega) a (by omega) b
theorem wp_cases : ∀ a, a < 17 → ∀ b, b < 17 → wp b = wp a → (a < 2 ∧ b < 2) ∨ (1 < a ∧ a < 4 ∧ 1 < b ∧ b < 4) ∨ (3 < a ∧ a < 7 ∧ 3 < b ∧ b < 7) ∨ (6 < a ∧ a < 10 ∧ 6 < b ∧ b < 10) ∨ (9 < a ∧ a < 14 ∧ 9 < b ∧ b < 14) ∨ (13 < a ∧ 13 < b) := by
  have h : ∀ a : Fin 17, ∀ b : Fin 17, wp b.val = wp a.val → (a.val < 2 ∧ b.val < 2) ∨ (1 < a.val ∧ a.val < 4 ∧ 1 < b.val ∧ b.val < 4) ∨ (3 < a.val ∧ a.val < 7 ∧ 3 < b.val ∧ b.val < 7) ∨ (6 < a.val ∧ a.val < 10 ∧ 6 < b.val ∧ b.val < 10) ∨ (9 < a.val ∧ a.val < 14 ∧ 9 < b.val ∧ b.val < 14) ∨ (13 < a.val ∧ 13 < b.val) := by decide +kernel
  exact fun a ha b hb => h ⟨a, ha⟩ ⟨b, hb⟩
/-- no two unlike values of fewer signs -/
theorem lower {a b : Nat} {u v : PV} (ha : a < 17) (hb : b < 17) (e : wp b = wp a) (hu : OkP (wp a) u) (hv : OkP (wp a) v) (ne : u ≠ v) : L2b a b (decide (side b u v = side a u v)) ≤ cost (wp a) u + cost (wp a) v := by
  have sa : side a u v = 1 ∨ side a u v = -1 := (side_cases a u v).resolve_left fun q => ne ((side_zero ha hu hv).mp q)
  have key : ∀ {k : Prop} [Decidable k] {n : Nat}, (k → L2b a b true ≤ n) → (¬ k → L2b a b false ≤ n) → L2b a b (decide k) ≤ n := fun {k} _ {n} h1 h2 => by
    by_cases h : k
    · rw [decide_eq_true h]
      exact h1 h
    · rw [decide_eq_false h]
      exact h2 h
  rcases wp_cases a ha b hb e with ⟨h1, h2⟩ | ⟨h1, h2, h3, h4⟩ | ⟨h1, h2, h3, h4⟩ | ⟨h1, h2, h3, h4⟩ | ⟨h1, h2, h3, h4⟩ | ⟨h1, h2⟩
  · have ea : a = 0 ∨ a = 1 := by omega
    have eb : b = 0 ∨ b = 1 := by omega
    have hw : wp a = 0 := by rcases ea with rfl | rfl <;> rfl
    rw [hw] at hu hv ⊢
    cases u <;> simp only [OkP] at hu
    cases v <;> simp only [OkP] at hv
    have B := bound0 hu hv (fun q => ne (by rw [q]))
    have B' : 2 ≤ cost 0 (.s _) + cost 0 (.s _) ∧ (cost 0 (.s _) + cost 0 (.s _) < 3 → side 1 (.s _) (.s _) = side 0 (.s _) (.s _)) := B
    rcases ea with rfl | rfl <;> rcases eb with rfl | rfl <;> exact key (fun k => by show (_ : Nat) ≤ _; first | exact B'.1 | (simp only [L2b, Lt, base, wp]; simp; omega)) (fun k => by first | exact absurd rfl k | (simp only [L2b, Lt, base, wp]; simp; omega))
  · have ea : a = 2 ∨ a = 3 := by omega
    have eb : b = 2 ∨ b = 3 := by omega
    have hw : wp a = 1 := by rcases ea with rfl | rfl <;> rfl
    rw [hw] at hu hv ⊢
    cases u <;> simp only [OkP] at hu
    cases v <;> simp only [OkP] at hv
    have B := bound1 hu hv
    have B' : 2 ≤ cost 1 (.i _) + cost 1 (.i _) ∧ (cost 1 (.i _) + cost 1 (.i _) < 3 → side 3 (.i _) (.i _) = side 2 (.i _) (.i _)) := B
    rcases ea with rfl | rfl <;> rcases eb with rfl | rfl <;> exact key (fun k => by first | exact B'.1 | (simp only [L2b, Lt, base, wp]; simp; omega)) (fun k => by first | exact absurd rfl k | (simp only [L2b, Lt, base, wp]; simp; omega))
  · have ea : a = 4 ∨ a = 5 ∨ a = 6 := by omega
    have eb : b = 4 ∨ b = 5 ∨ b = 6 := by omega
    have hw : wp a = 2 := by rcases ea with rfl | rfl | rfl <;> rfl
    rw [hw] at hu hv ⊢
    cases u <;> simp only [OkP] at hu
    cases v <;> simp only [OkP] at hv
    have B := bound2 hu hv (fun q => ne (by rw [q]))
    rcases ea with rfl | rfl | rfl <;> rcases eb with rfl | rfl | rfl <;> exact key (fun k => by simp only [L2b, Lt, base, wp]; simp; omega) (fun k => by first | exact absurd rfl k | (simp only [L2b, Lt, base, wp]; simp; omega))
  · have ea : a = 7 ∨ a = 8 ∨ a = 9 := by omega
    have eb : b = 7 ∨ b = 8 ∨ b = 9 := by omega
    have hw : wp a = 3 := by rcases ea with rfl | rfl | rfl <;> rfl
    rw [hw] at hu hv ⊢
    cases u <;> simp only [OkP] at hu
    cases v <;> simp only [OkP] at hv
    have B := bound3 hu.2 hv.2 (fun q => ne (by rw [q]))
    rcases ea with rfl | rfl | rfl <;> rcases eb with rfl | rfl | rfl <;> exact key (fun k => by simp only [L2b, Lt, base, wp]; simp; omega) (fun k => by first | exact absurd rfl k | (simp only [L2b, Lt, base, wp]; simp; omega))
  · have ea : a = 10 ∨ a = 11 ∨ a = 12 ∨ a = 13 := by omega
    have eb : b = 10 ∨ b = 11 ∨ b = 12 ∨ b = 13 := by omega
    have hw : wp a = 4 := by rcases ea with rfl | rfl | rfl | rfl <;> rfl
    rw [hw] at hu hv ⊢
    cases u <;> simp only [OkP] at hu
    cases v <;> simp only [OkP] at hv
    have B := bound4 hu hv (fun q => ne (by rw [q]))
    rcases ea with rfl | rfl | rfl | rfl <;> rcases eb with rfl | rfl | rfl | rfl <;> exact key (fun k => by simp only [L2b, Lt, base, wp]; simp; omega) (fun k => by first | exact absurd rfl k | (simp only [L2b, Lt, base, wp]; simp; omega))
  · have ea : a = 14 ∨ a = 15 ∨ a = 16 := by omega
    have eb : b = 14 ∨ b = 15 ∨ b = 16 := by omega
    have hw : wp a = 5 := by rcases ea with rfl | rfl | rfl <;> rfl
    rw [hw] at hu hv ⊢
    cases u <;> simp only [OkP] at hu
    cases v <;> simp only [OkP] at hv
    have B := bound5 hu hv (fun q => ne (by rw [q]))
    rcases ea with rfl | rfl | rfl <;> rcases eb with rfl | rfl | rfl <;> exact key (fun k => by simp only [L2b, Lt, base, wp]; simp; omega) (fun k => by first | exact absurd rfl k | (simp only [L2b, Lt, base, wp]; simp; omega))

theorem sum_le : ∀ {xs : List Str}, (∀ x ∈ xs, OkMaker x) → (xs.map fun x => 1 + x.length).sum ≤ 42 * xs.length
  | [], _ => by simp
  | x :: xs, h => by
    obtain ⟨a, l, e, _, h2⟩ := h x List.mem_cons_self
    have h1 : x.length ≤ 41 := by
      rw [cs_len, e, List.length_cons]
      have := h2.2.2.2
      omega
    have h3 := sum_le (xs := xs) fun z hz => h z (List.mem_cons_of_mem _ hz)
    rw [List.map_cons, List.sum_cons, List.length_cons]
    omega
theorem cost_lt {p : Nat} {u : PV} (hu : OkP p u) : cost p u < 200 := by
  by_cases hp : p < 6
  · have e : p = 0 ∨ p = 1 ∨ p = 2 ∨ p = 3 ∨ p = 4 ∨ p = 5 := by omega
    rcases e with rfl | rfl | rfl | rfl | rfl | rfl <;> cases u <;> simp only [OkP] at hu
    · have := hu.2.1
      simp only [cost]
      omega
    · rename_i n
      have := figs_le (n := n) (k := 4) (by omega) (by decide) (show n < (10000 : Int) by omega)
      simp only [cost]
      omega
    · simp only [cost]
      split
      · omega
      · rename_i h
        have := (hu.resolve_left h).2.2.2
        rw [cs_len]
        omega
    · have := sum_le hu.2
      have := hu.1
      simp only [cost]
      omega
    · rename_i y
      cases y with
      | none => simp [cost]
      | some n =>
        obtain ⟨n1, n2⟩ := hu n rfl
        simp only [cost, figs_four n1 n2]
        omega
    · rename_i y
      cases y with
      | none => simp [cost]
      | some n =>
        obtain ⟨n1, n2⟩ := hu n rfl
        have := figs_le (k := 40) (by omega : 0 ≤ n) (by decide) n2
        simp only [cost]
        omega
  · exfalso
    have : p = 6 ∨ 6 < p := by omega
    unfold OkP at hu
    split at hu <;> first | omega | exact hu
/-! ### any two values: a pair of SOME with the same answers, and no more signs -/
def sideO (o : Option Nat) (u v : PV) : Int := match o with
  | none => 0
  | some w => side w u v
def WayOf (p : Nat) (o : Option Nat) : Prop := ∀ w, o = some w → w < 17 ∧ wp w = p
theorem least0 : ∀ p, p < 6 → ∃ x, (SOME p)[0]? = some x ∧ x ∈ SOME p ∧ ∀ u, OkP p u → cost p x ≤ cost p u := by
  intro p hp
  have e : p = 0 ∨ p = 1 ∨ p = 2 ∨ p = 3 ∨ p = 4 ∨ p = 5 := by omega
  rcases e with rfl | rfl | rfl | rfl | rfl | rfl <;> refine ⟨_, rfl, List.mem_cons_self, fun u hu => ?_⟩ <;> cases u <;> simp only [OkP] at hu
  · exact hu.1
  · exact figs_pos (by omega)
  all_goals exact Nat.zero_le _
theorem sideO_same {p : Nat} {o : Option Nat} (h : WayOf p o) {u v : PV} (hu : OkP p u) (hv : OkP p v) (e : u = v) : sideO o u v = 0 := by
  cases o with
  | none => rfl
  | some w =>
    obtain ⟨h1, rfl⟩ := h w rfl
    exact (side_zero h1 hu hv).mpr e
theorem cheap {p : Nat} (hp : p < 6) {o1 o2 : Option Nat} (h1 : WayOf p o1) (h2 : WayOf p o2) {u v : PV} (hu : OkP p u) (hv : OkP p v) :
    ∃ x ∈ SOME p, ∃ y ∈ SOME p, sideO o1 x y = sideO o1 u v ∧ sideO o2 x y = sideO o2 u v ∧ cost p x + cost p y ≤ cost p u + cost p v := by
  obtain ⟨x0, _, hm, hl⟩ := least0 p hp
  have ok0 := some_ok p hp x0 hm
  by_cases e : u = v
  · refine ⟨x0, hm, x0, hm, ?_, ?_, Nat.add_le_add (hl u hu) (hl v hv)⟩
    · rw [sideO_same h1 ok0 ok0 rfl, sideO_same h1 hu hv e]
    · rw [sideO_same h2 ok0 ok0 rfl, sideO_same h2 hu hv e]
  · have main : ∀ a b, a < 17 → b < 17 → wp a = p → wp b = p → ∃ x ∈ SOME p, ∃ y ∈ SOME p, side a x y = side a u v ∧ side b x y = side b u v ∧ cost p x + cost p y ≤ cost p u + cost p v := by
      intro a b ha hb e1 e2
      subst e1
      have sa : side a u v = 1 ∨ side a u v = -1 := (side_cases a u v).resolve_left fun q => e ((side_zero ha hu hv).mp q)
      have sb : side b u v = 1 ∨ side b u v = -1 := (side_cases b u v).resolve_left fun q => e ((side_zero hb (by rw [e2]; exact hu) (by rw [e2]; exact hv)).mp q)
      have hL := lower ha hb e2 hu hv e
      by_cases h1000 : L2b a b (decide (side b u v = side a u v)) = 1000
      · have c1 := cost_lt hu
        have c2 := cost_lt hv
        omega
      · obtain ⟨x, hx, y, hy, q1, q2, q3⟩ := hasPair_of ha hb e2.symm sa h1000
        refine ⟨x, hx, y, hy, q1, ?_, by rw [q3]; exact hL⟩
        rw [q2]
        by_cases k : side b u v = side a u v
        · rw [decide_eq_true k, if_pos rfl, k]
        · rw [decide_eq_false k, if_neg (by simp)]
          omega
    cases o1 with
    | none =>
      cases o2 with
      | none => exact ⟨x0, hm, x0, hm, rfl, rfl, Nat.add_le_add (hl u hu) (hl v hv)⟩
      | some b =>
        obtain ⟨b1, b2⟩ := h2 b rfl
        obtain ⟨x, hx, y, hy, _, q2, q3⟩ := main b b b1 b1 b2 b2
        exact ⟨x, hx, y, hy, rfl, q2, q3⟩
    | some a =>
      obtain ⟨a1, a2⟩ := h1 a rfl
      cases o2 with
      | none =>
        obtain ⟨x, hx, y, hy, q1, _, q3⟩ := main a a a1 a1 a2 a2
        exact ⟨x, hx, y, hy, q1, rfl, q3⟩
      | some b =>
        obtain ⟨b1, b2⟩ := h2 b rfl
        exact main a b a1 b1 a2 b2
end SM
end

section
set_option maxRecDepth 100000
set_option maxHeartbeats 8000000
/-! The mathematics of the marks, 4: rules, what parts two rules. -/
namespace SM
open PySem PySem.W PyProof.Rows PySem.NumText

structure Mk where
  letters : Str
  number : Int
  points : Str
  makers : List Str
  year : Option Int
  copy : Option Int
  deriving DecidableEq
def Mk.get (m : Mk) : Nat → PV
  | 0 => .s m.letters
  | 1 => .i m.number
  | 2 => .s m.points
  | 3 => .l m.makers
  | 4 => .o m.year
  | _ => .o m.copy
def OkM (m : Mk) : Prop := ∀ p, p < 6 → OkP p (m.get p)
def leastM : Mk := ⟨Str.ofString "a", 1, Str.ofString "", [], none, none⟩
def Mk.put (m : Mk) : Nat → PV → Mk
  | 0, .s x => { m with letters := x }
  | 1, .i n => { m with number := n }
  | 2, .s x => { m with points := x }
  | 3, .l xs => { m with makers := xs }
  | 4, .o y => { m with year := y }
  | 5, .o y => { m with copy := y }
  | _, _ => m
def Mk.len (m : Mk) : Nat := cost 0 (m.get 0) + cost 1 (m.get 1) + cost 2 (m.get 2) + cost 3 (m.get 3) + cost 4 (m.get 4) + cost 5 (m.get 5)
theorem put_get {m : Mk} {p : Nat} {v : PV} (h : OkP p v) : (m.put p v).get p = v := by
  by_cases hp : p < 6
  · have e : p = 0 ∨ p = 1 ∨ p = 2 ∨ p = 3 ∨ p = 4 ∨ p = 5 := by omega
    rcases e with rfl | rfl | rfl | rfl | rfl | rfl <;> cases v <;> simp only [OkP] at h <;> rfl
  · exfalso
    unfold OkP at h
    split at h <;> first | omega | exact h
theorem put_ne {m : Mk} {p q : Nat} {v : PV} (hp : p < 6) (hq : q < 6) (h : OkP p v) (ne : q ≠ p) : (m.put p v).get q = m.get q := by
  have e : p = 0 ∨ p = 1 ∨ p = 2 ∨ p = 3 ∨ p = 4 ∨ p = 5 := by omega
  have e' : q = 0 ∨ q = 1 ∨ q = 2 ∨ q = 3 ∨ q = 4 ∨ q = 5 := by omega
  rcases e with rfl | rfl | rfl | rfl | rfl | rfl <;> cases v <;> simp only [OkP] at h <;> rcases e' with rfl | rfl | rfl | rfl | rfl | rfl <;> first | rfl | exact absurd rfl ne
theorem least_ok : OkM leastM := by
  intro p hp
  have e : p = 0 ∨ p = 1 ∨ p = 2 ∨ p = 3 ∨ p = 4 ∨ p = 5 := by omega
  rcases e with rfl | rfl | rfl | rfl | rfl | rfl
  · exact some_ok 0 (by decide) _ List.mem_cons_self
  · exact some_ok 1 (by decide) _ List.mem_cons_self
  · exact some_ok 2 (by decide) _ List.mem_cons_self
  · exact some_ok 3 (by decide) _ List.mem_cons_self
  · exact some_ok 4 (by decide) _ List.mem_cons_self
  · exact some_ok 5 (by decide) _ List.mem_cons_self
theorem put_ok {m : Mk} {p : Nat} {v : PV} (hp : p < 6) (hm : OkM m) (h : OkP p v) : OkM (m.put p v) := fun q hq => by
  by_cases e : q = p
  · subst e
    rw [put_get h]
    exact h
  · rw [put_ne hp hq h e]
    exact hm q hq
theorem len_put {m : Mk} {p : Nat} {v : PV} (hp : p < 6) (h : OkP p v) : (m.put p v).len + cost p (m.get p) = m.len + cost p v := by
  have g := fun q (hq : q < 6) (ne : q ≠ p) => put_ne (m := m) hp hq h ne
  have s := put_get (m := m) h
  unfold Mk.len
  have e : p = 0 ∨ p = 1 ∨ p = 2 ∨ p = 3 ∨ p = 4 ∨ p = 5 := by omega
  rcases e with rfl | rfl | rfl | rfl | rfl | rfl
  · rw [s, g 1 (by omega) (by omega), g 2 (by omega) (by omega), g 3 (by omega) (by omega), g 4 (by omega) (by omega), g 5 (by omega) (by omega)]; omega
  · rw [s, g 0 (by omega) (by omega), g 2 (by omega) (by omega), g 3 (by omega) (by omega), g 4 (by omega) (by omega), g 5 (by omega) (by omega)]; omega
  · rw [s, g 0 (by omega) (by omega), g 1 (by omega) (by omega), g 3 (by omega) (by omega), g 4 (by omega) (by omega), g 5 (by omega) (by omega)]; omega
  · rw [s, g 0 (by omega) (by omega), g 1 (by omega) (by omega), g 2 (by omega) (by omega), g 4 (by omega) (by omega), g 5 (by omega) (by omega)]; omega
  · rw [s, g 0 (by omega) (by omega), g 1 (by omega) (by omega), g 2 (by omega) (by omega), g 3 (by omega) (by omega), g 5 (by omega) (by omega)]; omega
  · rw [s, g 0 (by omega) (by omega), g 1 (by omega) (by omega), g 2 (by omega) (by omega), g 3 (by omega) (by omega), g 4 (by omega) (by omega)]; omega

/-! ### rules -/
structure OkR (r : List Nat) : Prop where
  ways : ∀ w ∈ r, w < 17
  nd : (r.map wp).Nodup
theorem wp_lt : ∀ w, w < 17 → wp w < 6 := by
  have h : ∀ w : Fin 17, wp w.val < 6 := by decide +kernel
  exact fun w hw => h ⟨w, hw⟩
/-- the first way whose answer is not 0 -/
def ord : List Nat → (Nat → Int) → Int
  | [], _ => 0
  | w :: r, f => if f w ≠ 0 then f w else ord r f
def ans (a b : Mk) (w : Nat) : Int := side w (a.get (wp w)) (b.get (wp w))
def order (r : List Nat) (a b : Mk) : Int := ord r (ans a b)
theorem ord_first : ∀ {r : List Nat} {f : Nat → Int}, ord r f ≠ 0 → ∃ pre w post, r = pre ++ w :: post ∧ f w = ord r f ∧ ∀ w' ∈ pre, f w' = 0
  | [], _, h => absurd rfl h
  | w :: r, f, h => by
    unfold ord at h ⊢
    by_cases e : f w ≠ 0
    · rw [if_pos e]
      exact ⟨[], w, r, rfl, rfl, fun _ h => absurd h List.not_mem_nil⟩
    · rw [if_neg e] at h ⊢
      obtain ⟨pre, w', post, e1, e2, e3⟩ := ord_first h
      refine ⟨w :: pre, w', post, by rw [e1]; rfl, e2, fun z hz => ?_⟩
      rcases List.mem_cons.mp hz with rfl | hz
      · exact Classical.not_not.mp e
      · exact e3 z hz
theorem ord_zero : ∀ {r : List Nat} {f : Nat → Int}, ord r f = 0 → ∀ w ∈ r, f w = 0
  | [], _, _, _, h => absurd h List.not_mem_nil
  | w :: r, f, h, z, hz => by
    unfold ord at h
    by_cases e : f w ≠ 0
    · rw [if_pos e] at h
      exact absurd h e
    · rw [if_neg e] at h
      rcases List.mem_cons.mp hz with rfl | hz
      · exact Classical.not_not.mp e
      · exact ord_zero h z hz
theorem ord_all0 : ∀ {r : List Nat} {f : Nat → Int}, (∀ w ∈ r, f w = 0) → ord r f = 0
  | [], _, _ => rfl
  | w :: r, f, h => by
    unfold ord
    rw [if_neg (Classical.not_not.mpr (h w List.mem_cons_self))]
    exact ord_all0 fun z hz => h z (List.mem_cons_of_mem _ hz)
theorem ord_neg : ∀ {r : List Nat} {f g : Nat → Int}, (∀ w ∈ r, g w = - f w) → ord r g = - ord r f
  | [], _, _, _ => rfl
  | w :: r, f, g, h => by
    unfold ord
    rw [h w List.mem_cons_self, ord_neg (r := r) fun z hz => h z (List.mem_cons_of_mem _ hz)]
    by_cases e : f w = 0
    · rw [if_neg (by omega), if_neg (by omega)]
    · rw [if_pos (by omega), if_pos e]
theorem ord_vals : ∀ {r : List Nat} {f : Nat → Int}, (∀ w, f w = 0 ∨ f w = 1 ∨ f w = -1) → (ord r f = 0 ∨ ord r f = 1 ∨ ord r f = -1)
  | [], _, _ => .inl rfl
  | w :: r, f, h => by
    unfold ord
    by_cases e : f w ≠ 0
    · rw [if_pos e]
      exact h w
    · rw [if_neg e]
      exact ord_vals h
theorem order_vals (r : List Nat) (a b : Mk) : order r a b = 0 ∨ order r a b = 1 ∨ order r a b = -1 := ord_vals fun w => side_cases w _ _
theorem order_anti {r : List Nat} (h : OkR r) {a b : Mk} (ha : OkM a) (hb : OkM b) : order r b a = - order r a b :=
  ord_neg fun w hw => side_anti (h.ways w hw) (ha _ (wp_lt w (h.ways w hw))) (hb _ (wp_lt w (h.ways w hw)))
/-- of a part the number of its step, and its way -/
def wayAt : List Nat → Nat → Nat → Option (Nat × Nat)
  | [], _, _ => none
  | w :: r, p, k => if wp w = p then some (k, w) else wayAt r p (k + 1)
def wayOf (r : List Nat) (p : Nat) : Option (Nat × Nat) := wayAt r p 0
theorem wayAt_some : ∀ {r : List Nat} {p k j w : Nat}, wayAt r p k = some (j, w) → k ≤ j ∧ r[j - k]? = some w ∧ wp w = p
  | [], _, _, _, _, h => by cases h
  | v :: r, p, k, j, w, h => by
    unfold wayAt at h
    by_cases e : wp v = p
    · rw [if_pos e] at h
      obtain ⟨rfl, rfl⟩ := Prod.mk.inj (Option.some.inj h)
      exact ⟨Nat.le_refl _, by simp, e⟩
    · rw [if_neg e] at h
      obtain ⟨h1, h2, h3⟩ := wayAt_some h
      refine ⟨by omega, ?_, h3⟩
      have e2 : j - k = (j - (k + 1)) + 1 := by omega
      rw [e2, List.getElem?_cons_succ]
      exact h2
theorem wayAt_mid : ∀ {pre post : List Nat} {w k : Nat}, wp w ∉ pre.map wp → wayAt (pre ++ w :: post) (wp w) k = some (k + pre.length, w)
  | [], post, w, k, _ => by
    show wayAt (w :: post) (wp w) k = _
    unfold wayAt
    rw [if_pos rfl] <;> rfl
  | v :: pre, post, w, k, h => by
    rw [List.map_cons, List.mem_cons, not_or] at h
    show wayAt (v :: (pre ++ w :: post)) (wp w) k = _
    unfold wayAt
    rw [if_neg (fun q => h.1 q.symm), wayAt_mid h.2, List.length_cons]
    have e : k + 1 + pre.length = k + (pre.length + 1) := by omega
    rw [e]
theorem wayOf_mem {r : List Nat} {p j w : Nat} (h : wayOf r p = some (j, w)) : w ∈ r ∧ wp w = p ∧ r[j]? = some w := by
  obtain ⟨_, h2, h3⟩ := wayAt_some h
  exact ⟨List.mem_of_getElem? h2, h3, h2⟩
/-- what a rule's step of a part says, 0 without one -/
def sO (r : List Nat) (f : Nat → Int) (p : Nat) : Int := match wayOf r p with
  | none => 0
  | some (_, w) => f w
def idx (r : List Nat) (p : Nat) : Nat := match wayOf r p with
  | none => 0
  | some (j, _) => j
def decided (r : List Nat) (p : Nat) (sp : Int) (q : Nat) (sq : Int) : Int := if sp = 0 then sq else if sq = 0 then sp else if idx r p < idx r q then sp else sq
theorem sO_all0 {r : List Nat} {f : Nat → Int} (h : ∀ w ∈ r, f w = 0) (p : Nat) : sO r f p = 0 := by
  unfold sO
  cases e : wayOf r p with
  | none => rfl
  | some z =>
    obtain ⟨j, w⟩ := z
    exact h w (wayOf_mem e).1
theorem dec0 {r : List Nat} {f : Nat → Int} (h : ord r f = 0) (p q : Nat) : decided r p (sO r f p) q (sO r f q) = 0 := by
  have z := sO_all0 (ord_zero h)
  unfold decided
  rw [z p, z q, if_pos rfl]
theorem dec1 {r : List Nat} {f : Nat → Int} (R : OkR r) {pre post : List Nat} {w : Nat} (hr : r = pre ++ w :: post) (hf : f w ≠ 0) (h0 : ∀ w' ∈ pre, f w' = 0) {p q : Nat} (hpq : p ≠ q) (hw : wp w = p ∨ wp w = q) :
    decided r p (sO r f p) q (sO r f q) = f w := by
  have nd := R.nd
  rw [hr, List.map_append, List.map_cons] at nd
  have nin : wp w ∉ pre.map wp := fun hm => (List.nodup_append.mp nd).2.2 _ hm _ List.mem_cons_self rfl
  have ww : wayOf r (wp w) = some (pre.length, w) := by
    unfold wayOf
    rw [hr, wayAt_mid nin, Nat.zero_add]
  have s1 : sO r f (wp w) = f w := by
    unfold sO
    rw [ww]
  have i1 : idx r (wp w) = pre.length := by
    unfold idx
    rw [ww]
  have other : ∀ q', q' ≠ wp w → sO r f q' ≠ 0 → pre.length < idx r q' := by
    intro q' hq hs
    unfold sO at hs
    unfold idx
    cases e : wayOf r q' with
    | none =>
      rw [e] at hs
      exact absurd rfl hs
    | some z =>
      obtain ⟨j, w'⟩ := z
      rw [e] at hs
      obtain ⟨h1, h2, h3⟩ := wayOf_mem e
      show pre.length < j
      rcases Nat.lt_trichotomy j pre.length with h | h | h
      · have hm : w' ∈ pre := by
          rw [hr, List.getElem?_append_left h] at h3
          exact List.mem_of_getElem? h3
        exact absurd (h0 w' hm) hs
      · rw [hr, List.getElem?_append_right (by omega), h, Nat.sub_self, List.getElem?_cons_zero] at h3
        have e2 : w = w' := Option.some.inj h3
        exact absurd (by rw [← h2, e2]) hq
      · exact h
  unfold decided
  rcases hw with rfl | rfl
  · rw [s1, if_neg hf]
    by_cases hs : sO r f q = 0
    · rw [if_pos hs]
    · rw [if_neg hs, i1, if_pos (other q (fun e => hpq e.symm) hs)]
  · rw [s1]
    by_cases hs : sO r f p = 0
    · rw [if_pos hs]
    · rw [if_neg hs, if_neg hf, i1, if_neg]
      have := other p hpq hs
      omega
/-- marks that are unlike in two parts at most -/
theorem dec2 {r : List Nat} {f : Nat → Int} (R : OkR r) {p q : Nat} (hpq : p ≠ q) (h : ∀ w ∈ r, wp w ≠ p → wp w ≠ q → f w = 0) : decided r p (sO r f p) q (sO r f q) = ord r f := by
  by_cases e : ord r f = 0
  · rw [dec0 e, e]
  · obtain ⟨pre, w, post, e1, e2, e3⟩ := ord_first e
    have hf : f w ≠ 0 := by rw [e2]; exact e
    have hm : w ∈ r := by rw [e1]; exact List.mem_append_right _ List.mem_cons_self
    have hw : wp w = p ∨ wp w = q := by
      by_cases a : wp w = p
      · exact .inl a
      · by_cases b : wp w = q
        · exact .inr b
        · exact absurd (h w hm a b) hf
    rw [dec1 R e1 hf e3 hpq hw, e2]
theorem dec_swap (r : List Nat) (p : Nat) (sp : Int) (q : Nat) (sq : Int) (h : sp ≠ 0 → sq ≠ 0 → idx r p ≠ idx r q) : decided r q sq p sp = decided r p sp q sq := by
  unfold decided
  by_cases h1 : sp = 0
  · rw [if_pos h1]
    by_cases h2 : sq = 0
    · rw [if_pos h2, h1, h2, if_pos rfl]
    · rw [if_neg h2, if_pos h1]
  · rw [if_neg h1]
    by_cases h2 : sq = 0
    · rw [if_pos h2, if_pos h2, if_neg h1]
    · rw [if_neg h2, if_neg h2, if_neg h1]
      have := h h1 h2
      by_cases h3 : idx r p < idx r q
      · rw [if_pos h3, if_neg (by omega)]
      · rw [if_neg h3, if_pos (by omega)]
theorem idx_ne {r : List Nat} {f : Nat → Int} {p q : Nat} (hpq : p ≠ q) (h1 : sO r f p ≠ 0) (h2 : sO r f q ≠ 0) : idx r p ≠ idx r q := by
  unfold sO at h1 h2
  unfold idx
  cases e1 : wayOf r p with
  | none => rw [e1] at h1; exact absurd rfl h1
  | some z1 =>
    cases e2 : wayOf r q with
    | none => rw [e2] at h2; exact absurd rfl h2
    | some z2 =>
      obtain ⟨j1, w1⟩ := z1
      obtain ⟨j2, w2⟩ := z2
      obtain ⟨_, a2, a3⟩ := wayOf_mem e1
      obtain ⟨_, b2, b3⟩ := wayOf_mem e2
      show j1 ≠ j2
      rintro rfl
      rw [a3] at b3
      have e : w1 = w2 := Option.some.inj b3
      exact hpq (by rw [← a2, ← b2, e])

/-! ### two rules: where they part, two parts show it -/
theorem parts_two {one other : List Nat} (R1 : OkR one) (R2 : OkR other) {f g : Nat → Int} (h : ord one f ≠ ord other g) :
    ∃ p q, p < 6 ∧ q < 6 ∧ p < q ∧ decided one p (sO one f p) q (sO one f q) ≠ decided other p (sO other g p) q (sO other g q) := by
  have fin : ∀ p q, p < 6 → q < 6 → p ≠ q → decided one p (sO one f p) q (sO one f q) ≠ decided other p (sO other g p) q (sO other g q) →
      ∃ p q, p < 6 ∧ q < 6 ∧ p < q ∧ decided one p (sO one f p) q (sO one f q) ≠ decided other p (sO other g p) q (sO other g q) := by
    intro p q hp hq ne hd
    rcases Nat.lt_or_ge p q with hl | hl
    · exact ⟨p, q, hp, hq, hl, hd⟩
    · refine ⟨q, p, hq, hp, by omega, ?_⟩
      rw [dec_swap one p _ q _ (idx_ne ne), dec_swap other p _ q _ (idx_ne ne)]
      exact hd
  by_cases e1 : ord one f = 0
  · have e2 : ord other g ≠ 0 := fun q => h (by rw [e1, q])
    obtain ⟨pre, w, post, a1, a2, a3⟩ := ord_first e2
    have hm : w ∈ other := by rw [a1]; exact List.mem_append_right _ List.mem_cons_self
    have hl := wp_lt w (R2.ways w hm)
    obtain ⟨q, hq, hne⟩ : ∃ q, q < 6 ∧ wp w ≠ q := by
      by_cases z : wp w = 0
      · exact ⟨1, by omega, by omega⟩
      · exact ⟨0, by omega, z⟩
    refine fin (wp w) q hl hq hne ?_
    rw [dec0 e1, dec1 R2 a1 (by rw [a2]; exact e2) a3 hne (.inl rfl), a2]
    exact fun q => e2 q.symm
  · obtain ⟨pre, w, post, a1, a2, a3⟩ := ord_first e1
    have hm : w ∈ one := by rw [a1]; exact List.mem_append_right _ List.mem_cons_self
    have hl := wp_lt w (R1.ways w hm)
    have d1 : ∀ q, wp w ≠ q → decided one (wp w) (sO one f (wp w)) q (sO one f q) = ord one f := fun q hq => by
      rw [dec1 R1 a1 (by rw [a2]; exact e1) a3 hq (.inl rfl), a2]
    by_cases e2 : ord other g = 0
    · obtain ⟨q, hq, hne⟩ : ∃ q, q < 6 ∧ wp w ≠ q := by
        by_cases z : wp w = 0
        · exact ⟨1, by omega, by omega⟩
        · exact ⟨0, by omega, z⟩
      refine fin (wp w) q hl hq hne ?_
      rw [d1 q hne, dec0 e2]
      exact e1
    · obtain ⟨pre', w', post', b1, b2, b3⟩ := ord_first e2
      have hm' : w' ∈ other := by rw [b1]; exact List.mem_append_right _ List.mem_cons_self
      have hl' := wp_lt w' (R2.ways w' hm')
      have d2 : ∀ p q, p ≠ q → (wp w' = p ∨ wp w' = q) → decided other p (sO other g p) q (sO other g q) = ord other g := fun p q hq hw => by
        rw [dec1 R2 b1 (by rw [b2]; exact e2) b3 hq hw, b2]
      by_cases z : wp w = wp w'
      · obtain ⟨q, hq, hne⟩ : ∃ q, q < 6 ∧ wp w ≠ q := by
          by_cases z : wp w = 0
          · exact ⟨1, by omega, by omega⟩
          · exact ⟨0, by omega, z⟩
        refine fin (wp w) q hl hq hne ?_
        rw [d1 q hne, d2 (wp w) q hne (.inl z.symm)]
        exact h
      · refine fin (wp w) (wp w') hl hl' z ?_
        rw [d1 _ z, d2 _ _ z (.inr rfl)]
        exact h

/-! ### tables -/
/-- an entry: the two rules' answers, the signs of both marks, the two values -/
structure Ent where
  s1 : Int
  s2 : Int
  n : Nat
  x : PV
  y : PV
/-- what the rule's step of a part says of two values -/
def sV (r : List Nat) (p : Nat) (u v : PV) : Int := match wayOf r p with
  | none => 0
  | some (_, w) => side w u v
def many (p : Nat) (x y : PV) : Nat := (leastM.put p x).len + (leastM.put p y).len
structure EntOk (one other : List Nat) (p : Nat) (e : Ent) : Prop where
  hx : e.x ∈ SOME p
  hy : e.y ∈ SOME p
  h1 : e.s1 = sV one p e.x e.y
  h2 : e.s2 = sV other p e.x e.y
  hn : e.n = many p e.x e.y
structure TabOk (one other : List Nat) (p : Nat) (t : List Ent) : Prop where
  sound : ∀ e ∈ t, EntOk one other p e
  full : ∀ x ∈ SOME p, ∀ y ∈ SOME p, ∃ e ∈ t, e.s1 = sV one p x y ∧ e.s2 = sV other p x y ∧ e.n ≤ many p x y
def wayO (r : List Nat) (p : Nat) : Option Nat := (wayOf r p).map (·.2)
theorem sV_eq (r : List Nat) (p : Nat) (u v : PV) : sV r p u v = sideO (wayO r p) u v := by
  unfold sV wayO sideO
  cases wayOf r p with
  | none => rfl
  | some z => rfl
theorem wayO_ok {r : List Nat} (R : OkR r) (p : Nat) : WayOf p (wayO r p) := fun w h => by
  unfold wayO at h
  cases e : wayOf r p with
  | none => rw [e] at h; cases h
  | some z =>
    obtain ⟨j, w'⟩ := z
    rw [e] at h
    obtain rfl : w' = w := Option.some.inj h
    obtain ⟨h1, h2, _⟩ := wayOf_mem e
    exact ⟨R.ways _ h1, h2⟩
theorem sO_sV (r : List Nat) (a b : Mk) (p : Nat) : sO r (ans a b) p = sV r p (a.get p) (b.get p) := by
  unfold sO sV
  cases e : wayOf r p with
  | none => rfl
  | some z =>
    obtain ⟨j, w⟩ := z
    obtain ⟨_, h2, _⟩ := wayOf_mem e
    show side w (a.get (wp w)) (b.get (wp w)) = side w (a.get p) (b.get p)
    rw [h2]
theorem least_get {p : Nat} (hp : p < 6) : ∃ x, (SOME p)[0]? = some x ∧ leastM.get p = x := by
  have e : p = 0 ∨ p = 1 ∨ p = 2 ∨ p = 3 ∨ p = 4 ∨ p = 5 := by omega
  rcases e with rfl | rfl | rfl | rfl | rfl | rfl <;> exact ⟨_, rfl, rfl⟩
theorem many_cost {p : Nat} (hp : p < 6) {x y : PV} (hx : OkP p x) (hy : OkP p y) : many p x y + 2 * cost p (leastM.get p) = 2 * leastM.len + cost p x + cost p y := by
  have a := len_put (m := leastM) hp hx
  have b := len_put (m := leastM) hp hy
  unfold many
  omega
/-- the entry of two marks' answers about a part -/
theorem tab_ent {one other : List Nat} (R1 : OkR one) (R2 : OkR other) {p : Nat} (hp : p < 6) {t : List Ent} (T : TabOk one other p t) {u v : PV} (hu : OkP p u) (hv : OkP p v) :
    ∃ e ∈ t, e.s1 = sV one p u v ∧ e.s2 = sV other p u v ∧ e.n + 2 * cost p (leastM.get p) ≤ 2 * leastM.len + cost p u + cost p v := by
  obtain ⟨x, hx, y, hy, q1, q2, q3⟩ := cheap hp (wayO_ok R1 p) (wayO_ok R2 p) hu hv
  obtain ⟨e, he, e1, e2, e3⟩ := T.full x hx y hy
  have m := many_cost hp (some_ok p hp x hx) (some_ok p hp y hy)
  exact ⟨e, he, by rw [e1, sV_eq, sV_eq, q1], by rw [e2, sV_eq, sV_eq, q2], by omega⟩
/-- a candidate of two parts -/
def Cand (one other : List Nat) (p q : Nat) (e e' : Ent) : Prop := decided one p e.s1 q e'.s1 ≠ decided other p e.s2 q e'.s2
theorem get_two {p q : Nat} (hp : p < 6) (hq : q < 6) (hpq : p ≠ q) {x y : PV} (hx : OkP p x) (hy : OkP q y) : ((leastM.put p x).put q y).get p = x ∧ ((leastM.put p x).put q y).get q = y ∧ ∀ z, z < 6 → z ≠ p → z ≠ q → ((leastM.put p x).put q y).get z = leastM.get z := by
  refine ⟨?_, put_get hy, fun z hz h1 h2 => ?_⟩
  · rw [put_ne hq hp hy hpq, put_get hx]
  · rw [put_ne hq hz hy h2, put_ne hp hz hx h1]
theorem len_two {p q : Nat} (hp : p < 6) (hq : q < 6) (hpq : p ≠ q) {x y : PV} (hx : OkP p x) (hy : OkP q y) :
    ((leastM.put p x).put q y).len + cost p (leastM.get p) + cost q (leastM.get q) = leastM.len + cost p x + cost q y := by
  have a := len_put (m := leastM) hp hx
  have b := len_put (m := leastM.put p x) hq hy
  rw [put_ne hp hq hx (fun e => hpq e.symm)] at b
  omega
theorem cost_two {p q : Nat} (hp : p < 6) (hq : q < 6) (hpq : p ≠ q) {m : Mk} (hm : OkM m) : leastM.len + cost p (m.get p) + cost q (m.get q) ≤ m.len + cost p (leastM.get p) + cost q (leastM.get q) := by
  have l : ∀ z, z < 6 → cost z (leastM.get z) ≤ cost z (m.get z) := fun z hz => by
    obtain ⟨x, hx, e⟩ := least_get hz
    obtain ⟨x', hx', _, h⟩ := least0 z hz
    rw [hx] at hx'
    obtain rfl := Option.some.inj hx'
    rw [e]
    exact h _ (hm z hz)
  have l0 := l 0 (by omega); have l1 := l 1 (by omega); have l2 := l 2 (by omega); have l3 := l 3 (by omega); have l4 := l 4 (by omega); have l5 := l 5 (by omega)
  have e : p = 0 ∨ p = 1 ∨ p = 2 ∨ p = 3 ∨ p = 4 ∨ p = 5 := by omega
  have e' : q = 0 ∨ q = 1 ∨ q = 2 ∨ q = 3 ∨ q = 4 ∨ q = 5 := by omega
  unfold Mk.len
  rcases e with rfl | rfl | rfl | rfl | rfl | rfl <;> rcases e' with rfl | rfl | rfl | rfl | rfl | rfl <;> first | exact absurd rfl hpq | omega
section
variable {one other : List Nat} (R1 : OkR one) (R2 : OkR other) {t : Nat → List Ent} (T : ∀ p, p < 6 → TabOk one other p (t p))
include R1 R2 T
/-- two marks that the rules order otherwise: a candidate, no dearer than they -/
theorem cand_of {a b : Mk} (ha : OkM a) (hb : OkM b) (h : order one a b ≠ order other a b) :
    ∃ p q, p < 6 ∧ q < 6 ∧ p < q ∧ ∃ e ∈ t p, ∃ e' ∈ t q, Cand one other p q e e' ∧ e.n + e'.n ≤ a.len + b.len + 2 * leastM.len := by
  obtain ⟨p, q, hp, hq, hpq, hd⟩ := parts_two R1 R2 (f := ans a b) (g := ans a b) h
  rw [sO_sV, sO_sV, sO_sV, sO_sV] at hd
  obtain ⟨e, he, a1, a2, a3⟩ := tab_ent R1 R2 hp (T p hp) (ha p hp) (hb p hp)
  obtain ⟨e', he', b1, b2, b3⟩ := tab_ent R1 R2 hq (T q hq) (ha q hq) (hb q hq)
  refine ⟨p, q, hp, hq, hpq, e, he, e', he', ?_, ?_⟩
  · unfold Cand
    rw [a1, a2, b1, b2]
    exact hd
  · have c1 := cost_two hp hq (Nat.ne_of_lt hpq) ha
    have c2 := cost_two hp hq (Nat.ne_of_lt hpq) hb
    omega
/-- no candidate: the rules are alike -/
theorem alike_of (h : ∀ p q, p < 6 → q < 6 → p < q → ∀ e ∈ t p, ∀ e' ∈ t q, ¬ Cand one other p q e e') {a b : Mk} (ha : OkM a) (hb : OkM b) : order one a b = order other a b := by
  refine Classical.byContradiction fun hne => ?_
  obtain ⟨p, q, hp, hq, hpq, e, he, e', he', hc, _⟩ := cand_of R1 R2 T ha hb hne
  exact h p q hp hq hpq e he e' he' hc
/-- a cheapest candidate: its two marks part the rules, and there are none with fewer signs -/
theorem parted_of {p q : Nat} (hp : p < 6) (hq : q < 6) (hpq : p < q) {e e' : Ent} (he : e ∈ t p) (he' : e' ∈ t q) (hc : Cand one other p q e e')
    (hmin : ∀ p q, p < 6 → q < 6 → p < q → ∀ d ∈ t p, ∀ d' ∈ t q, Cand one other p q d d' → e.n + e'.n ≤ d.n + d'.n) :
    OkM ((leastM.put p e.x).put q e'.x) ∧ OkM ((leastM.put p e.y).put q e'.y) ∧ order one ((leastM.put p e.x).put q e'.x) ((leastM.put p e.y).put q e'.y) ≠ order other ((leastM.put p e.x).put q e'.x) ((leastM.put p e.y).put q e'.y) ∧
    ∀ a b, OkM a → OkM b → order one a b ≠ order other a b → ((leastM.put p e.x).put q e'.x).len + ((leastM.put p e.y).put q e'.y).len ≤ a.len + b.len := by
  have E := (T p hp).sound e he
  have E' := (T q hq).sound e' he'
  have x1 := some_ok p hp _ E.hx
  have y1 := some_ok p hp _ E.hy
  have x2 := some_ok q hq _ E'.hx
  have y2 := some_ok q hq _ E'.hy
  have ne := Nat.ne_of_lt hpq
  obtain ⟨g1, g2, g3⟩ := get_two hp hq ne x1 x2
  obtain ⟨k1, k2, k3⟩ := get_two hp hq ne y1 y2
  have ok1 := put_ok hq (put_ok hp least_ok x1) x2
  have ok2 := put_ok hq (put_ok hp least_ok y1) y2
  have od : ∀ r, OkR r → order r ((leastM.put p e.x).put q e'.x) ((leastM.put p e.y).put q e'.y) = decided r p (sV r p e.x e.y) q (sV r q e'.x e'.y) := fun r R => by
    unfold order
    rw [← dec2 R ne (f := ans ((leastM.put p e.x).put q e'.x) ((leastM.put p e.y).put q e'.y)) fun w hw h1 h2 => ?_]
    · rw [sO_sV, sO_sV, g1, g2, k1, k2]
    · have hl := wp_lt w (R.ways w hw)
      unfold ans
      rw [g3 _ hl h1 h2, k3 _ hl h1 h2]
      exact (side_zero (R.ways w hw) (least_ok _ hl) (least_ok _ hl)).mpr rfl
  refine ⟨ok1, ok2, ?_, fun a b ha hb hne => ?_⟩
  · rw [od one R1, od other R2]
    unfold Cand at hc
    rw [E.h1, E.h2, E'.h1, E'.h2] at hc
    exact hc
  · obtain ⟨p', q', hp', hq', hpq', d, hd, d', hd', hcd, hle⟩ := cand_of R1 R2 T ha hb hne
    have hm := hmin p' q' hp' hq' hpq' d hd d' hd' hcd
    have m1 := many_cost hp x1 y1
    have m2 := many_cost hq x2 y2
    rw [← E.hn] at m1
    rw [← E'.hn] at m2
    have l1 := len_two hp hq ne x1 x2
    have l2 := len_two hp hq ne y1 y2
    omega
end
end SM
end

section
set_option maxRecDepth 100000
set_option maxHeartbeats 8000000
/-! The mathematics of the marks, 5: texts, lists in a rule's order, a rule of a row. -/
namespace SM
open PySem PySem.W PyProof.Rows PySem.NumText

/-! ### texts -/
def pword (x : Str) : Str := if x = emp then emp else Str.ofString "." ++ x
def yword (y : Option Int) : List Str := match y with
  | none => []
  | some n => [figs n]
def cword (y : Option Int) : List Str := match y with
  | none => []
  | some n => [Str.ofString "c." ++ figs n]
def Mk.words (m : Mk) : List Str := ((m.letters ++ figs m.number) ++ pword m.points) :: ((m.makers ++ yword m.year) ++ cword m.copy)
def Mk.text (m : Mk) : Str := Txt.join (Str.ofString " ") m.words
theorem app_len (x y : Str) : (x ++ y).length = x.length + y.length := by
  show (x.cps ++ y.cps).size = x.cps.size + y.cps.size
  rw [Array.size_append]
theorem emp_len : emp.length = 0 := by decide +kernel
theorem sum_len : ∀ xs : List Str, (xs.map fun x => 1 + x.length).sum = (xs.map (·.length)).sum + xs.length
  | [] => rfl
  | x :: xs => by
    have h := sum_len xs
    rw [List.map_cons, List.sum_cons, List.map_cons, List.sum_cons, List.length_cons]
    omega
theorem text_len (m : Mk) : m.text.length = m.len := by
  have h1 : (Str.ofString " ").length = 1 := by decide +kernel
  have h2 : (Str.ofString ".").length = 1 := by decide +kernel
  have h3 : (Str.ofString "c.").length = 2 := by decide +kernel
  have hp : (pword m.points).length = cost 2 (.s m.points) := by
    unfold pword
    simp only [cost]
    split
    · exact emp_len
    · rw [app_len, h2]
  have hm := sum_len m.makers
  have hy : ((yword m.year).map (·.length)).sum + (yword m.year).length = cost 4 (.o m.year) := by
    unfold yword
    cases m.year with
    | none => rfl
    | some n => simp [cost]; omega
  have hc : ((cword m.copy).map (·.length)).sum + (cword m.copy).length = cost 5 (.o m.copy) := by
    unfold cword
    cases m.copy with
    | none => rfl
    | some n => simp [cost, app_len, h3]; omega
  unfold Mk.text Mk.words Txt.join
  rw [size_glued, h1, List.map_cons, List.sum_cons, List.length_cons, List.map_append, List.map_append, List.sum_append, List.sum_append, List.length_append, List.length_append, app_len, app_len, hp]
  unfold Mk.len
  have c3 : cost 3 (m.get 3) = (m.makers.map fun x => 1 + x.length).sum := rfl
  have c0 : cost 0 (m.get 0) = m.letters.length := rfl
  have c1 : cost 1 (m.get 1) = (figs m.number).length := rfl
  have c2 : cost 2 (m.get 2) = cost 2 (.s m.points) := rfl
  have c4 : cost 4 (m.get 4) = cost 4 (.o m.year) := rfl
  have c5 : cost 5 (m.get 5) = cost 5 (.o m.copy) := rfl
  omega
/-- unlike marks of the tables have unlike texts -/
def mk2 (p q : Nat) (x y : PV) : Mk := (leastM.put p x).put q y
def textsB : Bool := (List.range 6).all fun p => (List.range 6).all fun q => decide (q ≤ p) || decide (((SOME p).flatMap fun x => (SOME q).map fun y => (mk2 p q x y).text).Nodup)
theorem texts_there : textsB = true := by decide +kernel
theorem some_nd : ∀ p, p < 6 → (SOME p).Nodup := by
  intro p hp
  have e : p = 0 ∨ p = 1 ∨ p = 2 ∨ p = 3 ∨ p = 4 ∨ p = 5 := by omega
  rcases e with rfl | rfl | rfl | rfl | rfl | rfl <;> decide +kernel
theorem pair_nd {α β γ : Type} {f : α → β → γ} : ∀ {l : List α} {m : List β}, (l.flatMap fun x => m.map fun y => f x y).Nodup → ∀ x ∈ l, ∀ x' ∈ l, ∀ y ∈ m, ∀ y' ∈ m, f x y = f x' y' → x = x' ∨ False := by
  intro l m h x hx x' hx' y hy y' hy' e
  induction l with
  | nil => exact absurd hx List.not_mem_nil
  | cons a l ih =>
    rw [List.flatMap_cons, List.nodup_append] at h
    obtain ⟨h1, h2, h3⟩ := h
    have m1 : ∀ z w, z ∈ l → w ∈ m → f z w ∈ l.flatMap fun x => m.map fun y => f x y := fun z w hz hw => List.mem_flatMap.mpr ⟨z, hz, List.mem_map.mpr ⟨w, hw, rfl⟩⟩
    have m2 : ∀ w, w ∈ m → f a w ∈ m.map fun y => f a y := fun w hw => List.mem_map.mpr ⟨w, hw, rfl⟩
    rcases List.mem_cons.mp hx with z1 | z1
    · rcases List.mem_cons.mp hx' with z2 | z2
      · exact .inl (z1.trans z2.symm)
      · rw [z1] at e
        exact absurd e (h3 _ (m2 y hy) _ (m1 x' y' z2 hy'))
    · rcases List.mem_cons.mp hx' with z2 | z2
      · rw [z2] at e
        exact absurd e.symm (h3 _ (m2 y' hy') _ (m1 x y z1 hy))
      · exact ih h2 z1 z2
theorem map_nd {α β : Type} {f : α → β} : ∀ {l : List α}, (l.map f).Nodup → ∀ x ∈ l, ∀ y ∈ l, f x = f y → x = y
  | [], _, _, h, _, _, _ => absurd h List.not_mem_nil
  | a :: l, h, x, hx, y, hy, e => by
    rw [List.map_cons, List.nodup_cons] at h
    rcases List.mem_cons.mp hx with z1 | z1
    · rcases List.mem_cons.mp hy with z2 | z2
      · exact z1.trans z2.symm
      · rw [z1] at e
        exact absurd (List.mem_map.mpr ⟨y, z2, e.symm⟩) h.1
    · rcases List.mem_cons.mp hy with z2 | z2
      · rw [z2] at e
        exact absurd (List.mem_map.mpr ⟨x, z1, e⟩) h.1
      · exact map_nd h.2 x z1 y z2 e
theorem flat_sub {α β γ : Type} {f : α → β → γ} : ∀ {l : List α} {m : List β}, (l.flatMap fun x => m.map fun y => f x y).Nodup → ∀ x ∈ l, (m.map fun y => f x y).Nodup
  | [], _, _, _, h => absurd h List.not_mem_nil
  | a :: l, m, h, x, hx => by
    rw [List.flatMap_cons, List.nodup_append] at h
    rcases List.mem_cons.mp hx with rfl | hx
    · exact h.1
    · exact flat_sub h.2.1 x hx
theorem texts_apart {p q : Nat} (hp : p < 6) (hq : q < 6) (hpq : p < q) {x y x' y' : PV} (hx : x ∈ SOME p) (hy : y ∈ SOME p) (hx' : x' ∈ SOME q) (hy' : y' ∈ SOME q) (e : (mk2 p q x x').text = (mk2 p q y y').text) : x = y ∧ x' = y' := by
  have h1 := List.all_eq_true.mp texts_there p (List.mem_range.mpr hp)
  have h2 := List.all_eq_true.mp h1 q (List.mem_range.mpr hq)
  have h3 := of_decide_eq_true ((Bool.or_eq_true_iff.mp h2).resolve_left (by simp; omega))
  obtain rfl := (pair_nd h3 x hx y hy x' hx' y' hy' e).resolve_right fun z => z
  exact ⟨rfl, map_nd (flat_sub h3 x hx) x' hx' y' hy' e⟩

/-! ### lists in a rule's order -/
def keyD (r : List Nat) (m : Mk) : PyData := .tuple (r.map fun w => keyP w (m.get (wp w)))
theorem keys_alike : ∀ {r : List Nat}, (∀ w ∈ r, w < 17) → ∀ {a b : Mk}, OkM a → OkM b → alikeAll (r.map fun w => keyP w (a.get (wp w))) (r.map fun w => keyP w (b.get (wp w))) = true
  | [], _, _, _, _, _ => by simp [alikeAll]
  | w :: r, h, a, b, ha, hb => by
    have hw := h w List.mem_cons_self
    rw [List.map_cons, List.map_cons, alikeAll, key_alike hw (ha _ (wp_lt w hw)) (hb _ (wp_lt w hw)), keys_alike (r := r) (fun z hz => h z (List.mem_cons_of_mem _ hz)) ha hb]
    rfl
theorem keyD_alike {r : List Nat} (R : OkR r) {a b : Mk} (ha : OkM a) (hb : OkM b) : alike (keyD r a) (keyD r b) = true := by
  unfold keyD
  simp only [alike]
  exact keys_alike R.ways ha hb
theorem keyD_side : ∀ {r : List Nat}, (∀ w ∈ r, w < 17) → ∀ {a b : Mk}, OkM a → OkM b → sideD (keyD r a) (keyD r b) = order r a b
  | [], _, _, _, _, _ => sideD_nn
  | w :: r, h, a, b, ha, hb => by
    have hw := h w List.mem_cons_self
    unfold keyD order
    rw [List.map_cons, List.map_cons, sideD_cc (key_alike hw (ha _ (wp_lt w hw)) (hb _ (wp_lt w hw)))]
    have ih := keyD_side (r := r) (fun z hz => h z (List.mem_cons_of_mem _ hz)) ha hb
    unfold keyD order at ih
    rw [ih]
    show (if side w (a.get (wp w)) (b.get (wp w)) = 0 then ord r (ans a b) else side w (a.get (wp w)) (b.get (wp w))) = if ans a b w ≠ 0 then ans a b w else ord r (ans a b)
    unfold ans
    by_cases e : side w (a.get (wp w)) (b.get (wp w)) = 0
    · rw [if_pos e, if_neg (fun q => q e)]
    · rw [if_neg e, if_pos e]
theorem side_lt {x y : PyData} : sideD x y = -1 ↔ (PyData.eqv x y = false ∧ dataLt x y = true) := by
  cases e : PyData.eqv x y <;> cases l : dataLt x y <;> rw [sideD_of e l] <;> simp
theorem lt_side {x y : PyData} (h : alike x y = true) : dataLt x y = true ↔ sideD x y = -1 := by
  rw [side_lt]
  refine ⟨fun q => ⟨?_, q⟩, fun q => q.2⟩
  cases e : PyData.eqv x y with
  | false => rfl
  | true =>
    have t := (toks_eqv x y h).1 e
    have z : dataLt x y = PyProof.Rows.lexLt itemOrd (keyToks x) (keyToks y) := rfl
    rw [z, t, lex_irrefl] at q
    exact absurd q (by decide)
def leR (r : List Nat) (a b : Mk) : Bool := decide (order r b a ≠ -1)
def sortR (r : List Nat) (l : List Mk) : List Mk := l.mergeSort (leR r)
theorem sort_key {r : List Nat} (R : OkR r) {l : List Mk} (h : ∀ m ∈ l, OkM m) : l.mergeSort (dataLe false (keyD r)) = sortR r l := by
  refine sort_congr fun a ha b hb => ?_
  show (!dataLt (keyD r b) (keyD r a)) = decide (order r b a ≠ -1)
  have z := lt_side (keyD_alike R (h b hb) (h a ha))
  rw [keyD_side R.ways (h b hb) (h a ha)] at z
  by_cases e : order r b a = -1
  · rw [z.mpr e, decide_eq_false (Classical.not_not.mpr e)]
    rfl
  · rw [decide_eq_true e, Bool.eq_false_iff.mpr fun q => e (z.mp q)]
    rfl
theorem sort_alike {one other : List Nat} {l : List Mk} (h : ∀ a ∈ l, ∀ b ∈ l, order one a b = order other a b) : sortR one l = sortR other l :=
  sort_congr fun a ha b hb => by
    show decide (order one b a ≠ -1) = decide (order other b a ≠ -1)
    rw [h b hb a ha]
theorem sort_mem {r : List Nat} {l : List Mk} {m : Mk} : m ∈ sortR r l ↔ m ∈ l := (List.mergeSort_perm l (leR r)).mem_iff
theorem sort_len (r : List Nat) (l : List Mk) : (sortR r l).length = l.length := (List.mergeSort_perm l (leR r)).length_eq
theorem sort_two (r : List Nat) (a b : Mk) : sortR r [a, b] = if leR r a b = true then [a, b] else [b, a] := by
  unfold sortR
  simp [List.mergeSort, List.MergeSort.Internal.splitInTwo, List.splitAt, List.splitAt.go]
  rw [List.merge]
  split <;> simp_all
/-- two marks that are ordered otherwise: the lists of their texts differ, as they stand or the other way round -/
theorem told_apart {one other : List Nat} (R1 : OkR one) (R2 : OkR other) {a b : Mk} (ha : OkM a) (hb : OkM b) (ht : a.text ≠ b.text) (h : order one a b ≠ order other a b) :
    ¬ ((sortR one [a, b]).map Mk.text = (sortR other [a, b]).map Mk.text ∧ (sortR one [b, a]).map Mk.text = (sortR other [b, a]).map Mk.text) := by
  rintro ⟨h1, h2⟩
  rw [sort_two, sort_two] at h1 h2
  unfold leR at h1 h2
  rw [order_anti R1 ha hb, order_anti R2 ha hb] at h1
  rcases order_vals one a b with e | e | e <;> rcases order_vals other a b with e' | e' | e' <;> rw [e, e'] at h h1 h2
  all_goals first
    | exact h rfl
    | (have z : [a.text, b.text] = [b.text, a.text] := h1
       exact ht (List.cons.inj z).1)
    | (have z : [b.text, a.text] = [a.text, b.text] := h1
       exact ht (List.cons.inj z).1.symm)
    | (have z : [a.text, b.text] = [b.text, a.text] := h2
       exact ht (List.cons.inj z).1)
    | (have z : [b.text, a.text] = [a.text, b.text] := h2
       exact ht (List.cons.inj z).1.symm)

/-! ### a rule of a row -/
/-- none of these places is wrong by the way, and one is right -/
def Good (f : Nat → Nat → Int) (places : List Nat) (w : Nat) : Prop := (∀ k ∈ places, f k w ≠ 1) ∧ ∃ k ∈ places, f k w = -1
theorem good_there {f : Nat → Nat → Int} {places : List Nat} (hne : places ≠ []) (hf : ∀ k w, f k w = 0 ∨ f k w = 1 ∨ f k w = -1) : ∀ {r : List Nat}, (∀ k ∈ places, ord r (f k) = -1) → ∃ w ∈ r, Good f places w
  | [], h => by
    cases places with
    | nil => exact absurd rfl hne
    | cons k l => exact absurd (show (0 : Int) = -1 from h k List.mem_cons_self) (by decide)
  | w :: r, h => by
    by_cases e : ∀ k ∈ places, f k w = 0
    · obtain ⟨w', hw, g⟩ := good_there hne hf (r := r) fun k hk => by
        have z := h k hk
        unfold ord at z
        rw [if_neg (fun q => q (e k hk))] at z
        exact z
      exact ⟨w', List.mem_cons_of_mem _ hw, g⟩
    · have z : ∀ k ∈ places, f k w = 0 ∨ f k w = -1 := fun k hk => by
        by_cases q : f k w = 0
        · exact .inl q
        · have z := h k hk
          unfold ord at z
          rw [if_pos q] at z
          exact .inr z
      obtain ⟨k, hk⟩ := Classical.not_forall.mp e
      obtain ⟨hk, hk2⟩ := Classical.not_imp.mp hk
      refine ⟨w, List.mem_cons_self, fun k hk => ?_, k, hk, (z k hk).resolve_left hk2⟩
      rcases z k hk with q | q <;> rw [q] <;> decide
end SM
end

section
set_option maxRecDepth 100000
set_option maxHeartbeats 8000000
/-! The mathematics of the marks, 6: the greedy search for a rule. -/
namespace SM
open PySem PySem.W PyProof.Rows PySem.NumText
/-- how each mark of a row stands to the next one -/
def pl (row : List Mk) (k : Nat) (w : Nat) : Int := match row[k]?, row[k + 1]? with
  | some a, some b => ans a b w
  | _, _ => 0
theorem pl_vals (row : List Mk) (k w : Nat) : pl row k w = 0 ∨ pl row k w = 1 ∨ pl row k w = -1 := by
  unfold pl
  split
  · exact side_cases w _ _
  · exact .inl rfl
theorem pl_at {row : List Mk} {k : Nat} {a b : Mk} (ha : row[k]? = some a) (hb : row[k + 1]? = some b) : pl row k = ans a b := by
  funext w
  unfold pl
  rw [ha, hb]
theorem pl_same {row : List Mk} (ok : ∀ m ∈ row, OkM m) {k w w' : Nat} (hw : w < 17) (hw' : w' < 17) (e : wp w = wp w') (h : pl row k w' = 0) : pl row k w = 0 := by
  unfold pl at h ⊢
  cases ha : row[k]? with
  | none => rfl
  | some a =>
    cases hb : row[k + 1]? with
    | none => rfl
    | some b =>
      rw [ha, hb] at h
      have oa := ok a (List.mem_of_getElem? ha)
      have ob := ok b (List.mem_of_getElem? hb)
      have h2 : side w' (a.get (wp w')) (b.get (wp w')) = 0 := h
      rw [side_zero hw' (oa _ (wp_lt w' hw')) (ob _ (wp_lt w' hw'))] at h2
      show side w (a.get (wp w)) (b.get (wp w)) = 0
      rw [side_zero hw (oa _ (wp_lt w hw)) (ob _ (wp_lt w hw)), e]
      exact h2
/-- what the search has behind each turn -/
structure Gr (row : List Mk) (N : Nat) (steps parts places : List Nat) : Prop where
  ways : ∀ w ∈ steps, w < 17
  nd : (steps.map wp).Nodup
  pnd : parts.Nodup
  pin : ∀ p, p ∈ parts ↔ p < 6 ∧ p ∉ steps.map wp
  pls : places = (List.range N).filter fun k => decide (ord steps (pl row k) = 0)
  right : ∀ k, k < N → ord steps (pl row k) = 0 ∨ ord steps (pl row k) = -1
theorem Gr.start (row : List Mk) (N : Nat) : Gr row N [] [0, 1, 2, 3, 4, 5] (List.range N) := by
  refine ⟨fun _ h => absurd h List.not_mem_nil, List.nodup_nil, by decide, fun p => ?_, ?_, fun k _ => .inl rfl⟩
  · simp only [List.map_nil, List.mem_cons, List.not_mem_nil, or_false, not_false_iff, and_true]
    omega
  · rw [List.filter_eq_self.mpr]
    intro a _
    exact decide_eq_true rfl
theorem ord_snoc : ∀ (r : List Nat) (w : Nat) (f : Nat → Int), ord (r ++ [w]) f = if ord r f ≠ 0 then ord r f else f w
  | [], w, f => by
    show (if f w ≠ 0 then f w else 0) = if (0 : Int) ≠ 0 then 0 else f w
    rw [if_neg (fun h : (0 : Int) ≠ 0 => h rfl)]
    by_cases e : f w = 0
    · rw [if_neg (fun q => q e), e]
    · rw [if_pos e]
  | v :: r, w, f => by
    show (if f v ≠ 0 then f v else ord (r ++ [w]) f) = if (if f v ≠ 0 then f v else ord r f) ≠ 0 then (if f v ≠ 0 then f v else ord r f) else f w
    rw [ord_snoc r w f]
    by_cases e : f v ≠ 0
    · rw [if_pos e, if_pos e, if_pos e]
    · rw [if_neg e, if_neg e]
theorem Gr.turn {row : List Mk} {N : Nat} {steps parts places : List Nat} (G : Gr row N steps parts places) {w : Nat} (hw : w < 17) (hp : wp w ∈ parts) (hg : Good (pl row) places w) :
    Gr row N (steps ++ [w]) (parts.erase (wp w)) (places.filter fun k => decide (pl row k w = 0)) := by
  have hin := (G.pin (wp w)).mp hp
  refine ⟨fun v hv => ?_, ?_, G.pnd.erase _, fun p => ?_, ?_, fun k hk => ?_⟩
  · rcases List.mem_append.mp hv with h | h
    · exact G.ways v h
    · rw [List.mem_singleton.mp h]
      exact hw
  · rw [List.map_append, List.nodup_append]
    refine ⟨G.nd, by simp, fun a ha b hb => ?_⟩
    rw [List.map_cons, List.map_nil, List.mem_singleton] at hb
    rintro rfl
    rw [hb] at ha
    exact hin.2 ha
  · rw [G.pnd.mem_erase_iff, G.pin p, List.map_append, List.mem_append, List.map_cons, List.map_nil, List.mem_singleton]
    constructor
    · rintro ⟨h1, h2, h3⟩
      exact ⟨h2, fun q => q.elim h3 h1⟩
    · rintro ⟨h1, h2⟩
      exact ⟨fun q => h2 (.inr q), h1, fun q => h2 (.inl q)⟩
  · rw [G.pls, List.filter_filter]
    refine List.filter_congr fun k _ => ?_
    rw [ord_snoc]
    by_cases e : ord steps (pl row k) = 0
    · rw [if_neg (fun q => q e), decide_eq_true e, Bool.and_true]
    · rw [if_pos e, decide_eq_false e, Bool.and_false]
  · rw [ord_snoc]
    by_cases e : ord steps (pl row k) = 0
    · rw [if_neg (fun q => q e)]
      have hm : k ∈ places := by
        rw [G.pls]
        exact List.mem_filter.mpr ⟨List.mem_range.mpr hk, decide_eq_true e⟩
      rcases pl_vals row k w with h | h | h
      · exact .inl h
      · exact absurd h (hg.1 k hm)
      · exact .inr h
    · rw [if_pos e]
      exact G.right k hk
theorem Gr.mem {row : List Mk} {N : Nat} {steps parts places : List Nat} (G : Gr row N steps parts places) {k : Nat} (h : k ∈ places) : k < N ∧ ord steps (pl row k) = 0 := by
  rw [G.pls] at h
  obtain ⟨h1, h2⟩ := List.mem_filter.mp h
  exact ⟨List.mem_range.mp h1, of_decide_eq_true h2⟩
/-- while places are left, a step is there -/
theorem Gr.there {row : List Mk} (ok : ∀ m ∈ row, OkM m) {N : Nat} {steps parts places : List Nat} (G : Gr row N steps parts places) {r : List Nat} (R : OkR r) (hr : ∀ k, k < N → ord r (pl row k) = -1) (ne : places ≠ []) :
    ∃ w, w < 17 ∧ wp w ∈ parts ∧ Good (pl row) places w := by
  obtain ⟨w, hw, g⟩ := good_there (f := pl row) ne (pl_vals row) (r := r) fun k hk => hr k (G.mem hk).1
  have h17 := R.ways w hw
  refine ⟨w, h17, ?_, g⟩
  refine (G.pin _).mpr ⟨wp_lt w h17, fun hm => ?_⟩
  obtain ⟨w', h1, h2⟩ := List.mem_map.mp hm
  obtain ⟨k, hk, hk2⟩ := g.2
  have z := ord_zero (G.mem hk).2 w' h1
  have z2 := pl_same ok h17 (G.ways w' h1) h2.symm z
  rw [z2] at hk2
  exact absurd hk2 (by decide)
theorem Gr.done {row : List Mk} {N : Nat} {steps parts : List Nat} (G : Gr row N steps parts []) : ∀ k, k < N → ord steps (pl row k) = -1 := fun k hk => by
  refine (G.right k hk).resolve_left fun e => ?_
  have hm : k ∈ ([] : List Nat) := by
    rw [G.pls]
    exact List.mem_filter.mpr ⟨List.mem_range.mpr hk, decide_eq_true e⟩
  exact absurd hm List.not_mem_nil
theorem nd_six : ∀ (l : List Nat), l.Nodup → (∀ x ∈ l, x < 6) → l.length ≤ 6 := by
  have key : ∀ (n : Nat) (l : List Nat), l.Nodup → (∀ x ∈ l, x < n) → l.length ≤ n := by
    intro n
    induction n with
    | zero =>
      intro l _ h
      cases l with
      | nil => exact Nat.le_refl _
      | cons a r => exact absurd (h a List.mem_cons_self) (Nat.not_lt_zero _)
    | succ n ih =>
      intro l nd h
      have e := ih (l.erase n) (nd.erase n) fun x hx => by
        rw [nd.mem_erase_iff] at hx
        have := h x hx.2
        omega
      have := @List.length_erase Nat _ _ n l
      split at this <;> omega
  exact key 6
theorem Gr.six {row : List Mk} {N : Nat} {steps parts places : List Nat} (G : Gr row N steps parts places) : steps.length ≤ 6 := by
  have h := nd_six (steps.map wp) G.nd fun x hx => by
    obtain ⟨w, h1, rfl⟩ := List.mem_map.mp hx
    exact wp_lt w (G.ways w h1)
  rwa [List.length_map] at h
theorem Gr.okR {row : List Mk} {N : Nat} {steps parts places : List Nat} (G : Gr row N steps parts places) : OkR steps := ⟨G.ways, G.nd⟩
end SM
end

section
set_option maxRecDepth 100000
set_option maxHeartbeats 4000000
/-! The program's text by places, what the top leaves, short words. -/
namespace S
open PySem PySem.Spec PyProof.Rows L2 SM
def top (i : Nat) : Stmt := PySem.Challenge.pw_spinemarks_k96_whole_two_houses.main.body.getD i (.Pass ⟨0, 0, 0, 0⟩)
/-- a def of the top, as the top leaves it -/
structure DefT (K : PySem.W.Frag) (mg : Str → Option Value) (x : Str) (st : Stmt) (dvs : List V) : Prop where
  ex : ∃ (f : Addr) (fd : FuncData), FunD K x x (defArgs st) (defBody st) (defScope st) dvs [] f fd ∧ mg x = some (.ref f)
/-- a method of the class at C -/
structure MetT (K : PySem.W.Frag) (C : Addr) (m qual : Str) (st : Stmt) (dvs : List V) : Prop where
  ex : ∃ (f : Addr) (fd : FuncData), FunD K m qual (defArgs st) (defBody st) (defScope st) dvs [] f fd ∧ Meth K C m f
section
variable {P : Program} {w : World} {K : PySem.W.Frag} {mg : Str → Option Value} {base : Heap}
/-- the body's way: what a def's proof shows -/
abbrev Body (P : Program) (w : World) (K : PySem.W.Frag) (mg : Str → Option Value) (base : Heap) (k : Nat) (N : List Str) (qual : Str) (st : Stmt) (sp : Sp) : Prop :=
  ∀ (f : Addr) (cdv : Value) (A : Around) (outer : List Env) (s : Shared) (H : Hp) (vs : List V) (Q : VK) (E : XK), Room k (A.deeper (envOfC qual (defScope st) s.heap.objs.size f cdv)) → sp vs H Q E →
      ∃ t, PSs (cxOf CX0 P w K mg base N qual (defScope st) f cdv A outer s H E).nox (defBody st) t ∧ t { nx := fun _ H' => Q .non H', rt := Q } (start N vs) H
/-- a def without defaults by its body -/
theorem cal_of {x : Str} {st : Stmt} {N ps : List Str} {k : Nat} {sp : Sp} (D : DefT K mg x st []) (S : FnScope N ps (defScope st))
    (b : ∀ (kV doc pm : Value) (an : Option Addr) (cdv ct : Value) (us : List Value), us.length = ps.length → bindArgs (PySem.W.fnOf x x (defArgs st) (defBody st) (defScope st) .none kV doc pm an cdv ct) ⟨us, []⟩ = pure (ps.zip us))
    (len : ∀ vs H Q E, sp vs H Q E → vs.length = ps.length) (hb : Body P w K mg base k N x st sp) : C8.Cal P w K mg base (k + 1) x sp [] := by
  obtain ⟨f, fd, F, hm⟩ := D.ex
  exact ⟨f, fd, ps, [], F.ok S len fun cdv A outer s H vs Q E hr h => by
    obtain ⟨t, h1, h2⟩ := hb f cdv A outer s H vs Q E hr h
    exact ⟨t, h1.nox, h2⟩, hm, F.kp, F.bindsN b, .nil⟩
/-- .. with defaults: the last ones, from the j-th default on, are filled up -/
theorem calD_of {x : Str} {st : Stmt} {N ps : List Str} {k : Nat} {sp : Sp} {dvs : List V} (D : DefT K mg x st dvs) (n j : Nat) (hd : dvs ≠ []) (hn : n + (dvs.length - j) = ps.length) (S : FnScope N ps (defScope st))
    (b : ∀ (T : Addr) (kV doc pm : Value) (an : Option Addr) (cdv ct : Value) (us its : List Value), us.length = n → its.length = dvs.length →
      ∃ k, bindArgs (PySem.W.fnOf x x (defArgs st) (defBody st) (defScope st) (.ref T) kV doc pm an cdv ct) ⟨us, []⟩ = seqItems? (.ref T) >>= k ∧ k (some its.toArray) = pure (ps.zip (us ++ its.drop j)))
    (len : ∀ vs H Q E, sp vs H Q E → vs.length = ps.length) (hb : Body P w K mg base k N x st sp) : C8.Cal P w K mg base (k + 1) x sp (dvs.drop j) := by
  obtain ⟨f, fd, F, hm⟩ := D.ex
  obtain ⟨ds, r, bb⟩ := F.binds1 n j hd hn b
  exact ⟨f, fd, ps, ds, F.ok S len fun cdv A outer s H vs Q E hr h => by
    obtain ⟨t, h1, h2⟩ := hb f cdv A outer s H vs Q E hr h
    exact ⟨t, h1.nox, h2⟩, hm, F.kp, bb, r⟩
/-- a method by its body -/
theorem met_of {m qual : Str} {C : Addr} {st : Stmt} {N ps : List Str} {k : Nat} {sp : Sp} (c : Cls K C) (D : MetT K C m qual st []) (S : FnScope N ps (defScope st))
    (b : ∀ (kV doc pm : Value) (an : Option Addr) (cdv ct : Value) (us : List Value), us.length = ps.length → bindArgs (PySem.W.fnOf m qual (defArgs st) (defBody st) (defScope st) .none kV doc pm an cdv ct) ⟨us, []⟩ = pure (ps.zip us))
    (len : ∀ vs H Q E, sp vs H Q E → vs.length = ps.length) (hb : Body P w K mg base k N qual st sp) : C8.Met P w K mg base (k + 1) C m sp [] := by
  obtain ⟨f, fd, F, hm⟩ := D.ex
  exact ⟨f, fd, ps, [], c, hm, F.ok S len fun cdv A outer s H vs Q E hr h => by
    obtain ⟨t, h1, h2⟩ := hb f cdv A outer s H vs Q E hr h
    exact ⟨t, h1.nox, h2⟩, F.bindsN b, .nil⟩
end
/-! ### what is true of built-in names: the top binds none of these -/
structure Free (mg : Str → Option Value) : Prop where
  isinstance : mg "isinstance" = none
  int : mg "int" = none
  bool : mg "bool" = none
  str : mg "str" = none
  list : mg "list" = none
  tuple : mg "tuple" = none
  len : mg "len" = none
  all : mg "all" = none
  divmod : mg "divmod" = none
  range : mg "range" = none
  max : mg "max" = none
  min : mg "min" = none
  sorted : mg "sorted" = none
  enumerate : mg "enumerate" = none
/-- a constant of the top -/
def Con (mg : Str → Option Value) (x : Str) (v : V) : Prop := ∃ u, mg x = some u ∧ RelV v u
theorem fz0 {scope : Scope} {N ps : List Str} (h : FnScope N ps scope) : FnScope N ps scope := h
end S
end

section
set_option maxRecDepth 100000
set_option maxHeartbeats 4000000
/-! Defs: signs. -/
namespace S
open PySem PySem.Spec PyProof.Rows L2 SM
section
variable {P : Program} {w : World} {K : PySem.W.Frag} {mg : Str → Option Value} {base : Heap}
/-! ### is_whole -/
def wholeB (i lo : Int) (hi : Option Int) : Bool := decide (lo ≤ i) && (match hi with
  | none => true
  | some h => decide (i ≤ h))
def hiV : Option Int → V
  | none => .non
  | some h => .int h
def spIsWhole : Sp := fun vs H Q _ => ∃ (i lo : Int) (hi : Option Int), vs = [.int i, .int lo, hiV hi] ∧ Q (.bl (wholeB i lo hi)) H
abbrev sIsWhole : Stmt := top 21
theorem scIsWhole : FnScope ["thing", "low", "high"] ["thing", "low", "high"] (defScope sIsWhole) := ⟨rfl, rfl, rfl, by decide +kernel, rfl, by decide +kernel, by decide +kernel⟩
theorem b_is_whole (T : Free mg) : Body P w K mg base 0 ["thing", "low", "high"] "is_whole" sIsWhole spIsWhole := by
  intro f cdv A outer s H vs Q E hr h
  obtain ⟨i, lo, hi, rfl, k⟩ := h
  refine ⟨_, pss_cons (ps_if (PW.pt (pw_or (pt_not (pt_val (pe_callB call_isi (by rfl) T.isinstance boot_isinstance (pa_cons (pv 0) (pa_cons (pe_bltn (v := .ty "int") (by rfl) T.int boot_int rfl) pa_nil)))))
        (pw_or (pt_val (pe_callB call_isi (by rfl) T.isinstance boot_isinstance (pa_cons (pv 0) (pa_cons (pe_bltn (v := .ty "bool") (by rfl) T.bool boot_bool rfl) pa_nil))))
          (pw_or1 (pt_cmpR op_lt (pv 0) (pv 1) (nomark _)))))) (pss_one (ps_ret pe_bl)) pss_nil)
      (pss_one (ps_ret (pe_or (pe_cmpR op_isN (pv 2) pe_non (nomark _)) (pe_one (pe_cmpR op_le (pv 0) (pv 2) (nomark _)))))), ?_⟩
  refine ⟨_, rfl, _, _, _, _, true, rfl, .ty "int", .base (.int i), kit_ty (by decide +kernel), _, rfl, ?_⟩
  refine iteF ?_
  refine ⟨_, rfl, _, _, _, _, false, rfl, .ty "bool", .base (.int i), kit_ty (by decide +kernel), _, rfl, ?_⟩
  refine iteF ?_
  refine ⟨_, rfl, _, rfl, _, _, rfl, rfl, _, rfl, ?_⟩
  by_cases h1 : i < lo
  · rw [decide_eq_true h1]
    refine iteT ?_
    have e : wholeB i lo hi = false := by
      unfold wholeB
      rw [decide_eq_false (by omega), Bool.false_and]
    rw [e] at k
    exact k
  · rw [decide_eq_false h1]
    refine iteF ?_
    cases hi with
    | none =>
      refine ⟨_, rfl, rfl, _, rfl, iteT ?_⟩
      have e : wholeB i lo none = true := by
        unfold wholeB
        rw [decide_eq_true (by omega), Bool.true_and]
      rw [e] at k
      exact k
    | some h =>
      refine ⟨_, rfl, rfl, _, rfl, iteF ⟨_, rfl, _, rfl, _, _, rfl, rfl, ?_⟩⟩
      have e : wholeB i lo (some h) = decide (i ≤ h) := by
        unfold wholeB
        rw [decide_eq_true (show lo ≤ i by omega), Bool.true_and]
      rw [e] at k
      exact k
theorem is_whole3 (D : DefT K mg "is_whole" sIsWhole [.non]) (T : Free mg) : C8.Cal P w K mg base 1 "is_whole" spIsWhole [] :=
  calD_of D 3 1 (by decide) rfl scIsWhole (fun T kV doc pm an cdv ct us its hl hi => match us, its, hl, hi with | [_, _, _], [_], _, _ => ⟨_, rfl, rfl⟩) (fun vs H Q E h => by
    obtain ⟨_, _, _, rfl, _⟩ := h
    rfl) (b_is_whole T)
theorem is_whole2 (D : DefT K mg "is_whole" sIsWhole [.non]) (T : Free mg) : C8.Cal P w K mg base 1 "is_whole" spIsWhole [.non] :=
  calD_of D 2 0 (by decide) rfl scIsWhole (fun T kV doc pm an cdv ct us its hl hi => match us, its, hl, hi with | [_, _], [_], _, _ => ⟨_, rfl, rfl⟩) (fun vs H Q E h => by
    obtain ⟨_, _, _, rfl, _⟩ := h
    rfl) (b_is_whole T)
end
end S
end

section
set_option maxRecDepth 100000
set_option maxHeartbeats 4000000
/-! Rules that the layer lacks, 1. -/
namespace S
open PySem PySem.Spec PyProof.Rows L2 SM
section
variable {X : Cx}
/-! ### < of alike data -/
def rLtD (K : PySem.W.Frag) : R2 := fun x y H Q => ∃ d e, Dp K H x d ∧ Dp K H y e ∧ PySem.W.alike d e = true ∧ d ≠ .none ∧ d.depth ≤ 64 ∧ Q (.bl (PySem.W.dataLt d e)) H
theorem op_ltD (hu : X.A.units + 64 < cLine) : OpR X (compareOp .Lt) (rLtD X.K) := by
  intro pins s σ H x y v u Q I rx ry h
  obtain ⟨d, e, hd, he, ha, hn, hz, q⟩ := h
  obtain ⟨as, r1⟩ := Dp.reads I d x v hd rx
  obtain ⟨bs, r2⟩ := Dp.reads I e y u he ry
  exact PySem.W.lt_data r1 r2 ha hn (by have := Nat.min_le_left d.depth e.depth; omega) ⟨.bl _, H, I, rfl, q⟩
/-! ### xs[i] += e -/
def rGet (K : PySem.W.Frag) : R2 := fun x y H Q => ∃ p xs k v, x = .ref p ∧ y = .int k ∧ SqL K H p xs ∧ 0 ≤ k ∧ k < 2 ^ 63 ∧ xs[k.toNat]? = some v ∧ Q v H
theorem get_list : PGet X (rGet X.K) := by
  intro pins s σ H o i ov iv Q I ro ri h
  obtain ⟨p, xs, k, z, rfl, rfl, hq, h0, h1, he, q⟩ := h
  cases ro
  obtain ⟨t, rfl⟩ := ri
  obtain ⟨its, r, pl, hz⟩ := I.list hq
  obtain ⟨w, ew, rw'⟩ := r.get he
  exact wpAny_getItem_list pl.isList h0 h1 (by simpa using ew) ⟨z, H, I, rw', q⟩
theorem ip_of {op : Operator} {r : R2} (h : OpR X (inplaceOp op) r) : PIp X op r := h
/-! ### xs.extend(t), t a tuple -/
def rExtT (K : PySem.W.Frag) : V → List V → Hp → VK → Prop := fun x vs H Q => ∃ l b xs zs, x = .ref l ∧ vs = [.ref b] ∧ H l = some (.lst xs) ∧ SqT K H b zs ∧ xs.length + zs.length ≤ sizeLine ∧ Q .non (upd H l (.lst (xs ++ zs)))
theorem ext_tup (l : Addr) (items : Array Value) (n : Nat) (b : Addr) (items2 : Array Value) (n2 : Nat) (dd : Option Addr) (sl : Array (Option Value)) (hs0 : ¬(!items.isEmpty && Builtin.List.listTooLong (items.size + items2.size)) = true) (hs1 : items.size ≤ sizeLine) (hs2 : items.size + items2.size ≤ sizeLine + 1) :
    Meets (Builtin.«list.extend» ⟨[.ref l, .ref b], []⟩) (fun _ R s => s.heap.get? l = some { cls := .type "list", dict := none, data := .seq items n, slots := #[] } ∧ s.heap.get? b = some { cls := .type "tuple", dict := dd, data := .seq items2 n2, slots := sl } ∧ R (.ok (.ret Value.none)) { s with heap := s.heap.update l (Obj.mapSeq fun x => x ++ items2), toks := s.toks }) :=
  .of_wp fun prog w A R s h => by
    obtain ⟨hp, g, d, tk, os⟩ := s; obtain ⟨hl, hb, h⟩ := h; have f1 := AutoSeq1.idx_int; have f2 := AutoSeq1.sub_tuple_tuple; have f3 := AutoSeq1.sub_list_list; have f4 := AutoSeq1.sub_tuple_list; have f5 := AutoSeq1.sub_list_tuple;
    have hz' : (items ++ items2).size ≤ sizeLine + 1 := by rw [Array.size_append]; exact hs2
    wp_walk using (wpAny_updateSeq hl rfl (hz := hs1) (_hz' := hz')), AutoSeq1.wpAny_loadPart' hl, AutoSeq1.wpAny_loadPart' hb; exact ⟨_, rfl, h⟩
theorem mt_extT : MtM X "list.extend" (rExtT X.K) := by
  intro pins s σ H x vs v us Q I rx rv h
  obtain ⟨l, b, xs, zs, rfl, rfl, hH, hB, hz, q⟩ := h
  cases rx
  obtain ⟨u, rfl, ru⟩ := rv.one
  cases ru
  obtain ⟨z, its, n, r, hl, e⟩ := I.lstM hH
  obtain ⟨its2, r2, ⟨⟨cls, dd, data, sl⟩, e2, hc, n2, hd⟩, z2⟩ := I.tuple hB
  simp only at hc hd
  subst hc hd
  have hl2 := r2.length
  have hsz : its.toArray.size + its2.toArray.size ≤ sizeLine := by rw [List.size_toArray, List.size_toArray]; omega
  have hlong : ¬ (!its.toArray.isEmpty && Builtin.List.listTooLong (its.toArray.size + its2.toArray.size)) = true := by
    rw [notLongL hsz, Bool.and_false]
    exact Bool.false_ne_true
  refine call_meets F.slot_list_extend ⟨_, e, rfl⟩ F.entry_list_extend (F.args_list_extend_2 _ _)
    (ext_tup l its.toArray n b its2.toArray n2 dd sl hlong (by rw [List.size_toArray]; omega) (by omega)) ⟨e, e2, ?_⟩
  refine ⟨.non, _, I.lset (its' := its ++ its2) hH e (by simp) (r.append r2) ?_, rfl, q⟩
  rw [List.length_append]
  omega
/-! ### xs.remove(z), texts, z is there -/
def eqkS (x : Str) : Value → Bool
  | .str y _ => y.cps.toList == x.cps.toList
  | _ => false
def rRemS : V → List V → Hp → VK → Prop := fun x xs H Q => ∃ (l : Addr) (ns : List Str) (k : Str) (j : Nat), x = .ref l ∧ xs = [.str k] ∧ H l = some (.lst (ns.map V.str)) ∧ ns[j]? = some k ∧ (∀ m : Nat, m < j → ns[m]? ≠ some k) ∧ Q .non (upd H l (.lst ((ns.eraseIdx j).map V.str)))
theorem eqkS_gives {x : Str} {t : Tok} : ∀ {us : List Value} {ns : List Str}, Vals (ns.map V.str) us → ∀ y ∈ us, MeetsSeq.EqGives y (.str x t) (eqkS x y)
  | [], _, _, y, hy => absurd hy List.not_mem_nil
  | u :: us, [], r, _, _ => by cases r
  | u :: us, n :: ns, r, y, hy => by
    rw [List.map_cons] at r
    cases r with
    | cons r1 r2 =>
      rcases List.mem_cons.mp hy with e | e
      · obtain ⟨t', rfl⟩ := r1
        rw [e]
        show MeetsSeq.EqGives (.str n t') (.str x t) (n.cps.toList == x.cps.toList)
        exact SeqRoads2.EqGives.str n x t' t
      · exact eqkS_gives r2 y e
theorem erase_mapS : ∀ (l : List Str) (j : Nat), (l.map V.str).eraseIdx j = (l.eraseIdx j).map V.str
  | [], j => by simp
  | a :: r, 0 => by simp
  | a :: r, j + 1 => by
    have ih := erase_mapS r j
    simp [ih]
theorem vals_str {us : List Value} {ns : List Str} (r : Vals (ns.map V.str) us) {j : Nat} {k : Str} (h : ns[j]? = some k) : ∃ t, us[j]? = some (.str k t) := by
  obtain ⟨u, h1, h2⟩ := r.get (i := j) (x := V.str k) (by rw [List.getElem?_map, h]; rfl)
  obtain ⟨t, rfl⟩ := h2
  exact ⟨t, h1⟩
theorem mt_removeS : MtM X "list.remove" rRemS := by
  intro pins s σ H x xs v us Q I rx rxs h
  obtain ⟨l, ns, k, j, rfl, rfl, hH, hj, hno, q⟩ := h
  cases rx
  obtain ⟨u, rfl, ru⟩ := rxs.one
  obtain ⟨t, rfl⟩ := ru
  obtain ⟨z, its, n, r, hl, e⟩ := I.lstM hH
  rw [List.length_map] at hl z
  have hjn : j < ns.length := (List.getElem?_eq_some_iff.mp hj).1
  have hjl : j < its.toArray.size := by rw [List.size_toArray]; omega
  refine call_meets PySem.F.slot_list_remove ⟨_, e, rfl⟩ PySem.F.entry_list_remove (PySem.F.args_list_remove_2 _ _)
    (MeetsSeq.list_remove l its.toArray n (.str k t) (eqkS k) (fun y hy => eqkS_gives r y (by simpa using hy)) j hjl ?_ ?_ (by rw [List.size_toArray]; omega)) ⟨e, ?_⟩
  · obtain ⟨tj, hjt⟩ := vals_str r hj
    obtain ⟨h1, h2⟩ := List.getElem?_eq_some_iff.mp hjt
    have e1 : its.toArray[j] = .str k tj := by simpa using h2
    rw [e1]
    show (k.cps.toList == k.cps.toList) = true
    exact beq_self_eq_true _
  · intro m hm hmj
    have hmn : m < ns.length := by omega
    obtain ⟨tm, hmt⟩ := vals_str r (List.getElem?_eq_getElem hmn)
    obtain ⟨h1, h2⟩ := List.getElem?_eq_some_iff.mp hmt
    have e1 : its.toArray[m] = .str ns[m] tm := by simpa using h2
    rw [e1]
    show (ns[m].cps.toList == k.cps.toList) = false
    exact beq_eq_false_iff_ne.mpr fun w => hno m hmj (by rw [List.getElem?_eq_getElem hmn, cs_inj w])
  · refine ⟨.non, _, I.lset (its' := its.eraseIdx j) (ys := (ns.eraseIdx j).map V.str) hH e ?_ ?_ ?_, rfl, q⟩
    · show its.toArray.eraseIdxIfInBounds j = (its.eraseIdx j).toArray
      rw [List.eraseIdxIfInBounds_toArray]
    · have w := r.eraseIdx j
      rw [erase_mapS] at w
      exact w
    · rw [List.length_map]
      have := List.length_eraseIdx_le ns j
      omega
end
end S
end

section
set_option maxRecDepth 100000
set_option maxHeartbeats 4000000
/-! Defs: signs, further. -/
namespace S
open PySem PySem.Spec PyProof.Rows L2 SM
def LET : Str := Str.ofString "abcdefghijklmnopqrstuvwxyz"
def FIG : Str := Str.ofString "0123456789"
theorem let_mem {c : Nat} (h : Low c) : c ∈ cs LET := by
  have e : ∀ i : Fin 26, 97 + i.val ∈ cs LET := by decide +kernel
  have q := e ⟨c - 97, by have := h.1; have := h.2; omega⟩
  have z : 97 + (c - 97) = c := by have := h.1; omega
  rw [← z]
  exact q
theorem fig_mem {c : Nat} (h : 48 ≤ c ∧ c ≤ 57) : c ∈ cs FIG := by
  have e : ∀ i : Fin 10, 48 + i.val ∈ cs FIG := by decide +kernel
  have q := e ⟨c - 48, by omega⟩
  have z : 48 + (c - 48) = c := by omega
  rw [← z]
  exact q
section
variable {P : Program} {w : World} {K : PySem.W.Frag} {mg : Str → Option Value} {base : Heap}
theorem mem_cps {z : Str} {j c : Nat} (h : z.cps[j]? = some c) : c ∈ cs z := by
  refine List.mem_of_getElem? (i := j) ?_
  unfold cs
  rw [Array.getElem?_toList]
  exact h
theorem all_true (n : Nat) : (List.replicate n true).all id = true := by
  rw [List.all_eq_true]
  intro x hx
  exact (List.mem_replicate.mp hx).2
/-! ### is_name -/
def spIsName : Sp := fun vs H Q _ => ∃ x : Str, vs = [.str x] ∧ 1 ≤ x.length ∧ x.length ≤ 6 ∧ (∀ c ∈ cs x, Low c) ∧ ∀ H', Same H H' → Q (.bl true) H'
abbrev sIsName : Stmt := top 24
theorem scIsName : FnScope ["thing", "sign"] ["thing"] (defScope sIsName) := ⟨rfl, rfl, rfl, by decide +kernel, rfl, by decide +kernel, by decide +kernel⟩
theorem b_is_name (T : Free mg) (c_LETTERS : Con mg "LETTERS" (.str LET)) (c_LONGEST_signs : Con mg "LONGEST_signs" (.int 6)) : Body P w K mg base 0 ["thing", "sign"] "is_name" sIsName spIsName := by
  intro f cdv A outer s H vs Q E hr h
  obtain ⟨x, rfl, h1, h2, h3, k⟩ := h
  have nd := scIsName.nd
  refine ⟨_, (pss_cons (ps_if (PW.pt (pw_or (pt_not (pt_val (pe_callB call_isi (by rfl) T.isinstance boot_isinstance (pa_cons (pv 0) (pa_cons (pe_bltn (v := .ty "str") (by rfl) T.str boot_str rfl) pa_nil))))) (pw_or1 (pt_not (pt_chain op_le op_le pe_int (pe_callB call_len_str (by rfl) T.len boot_len (pa_cons (pv 0) pa_nil)) (C8.pe_gc rfl c_LONGEST_signs))))))
        (pss_one (ps_ret pe_bl))
        pss_nil)
      (pss_one (ps_ret (pe_callB (cr_all rfl) (by rfl) T.all boot_all (pa_cons (pe_lc (own := [("sign", 1)]) (g := gName 1) (tt := tYes) (by rfl) nd (pi_str (pv 0)) (blkOk_by (own := [("sign", 1)]) (N := ["thing", "sign"]) (sc := defScope sIsName) (by decide +kernel)) (fun _ _ _ _ _ => (pg_name (i := 1) nd rfl (Or.inl rfl))) (fun _ _ _ _ _ => pts_nil) (fun _ _ _ _ _ => (pe_cmpR op_in_sign (pv 1) (C8.pe_gc rfl c_LETTERS) rfl))) pa_nil))))), ?_⟩
  refine ⟨_, rfl, _, _, _, _, true, rfl, .ty "str", .base (.str x), kit_ty (by decide +kernel), _, rfl, iteF ?_⟩
  refine ⟨_, rfl, _, rfl, by have := sizeLine_eq; omega, 1, _, rfl, rfl, _, rfl, ?_⟩
  rw [decide_eq_true (show (1 : Int) ≤ (x.length : Nat) by omega)]
  refine iteT ⟨_, _, rfl, rfl, _, rfl, ?_⟩
  rw [decide_eq_true (show ((x.length : Nat) : Int) ≤ 6 by omega)]
  refine iteF ?_
  refine ⟨_, rfl, _, rfl, fun D hD => lc_it walk_str (fun j H' => H' = upd H D (.lst ((List.replicate j true).map V.bl))) rfl (fun _ _ _ _ => True.intro) ?_ ?_⟩
  · rintro j y _ _ hj rfl ⟨rfl, c, hc, rfl⟩
    have hm : c ∈ cs LET := let_mem (h3 c (mem_cps hc))
    refine ⟨rfl, ?_⟩
    dsimp only [tYes]
    refine iteT ?_
    refine ⟨_, rfl, c, LET, rfl, rfl, _, upd_same, ?_, ?_⟩
    · rw [List.length_map, List.length_replicate]
      have : x.cps.size = x.length := rfl
      exact small1000 (by omega)
    · rw [upd_upd, decide_eq_true (show c ∈ LET.cps.toList from hm), List.replicate_succ', List.map_append] <;> rfl
  · rintro _ rfl
    refine ⟨D, _, rfl, SqL.of upd_same, ?_⟩
    rw [all_true]
    exact k _ (fun b o e => by rw [upd_ne (ne_of_none e hD)]; exact e)
theorem is_name_ (D : DefT K mg "is_name" sIsName []) (T : Free mg) (c1 : Con mg "LETTERS" (.str LET)) (c2 : Con mg "LONGEST_signs" (.int 6)) : C8.Cal P w K mg base 1 "is_name" spIsName [] :=
  cal_of D scIsName (fun _ _ _ _ _ _ us hl => match us, hl with | [_], _ => rfl) (fun vs H Q E h => by
    obtain ⟨_, rfl, _⟩ := h
    rfl) (b_is_name T c1 c2)
/-! ### is_figures -/
def spIsFigures : Sp := fun vs H Q _ => ∃ x : Str, vs = [.str x] ∧ OkFigs (cs x) ∧ ∀ H', Same H H' → Q (.bl true) H'
abbrev sIsFigures : Stmt := top 25
theorem scIsFigures : FnScope ["thing", "sign"] ["thing"] (defScope sIsFigures) := ⟨rfl, rfl, rfl, by decide +kernel, rfl, by decide +kernel, by decide +kernel⟩
theorem emp_eq : (Str.ofString "" : Str) = emp := rfl
theorem last_at {l : List Nat} (h : l ≠ []) : atI l (-1) = l.getLast? := by
  have hp : 0 < l.length := List.length_pos_iff.mpr h
  unfold atI ixN
  rw [if_neg (by omega), if_pos (by omega)]
  show l[((-1 : Int) + (l.length : Int)).toNat]? = _
  rw [List.getLast?_eq_getElem?]
  congr 1
  omega
theorem b_is_figures (T : Free mg) (c_FIGURES : Con mg "FIGURES" (.str FIG)) : Body P w K mg base 0 ["thing", "sign"] "is_figures" sIsFigures spIsFigures := by
  intro f cdv A outer s H vs Q E hr h
  obtain ⟨x, rfl, ⟨h1, h2, h3, h4⟩, k⟩ := h
  have nd := scIsFigures.nd
  have hl : x.length ≤ 40 := by rw [cs_len]; exact h4
  refine ⟨_, (pss_one (ps_ret (pe_and (pe_cmpR op_ne (pv 0) pe_str (nomark _)) (pe_and (pe_callB (cr_all rfl) (by rfl) T.all boot_all (pa_cons (pe_lc (own := [("sign", 1)]) (g := gName 1) (tt := tYes) (by rfl) nd (pi_str (pv 0)) (blkOk_by (own := [("sign", 1)]) (N := ["thing", "sign"]) (sc := defScope sIsFigures) (by decide +kernel)) (fun _ _ _ _ _ => (pg_name (i := 1) nd rfl (Or.inl rfl))) (fun _ _ _ _ _ => pts_nil) (fun _ _ _ _ _ => (pe_cmpR op_in_sign (pv 1) (C8.pe_gc rfl c_FIGURES) rfl))) pa_nil)) (pe_one (pe_cmpR op_ne (pe_ix ix_str (pv 0) (pe_un un_neg pe_int) (fun _ _ => rfl)) pe_str (nomark _))))))), ?_⟩
  have ne : ¬ (V.str x = V.str (Str.ofString "")) := fun q => h1 (by injection q with q; rw [q]; exact emp_cs)
  refine ⟨_, rfl, rfl, _, rfl, ?_⟩
  rw [decide_eq_false ne]
  refine iteT ⟨_, rfl, _, rfl, fun D hD => lc_it walk_str (fun j H' => H' = upd H D (.lst ((List.replicate j true).map V.bl))) rfl (fun _ _ _ _ => True.intro) ?_ ?_⟩
  · rintro j y _ _ hj rfl ⟨rfl, c, hc, rfl⟩
    have hm : c ∈ cs FIG := fig_mem (h2 c (mem_cps hc))
    refine ⟨rfl, ?_⟩
    dsimp only [tYes]
    refine iteT ?_
    refine ⟨_, rfl, c, FIG, rfl, rfl, _, upd_same, ?_, ?_⟩
    · rw [List.length_map, List.length_replicate]
      have : x.cps.size = x.length := rfl
      exact small1000 (by omega)
    · rw [upd_upd, decide_eq_true (show c ∈ FIG.cps.toList from hm), List.replicate_succ', List.map_append] <;> rfl
  · rintro _ rfl
    refine ⟨D, _, rfl, SqL.of upd_same, _, rfl, ?_⟩
    rw [all_true]
    obtain ⟨c, hc⟩ : ∃ c, (cs x).getLast? = some c := by
      cases q : (cs x).getLast? with
      | none => exact absurd (List.getLast?_eq_none_iff.mp q) h1
      | some c => exact ⟨c, rfl⟩
    have nz : ¬ (V.str ⟨#[c]⟩ = V.str (Str.ofString "0")) := fun q => by
      injection q with q
      have e := congrArg cs q
      have e2 : cs (Str.ofString "0") = [48] := by decide +kernel
      rw [e2] at e
      have e3 : c = 48 := (List.cons.inj e).1
      rw [e3] at hc
      exact h3 hc
    refine iteT ⟨_, rfl, _, rfl, x, -1, c, rfl, rfl, by have := sizeLine_eq; omega, ?_, rfl, ?_⟩
    · show atI (cs x) (-1) = some c
      rw [last_at h1, hc]
    · rw [decide_eq_false nz]
      exact k _ (fun b o e => by rw [upd_ne (ne_of_none e hD)]; exact e)
theorem is_figures_ (D : DefT K mg "is_figures" sIsFigures []) (T : Free mg) (c1 : Con mg "FIGURES" (.str FIG)) : C8.Cal P w K mg base 1 "is_figures" spIsFigures [] :=
  cal_of D scIsFigures (fun _ _ _ _ _ _ us hl => match us, hl with | [_], _ => rfl) (fun vs H Q E h => by
    obtain ⟨_, rfl, _⟩ := h
    rfl) (b_is_figures T c1)
/-! ### is_points -/
def spIsPoints : Sp := fun vs H Q _ => ∃ x : Str, vs = [.str x] ∧ OkPoints x ∧ ∀ H', Same H H' → Q (.bl true) H'
abbrev sIsPoints : Stmt := top 26
theorem scIsPoints : FnScope ["thing"] ["thing"] (defScope sIsPoints) := ⟨rfl, rfl, rfl, by decide +kernel, rfl, by decide +kernel, by decide +kernel⟩
theorem b_is_points (T : Free mg) (G_is_figures : C8.Cal P w K mg base 1 "is_figures" spIsFigures []) : Body P w K mg base 1 ["thing"] "is_points" sIsPoints spIsPoints := by
  intro f cdv A outer s H vs Q E hr h
  obtain ⟨x, rfl, h1, k⟩ := h
  refine ⟨_, (pss_one (ps_ret (pe_and (pe_callB call_isi (by rfl) T.isinstance boot_isinstance (pa_cons (pv 0) (pa_cons (pe_bltn (v := .ty "str") (by rfl) T.str boot_str rfl) pa_nil))) (pe_one (pe_or (pe_cmpR op_eq (pv 0) pe_str (nomark _)) (pe_one (C8.pe_c G_is_figures hr (by decide) rfl (pa_cons (pv 0) pa_nil)))))))), ?_⟩
  refine ⟨_, rfl, _, _, _, _, true, rfl, .ty "str", .base (.str x), kit_ty (by decide +kernel), _, rfl, iteT ⟨_, rfl, rfl, _, rfl, ?_⟩⟩
  by_cases e : x = emp
  · rw [decide_eq_true (show V.str x = V.str (Str.ofString "") by rw [e]; rfl)]
    exact iteT (k H (Same.refl H))
  · rw [decide_eq_false (show ¬ V.str x = V.str (Str.ofString "") from fun q => e (by injection q))]
    exact iteF ⟨_, rfl, x, rfl, h1.resolve_left e, fun H' sm => k H' sm⟩
theorem is_points_ (D : DefT K mg "is_points" sIsPoints []) (T : Free mg) (G : C8.Cal P w K mg base 1 "is_figures" spIsFigures []) : C8.Cal P w K mg base 2 "is_points" spIsPoints [] :=
  cal_of D scIsPoints (fun _ _ _ _ _ _ us hl => match us, hl with | [_], _ => rfl) (fun vs H Q E h => by
    obtain ⟨_, rfl, _⟩ := h
    rfl) (b_is_points T G)
/-! ### is_maker -/
def spIsMaker : Sp := fun vs H Q _ => ∃ x : Str, vs = [.str x] ∧ OkMaker x ∧ ∀ H', Same H H' → Q (.bl true) H'
abbrev sIsMaker : Stmt := top 27
theorem scIsMaker : FnScope ["thing"] ["thing"] (defScope sIsMaker) := ⟨rfl, rfl, rfl, by decide +kernel, rfl, by decide +kernel, by decide +kernel⟩
theorem cut_tail (x : Str) : cs (cutS x (some 1) none) = (cs x).drop 1 := by
  unfold cutS cs
  show ((List.drop (HT.sIx x.length 0 (some 1)) x.cps.toList).take (HT.sIx x.length x.length none - HT.sIx x.length 0 (some 1))) = _
  have hx : x.cps.toList.length = x.length := Array.length_toList
  have e : HT.sIx x.length 0 (some 1) = min 1 x.length := HT.sIx_nat _ _ 1
  rw [e, HT.sIx_none]
  by_cases h : 1 ≤ x.length
  · rw [Nat.min_eq_left h, List.take_of_length_le (by rw [List.length_drop, hx] <;> omega)]
  · have e0 : x.length = 0 := by omega
    have e1 : x.cps.toList = [] := List.length_eq_zero_iff.mp (by omega)
    rw [e1]
    simp
theorem b_is_maker (T : Free mg) (c_LETTERS : Con mg "LETTERS" (.str LET)) (G_is_figures : C8.Cal P w K mg base 1 "is_figures" spIsFigures []) : Body P w K mg base 1 ["thing"] "is_maker" sIsMaker spIsMaker := by
  intro f cdv A outer s H vs Q E hr h
  obtain ⟨x, rfl, ⟨a, l, e, ha, hl⟩, k⟩ := h
  refine ⟨_, (pss_cons (ps_if (PW.pt (pw_or (pt_not (pt_val (pe_callB call_isi (by rfl) T.isinstance boot_isinstance (pa_cons (pv 0) (pa_cons (pe_bltn (v := .ty "str") (by rfl) T.str boot_str rfl) pa_nil))))) (pw_or1 (pt_cmpR op_eq (pv 0) pe_str (nomark _)))))
        (pss_one (ps_ret pe_bl))
        pss_nil)
      (pss_one (ps_ret (pe_and (pe_cmpR op_in_sign (pe_ix ix_str (pv 0) pe_int (fun _ _ => rfl)) (C8.pe_gc rfl c_LETTERS) rfl) (pe_one (C8.pe_c G_is_figures hr (by decide) rfl (pa_cons (pe_slice sl_str (pv 0) (po_some pe_int) po_none) pa_nil))))))), ?_⟩
  have hz : x.length ≤ sizeLine := by
    rw [cs_len, e, List.length_cons]
    have := hl.2.2.2
    have := sizeLine_eq
    omega
  have ne : ¬ (V.str x = V.str (Str.ofString "")) := fun q => by
    injection q with q
    rw [q] at e
    have z := emp_cs.symm.trans e
    cases z
  refine ⟨_, rfl, _, _, _, _, true, rfl, .ty "str", .base (.str x), kit_ty (by decide +kernel), _, rfl, iteF ⟨_, rfl, rfl, _, rfl, ?_⟩⟩
  rw [decide_eq_false ne]
  refine iteF ⟨_, rfl, x, 0, a, rfl, rfl, hz, ?_, a, LET, rfl, rfl, _, rfl, ?_⟩
  · show atI (cs x) 0 = some a
    rw [e]
    exact atI_nat (j := 0) rfl
  · dsimp only
    rw [decide_eq_true (show a ∈ LET.cps.toList from let_mem ha)]
    refine iteT ⟨_, rfl, _, rfl, x, rfl, hz, _, rfl, ?_, fun H' sm => k H' sm⟩
    rw [cut_tail, e]
    exact hl
theorem is_maker_ (D : DefT K mg "is_maker" sIsMaker []) (T : Free mg) (c : Con mg "LETTERS" (.str LET)) (G : C8.Cal P w K mg base 1 "is_figures" spIsFigures []) : C8.Cal P w K mg base 2 "is_maker" spIsMaker [] :=
  cal_of D scIsMaker (fun _ _ _ _ _ _ us hl => match us, hl with | [_], _ => rfl) (fun vs H Q E h => by
    obtain ⟨_, rfl, _⟩ := h
    rfl) (b_is_maker T c G)
/-! ### is_letters -/
def spIsLetters : Sp := fun vs H Q _ => ∃ x : Str, vs = [.str x] ∧ OkLetters x ∧ ∀ H', Same H H' → Q (.bl true) H'
abbrev sIsLetters : Stmt := top 28
theorem scIsLetters : FnScope ["thing"] ["thing"] (defScope sIsLetters) := ⟨rfl, rfl, rfl, by decide +kernel, rfl, by decide +kernel, by decide +kernel⟩
theorem b_is_letters (T : Free mg) (G_is_name : C8.Cal P w K mg base 1 "is_name" spIsName []) : Body P w K mg base 1 ["thing"] "is_letters" sIsLetters spIsLetters := by
  intro f cdv A outer s H vs Q E hr h
  obtain ⟨x, rfl, ⟨h1, h2, h3⟩, k⟩ := h
  refine ⟨_, (pss_one (ps_ret (pe_and (C8.pe_c G_is_name hr (by decide) rfl (pa_cons (pv 0) pa_nil)) (pe_one (pe_cmpR op_le (pe_callB call_len_str (by rfl) T.len boot_len (pa_cons (pv 0) pa_nil)) pe_int (nomark _)))))), ?_⟩
  refine ⟨_, rfl, x, rfl, h1, by omega, h3, fun H' sm => ⟨_, rfl, iteT ⟨_, rfl, _, rfl, by have := sizeLine_eq; omega, _, _, rfl, rfl, ?_⟩⟩⟩
  dsimp only
  rw [decide_eq_true (show ((x.length : Nat) : Int) ≤ 3 by omega)]
  exact k H' sm
theorem is_letters_ (D : DefT K mg "is_letters" sIsLetters []) (T : Free mg) (G : C8.Cal P w K mg base 1 "is_name" spIsName []) : C8.Cal P w K mg base 2 "is_letters" spIsLetters [] :=
  cal_of D scIsLetters (fun _ _ _ _ _ _ us hl => match us, hl with | [_], _ => rfl) (fun vs H Q E h => by
    obtain ⟨_, rfl, _⟩ := h
    rfl) (b_is_letters T G)
/-! ### whole_in: figures below the sixtieth -/
def spWholeIn : Sp := fun vs H Q _ => ∃ x : Str, vs = [.str x] ∧ NumText.AllDigits (cs x) ∧ x.length < 60 ∧ Q (.int ((NumText.digitsVal (cs x) : Nat) : Int)) H
abbrev sWholeIn : Stmt := top 22
theorem scWholeIn : FnScope ["figures", "at", "number"] ["figures"] (defScope sWholeIn) := ⟨rfl, rfl, rfl, by decide +kernel, rfl, by decide +kernel, by decide +kernel⟩
theorem cut_all {x : Str} {n : Nat} (h : x.length ≤ n) : cutS x none (some (n : Int)) = x := by
  refine cs_inj ?_
  unfold cutS cs
  show ((List.drop (HT.sIx x.length 0 none) x.cps.toList).take (HT.sIx x.length x.length (some (n : Int)) - HT.sIx x.length 0 none)) = _
  have hx : x.cps.toList.length = x.length := Array.length_toList
  rw [HT.sIx_none, HT.sIx_nat, List.drop_zero, Nat.min_eq_right h, List.take_of_length_le (by omega)]
theorem cs_app (x y : Str) : cs (x ++ y) = cs x ++ cs y := by
  show (x.cps ++ y.cps).toList = _
  rw [Array.toList_append]
theorem zero_int {x : Str} (h : NumText.AllDigits (cs x)) (hl : x.length < 60) : intText? (Str.ofString "0" ++ x) = some ((NumText.digitsVal (cs x) : Nat) : Int) := by
  have e0 : cs (Str.ofString "0") = [48] := by decide +kernel
  have e : cs (Str.ofString "0" ++ x) = 48 :: cs x := by rw [cs_app, e0]; rfl
  have z := intText_digits (x := Str.ofString "0" ++ x) (by
    show NumText.AllDigits (cs (Str.ofString "0" ++ x))
    rw [e]
    intro c hc
    rcases List.mem_cons.mp hc with rfl | hc
    · decide
    · exact h c hc) (by
    show cs (Str.ofString "0" ++ x) ≠ []
    rw [e]
    exact List.cons_ne_nil _ _) (by rw [cs_len, e, List.length_cons, ← cs_len]; omega)
  rw [z]
  show some ((NumText.digitsVal (cs (Str.ofString "0" ++ x)) : Nat) : Int) = _
  rw [e, NumText.digitsVal_zero]
theorem b_whole_in (T : Free mg) (c_PART : Con mg "PART" (.int 60)) : Body P w K mg base 0 ["figures", "at", "number"] "whole_in" sWholeIn spWholeIn := by
  intro f cdv A outer s H vs Q E hr h
  obtain ⟨x, rfl, h1, h2, k⟩ := h
  have nd := scWholeIn.nd
  refine ⟨_, (pss_cons (ps_set (i := 1) nd rfl (Or.inl rfl) (pe_op op_mod (pe_callB call_len_str (by rfl) T.len boot_len (pa_cons (pv 0) pa_nil)) (C8.pe_gc rfl c_PART)))
      (pss_cons (ps_set (i := 2) nd rfl (Or.inl rfl) (pe_callTy call_int_str (by rfl) T.int boot_int (pa_cons (pe_op op_add_str pe_str (pe_slice sl_str (pv 0) po_none (po_some (pv 1)))) pa_nil)))
      (pss_cons (ps_while PassesOwn.never (pt_cmpR op_lt (pv 1) (pe_callB call_len_str (by rfl) T.len boot_len (pa_cons (pv 0) pa_nil)) (nomark _)) pss_never)
      (pss_one (ps_ret (pv 2)))))), ?_⟩
  have hz : x.length ≤ sizeLine := by have := sizeLine_eq; omega
  have l0 : (Str.ofString "0").length = 1 := by decide +kernel
  refine ⟨_, rfl, _, rfl, hz, _, _, rfl, rfl, (by show (0 : Int) < 60; decide), ?_⟩
  have em : ((x.length : Nat) : Int) % 60 = ((x.length : Nat) : Int) := by omega
  dsimp only
  rw [em]
  refine ⟨_, rfl, _, rfl, _, rfl, x, rfl, hz, _, _, rfl, rfl, ?_, _, ((NumText.digitsVal (cs x) : Nat) : Int), rfl, ?_, ?_, ?_⟩
  · rw [cut_all (Nat.le_refl _), l0]
    have := sizeLine_eq
    omega
  · rw [cut_all (Nat.le_refl _)]
    exact zero_int h1 h2
  · rw [cut_all (Nat.le_refl _), app_len, l0]
    omega
  · refine ⟨fun _ σ' H' => σ' = _ ∧ H' = H, ⟨0, rfl, rfl⟩, ?_⟩
    rintro _ _ _ ⟨rfl, rfl⟩
    refine ⟨_, rfl, _, rfl, _, rfl, hz, _, _, rfl, rfl, _, rfl, ?_⟩
    rw [decide_eq_false (show ¬ ((x.length : Nat) : Int) < ((x.length : Nat) : Int) by omega)]
    exact iteF ⟨_, rfl, k⟩
theorem whole_in_ (D : DefT K mg "whole_in" sWholeIn []) (T : Free mg) (c : Con mg "PART" (.int 60)) : C8.Cal P w K mg base 1 "whole_in" spWholeIn [] :=
  cal_of D scWholeIn (fun _ _ _ _ _ _ us hl => match us, hl with | [_], _ => rfl) (fun vs H Q E h => by
    obtain ⟨_, rfl, _⟩ := h
    rfl) (b_whole_in T c)
/-! ### figures_of: numbers below the sixtieth power -/
def spFiguresOf : Sp := fun vs H Q _ => ∃ n : Int, vs = [.int n] ∧ 0 ≤ n ∧ n < 10 ^ 40 ∧ ∀ H', Same H H' → Q (.str (figs n)) H'
abbrev sFiguresOf : Stmt := top 23
theorem scFiguresOf : FnScope ["number", "parts", "rest"] ["number"] (defScope sFiguresOf) := ⟨rfl, rfl, rfl, by decide +kernel, rfl, by decide +kernel, by decide +kernel⟩
theorem b_figures_of (T : Free mg) : Body P w K mg base 0 ["number", "parts", "rest"] "figures_of" sFiguresOf spFiguresOf := by
  intro f cdv A outer s H vs Q E hr h
  obtain ⟨n, rfl, h1, h2, k⟩ := h
  have nd := scFiguresOf.nd
  refine ⟨_, (pss_cons (ps_set (i := 1) nd rfl (Or.inl rfl) (pe_lst pa_nil))
      (pss_cons (ps_while PassesOwn.never (pt_cmpR op_ge (pv 0) (pe_op op_pow pe_int pe_int) (nomark _)) pss_never)
      (pss_cons (ps_expr (pe_bm PySem.F.plainAttrs_list PySem.F.slot_list_append PySem.F.type_list_append mt_append (pv 1) (pa_cons (pe_callTy call_str_int (by rfl) T.str boot_str (pa_cons (pv 0) pa_nil)) pa_nil)))
      (pss_one (ps_ret (pe_join pe_str (pe_revL (pv 1)))))))), ?_⟩
  refine ⟨Nat.zero_le _, fun p hp => ?_⟩
  refine ⟨fun _ σ' H' => σ' = _ ∧ H' = upd H p (.lst []), ⟨0, rfl, rfl⟩, ?_⟩
  rintro _ _ _ ⟨rfl, rfl⟩
  refine ⟨_, rfl, 10, 60, rfl, rfl, ⟨by decide, by decide, by decide⟩, _, _, rfl, rfl, _, rfl, ?_⟩
  rw [decide_eq_false (show ¬ (10 : Int) ^ (60 : Int).toNat ≤ n from fun q => by
    have e : (10 : Int) ^ (60 : Int).toNat = 10 ^ 40 * 10 ^ 20 := by decide +kernel
    have e2 : (10 : Int) ^ 40 * 1 ≤ 10 ^ 40 * 10 ^ 20 := by decide +kernel
    omega)]
  refine iteF ?_
  have hn : n.natAbs.log2 < 1920 := by
    have h3 : n.natAbs < 2 ^ 134 := by
      have e : (10 : Int) ^ 40 ≤ 2 ^ 134 := by decide +kernel
      omega
    by_cases z : n.natAbs = 0
    · rw [z]; decide
    · have := (Nat.log2_lt z).mpr h3
      omega
  have hfl : (figs n).length ≤ 40 := figs_le h1 (by decide) h2
  refine ⟨_, rfl, .inl ⟨rfl, _, SqL.of upd_same⟩, _, rfl, n, rfl, hn, _, _, _, rfl, rfl, upd_same, by decide, ?_⟩
  refine ⟨⟨_, rfl⟩, _, rfl, p, [.str (figs n)], rfl, SqL.of upd_same, fun q hq => ?_⟩
  refine ⟨_, q, [figs n], rfl, rfl, .inl (SqL.of upd_same), ?_, ?_⟩
  · simp only [List.map_cons, List.map_nil, List.sum_cons, List.sum_nil, List.length_cons, List.length_nil]
    have : (Str.ofString "").length = 0 := by decide +kernel
    omega
  · have e : Txt.join (Str.ofString "") [figs n] = figs n := rfl
    rw [e]
    exact k _ (fun b o e => by
      have bp : b ≠ p := ne_of_none e hp
      have bq : b ≠ q := fun z => by
        rw [z] at e bp
        rw [upd_ne bp, upd_ne bp, e] at hq
        cases hq
      rw [upd_ne bq, upd_ne bp, upd_ne bp]
      exact e)
theorem figures_of_ (D : DefT K mg "figures_of" sFiguresOf []) (T : Free mg) : C8.Cal P w K mg base 1 "figures_of" spFiguresOf [] :=
  cal_of D scFiguresOf (fun _ _ _ _ _ _ us hl => match us, hl with | [_], _ => rfl) (fun vs H Q E h => by
    obtain ⟨_, rfl, _⟩ := h
    rfl) (b_figures_of T)
end
end S
end

section
set_option maxRecDepth 100000
set_option maxHeartbeats 4000000
/-! Defs: the mark. -/
namespace S
open PySem PySem.Spec PyProof.Rows L2 SM
section
variable {P : Program} {w : World} {K : PySem.W.Frag} {mg : Str → Option Value} {base : Heap}
/-! ### need_year, need_copy -/
def spNeedYear : Sp := fun vs H Q _ => ∃ y : Option Int, vs = [hiV y] ∧ OkYear y ∧ Q .non H
abbrev sNeedYear : Stmt := top 34
theorem scNeedYear : FnScope ["year"] ["year"] (defScope sNeedYear) := ⟨rfl, rfl, rfl, by decide +kernel, rfl, by decide +kernel, by decide +kernel⟩
theorem b_need_year (c_FIRST_YEAR : Con mg "FIRST_YEAR" (.int 1000)) (c_LAST_YEAR : Con mg "LAST_YEAR" (.int 2999)) (G_is_whole : C8.Cal P w K mg base 1 "is_whole" spIsWhole []) : Body P w K mg base 1 ["year"] "need_year" sNeedYear spNeedYear := by
  intro f cdv A outer s H vs Q E hr h
  obtain ⟨y, rfl, ok, k⟩ := h
  refine ⟨_, (pss_one (ps_if (PW.pt (pw_and (pt_cmpR op_notN (pv 0) pe_non (nomark _)) (pw_and1 (pt_not (pt_val (C8.pe_c G_is_whole hr (by decide) rfl (pa_cons (pv 0) (pa_cons (C8.pe_gc rfl c_FIRST_YEAR) (pa_cons (C8.pe_gc rfl c_LAST_YEAR) pa_nil)))))))))
        (pss_one (ps_never))
        pss_nil)), ?_⟩
  cases y with
  | none => exact ⟨_, rfl, rfl, _, rfl, iteF (iteF k)⟩
  | some n =>
    obtain ⟨h1, h2⟩ := ok n rfl
    refine ⟨_, rfl, rfl, _, rfl, iteT ⟨_, rfl, n, 1000, some 2999, rfl, ?_⟩⟩
    have e : wholeB n 1000 (some 2999) = true := by
      unfold wholeB
      rw [decide_eq_true h1, Bool.true_and]
      exact decide_eq_true h2
    rw [e]
    exact ⟨_, rfl, iteF k⟩
theorem need_year_ (D : DefT K mg "need_year" sNeedYear []) (c1 : Con mg "FIRST_YEAR" (.int 1000)) (c2 : Con mg "LAST_YEAR" (.int 2999)) (G : C8.Cal P w K mg base 1 "is_whole" spIsWhole []) : C8.Cal P w K mg base 2 "need_year" spNeedYear [] :=
  cal_of D scNeedYear (fun _ _ _ _ _ _ us hl => match us, hl with | [_], _ => rfl) (fun vs H Q E h => by
    obtain ⟨_, rfl, _⟩ := h
    rfl) (b_need_year c1 c2 G)
def spNeedCopy : Sp := fun vs H Q _ => ∃ y : Option Int, vs = [hiV y] ∧ OkCopy y ∧ Q .non H
abbrev sNeedCopy : Stmt := top 35
theorem scNeedCopy : FnScope ["copy"] ["copy"] (defScope sNeedCopy) := ⟨rfl, rfl, rfl, by decide +kernel, rfl, by decide +kernel, by decide +kernel⟩
theorem b_need_copy (G_is_whole : C8.Cal P w K mg base 1 "is_whole" spIsWhole [.non]) : Body P w K mg base 1 ["copy"] "need_copy" sNeedCopy spNeedCopy := by
  intro f cdv A outer s H vs Q E hr h
  obtain ⟨y, rfl, ok, k⟩ := h
  refine ⟨_, (pss_one (ps_if (PW.pt (pw_and (pt_cmpR op_notN (pv 0) pe_non (nomark _)) (pw_and1 (pt_not (pt_val (C8.pe_c G_is_whole hr (by decide) rfl (pa_cons (pv 0) (pa_cons pe_int pa_nil))))))))
        (pss_one (ps_never))
        pss_nil)), ?_⟩
  cases y with
  | none => exact ⟨_, rfl, rfl, _, rfl, iteF (iteF k)⟩
  | some n =>
    obtain ⟨h1, h2⟩ := ok n rfl
    refine ⟨_, rfl, rfl, _, rfl, iteT ⟨_, rfl, n, 2, none, rfl, ?_⟩⟩
    have e : wholeB n 2 none = true := by
      unfold wholeB
      rw [decide_eq_true h1, Bool.true_and]
    rw [e]
    exact ⟨_, rfl, iteF k⟩
theorem need_copy_ (D : DefT K mg "need_copy" sNeedCopy []) (G : C8.Cal P w K mg base 1 "is_whole" spIsWhole [.non]) : C8.Cal P w K mg base 2 "need_copy" spNeedCopy [] :=
  cal_of D scNeedCopy (fun _ _ _ _ _ _ us hl => match us, hl with | [_], _ => rfl) (fun vs H Q E h => by
    obtain ⟨_, rfl, _⟩ := h
    rfl) (b_need_copy G)
/-! ### makers_in -/
def spMakersIn (K : PySem.W.Frag) : Sp := fun vs H Q _ => ∃ (a : Addr) (xs : List Str), vs = [.ref a] ∧ (H a = some (.lst (xs.map V.str)) ∨ SqT K H a (xs.map V.str)) ∧ xs.length ≤ 3 ∧ (∀ x ∈ xs, OkMaker x) ∧ ∀ t H', Same H H' → SqT K H' t (xs.map V.str) → Q (.ref t) H'
abbrev sMakersIn : Stmt := top 36
theorem scMakersIn : FnScope ["makers", "maker"] ["makers"] (defScope sMakersIn) := ⟨rfl, rfl, rfl, by decide +kernel, rfl, by decide +kernel, by decide +kernel⟩
theorem tyx_tup {K : PySem.W.Frag} {H : Hp} {a : Addr} {xs : List V} (h : SqT K H a xs) : TyX K H (.ref a) (.type "tuple") := by
  rcases h with (h | ⟨o, h⟩) | ⟨o, its, n, h1, h2, _⟩
  · exact .base (.tup h)
  · exact .fTuple h
  · exact .kTuple h1 h2
theorem same_sqt {K : PySem.W.Frag} {H H' : Hp} {a : Addr} {xs : List V} (e : Same H H') (h : SqT K H a xs) : SqT K H' a xs := by
  rcases h with (h | ⟨o, h⟩) | h
  · exact .inl (.inl (e _ _ h))
  · exact .inl (.inr ⟨o, e _ _ h⟩)
  · exact .inr h
theorem same_new {H : Hp} {p : Addr} {u : HO} (h : H p = none) : Same H (upd H p u) := fun b o e => by
  rw [upd_ne (ne_of_none e h)]
  exact e
theorem at_map {xs : List Str} {i : Nat} {v : V} (h : (xs.map V.str)[i]? = some v) : ∃ y, xs[i]? = some y ∧ v = .str y := by
  rw [List.getElem?_map] at h
  cases e : xs[i]? with
  | none => rw [e] at h; cases h
  | some y =>
    rw [e] at h
    exact ⟨y, rfl, (Option.some.inj h).symm⟩
theorem b_makers_in (T : Free mg) (c_MOST_MAKERS : Con mg "MOST_MAKERS" (.int 3)) (G_is_maker : C8.Cal P w K mg base 2 "is_maker" spIsMaker []) : Body P w K mg base 2 ["makers", "maker"] "makers_in" sMakersIn (spMakersIn K) := by
  intro f cdv A outer s H vs Q E hr h
  obtain ⟨a, xs, rfl, hq, hz, ok, k⟩ := h
  have nd := scMakersIn.nd
  rcases hq with hq | hq
  · refine ⟨_, (pss_cons (ps_if (pt_cmpR op_isN (pv 0) pe_non (nomark _))
        (pss_one (ps_ret (pe_tup pa_nil)))
        pss_nil)
      (pss_cons (ps_if (PW.pt (pw_or (pt_not (pt_val (pe_callB call_isiT (by rfl) T.isinstance boot_isinstance (pa_cons (pv 0) (pa_cons (pe_tup (pa_cons (pe_bltn (v := .ty "list") (by rfl) T.list boot_list rfl) (pa_cons (pe_bltn (v := .ty "tuple") (by rfl) T.tuple boot_tuple rfl) pa_nil))) pa_nil))))) (pw_or1 (pt_cmpR op_gt (pe_callB call_len_seq (by rfl) T.len boot_len (pa_cons (pv 0) pa_nil)) (C8.pe_gc rfl c_MOST_MAKERS) (nomark _)))))
        (pss_one (ps_never))
        pss_nil)
      (pss_cons (ps_for PassesOwn.never rfl (pi_list (pv 0)) (pg_name (i := 1) nd rfl (Or.inl rfl))
        (pss_one (ps_if (pt_not (pt_val (C8.pe_c G_is_maker hr (by decide) rfl (pa_cons (pv 1) pa_nil))))
          (pss_one (ps_never))
          pss_nil)))
      (pss_one (ps_ret (pe_tupleOf (by rfl) T.tuple (pv 0))))))), ?_⟩
    refine ⟨_, rfl, rfl, _, rfl, iteF ⟨_, rfl, by decide, fun p hp => ?_⟩⟩
    have s1 := same_new (u := HO.tup [V.ty "list", V.ty "tuple"]) hp
    refine ⟨_, _, _, _, [.type "list", .type "tuple"], true, rfl, upd_same, .cons (.ty _) (.cons (.ty _) .nil), .base (.lst (s1 _ _ hq)), kitAny_cons (b := true) (kit_ty (by decide +kernel)) (fun z => by cases z) (fun _ => rfl), _, rfl, iteF ?_⟩
    refine ⟨_, rfl, _, _, rfl, .inl (.of (s1 _ _ hq)), _, _, rfl, rfl, _, rfl, ?_⟩
    rw [List.length_map, decide_eq_false (show ¬ (3 : Int) < ((xs.length : Nat) : Int) by omega)]
    refine iteF ?_
    refine ⟨_, rfl, a, rfl, ⟨_, .of (s1 _ _ hq)⟩, for_list (xs := xs.map V.str) (fun i σ' H' => (∃ z, σ' = [some (.ref a), z]) ∧ Same H H') ⟨⟨_, rfl⟩, s1⟩ (fun i σ' H' _ q => .of (q.2 _ _ hq)) ?_ ?_⟩
    · rintro i x σ2 H2 hx ⟨⟨z, rfl⟩, q2⟩
      obtain ⟨y, hy, rfl⟩ := at_map hx
      refine ⟨_, rfl, y, rfl, ok y (List.mem_of_getElem? hy), fun H2 sm => ⟨_, rfl, iteF ⟨⟨_, rfl⟩, q2.trans sm⟩⟩⟩
    · rintro σ2 H2 ⟨⟨z, rfl⟩, q2⟩
      exact ⟨_, rfl, .inl ⟨a, _, rfl, .of (q2 _ _ hq), fun q hq2 => k q _ (q2.trans (same_new hq2)) (.of upd_same)⟩⟩
  · refine ⟨_, (pss_cons (ps_if (pt_cmpR op_isN (pv 0) pe_non (nomark _))
        (pss_one (ps_ret (pe_tup pa_nil)))
        pss_nil)
      (pss_cons (ps_if (PW.pt (pw_or (pt_not (pt_val (pe_callB call_isiT (by rfl) T.isinstance boot_isinstance (pa_cons (pv 0) (pa_cons (pe_tup (pa_cons (pe_bltn (v := .ty "list") (by rfl) T.list boot_list rfl) (pa_cons (pe_bltn (v := .ty "tuple") (by rfl) T.tuple boot_tuple rfl) pa_nil))) pa_nil))))) (pw_or1 (pt_cmpR op_gt (pe_callB call_len_seq (by rfl) T.len boot_len (pa_cons (pv 0) pa_nil)) (C8.pe_gc rfl c_MOST_MAKERS) (nomark _)))))
        (pss_one (ps_never))
        pss_nil)
      (pss_cons (ps_for PassesOwn.never rfl (pi_tup (pv 0)) (pg_name (i := 1) nd rfl (Or.inl rfl))
        (pss_one (ps_if (pt_not (pt_val (C8.pe_c G_is_maker hr (by decide) rfl (pa_cons (pv 1) pa_nil))))
          (pss_one (ps_never))
          pss_nil)))
      (pss_one (ps_ret (pe_tupleOf (by rfl) T.tuple (pv 0))))))), ?_⟩
    refine ⟨_, rfl, rfl, _, rfl, iteF ⟨_, rfl, by decide, fun p hp => ?_⟩⟩
    have s1 := same_new (u := HO.tup [V.ty "list", V.ty "tuple"]) hp
    refine ⟨_, _, _, _, [.type "list", .type "tuple"], true, rfl, upd_same, .cons (.ty _) (.cons (.ty _) .nil), tyx_tup (same_sqt s1 hq), kitAny_cons (b := false) (kit_ty (by decide +kernel)) (fun _ => kitAny_cons (b := true) (kit_ty (by decide +kernel)) (fun z => by cases z) (fun _ => rfl)) (fun z => by cases z), _, rfl, iteF ?_⟩
    refine ⟨_, rfl, _, _, rfl, .inr (same_sqt s1 hq), _, _, rfl, rfl, _, rfl, ?_⟩
    rw [List.length_map, decide_eq_false (show ¬ (3 : Int) < ((xs.length : Nat) : Int) by omega)]
    refine iteF ?_
    refine ⟨_, rfl, a, rfl, ⟨_, same_sqt s1 hq⟩, for_it (walk_tup (xs := xs.map V.str)) (fun i σ' H' => (∃ z, σ' = [some (.ref a), z]) ∧ Same H H') ⟨⟨_, rfl⟩, s1⟩ (fun i σ' H' _ q => same_sqt q.2 hq) ?_ ?_⟩
    · rintro i x σ2 H2 H3 hi ⟨⟨z, rfl⟩, q2⟩ ⟨rfl, hx⟩
      obtain ⟨y, hy, rfl⟩ := at_map hx
      refine ⟨_, rfl, y, rfl, ok y (List.mem_of_getElem? hy), fun H2 sm => ⟨_, rfl, iteF ⟨⟨_, rfl⟩, q2.trans sm⟩⟩⟩
    · rintro σ2 H2 ⟨⟨z, rfl⟩, q2⟩
      exact ⟨_, rfl, .inr ⟨a, _, rfl, same_sqt q2 hq, k a _ q2 (same_sqt q2 hq)⟩⟩
theorem makers_in_ (D : DefT K mg "makers_in" sMakersIn []) (T : Free mg) (c : Con mg "MOST_MAKERS" (.int 3)) (G : C8.Cal P w K mg base 2 "is_maker" spIsMaker []) : C8.Cal P w K mg base 3 "makers_in" (spMakersIn K) [] :=
  cal_of D scMakersIn (fun _ _ _ _ _ _ us hl => match us, hl with | [_], _ => rfl) (fun vs H Q E h => by
    obtain ⟨_, _, rfl, _⟩ := h
    rfl) (b_makers_in T c G)
/-! ### the mark -/
def pfl (t : Addr) (m : Mk) : List (Str × V) := [("kept_makers", .ref t), ("kept_letters", .str m.letters), ("kept_number", .int m.number), ("kept_points", .str m.points), ("kept_year", hiV m.year), ("kept_copy", hiV m.copy)]
def mfl (t : Addr) (m : Mk) : List (Str × V) := [("kept_makers", .ref t), ("kept_letters", .str m.letters), ("kept_number", .int m.number), ("kept_points", .str m.points), ("kept_year", hiV m.year), ("kept_copy", hiV m.copy), ("kept_text", .str m.text)]
def MarkAt (K : PySem.W.Frag) (CM : Addr) (H : Hp) (r : Addr) (m : Mk) : Prop := OkM m ∧ ∃ dx t, H r = some (.ins CM dx (mfl t m)) ∧ SqT K H t (m.makers.map V.str)
structure ClM (K : PySem.W.Frag) (CM : Addr) : Prop where
  cls : Cls K CM
  makers : NoAttr K CM "kept_makers"
  letters : NoAttr K CM "kept_letters"
  number : NoAttr K CM "kept_number"
  points : NoAttr K CM "kept_points"
  year : NoAttr K CM "kept_year"
  copy : NoAttr K CM "kept_copy"
  text : NoAttr K CM "kept_text"
def spTextOf (K : PySem.W.Frag) (CM : Addr) : Sp := fun vs H Q _ => ∃ (r dx t : Addr) (m : Mk), vs = [.ref r] ∧ OkM m ∧ H r = some (.ins CM dx (pfl t m)) ∧ SqT K H t (m.makers.map V.str) ∧ ∀ H', Same H H' → Q (.str m.text) H'
abbrev sTextOf : Stmt := inClass (top 37) 1
theorem scTextOf : FnScope ["self", "words"] ["self"] (defScope sTextOf) := ⟨rfl, rfl, rfl, by decide +kernel, rfl, by decide +kernel, by decide +kernel⟩
theorem sqt_upd {H : Hp} {x C dx t : Addr} {fs : List (Str × V)} {u : HO} {xs : List V} (h : SqT K H t xs) (hx : H x = some (.ins C dx fs)) : SqT K (upd H x u) t xs := by
  have ne : ∀ o, H t = some o → o ≠ .ins C dx fs → t ≠ x := fun o e n q => by
    subst q
    rw [e] at hx
    exact n (Option.some.inj hx)
  rcases h with (h | ⟨o, h⟩) | h
  · exact .inl (.inl (by rw [upd_ne (ne _ h (by intro z; cases z))]; exact h))
  · exact .inl (.inr ⟨o, by rw [upd_ne (ne _ h (by intro z; cases z))]; exact h⟩)
  · exact .inr h
theorem log_small {n : Int} {k : Nat} (h0 : 0 ≤ n) (h : n < 10 ^ 40) : n.natAbs.log2 < 1920 := by
  have h3 : n.natAbs < 2 ^ 134 := by
    have e : (10 : Int) ^ 40 ≤ 2 ^ 134 := by decide +kernel
    omega
  by_cases z : n.natAbs = 0
  · rw [z]; decide
  · have := (Nat.log2_lt z).mpr h3
    omega
theorem okm {m : Mk} (h : OkM m) : OkLetters m.letters ∧ (1 ≤ m.number ∧ m.number ≤ 9999) ∧ OkPoints m.points ∧ (m.makers.length ≤ 3 ∧ ∀ x ∈ m.makers, OkMaker x) ∧ OkYear m.year ∧ OkCopy m.copy :=
  ⟨h 0 (by decide), h 1 (by decide), h 2 (by decide), h 3 (by decide), h 4 (by decide), h 5 (by decide)⟩
theorem maker_le {x : Str} (h : OkMaker x) : x.length ≤ 41 := by
  obtain ⟨a, l, e, _, h2⟩ := h
  rw [cs_len, e, List.length_cons]
  have := h2.2.2.2
  omega
theorem points_le {x : Str} (h : OkPoints x) : x.length ≤ 40 := by
  rcases h with rfl | h
  · rw [emp_len]; decide
  · rw [cs_len]; exact h.2.2.2
theorem emp_app (x : Str) : Str.empty ++ x = x := by
  refine cs_inj ?_
  rw [cs_app]
  rfl
theorem small_text {m : Mk} (h : OkM m) : m.text.length < 1200 := by
  rw [text_len]
  unfold Mk.len
  have a := cost_lt (h 0 (by decide)); have b := cost_lt (h 1 (by decide)); have c := cost_lt (h 2 (by decide)); have d := cost_lt (h 3 (by decide)); have e := cost_lt (h 4 (by decide)); have f := cost_lt (h 5 (by decide))
  omega
theorem small_words {m : Mk} (h : OkM m) : (m.words.map (·.length)).sum + m.words.length < 1300 := by
  have a := small_text h
  unfold Mk.text Txt.join at a
  rw [size_glued] at a
  have b : (Str.ofString " ").length = 1 := by decide +kernel
  rw [b] at a
  have c : m.words.length < 20 := by
    unfold Mk.words
    rw [List.length_cons, List.length_append, List.length_append]
    have := (okm h).2.2.2.1.1
    have hy : (yword m.year).length ≤ 1 := by unfold yword; split <;> simp
    have hc : (cword m.copy).length ≤ 1 := by unfold cword; split <;> simp
    omega
  omega
theorem b_text_of (T : Free mg) {CM : Addr} (c : ClM K CM) (G_figures_of : C8.Cal P w K mg base 1 "figures_of" spFiguresOf []) : Body P w K mg base 1 ["self", "words"] "Mark.text_of" sTextOf (spTextOf K CM) := by
  intro f cdv A outer s H vs Q E hr h
  obtain ⟨r, dx, t, m, rfl, ok, hH, ht, k⟩ := h
  have nd := scTextOf.nd
  obtain ⟨o1, o2, o3, o4, o5, o6⟩ := okm ok
  have sz := sizeLine_eq
  have lf : (figs m.number).length ≤ 4 := figs_le (by omega) (by decide) (by omega)
  have lp := points_le o3
  have l1 : (Str.ofString ".").length = 1 := by decide +kernel
  have l2 : (Str.ofString "c.").length = 2 := by decide +kernel
  refine ⟨_, (pss_cons (ps_set (i := 1) nd rfl (Or.inl rfl) (pe_lst (pa_cons (pe_joined (.cons (pe_fmt (pe_fld (pv 0) rfl)) (.cons (pe_fmt (pe_fld (pv 0) rfl)) .nil))) pa_nil)))
      (C8.pss_cut (ps_if (pt_cmpR op_ne (pe_fld (pv 0) rfl) pe_str (nomark _))
        (pss_one (ps_augS (pv 1) pe_int get_list (pe_op op_add_str pe_str (pe_fld (pv 0) rfl)) (ip_of iop_add_str) set_list))
        pss_nil)
      (pss_cons (ps_expr (pe_bm PySem.F.plainAttrs_list PySem.F.slot_list_extend PySem.F.type_list_extend mt_extT (pv 1) (pa_cons (pe_fld (pv 0) rfl) pa_nil)))
      (C8.pss_cut (ps_if (pt_cmpR op_notN (pe_fld (pv 0) rfl) pe_non (nomark _))
        (pss_one (ps_expr (pe_bm PySem.F.plainAttrs_list PySem.F.slot_list_append PySem.F.type_list_append mt_append (pv 1) (pa_cons (pe_callTy call_str_int (by rfl) T.str boot_str (pa_cons (pe_fld (pv 0) rfl) pa_nil)) pa_nil))))
        pss_nil)
      (C8.pss_cut (ps_if (pt_cmpR op_notN (pe_fld (pv 0) rfl) pe_non (nomark _))
        (pss_one (ps_expr (pe_bm PySem.F.plainAttrs_list PySem.F.slot_list_append PySem.F.type_list_append mt_append (pv 1) (pa_cons (pe_op op_add_str pe_str (C8.pe_c G_figures_of hr (by decide) rfl (pa_cons (pe_fld (pv 0) rfl) pa_nil))) pa_nil))))
        pss_nil)
      (pss_one (ps_ret (pe_join pe_str (pv 1))))))))), ?_⟩
  have ln : m.number.natAbs.log2 < 1920 := log_small (k := 0) (by omega) (by
    have : (9999 : Int) < 10 ^ 40 := by decide +kernel
    omega)
  have ll : m.letters.length ≤ 3 := o1.2.1
  have lf2 : (Str.ofString (toString m.number)).length ≤ 4 := lf
  have le1 : (Str.empty ++ m.letters).length ≤ sizeLine := by rw [emp_app]; omega
  have le2 : (Str.empty ++ m.letters ++ figs m.number).length ≤ sizeLine := by rw [emp_app, app_len]; omega
  refine ⟨_, rfl, _, _, _, _, _, rfl, hH, c.cls, c.letters, rfl, .inl ⟨_, rfl, by omega, _, rfl, le1, ?_⟩⟩
  refine ⟨_, rfl, _, _, _, _, _, rfl, hH, c.cls, c.number, rfl, .inr ⟨_, rfl, ln, _, rfl, le2, ?_⟩⟩
  refine ⟨(by decide : 1 ≤ sizeLine), fun p hp => ?_⟩
  rw [emp_app]
  have rp : r ≠ p := ne_of_none hH hp
  have tk : ∀ u : HO, SqT K (upd H p u) t (m.makers.map V.str) := fun u => same_sqt (same_new hp) ht
  have rk : ∀ u : HO, upd H p u r = some (.ins CM dx (pfl t m)) := fun u => by rw [upd_ne rp]; exact hH
  refine ⟨fun σ' H' => σ' = [some (.ref r), some (.ref p)] ∧ H' = upd H p (.lst ([(m.letters ++ figs m.number) ++ pword m.points].map V.str)), ?_, ?_⟩
  · refine ⟨_, rfl, _, _, _, _, _, rfl, rk _, c.cls, c.points, rfl, rfl, _, rfl, ?_⟩
    by_cases e : m.points = emp
    · rw [decide_eq_true (show V.str m.points = V.str (Str.ofString "") by rw [e]; rfl)]
      refine iteF ⟨rfl, ?_⟩
      unfold pword
      rw [if_pos e]
      have : (m.letters ++ figs m.number) ++ emp = m.letters ++ figs m.number := cs_inj (by rw [cs_app, emp_cs, List.append_nil])
      rw [this]
      rfl
    · rw [decide_eq_false (show ¬ V.str m.points = V.str (Str.ofString "") from fun q => e (by injection q))]
      refine iteT ⟨_, rfl, p, _, 0, _, rfl, rfl, .of upd_same, by decide, by decide, rfl, ?_⟩
      refine ⟨_, rfl, _, _, _, _, _, rfl, rk _, c.cls, c.points, rfl, _, _, rfl, rfl, by omega, ?_⟩
      refine ⟨_, _, rfl, rfl, by rw [app_len, app_len]; omega, ?_⟩
      refine ⟨p, _, 0, 0, rfl, rfl, upd_same, rfl, rfl, ?_⟩
      rw [upd_upd]
      unfold pword
      rw [if_neg e]
      rfl
  · rintro _ _ ⟨rfl, rfl⟩
    refine ⟨_, rfl, .inl ⟨rfl, _, SqL.of upd_same⟩, _, rfl, _, _, _, _, _, rfl, rk _, c.cls, c.makers, rfl, p, t, _, _, rfl, rfl, upd_same, tk _, ?_, ?_⟩
    · simp only [List.length_map, List.length_cons, List.length_nil]
      omega
    rw [upd_upd, ← List.map_append]
    refine ⟨fun σ' H' => σ' = [some (.ref r), some (.ref p)] ∧ H' = upd H p (.lst (((((m.letters ++ figs m.number) ++ pword m.points) :: m.makers) ++ yword m.year).map V.str)), ?_, ?_⟩
    · refine ⟨_, rfl, _, _, _, _, _, rfl, rk _, c.cls, c.year, rfl, rfl, _, rfl, ?_⟩
      cases e : m.year with
      | none =>
        refine iteF ⟨rfl, ?_⟩
        show _ = upd H p (.lst ((_ ++ []).map V.str))
        rw [List.append_nil] <;> rfl
      | some n =>
        have hn := o5 n e
        refine iteT ⟨_, rfl, .inl ⟨rfl, _, SqL.of upd_same⟩, _, rfl, _, _, _, _, _, rfl, rk _, c.cls, c.year, rfl, n, by rw [e]; rfl, log_small (k := 0) (by omega) (by
          have : (9999 : Int) < 10 ^ 40 := by decide +kernel
          omega), _, _, _, rfl, rfl, upd_same, ?_, ?_⟩
        · simp only [List.length_map, List.length_append, List.length_cons, List.length_nil]
          omega
        · refine ⟨rfl, ?_⟩
          rw [upd_upd]
          simp only [yword, figs, List.map_append, List.map_cons, List.map_nil, List.cons_append, List.nil_append, List.append_assoc]
    · rintro _ _ ⟨rfl, rfl⟩
      refine ⟨fun σ' H' => σ' = [some (.ref r), some (.ref p)] ∧ H' p = some (.lst (m.words.map V.str)) ∧ Same H H', ?_, ?_⟩
      · refine ⟨_, rfl, _, _, _, _, _, rfl, rk _, c.cls, c.copy, rfl, rfl, _, rfl, ?_⟩
        cases e : m.copy with
        | none =>
          refine iteF ⟨rfl, ?_, same_new hp⟩
          rw [upd_same]
          unfold Mk.words
          rw [e]
          simp only [cword, List.map_append, List.map_cons, List.map_nil, List.cons_append, List.nil_append, List.append_nil]
        | some n =>
          have hn := o6 n e
          have lw := figs_le (n := n) (k := 40) (by omega) (by decide) hn.2
          refine iteT ⟨_, rfl, .inl ⟨rfl, _, SqL.of upd_same⟩, _, rfl, _, _, _, _, _, rfl, rk _, c.cls, c.copy, rfl, n, by rw [e]; rfl, by omega, hn.2, fun H' sm => ?_⟩
          refine ⟨_, _, rfl, rfl, by omega, _, _, _, rfl, rfl, sm _ _ upd_same, ?_, ?_⟩
          · have hy : (yword m.year).length ≤ 1 := by unfold yword; split <;> simp
            simp only [List.length_map, List.length_append, List.length_cons, List.length_nil]
            omega
          · refine ⟨rfl, ?_, fun b o eb => ?_⟩
            · rw [upd_same]
              unfold Mk.words
              rw [e]
              simp only [cword, List.map_append, List.map_cons, List.map_nil, List.cons_append, List.nil_append, List.append_nil]
            · rw [upd_ne (ne_of_none eb hp)]
              exact sm _ _ (same_new hp _ _ eb)
      · rintro _ _ ⟨rfl, hw, sm⟩
        have sw := small_words ok
        have ls : (Str.ofString " ").length = 1 := by decide +kernel
        refine ⟨⟨_, rfl⟩, _, rfl, _, p, m.words, rfl, rfl, .inl (SqL.of hw), by rw [ls]; omega, k _ sm⟩
theorem text_of_ {CM : Addr} (c : ClM K CM) (D : MetT K CM "text_of" "Mark.text_of" sTextOf []) (T : Free mg) (G : C8.Cal P w K mg base 1 "figures_of" spFiguresOf []) : C8.Met P w K mg base 2 CM "text_of" (spTextOf K CM) [] :=
  met_of c.cls D scTextOf (fun _ _ _ _ _ _ us hl => match us, hl with | [_], _ => rfl) (fun vs H Q E h => by
    obtain ⟨_, _, _, _, rfl, _⟩ := h
    rfl) (b_text_of T c G)
/-! ### the maker of marks -/
def spMark (K : PySem.W.Frag) (CM : Addr) : Sp := fun vs H Q _ => ∃ (x dx a : Addr) (m : Mk), vs = [.ref x, .str m.letters, .int m.number, .str m.points, .ref a, hiV m.year, hiV m.copy] ∧ OkM m ∧ H x = some (.ins CM dx []) ∧ (H a = some (.lst (m.makers.map V.str)) ∨ SqT K H a (m.makers.map V.str)) ∧
  ∀ H', (∀ b o, b ≠ x → H b = some o → H' b = some o) → MarkAt K CM H' x m → Q .non H'
abbrev sMark : Stmt := inClass (top 37) 0
theorem scMark : FnScope ["self", "letters", "number", "points", "makers", "year", "copy"] ["self", "letters", "number", "points", "makers", "year", "copy"] (defScope sMark) := ⟨rfl, rfl, rfl, by decide +kernel, rfl, by decide +kernel, by decide +kernel⟩
theorem b_mark {CM : Addr} (c : ClM K CM) (c_GREATEST : Con mg "GREATEST" (.int 9999)) (G_is_letters : C8.Cal P w K mg base 2 "is_letters" spIsLetters []) (G_is_whole : C8.Cal P w K mg base 1 "is_whole" spIsWhole []) (G_is_points : C8.Cal P w K mg base 2 "is_points" spIsPoints [])
    (G_makers_in : C8.Cal P w K mg base 3 "makers_in" (spMakersIn K) []) (G_need_year : C8.Cal P w K mg base 2 "need_year" spNeedYear []) (G_need_copy : C8.Cal P w K mg base 2 "need_copy" spNeedCopy []) (G_text_of : C8.Met P w K mg base 2 CM "text_of" (spTextOf K CM) []) :
    Body P w K mg base 3 ["self", "letters", "number", "points", "makers", "year", "copy"] "Mark.__init__" sMark (spMark K CM) := by
  intro f cdv A outer s H vs Q E hr h
  obtain ⟨x, dx, a, m, rfl, ok, hH, ha, k⟩ := h
  obtain ⟨o1, o2, o3, o4, o5, o6⟩ := okm ok
  refine ⟨_, (pss_cons (ps_if (pt_not (pt_val (C8.pe_c G_is_letters hr (by decide) rfl (pa_cons (pv 1) pa_nil))))
        (pss_one (ps_never))
        pss_nil)
      (pss_cons (ps_if (pt_not (pt_val (C8.pe_c G_is_whole hr (by decide) rfl (pa_cons (pv 2) (pa_cons pe_int (pa_cons (C8.pe_gc rfl c_GREATEST) pa_nil))))))
        (pss_one (ps_never))
        pss_nil)
      (pss_cons (ps_if (pt_not (pt_val (C8.pe_c G_is_points hr (by decide) rfl (pa_cons (pv 3) pa_nil))))
        (pss_one (ps_never))
        pss_nil)
      (pss_cons (ps_fld (pv 0) (C8.pe_c G_makers_in hr (by decide) rfl (pa_cons (pv 4) pa_nil)) rfl)
      (pss_cons (ps_expr (C8.pe_c G_need_year hr (by decide) rfl (pa_cons (pv 5) pa_nil)))
      (pss_cons (ps_expr (C8.pe_c G_need_copy hr (by decide) rfl (pa_cons (pv 6) pa_nil)))
      (pss_cons (ps_fld (pv 0) (pv 1) rfl)
      (pss_cons (ps_fld (pv 0) (pv 2) rfl)
      (pss_cons (ps_fld (pv 0) (pv 3) rfl)
      (pss_cons (ps_fld (pv 0) (pv 5) rfl)
      (pss_cons (ps_fld (pv 0) (pv 6) rfl)
      (pss_one (ps_fld (pv 0) (C8.pe_mt0 G_text_of hr (by decide) (pv 0)) rfl))))))))))))), ?_⟩
  refine ⟨_, rfl, _, rfl, o1, fun H1 sm1 => ⟨_, rfl, iteF ?_⟩⟩
  refine ⟨_, rfl, m.number, 1, some 9999, rfl, ?_⟩
  have e : wholeB m.number 1 (some 9999) = true := by
    unfold wholeB
    rw [decide_eq_true o2.1, Bool.true_and]
    exact decide_eq_true o2.2
  rw [e]
  refine ⟨_, rfl, iteF ⟨_, rfl, _, rfl, o3, fun H2 sm2 => ⟨_, rfl, iteF ?_⟩⟩⟩
  have s2 := sm1.trans sm2
  refine ⟨_, rfl, a, m.makers, rfl, ha.imp (fun h => s2 _ _ h) (fun h => same_sqt s2 h), o4.1, o4.2, fun t H3 sm3 ht => ?_⟩
  have s3 := s2.trans sm3
  have hx3 := s3 _ _ hH
  refine ⟨_, rfl, x, CM, dx, _, rfl, hx3, c.cls, c.makers, by decide, ?_⟩
  refine ⟨_, rfl, m.year, rfl, o5, _, rfl, m.copy, rfl, o6, ?_⟩
  refine ⟨_, rfl, _, rfl, x, CM, dx, _, rfl, upd_same, c.cls, c.letters, (by decide : 1 < 1000), ?_⟩
  rw [upd_upd]
  refine ⟨_, rfl, _, rfl, x, CM, dx, _, rfl, upd_same, c.cls, c.number, (by decide : 2 < 1000), ?_⟩
  rw [upd_upd]
  refine ⟨_, rfl, _, rfl, x, CM, dx, _, rfl, upd_same, c.cls, c.points, (by decide : 3 < 1000), ?_⟩
  rw [upd_upd]
  refine ⟨_, rfl, _, rfl, x, CM, dx, _, rfl, upd_same, c.cls, c.year, (by decide : 4 < 1000), ?_⟩
  rw [upd_upd]
  refine ⟨_, rfl, _, rfl, x, CM, dx, _, rfl, upd_same, c.cls, c.copy, (by decide : 5 < 1000), ?_⟩
  rw [upd_upd]
  have ht2 : ∀ u, SqT K (upd H3 x u) t (m.makers.map V.str) := fun u => sqt_upd ht hx3
  refine ⟨_, rfl, x, dx, _, rfl, upd_same, rfl, x, dx, t, m, rfl, ok, upd_same, ht2 _, fun H4 sm4 => ?_⟩
  refine ⟨_, rfl, x, CM, dx, _, rfl, sm4 _ _ upd_same, c.cls, c.text, (by decide : 6 < 1000), ?_⟩
  refine k _ (fun b o ne eb => ?_) ⟨ok, dx, t, upd_same, sqt_upd (same_sqt sm4 (ht2 _)) (sm4 _ _ upd_same)⟩
  rw [upd_ne ne]
  exact sm4 _ _ (by rw [upd_ne ne]; exact s3 _ _ eb)
theorem mark_ {CM : Addr} {fi : Addr} {fd : FuncData} (c : ClM K CM) (M : Mk K CM fi) (hm : mg "Mark" = some (.ref CM)) (F : FunD K "__init__" "Mark.__init__" (defArgs sMark) (defBody sMark) (defScope sMark) [.str (Str.ofString ""), .non, .non, .non] [] fi fd)
    (c_GREATEST : Con mg "GREATEST" (.int 9999)) (G1 : C8.Cal P w K mg base 2 "is_letters" spIsLetters []) (G2 : C8.Cal P w K mg base 1 "is_whole" spIsWhole []) (G3 : C8.Cal P w K mg base 2 "is_points" spIsPoints [])
    (G4 : C8.Cal P w K mg base 3 "makers_in" (spMakersIn K) []) (G5 : C8.Cal P w K mg base 2 "need_year" spNeedYear []) (G6 : C8.Cal P w K mg base 2 "need_copy" spNeedCopy []) (G7 : C8.Met P w K mg base 2 CM "text_of" (spTextOf K CM) []) :
    C8.Mak P w K mg base 4 "Mark" CM (spMark K CM) [] := by
  obtain ⟨ds, r, bb⟩ := F.binds1 (ps := ["self", "letters", "number", "points", "makers", "year", "copy"]) 7 4 (by decide) rfl (fun T kV doc pm an cdv ct us its hl hi => match us, its, hl, hi with | [_, _, _, _, _, _, _], [_, _, _, _], _, _ => ⟨_, rfl, rfl⟩)
  refine ⟨fi, fd, _, ds, M, F.ok scMark (fun vs H Q E h => by
    obtain ⟨_, _, _, _, rfl, _⟩ := h
    rfl) fun cdv A outer s H vs Q E hr h => ?_, hm, bb, r⟩
  obtain ⟨t, h1, h2⟩ := b_mark c c_GREATEST G1 G2 G3 G4 G5 G6 G7 fi cdv A outer s H vs Q E hr h
  exact ⟨t, h1.nox, h2⟩
/-! ### what a mark tells -/
def spTell (K : PySem.W.Frag) (CM : Addr) (g : Mk → V) : Sp := fun vs H Q _ => ∃ (r : Addr) (m : Mk), vs = [.ref r] ∧ MarkAt K CM H r m ∧ Q (g m) H
def spTellM (K : PySem.W.Frag) (CM : Addr) : Sp := fun vs H Q _ => ∃ (r : Addr) (m : Mk), vs = [.ref r] ∧ MarkAt K CM H r m ∧ ∀ t, SqT K H t (m.makers.map V.str) → Q (.ref t) H
abbrev sLetters : Stmt := inClass (top 37) 6
theorem scLetters : FnScope ["self"] ["self"] (defScope sLetters) := ⟨rfl, rfl, rfl, by decide +kernel, rfl, by decide +kernel, by decide +kernel⟩
theorem b_letters {CM : Addr} (c : ClM K CM) : Body P w K mg base 0 ["self"] "Mark.letters" sLetters (spTell K CM fun m => (.str m.letters)) := by
  intro f cdv A outer s H vs Q E hr h
  obtain ⟨r, m, rfl, ⟨ok, dx, t, hH, ht⟩, k⟩ := h
  refine ⟨_, (pss_one (ps_ret (pe_fld (pv 0) rfl))), ?_⟩
  exact ⟨_, rfl, r, CM, dx, _, _, rfl, hH, c.cls, c.letters, rfl, k⟩
theorem letters_ {CM : Addr} (c : ClM K CM) (D : MetT K CM "letters" "Mark.letters" sLetters []) : C8.Met P w K mg base 1 CM "letters" (spTell K CM fun m => (.str m.letters)) [] :=
  met_of c.cls D scLetters (fun _ _ _ _ _ _ us hl => match us, hl with | [_], _ => rfl) (fun vs H Q E h => by
    obtain ⟨_, _, rfl, _⟩ := h
    rfl) (b_letters c)
abbrev sNumber : Stmt := inClass (top 37) 7
theorem scNumber : FnScope ["self"] ["self"] (defScope sNumber) := ⟨rfl, rfl, rfl, by decide +kernel, rfl, by decide +kernel, by decide +kernel⟩
theorem b_number {CM : Addr} (c : ClM K CM) : Body P w K mg base 0 ["self"] "Mark.number" sNumber (spTell K CM fun m => (.int m.number)) := by
  intro f cdv A outer s H vs Q E hr h
  obtain ⟨r, m, rfl, ⟨ok, dx, t, hH, ht⟩, k⟩ := h
  refine ⟨_, (pss_one (ps_ret (pe_fld (pv 0) rfl))), ?_⟩
  exact ⟨_, rfl, r, CM, dx, _, _, rfl, hH, c.cls, c.number, rfl, k⟩
theorem number_ {CM : Addr} (c : ClM K CM) (D : MetT K CM "number" "Mark.number" sNumber []) : C8.Met P w K mg base 1 CM "number" (spTell K CM fun m => (.int m.number)) [] :=
  met_of c.cls D scNumber (fun _ _ _ _ _ _ us hl => match us, hl with | [_], _ => rfl) (fun vs H Q E h => by
    obtain ⟨_, _, rfl, _⟩ := h
    rfl) (b_number c)
abbrev sPoints : Stmt := inClass (top 37) 8
theorem scPoints : FnScope ["self"] ["self"] (defScope sPoints) := ⟨rfl, rfl, rfl, by decide +kernel, rfl, by decide +kernel, by decide +kernel⟩
theorem b_points {CM : Addr} (c : ClM K CM) : Body P w K mg base 0 ["self"] "Mark.points" sPoints (spTell K CM fun m => (.str m.points)) := by
  intro f cdv A outer s H vs Q E hr h
  obtain ⟨r, m, rfl, ⟨ok, dx, t, hH, ht⟩, k⟩ := h
  refine ⟨_, (pss_one (ps_ret (pe_fld (pv 0) rfl))), ?_⟩
  exact ⟨_, rfl, r, CM, dx, _, _, rfl, hH, c.cls, c.points, rfl, k⟩
theorem points_ {CM : Addr} (c : ClM K CM) (D : MetT K CM "points" "Mark.points" sPoints []) : C8.Met P w K mg base 1 CM "points" (spTell K CM fun m => (.str m.points)) [] :=
  met_of c.cls D scPoints (fun _ _ _ _ _ _ us hl => match us, hl with | [_], _ => rfl) (fun vs H Q E h => by
    obtain ⟨_, _, rfl, _⟩ := h
    rfl) (b_points c)
abbrev sYear : Stmt := inClass (top 37) 10
theorem scYear : FnScope ["self"] ["self"] (defScope sYear) := ⟨rfl, rfl, rfl, by decide +kernel, rfl, by decide +kernel, by decide +kernel⟩
theorem b_year {CM : Addr} (c : ClM K CM) : Body P w K mg base 0 ["self"] "Mark.year" sYear (spTell K CM fun m => (hiV m.year)) := by
  intro f cdv A outer s H vs Q E hr h
  obtain ⟨r, m, rfl, ⟨ok, dx, t, hH, ht⟩, k⟩ := h
  refine ⟨_, (pss_one (ps_ret (pe_fld (pv 0) rfl))), ?_⟩
  exact ⟨_, rfl, r, CM, dx, _, _, rfl, hH, c.cls, c.year, rfl, k⟩
theorem year_ {CM : Addr} (c : ClM K CM) (D : MetT K CM "year" "Mark.year" sYear []) : C8.Met P w K mg base 1 CM "year" (spTell K CM fun m => (hiV m.year)) [] :=
  met_of c.cls D scYear (fun _ _ _ _ _ _ us hl => match us, hl with | [_], _ => rfl) (fun vs H Q E h => by
    obtain ⟨_, _, rfl, _⟩ := h
    rfl) (b_year c)
abbrev sCopy : Stmt := inClass (top 37) 11
theorem scCopy : FnScope ["self"] ["self"] (defScope sCopy) := ⟨rfl, rfl, rfl, by decide +kernel, rfl, by decide +kernel, by decide +kernel⟩
theorem b_copy_number {CM : Addr} (c : ClM K CM) : Body P w K mg base 0 ["self"] "Mark.copy_number" sCopy (spTell K CM fun m => (hiV m.copy)) := by
  intro f cdv A outer s H vs Q E hr h
  obtain ⟨r, m, rfl, ⟨ok, dx, t, hH, ht⟩, k⟩ := h
  refine ⟨_, (pss_one (ps_ret (pe_fld (pv 0) rfl))), ?_⟩
  exact ⟨_, rfl, r, CM, dx, _, _, rfl, hH, c.cls, c.copy, rfl, k⟩
theorem copy_number_ {CM : Addr} (c : ClM K CM) (D : MetT K CM "copy_number" "Mark.copy_number" sCopy []) : C8.Met P w K mg base 1 CM "copy_number" (spTell K CM fun m => (hiV m.copy)) [] :=
  met_of c.cls D scCopy (fun _ _ _ _ _ _ us hl => match us, hl with | [_], _ => rfl) (fun vs H Q E h => by
    obtain ⟨_, _, rfl, _⟩ := h
    rfl) (b_copy_number c)
abbrev sStr : Stmt := inClass (top 37) 3
theorem scStr : FnScope ["self"] ["self"] (defScope sStr) := ⟨rfl, rfl, rfl, by decide +kernel, rfl, by decide +kernel, by decide +kernel⟩
theorem b___str__ {CM : Addr} (c : ClM K CM) : Body P w K mg base 0 ["self"] "Mark.__str__" sStr (spTell K CM fun m => (.str m.text)) := by
  intro f cdv A outer s H vs Q E hr h
  obtain ⟨r, m, rfl, ⟨ok, dx, t, hH, ht⟩, k⟩ := h
  refine ⟨_, (pss_one (ps_ret (pe_joined1 (pe_fmt (pe_fld (pv 0) rfl))))), ?_⟩
  have := small_text ok
  have := sizeLine_eq
  exact ⟨_, rfl, r, CM, dx, _, _, rfl, hH, c.cls, c.text, rfl, .inl ⟨_, rfl, by omega, k⟩⟩
theorem __str___ {CM : Addr} (c : ClM K CM) (D : MetT K CM "__str__" "Mark.__str__" sStr []) : C8.Met P w K mg base 1 CM "__str__" (spTell K CM fun m => (.str m.text)) [] :=
  met_of c.cls D scStr (fun _ _ _ _ _ _ us hl => match us, hl with | [_], _ => rfl) (fun vs H Q E h => by
    obtain ⟨_, _, rfl, _⟩ := h
    rfl) (b___str__ c)
abbrev sMakers : Stmt := inClass (top 37) 9
theorem scMakers : FnScope ["self"] ["self"] (defScope sMakers) := ⟨rfl, rfl, rfl, by decide +kernel, rfl, by decide +kernel, by decide +kernel⟩
theorem b_makers {CM : Addr} (c : ClM K CM) : Body P w K mg base 0 ["self"] "Mark.makers" sMakers (spTellM K CM) := by
  intro f cdv A outer s H vs Q E hr h
  obtain ⟨r, m, rfl, ⟨ok, dx, t, hH, ht⟩, k⟩ := h
  refine ⟨_, (pss_one (ps_ret (pe_fld (pv 0) rfl))), ?_⟩
  exact ⟨_, rfl, r, CM, dx, _, _, rfl, hH, c.cls, c.makers, rfl, k t ht⟩
theorem makers_ {CM : Addr} (c : ClM K CM) (D : MetT K CM "makers" "Mark.makers" sMakers []) : C8.Met P w K mg base 1 CM "makers" (spTellM K CM) [] :=
  met_of c.cls D scMakers (fun _ _ _ _ _ _ us hl => match us, hl with | [_], _ => rfl) (fun vs H Q E h => by
    obtain ⟨_, _, rfl, _⟩ := h
    rfl) (b_makers c)
abbrev sLen : Stmt := inClass (top 37) 5
theorem scLen : FnScope ["self"] ["self"] (defScope sLen) := ⟨rfl, rfl, rfl, by decide +kernel, rfl, by decide +kernel, by decide +kernel⟩
theorem b_len (T : Free mg) {CM : Addr} (c : ClM K CM) : Body P w K mg base 0 ["self"] "Mark.__len__" sLen (spTell K CM fun m => .int (m.len : Nat)) := by
  intro f cdv A outer s H vs Q E hr h
  obtain ⟨r, m, rfl, ⟨ok, dx, t, hH, ht⟩, k⟩ := h
  refine ⟨_, (pss_one (ps_ret (pe_callB call_len_str (by rfl) T.len boot_len (pa_cons (pe_fld (pv 0) rfl) pa_nil)))), ?_⟩
  have := small_text ok
  have := sizeLine_eq
  refine ⟨_, rfl, r, CM, dx, _, _, rfl, hH, c.cls, c.text, rfl, _, rfl, by omega, ?_⟩
  rw [text_len]
  exact k
theorem len_ {CM : Addr} (c : ClM K CM) (D : MetT K CM "__len__" "Mark.__len__" sLen []) (T : Free mg) : C8.Met P w K mg base 1 CM "__len__" (spTell K CM fun m => .int (m.len : Nat)) [] :=
  met_of c.cls D scLen (fun _ _ _ _ _ _ us hl => match us, hl with | [_], _ => rfl) (fun vs H Q E h => by
    obtain ⟨_, _, rfl, _⟩ := h
    rfl) (b_len T c)
end
end S
end

section
set_option maxRecDepth 100000
set_option maxHeartbeats 4000000
/-! Defs: the ways' keys. -/
namespace S
open PySem PySem.Spec PyProof.Rows L2 SM
section
variable {K : PySem.W.Frag} {H H' : Hp}
mutual
theorem dp_same (e : Same H H') : ∀ (d : PyData) (v : V), Dp K H v d → Dp K H' v d
  | .none, _, h => by cases h; exact .non
  | .bool b, _, h => by cases h; exact .bl b
  | .int i, _, h => by cases h; exact .int i
  | .str x, _, h => by cases h; exact .str x
  | .list ds, _, h => by
    cases h with
    | lst hs ha => exact .lst (e.seq hs) (dp_sameAll e ds _ ha)
  | .tuple ds, _, h => by
    cases h with
    | tup hs ha => exact .tup (same_sqt e hs) (dp_sameAll e ds _ ha)
  | .dict _, _, h => by cases h
theorem dp_sameAll (e : Same H H') : ∀ (ds : List PyData) (vs : List V), DpAll K H vs ds → DpAll K H' vs ds
  | [], _, h => by cases h; exact .nil
  | d :: ds, _, h => by
    cases h with
    | cons h1 h2 => exact .cons (dp_same e d _ h1) (dp_sameAll e ds _ h2)
end
theorem mark_same {CM r : Addr} {m : Mk} (e : Same H H') (h : MarkAt K CM H r m) : MarkAt K CM H' r m := by
  obtain ⟨ok, dx, t, h1, h2⟩ := h
  exact ⟨ok, dx, t, e _ _ h1, same_sqt e h2⟩
theorem dpStrs : ∀ xs : List Str, DpAll K H (xs.map V.str) (xs.map PyData.str)
  | [] => .nil
  | x :: xs => .cons (.str x) (dpStrs xs)
end
section
variable {P : Program} {w : World} {K : PySem.W.Frag} {mg : Str → Option Value} {base : Heap} {CM : Addr}
def spWay (K : PySem.W.Frag) (CM : Addr) (j : Nat) : Sp := fun vs H Q _ => ∃ (r : Addr) (m : Mk), vs = [.ref r] ∧ MarkAt K CM H r m ∧ ∀ v H', Same H H' → Dp K H' v (keyP j (m.get (wp j))) → Q v H'
theorem way_len {j : Nat} : ∀ vs H Q E, spWay K CM j vs H Q E → vs.length = 1 := fun vs H Q E h => by
  obtain ⟨_, _, rfl, _⟩ := h
  rfl
theorem scWay1 {s : Scope} (h1 : s.kind = .function) : s.kind = .function := h1
/-! ### whole_of, rising, figures -/
def spWholeOf (K : PySem.W.Frag) : Sp := fun vs H Q _ => ∃ x : Str, vs = [.str x] ∧ FigN x ∧ x.length < 60 ∧ ∀ v H', Same H H' → Dp K H' v (wholeOf x) → Q v H'
abbrev sWholeOf : Stmt := top 46
theorem scWholeOf : FnScope ["figures"] ["figures"] (defScope sWholeOf) := ⟨rfl, rfl, rfl, by decide +kernel, rfl, by decide +kernel, by decide +kernel⟩
theorem b_whole_of (T : Free mg) (G_whole_in : C8.Cal P w K mg base 1 "whole_in" spWholeIn []) : Body P w K mg base 1 ["figures"] "whole_of" sWholeOf (spWholeOf K) := by
  intro f cdv A outer s H vs Q E hr h
  obtain ⟨x, rfl, hx, hl, k⟩ := h
  have sz := sizeLine_eq
  refine ⟨_, (pss_cons (ps_if (pt_cmpR op_eq (pv 0) pe_str (nomark _))
        (pss_one (ps_ret (pe_tup (pa_cons pe_int (pa_cons pe_int (pa_cons pe_int pa_nil))))))
        pss_nil)
      (pss_one (ps_ret (pe_tup (pa_cons pe_int (pa_cons (C8.pe_c G_whole_in hr (by decide) rfl (pa_cons (pv 0) pa_nil)) (pa_cons (pe_callB call_len_str (by rfl) T.len boot_len (pa_cons (pv 0) pa_nil)) pa_nil))))))), ?_⟩
  refine ⟨_, rfl, rfl, _, rfl, ?_⟩
  by_cases e : x = emp
  · rw [decide_eq_true (show V.str x = V.str (Str.ofString "") by rw [e]; rfl)]
    refine iteT ⟨(by decide : 3 ≤ sizeLine), fun p hp => k _ _ (same_new hp) ?_⟩
    unfold wholeOf
    rw [if_pos e]
    exact .tup (.of upd_same) (.cons (.int _) (.cons (.int _) (.cons (.int _) .nil)))
  · rw [decide_eq_false (show ¬ V.str x = V.str (Str.ofString "") from fun q => e (by injection q))]
    refine iteF ⟨_, rfl, x, rfl, hx.resolve_left e, hl, _, rfl, _, rfl, by omega, (by decide : 3 ≤ sizeLine), fun p hp => k _ _ (same_new hp) ?_⟩
    unfold wholeOf
    rw [if_neg e]
    exact .tup (.of upd_same) (.cons (.int _) (.cons (.int _) (.cons (.int _) .nil)))
theorem whole_of_ (D : DefT K mg "whole_of" sWholeOf []) (T : Free mg) (G : C8.Cal P w K mg base 1 "whole_in" spWholeIn []) : C8.Cal P w K mg base 2 "whole_of" (spWholeOf K) [] :=
  cal_of D scWholeOf (fun _ _ _ _ _ _ us hl => match us, hl with | [_], _ => rfl) (fun vs H Q E h => by
    obtain ⟨_, rfl, _⟩ := h
    rfl) (b_whole_of T G)
def spRising : Sp := fun vs H Q _ => ∃ y : Option Int, vs = [hiV y] ∧ Q (.int (y.getD 0)) H
abbrev sRising : Stmt := top 52
theorem scRising : FnScope ["number"] ["number"] (defScope sRising) := ⟨rfl, rfl, rfl, by decide +kernel, rfl, by decide +kernel, by decide +kernel⟩
theorem b_rising : Body P w K mg base 0 ["number"] "rising" sRising spRising := by
  intro f cdv A outer s H vs Q E hr h
  obtain ⟨y, rfl, k⟩ := h
  refine ⟨_, (pss_one (ps_ret (pe_ifExp (pt_cmpR op_isN (pv 0) pe_non (nomark _)) pe_int (pv 0)))), ?_⟩
  cases y with
  | none => exact ⟨_, rfl, rfl, _, rfl, iteT k⟩
  | some n => exact ⟨_, rfl, rfl, _, rfl, iteF ⟨_, rfl, k⟩⟩
theorem rising_ (D : DefT K mg "rising" sRising []) : C8.Cal P w K mg base 1 "rising" spRising [] :=
  cal_of D scRising (fun _ _ _ _ _ _ us hl => match us, hl with | [_], _ => rfl) (fun vs H Q E h => by
    obtain ⟨_, rfl, _⟩ := h
    rfl) b_rising
def spFigures : Sp := fun vs H Q _ => ∃ y : Option Int, vs = [hiV y] ∧ (∀ n, y = some n → 0 ≤ n ∧ n < 10 ^ 40) ∧ ∀ H', Same H H' → Q (.str (figO y)) H'
abbrev sFigures : Stmt := top 53
theorem scFigures : FnScope ["number"] ["number"] (defScope sFigures) := ⟨rfl, rfl, rfl, by decide +kernel, rfl, by decide +kernel, by decide +kernel⟩
theorem b_figures (G_figures_of : C8.Cal P w K mg base 1 "figures_of" spFiguresOf []) : Body P w K mg base 1 ["number"] "figures" sFigures spFigures := by
  intro f cdv A outer s H vs Q E hr h
  obtain ⟨y, rfl, hy, k⟩ := h
  refine ⟨_, (pss_one (ps_ret (pe_ifExp (pt_cmpR op_isN (pv 0) pe_non (nomark _)) pe_str (C8.pe_c G_figures_of hr (by decide) rfl (pa_cons (pv 0) pa_nil))))), ?_⟩
  cases y with
  | none => exact ⟨_, rfl, rfl, _, rfl, iteT (k H (Same.refl H))⟩
  | some n => exact ⟨_, rfl, rfl, _, rfl, iteF ⟨_, rfl, n, rfl, (hy n rfl).1, (hy n rfl).2, fun H' sm => k H' sm⟩⟩
theorem figures_ (D : DefT K mg "figures" sFigures []) (G : C8.Cal P w K mg base 1 "figures_of" spFiguresOf []) : C8.Cal P w K mg base 2 "figures" spFigures [] :=
  cal_of D scFigures (fun _ _ _ _ _ _ us hl => match us, hl with | [_], _ => rfl) (fun vs H Q E h => by
    obtain ⟨_, rfl, _⟩ := h
    rfl) (b_figures G)
/-! ### the seventeen -/
variable (g1 : C8.Met P w K mg base 1 CM "letters" (spTell K CM fun m => .str m.letters) []) (g2 : C8.Met P w K mg base 1 CM "number" (spTell K CM fun m => .int m.number) []) (g3 : C8.Met P w K mg base 1 CM "points" (spTell K CM fun m => .str m.points) [])
  (g4 : C8.Met P w K mg base 1 CM "makers" (spTellM K CM) []) (g5 : C8.Met P w K mg base 1 CM "year" (spTell K CM fun m => hiV m.year) []) (g6 : C8.Met P w K mg base 1 CM "copy_number" (spTell K CM fun m => hiV m.copy) [])
abbrev s_letters_words : Stmt := top 41
theorem sc_letters_words : FnScope ["mark"] ["mark"] (defScope s_letters_words) := ⟨rfl, rfl, rfl, by decide +kernel, rfl, by decide +kernel, by decide +kernel⟩
include g1 in
theorem b_letters_words  : Body P w K mg base 2 ["mark"] "letters_words" s_letters_words (spWay K CM 0) := by
  intro f cdv A outer s H vs Q E hr h
  obtain ⟨r, m, rfl, hM, k⟩ := h
  have hM2 := hM
  obtain ⟨ok, dx, t, hH, ht⟩ := hM2
  refine ⟨_, (pss_one (ps_ret (C8.pe_mt0 g1 hr (by decide) (pv 0)))), ?_⟩
  exact ⟨_, rfl, r, dx, _, rfl, hH, rfl, r, m, rfl, hM, k _ H (Same.refl H) (.str _)⟩
include g1 in
theorem letters_words_ (D : DefT K mg "letters_words" s_letters_words [])  : C8.Cal P w K mg base 3 "letters_words" (spWay K CM 0) [] :=
  cal_of D sc_letters_words (fun _ _ _ _ _ _ us hl => match us, hl with | [_], _ => rfl) way_len (b_letters_words g1 )
abbrev s_letters_short : Stmt := top 42
theorem sc_letters_short : FnScope ["mark"] ["mark"] (defScope s_letters_short) := ⟨rfl, rfl, rfl, by decide +kernel, rfl, by decide +kernel, by decide +kernel⟩
include g1 in
theorem b_letters_short (T : Free mg) : Body P w K mg base 2 ["mark"] "letters_short" s_letters_short (spWay K CM 1) := by
  intro f cdv A outer s H vs Q E hr h
  obtain ⟨r, m, rfl, hM, k⟩ := h
  have hM2 := hM
  obtain ⟨ok, dx, t, hH, ht⟩ := hM2
  refine ⟨_, (pss_one (ps_ret (pe_tup (pa_cons (pe_callB call_len_str (by rfl) T.len boot_len (pa_cons (C8.pe_mt0 g1 hr (by decide) (pv 0)) pa_nil)) (pa_cons (C8.pe_mt0 g1 hr (by decide) (pv 0)) pa_nil))))), ?_⟩
  have := (okm hM.1).1.2.1
  have := sizeLine_eq
  exact ⟨_, rfl, r, dx, _, rfl, hH, rfl, r, m, rfl, hM, _, rfl, by omega, _, rfl, r, dx, _, rfl, hH, rfl, r, m, rfl, hM, (by decide : 2 ≤ sizeLine), fun p hp => k _ _ (same_new hp) (.tup (.of upd_same) (.cons (.int _) (.cons (.str _) .nil)))⟩
include g1 in
theorem letters_short_ (D : DefT K mg "letters_short" s_letters_short []) (T : Free mg) : C8.Cal P w K mg base 3 "letters_short" (spWay K CM 1) [] :=
  cal_of D sc_letters_short (fun _ _ _ _ _ _ us hl => match us, hl with | [_], _ => rfl) way_len (b_letters_short g1 T)
abbrev s_number_whole : Stmt := top 43
theorem sc_number_whole : FnScope ["mark"] ["mark"] (defScope s_number_whole) := ⟨rfl, rfl, rfl, by decide +kernel, rfl, by decide +kernel, by decide +kernel⟩
include g2 in
theorem b_number_whole  : Body P w K mg base 2 ["mark"] "number_whole" s_number_whole (spWay K CM 2) := by
  intro f cdv A outer s H vs Q E hr h
  obtain ⟨r, m, rfl, hM, k⟩ := h
  have hM2 := hM
  obtain ⟨ok, dx, t, hH, ht⟩ := hM2
  refine ⟨_, (pss_one (ps_ret (C8.pe_mt0 g2 hr (by decide) (pv 0)))), ?_⟩
  exact ⟨_, rfl, r, dx, _, rfl, hH, rfl, r, m, rfl, hM, k _ H (Same.refl H) (.int _)⟩
include g2 in
theorem number_whole_ (D : DefT K mg "number_whole" s_number_whole [])  : C8.Cal P w K mg base 3 "number_whole" (spWay K CM 2) [] :=
  cal_of D sc_number_whole (fun _ _ _ _ _ _ us hl => match us, hl with | [_], _ => rfl) way_len (b_number_whole g2 )
abbrev s_number_figures : Stmt := top 44
theorem sc_number_figures : FnScope ["mark"] ["mark"] (defScope s_number_figures) := ⟨rfl, rfl, rfl, by decide +kernel, rfl, by decide +kernel, by decide +kernel⟩
include g2 in
theorem b_number_figures (T : Free mg) : Body P w K mg base 2 ["mark"] "number_figures" s_number_figures (spWay K CM 3) := by
  intro f cdv A outer s H vs Q E hr h
  obtain ⟨r, m, rfl, hM, k⟩ := h
  have hM2 := hM
  obtain ⟨ok, dx, t, hH, ht⟩ := hM2
  refine ⟨_, (pss_one (ps_ret (pe_callTy call_str_int (by rfl) T.str boot_str (pa_cons (C8.pe_mt0 g2 hr (by decide) (pv 0)) pa_nil)))), ?_⟩
  have hn := (okm hM.1).2.1
  exact ⟨_, rfl, r, dx, _, rfl, hH, rfl, r, m, rfl, hM, m.number, rfl, log_small (k := 0) (by omega) (by
    have : (9999 : Int) < 10 ^ 40 := by decide +kernel
    omega), k _ H (Same.refl H) (.str _)⟩
include g2 in
theorem number_figures_ (D : DefT K mg "number_figures" s_number_figures []) (T : Free mg) : C8.Cal P w K mg base 3 "number_figures" (spWay K CM 3) [] :=
  cal_of D sc_number_figures (fun _ _ _ _ _ _ us hl => match us, hl with | [_], _ => rfl) way_len (b_number_figures g2 T)
abbrev s_points_decimal : Stmt := top 45
theorem sc_points_decimal : FnScope ["mark"] ["mark"] (defScope s_points_decimal) := ⟨rfl, rfl, rfl, by decide +kernel, rfl, by decide +kernel, by decide +kernel⟩
include g3 in
theorem b_points_decimal  : Body P w K mg base 2 ["mark"] "points_decimal" s_points_decimal (spWay K CM 4) := by
  intro f cdv A outer s H vs Q E hr h
  obtain ⟨r, m, rfl, hM, k⟩ := h
  have hM2 := hM
  obtain ⟨ok, dx, t, hH, ht⟩ := hM2
  refine ⟨_, (pss_one (ps_ret (C8.pe_mt0 g3 hr (by decide) (pv 0)))), ?_⟩
  exact ⟨_, rfl, r, dx, _, rfl, hH, rfl, r, m, rfl, hM, k _ H (Same.refl H) (.str _)⟩
include g3 in
theorem points_decimal_ (D : DefT K mg "points_decimal" s_points_decimal [])  : C8.Cal P w K mg base 3 "points_decimal" (spWay K CM 4) [] :=
  cal_of D sc_points_decimal (fun _ _ _ _ _ _ us hl => match us, hl with | [_], _ => rfl) way_len (b_points_decimal g3 )
abbrev s_points_whole : Stmt := top 47
theorem sc_points_whole : FnScope ["mark"] ["mark"] (defScope s_points_whole) := ⟨rfl, rfl, rfl, by decide +kernel, rfl, by decide +kernel, by decide +kernel⟩
include g3 in
theorem b_points_whole (G_whole_of : C8.Cal P w K mg base 2 "whole_of" (spWholeOf K) []) : Body P w K mg base 2 ["mark"] "points_whole" s_points_whole (spWay K CM 5) := by
  intro f cdv A outer s H vs Q E hr h
  obtain ⟨r, m, rfl, hM, k⟩ := h
  have hM2 := hM
  obtain ⟨ok, dx, t, hH, ht⟩ := hM2
  refine ⟨_, (pss_one (ps_ret (C8.pe_c G_whole_of hr (by decide) rfl (pa_cons (C8.pe_mt0 g3 hr (by decide) (pv 0)) pa_nil)))), ?_⟩
  have hp := (okm hM.1).2.2.1
  have := points_le hp
  exact ⟨_, rfl, r, dx, _, rfl, hH, rfl, r, m, rfl, hM, _, rfl, hp.imp id fun z => z.2.1, by omega, fun v H' sm hd => k v H' sm hd⟩
include g3 in
theorem points_whole_ (D : DefT K mg "points_whole" s_points_whole []) (G_whole_of : C8.Cal P w K mg base 2 "whole_of" (spWholeOf K) []) : C8.Cal P w K mg base 3 "points_whole" (spWay K CM 5) [] :=
  cal_of D sc_points_whole (fun _ _ _ _ _ _ us hl => match us, hl with | [_], _ => rfl) way_len (b_points_whole g3 G_whole_of)
abbrev s_points_late : Stmt := top 48
theorem sc_points_late : FnScope ["mark"] ["mark"] (defScope s_points_late) := ⟨rfl, rfl, rfl, by decide +kernel, rfl, by decide +kernel, by decide +kernel⟩
include g3 in
theorem b_points_late  : Body P w K mg base 2 ["mark"] "points_late" s_points_late (spWay K CM 6) := by
  intro f cdv A outer s H vs Q E hr h
  obtain ⟨r, m, rfl, hM, k⟩ := h
  have hM2 := hM
  obtain ⟨ok, dx, t, hH, ht⟩ := hM2
  refine ⟨_, (pss_one (ps_ret (pe_tup (pa_cons (pe_cmpR op_eq (C8.pe_mt0 g3 hr (by decide) (pv 0)) pe_str (nomark _)) (pa_cons (C8.pe_mt0 g3 hr (by decide) (pv 0)) pa_nil))))), ?_⟩
  refine ⟨_, rfl, r, dx, _, rfl, hH, rfl, r, m, rfl, hM, rfl, _, rfl, r, dx, _, rfl, hH, rfl, r, m, rfl, hM, (by decide : 2 ≤ sizeLine), fun p hp => k _ _ (same_new hp) ?_⟩
  have e : decide (V.str m.points = V.str (Str.ofString "")) = decide (m.points = emp) := by
    refine decide_eq_decide.mpr ⟨fun q => by injection q, fun q => by rw [q]; rfl⟩
  refine .tup (.of upd_same) ?_
  dsimp only
  rw [e]
  exact .cons (.bl _) (.cons (.str _) .nil)
include g3 in
theorem points_late_ (D : DefT K mg "points_late" s_points_late [])  : C8.Cal P w K mg base 3 "points_late" (spWay K CM 6) [] :=
  cal_of D sc_points_late (fun _ _ _ _ _ _ us hl => match us, hl with | [_], _ => rfl) way_len (b_points_late g3 )
abbrev s_makers_decimal : Stmt := top 49
theorem sc_makers_decimal : FnScope ["mark"] ["mark"] (defScope s_makers_decimal) := ⟨rfl, rfl, rfl, by decide +kernel, rfl, by decide +kernel, by decide +kernel⟩
include g4 in
theorem b_makers_decimal  : Body P w K mg base 2 ["mark"] "makers_decimal" s_makers_decimal (spWay K CM 7) := by
  intro f cdv A outer s H vs Q E hr h
  obtain ⟨r, m, rfl, hM, k⟩ := h
  have hM2 := hM
  obtain ⟨ok, dx, t, hH, ht⟩ := hM2
  refine ⟨_, (pss_one (ps_ret (C8.pe_mt0 g4 hr (by decide) (pv 0)))), ?_⟩
  exact ⟨_, rfl, r, dx, _, rfl, hH, rfl, r, m, rfl, hM, fun t ht => k _ H (Same.refl H) (.tup ht (dpStrs _))⟩
include g4 in
theorem makers_decimal_ (D : DefT K mg "makers_decimal" s_makers_decimal [])  : C8.Cal P w K mg base 3 "makers_decimal" (spWay K CM 7) [] :=
  cal_of D sc_makers_decimal (fun _ _ _ _ _ _ us hl => match us, hl with | [_], _ => rfl) way_len (b_makers_decimal g4 )
abbrev s_makers_few : Stmt := top 51
theorem sc_makers_few : FnScope ["mark"] ["mark"] (defScope s_makers_few) := ⟨rfl, rfl, rfl, by decide +kernel, rfl, by decide +kernel, by decide +kernel⟩
include g4 in
theorem b_makers_few (T : Free mg) : Body P w K mg base 2 ["mark"] "makers_few" s_makers_few (spWay K CM 9) := by
  intro f cdv A outer s H vs Q E hr h
  obtain ⟨r, m, rfl, hM, k⟩ := h
  have hM2 := hM
  obtain ⟨ok, dx, t, hH, ht⟩ := hM2
  refine ⟨_, (pss_one (ps_ret (pe_tup (pa_cons (pe_callB call_len_seq (by rfl) T.len boot_len (pa_cons (C8.pe_mt0 g4 hr (by decide) (pv 0)) pa_nil)) (pa_cons (C8.pe_mt0 g4 hr (by decide) (pv 0)) pa_nil))))), ?_⟩
  refine ⟨_, rfl, r, dx, _, rfl, hH, rfl, r, m, rfl, hM, fun t1 ht1 => ⟨_, _, rfl, .inr ht1, _, rfl, r, dx, _, rfl, hH, rfl, r, m, rfl, hM, fun t2 ht2 => ⟨(by decide : 2 ≤ sizeLine), fun p hp => k _ _ (same_new hp) ?_⟩⟩⟩
  rw [List.length_map]
  exact .tup (.of upd_same) (.cons (.int _) (.cons (.tup (same_sqt (same_new hp) ht2) (dpStrs _)) .nil))
include g4 in
theorem makers_few_ (D : DefT K mg "makers_few" s_makers_few []) (T : Free mg) : C8.Cal P w K mg base 3 "makers_few" (spWay K CM 9) [] :=
  cal_of D sc_makers_few (fun _ _ _ _ _ _ us hl => match us, hl with | [_], _ => rfl) way_len (b_makers_few g4 T)
abbrev s_year_rising : Stmt := top 54
theorem sc_year_rising : FnScope ["mark"] ["mark"] (defScope s_year_rising) := ⟨rfl, rfl, rfl, by decide +kernel, rfl, by decide +kernel, by decide +kernel⟩
include g5 in
theorem b_year_rising (G_rising : C8.Cal P w K mg base 1 "rising" spRising []) : Body P w K mg base 2 ["mark"] "year_rising" s_year_rising (spWay K CM 10) := by
  intro f cdv A outer s H vs Q E hr h
  obtain ⟨r, m, rfl, hM, k⟩ := h
  have hM2 := hM
  obtain ⟨ok, dx, t, hH, ht⟩ := hM2
  refine ⟨_, (pss_one (ps_ret (C8.pe_c G_rising hr (by decide) rfl (pa_cons (C8.pe_mt0 g5 hr (by decide) (pv 0)) pa_nil)))), ?_⟩
  exact ⟨_, rfl, r, dx, _, rfl, hH, rfl, r, m, rfl, hM, _, rfl, k _ H (Same.refl H) (.int _)⟩
include g5 in
theorem year_rising_ (D : DefT K mg "year_rising" s_year_rising []) (G_rising : C8.Cal P w K mg base 1 "rising" spRising []) : C8.Cal P w K mg base 3 "year_rising" (spWay K CM 10) [] :=
  cal_of D sc_year_rising (fun _ _ _ _ _ _ us hl => match us, hl with | [_], _ => rfl) way_len (b_year_rising g5 G_rising)
abbrev s_year_falling : Stmt := top 55
theorem sc_year_falling : FnScope ["mark"] ["mark"] (defScope s_year_falling) := ⟨rfl, rfl, rfl, by decide +kernel, rfl, by decide +kernel, by decide +kernel⟩
include g5 in
theorem b_year_falling (G_rising : C8.Cal P w K mg base 1 "rising" spRising []) : Body P w K mg base 2 ["mark"] "year_falling" s_year_falling (spWay K CM 11) := by
  intro f cdv A outer s H vs Q E hr h
  obtain ⟨r, m, rfl, hM, k⟩ := h
  have hM2 := hM
  obtain ⟨ok, dx, t, hH, ht⟩ := hM2
  refine ⟨_, (pss_one (ps_ret (pe_un un_neg (C8.pe_c G_rising hr (by decide) rfl (pa_cons (C8.pe_mt0 g5 hr (by decide) (pv 0)) pa_nil))))), ?_⟩
  exact ⟨_, rfl, r, dx, _, rfl, hH, rfl, r, m, rfl, hM, _, rfl, _, rfl, k _ H (Same.refl H) (.int _)⟩
include g5 in
theorem year_falling_ (D : DefT K mg "year_falling" s_year_falling []) (G_rising : C8.Cal P w K mg base 1 "rising" spRising []) : C8.Cal P w K mg base 3 "year_falling" (spWay K CM 11) [] :=
  cal_of D sc_year_falling (fun _ _ _ _ _ _ us hl => match us, hl with | [_], _ => rfl) way_len (b_year_falling g5 G_rising)
abbrev s_year_late : Stmt := top 56
theorem sc_year_late : FnScope ["mark"] ["mark"] (defScope s_year_late) := ⟨rfl, rfl, rfl, by decide +kernel, rfl, by decide +kernel, by decide +kernel⟩
include g5 in
theorem b_year_late (c_LATE : Con mg "LATE" (.int 10000)) : Body P w K mg base 2 ["mark"] "year_late" s_year_late (spWay K CM 12) := by
  intro f cdv A outer s H vs Q E hr h
  obtain ⟨r, m, rfl, hM, k⟩ := h
  have hM2 := hM
  obtain ⟨ok, dx, t, hH, ht⟩ := hM2
  refine ⟨_, (pss_one (ps_ret (pe_ifExp (pt_cmpR op_isN (C8.pe_mt0 g5 hr (by decide) (pv 0)) pe_non (nomark _)) (C8.pe_gc rfl c_LATE) (C8.pe_mt0 g5 hr (by decide) (pv 0))))), ?_⟩
  refine ⟨_, rfl, r, dx, _, rfl, hH, rfl, r, m, rfl, hM, rfl, _, rfl, ?_⟩
  dsimp only
  have k2 := k (.int (m.year.getD 10000)) H (Same.refl H) (.int _)
  by_cases e : m.year = none
  · rw [decide_eq_true (show hiV m.year = V.non by rw [e]; rfl)]
    rw [e] at k2
    exact iteT k2
  · obtain ⟨n, e2⟩ : ∃ n, m.year = some n := by
      cases q : m.year with
      | none => exact absurd q e
      | some n => exact ⟨n, rfl⟩
    rw [decide_eq_false (show ¬ hiV m.year = V.non by rw [e2]; intro z; cases z)]
    refine iteF ⟨_, rfl, r, dx, _, rfl, hH, rfl, r, m, rfl, hM, ?_⟩
    dsimp only
    rw [e2] at k2 ⊢
    exact k2
include g5 in
theorem year_late_ (D : DefT K mg "year_late" s_year_late []) (c_LATE : Con mg "LATE" (.int 10000)) : C8.Cal P w K mg base 3 "year_late" (spWay K CM 12) [] :=
  cal_of D sc_year_late (fun _ _ _ _ _ _ us hl => match us, hl with | [_], _ => rfl) way_len (b_year_late g5 c_LATE)
abbrev s_year_figures : Stmt := top 57
theorem sc_year_figures : FnScope ["mark"] ["mark"] (defScope s_year_figures) := ⟨rfl, rfl, rfl, by decide +kernel, rfl, by decide +kernel, by decide +kernel⟩
include g5 in
theorem b_year_figures (G_figures : C8.Cal P w K mg base 2 "figures" spFigures []) : Body P w K mg base 2 ["mark"] "year_figures" s_year_figures (spWay K CM 13) := by
  intro f cdv A outer s H vs Q E hr h
  obtain ⟨r, m, rfl, hM, k⟩ := h
  have hM2 := hM
  obtain ⟨ok, dx, t, hH, ht⟩ := hM2
  refine ⟨_, (pss_one (ps_ret (C8.pe_c G_figures hr (by decide) rfl (pa_cons (C8.pe_mt0 g5 hr (by decide) (pv 0)) pa_nil)))), ?_⟩
  refine ⟨_, rfl, r, dx, _, rfl, hH, rfl, r, m, rfl, hM, m.year, rfl, fun n e => ?_, fun H' sm => k _ H' sm (.str _)⟩
  have := (okm hM.1).2.2.2.2.1 n e
  have : (2999 : Int) < 10 ^ 40 := by decide +kernel
  omega
include g5 in
theorem year_figures_ (D : DefT K mg "year_figures" s_year_figures []) (G_figures : C8.Cal P w K mg base 2 "figures" spFigures []) : C8.Cal P w K mg base 3 "year_figures" (spWay K CM 13) [] :=
  cal_of D sc_year_figures (fun _ _ _ _ _ _ us hl => match us, hl with | [_], _ => rfl) way_len (b_year_figures g5 G_figures)
abbrev s_copy_rising : Stmt := top 58
theorem sc_copy_rising : FnScope ["mark"] ["mark"] (defScope s_copy_rising) := ⟨rfl, rfl, rfl, by decide +kernel, rfl, by decide +kernel, by decide +kernel⟩
include g6 in
theorem b_copy_rising (G_rising : C8.Cal P w K mg base 1 "rising" spRising []) : Body P w K mg base 2 ["mark"] "copy_rising" s_copy_rising (spWay K CM 14) := by
  intro f cdv A outer s H vs Q E hr h
  obtain ⟨r, m, rfl, hM, k⟩ := h
  have hM2 := hM
  obtain ⟨ok, dx, t, hH, ht⟩ := hM2
  refine ⟨_, (pss_one (ps_ret (C8.pe_c G_rising hr (by decide) rfl (pa_cons (C8.pe_mt0 g6 hr (by decide) (pv 0)) pa_nil)))), ?_⟩
  exact ⟨_, rfl, r, dx, _, rfl, hH, rfl, r, m, rfl, hM, _, rfl, k _ H (Same.refl H) (.int _)⟩
include g6 in
theorem copy_rising_ (D : DefT K mg "copy_rising" s_copy_rising []) (G_rising : C8.Cal P w K mg base 1 "rising" spRising []) : C8.Cal P w K mg base 3 "copy_rising" (spWay K CM 14) [] :=
  cal_of D sc_copy_rising (fun _ _ _ _ _ _ us hl => match us, hl with | [_], _ => rfl) way_len (b_copy_rising g6 G_rising)
abbrev s_copy_falling : Stmt := top 59
theorem sc_copy_falling : FnScope ["mark"] ["mark"] (defScope s_copy_falling) := ⟨rfl, rfl, rfl, by decide +kernel, rfl, by decide +kernel, by decide +kernel⟩
include g6 in
theorem b_copy_falling (G_rising : C8.Cal P w K mg base 1 "rising" spRising []) : Body P w K mg base 2 ["mark"] "copy_falling" s_copy_falling (spWay K CM 15) := by
  intro f cdv A outer s H vs Q E hr h
  obtain ⟨r, m, rfl, hM, k⟩ := h
  have hM2 := hM
  obtain ⟨ok, dx, t, hH, ht⟩ := hM2
  refine ⟨_, (pss_one (ps_ret (pe_un un_neg (C8.pe_c G_rising hr (by decide) rfl (pa_cons (C8.pe_mt0 g6 hr (by decide) (pv 0)) pa_nil))))), ?_⟩
  exact ⟨_, rfl, r, dx, _, rfl, hH, rfl, r, m, rfl, hM, _, rfl, _, rfl, k _ H (Same.refl H) (.int _)⟩
include g6 in
theorem copy_falling_ (D : DefT K mg "copy_falling" s_copy_falling []) (G_rising : C8.Cal P w K mg base 1 "rising" spRising []) : C8.Cal P w K mg base 3 "copy_falling" (spWay K CM 15) [] :=
  cal_of D sc_copy_falling (fun _ _ _ _ _ _ us hl => match us, hl with | [_], _ => rfl) way_len (b_copy_falling g6 G_rising)
abbrev s_copy_figures : Stmt := top 60
theorem sc_copy_figures : FnScope ["mark"] ["mark"] (defScope s_copy_figures) := ⟨rfl, rfl, rfl, by decide +kernel, rfl, by decide +kernel, by decide +kernel⟩
include g6 in
theorem b_copy_figures (G_figures : C8.Cal P w K mg base 2 "figures" spFigures []) : Body P w K mg base 2 ["mark"] "copy_figures" s_copy_figures (spWay K CM 16) := by
  intro f cdv A outer s H vs Q E hr h
  obtain ⟨r, m, rfl, hM, k⟩ := h
  have hM2 := hM
  obtain ⟨ok, dx, t, hH, ht⟩ := hM2
  refine ⟨_, (pss_one (ps_ret (C8.pe_c G_figures hr (by decide) rfl (pa_cons (C8.pe_mt0 g6 hr (by decide) (pv 0)) pa_nil)))), ?_⟩
  refine ⟨_, rfl, r, dx, _, rfl, hH, rfl, r, m, rfl, hM, m.copy, rfl, fun n e => ?_, fun H' sm => k _ H' sm (.str _)⟩
  have := (okm hM.1).2.2.2.2.2 n e
  omega
include g6 in
theorem copy_figures_ (D : DefT K mg "copy_figures" s_copy_figures []) (G_figures : C8.Cal P w K mg base 2 "figures" spFigures []) : C8.Cal P w K mg base 3 "copy_figures" (spWay K CM 16) [] :=
  cal_of D sc_copy_figures (fun _ _ _ _ _ _ us hl => match us, hl with | [_], _ => rfl) way_len (b_copy_figures g6 G_figures)
end
end S
end

section
set_option maxRecDepth 100000
set_option maxHeartbeats 4000000
/-! Rules that the layer lacks, 2: walks. -/
namespace S
open PySem PySem.Spec PyProof.Rows L2 SM
/-! ### the keys of a dict of the text -/
structure KNames (K : PySem.W.Frag) (d : Addr) (ns : List Str) : Prop where
  ex : ∃ (es : Array DictEntry) (ep : Nat), K.lookup d = some ⟨.type "dict", none, .dict es ep, #[]⟩ ∧ es.size = ns.length ∧ ∀ (i : Nat) (z : Str), ns[i]? = some z → ∃ en t, es[i]? = some en ∧ en.key = .str z t
  low : (d == sysModules) = false
def ItK (ns : List Str) : It := ⟨fun i _ => i < ns.length, fun i H x H' => H' = H ∧ ∃ z, ns[i]? = some z ∧ x = .str z, fun i _ => ns.length ≤ i⟩
theorem turn_kd {P : Program} {w : World} {K : PySem.W.Frag} {tg : Expr} {d : Addr} {ns : List Str} {es : Array DictEntry} {ep : Nat} (it : Addr) (hl : K.lookup d = some ⟨.type "dict", none, .dict es ep, #[]⟩) (hz : es.size = ns.length)
    (hk : ∀ (i : Nat) (z : Str), ns[i]? = some z → ∃ en t, es[i]? = some en ∧ en.key = .str z t) : Turn P w K tg (ItK ns) [it] it (fun i h => h.IsKeyIter it d i ns.length ep) where
  mem := by simp
  obj := fun i h st b hb => by
    have e : b = it := by simpa using hb
    subst e
    obtain ⟨oi, e, c, dd⟩ := st
    exact ⟨oi, e, fun v z => by rw [dd] at z; cases z⟩
  keep := fun i h h' st k => st.at fun oi e => k it (by simp) oi e
  item := by
    intro X hP hw hK hc i pins s σ H E I hf st hg
    subst hP hw hK
    obtain ⟨f0, f1, f2, f3, f4, f5⟩ := hf it (by simp)
    have hgd := I.kIn _ _ hl
    obtain ⟨z, hz2⟩ : ∃ z, ns[i]? = some z := ⟨ns[i]'hg, List.getElem?_eq_getElem hg⟩
    obtain ⟨en, t, hen, hkey⟩ := hk i z hz2
    refine next_key_item st hgd rfl hz hen fun h' st' sb => ?_
    have I1 : Inv X pins σ H { s with heap := h' } := I.turned (t' := s.toks) (fun b ob hb e => (sb.2 b hb).trans e) f0 f1 f3 f4 f5
    obtain ⟨oi, e, c, dd⟩ := id st'
    refine ⟨en.key, rfl, go_of (s := { s with heap := h' }) e c dd (by decide) ⟨.str z, H, I1, ⟨t, hkey⟩, ⟨rfl, z, hz2, rfl⟩, st', fun b hb => (hf b hb).1⟩⟩
  done := by
    intro X hP hw hK hc i pins s σ H E I hf st hg
    subst hP hw hK
    obtain ⟨f0, f1, f2, f3, f4, f5⟩ := hf it (by simp)
    exact next_key_end (I.ok.hd hc) st (I.kIn _ _ hl) rfl hz hg fun h' eb => ⟨rfl, I.turned (t' := s.toks) (fun b ob hb e => eb b ob hb e) f0 f1 f3 f4 f5⟩
  self := fun A i s Q E st h => by
    refine wpAny_pyIter_slot st.typeIs F.slot_dict_keyiterator_iter (wpAny_call_entry F.slot_dict_keyiterator_iter st.typeIs F.entry_dict_keyiterator_iter ?_ (F.args_dict_keyiterator_iter_1 _))
    show wpAny _ _ (ret (.ref it)) _ _ s
    exact wpAny_pure ⟨_, rfl, "dict_keyiterator", _, st.typeIs, F.slot_dict_keyiterator_next.lookup, h⟩
def iKd (K : PySem.W.Frag) (td : TE) : TI := fun σ H R => td σ H fun x H1 => ∃ d ns, x = .ref d ∧ KNames K d ns ∧ R (ItK ns) H1
theorem pi_kd {X : Cx} {tg e : Expr} {td : TE} (he : PE X e td) : PI X tg e (iKd X.K td) := by
  refine ⟨fun pins s σ H R I h => ?_⟩
  refine thn (he.run pins s σ H _ I h) fun u s1 ⟨x, H1, I1, rx, d, ns, ex, kn, q⟩ => ?_
  subst ex
  obtain rfl : u = Value.ref d := rx
  obtain ⟨es, ep, hl, hz, hk⟩ := kn.ex
  refine iter_keys kn.low (I1.kIn _ _ hl) ⟨rfl, rfl, rfl⟩ rfl (pi_one (tk := s1.toks) I1 _ (turn_kd _ hl hz hk) ⟨_, Heap.get?_push_size _ rfl, rfl, ?_⟩ q)
  rw [hz] <;> rfl
theorem walk_kd {ns : List Str} : Walk (ItK ns) ns.length (fun _ => True) (fun i H x H' => H' = H ∧ ∃ z, ns[i]? = some z ∧ x = .str z) :=
  ⟨fun i H hi _ => hi, fun H _ => Nat.le_refl _, fun i H x H' _ _ y => y⟩
/-! ### the pairs of a dict whose keys are tuples -/
def ItiT (d : Addr) (o : Obj) (kvs : List (List Key × V)) : It :=
  ⟨fun i H => H d = some (.frz o (.dT kvs)) ∧ i < kvs.length, fun i H x H' => ∃ (T q : Addr) (k : List Key) (v : V), kvs[i]? = some (k, v) ∧ x = .ref T ∧ H q = some (.tup (k.map kV)) ∧ H T = none ∧ H' = upd H T (.tup [.ref q, v]), fun i H => H d = some (.frz o (.dT kvs)) ∧ kvs.length ≤ i⟩
section
variable {X : Cx} {pins : List (Addr × Obj)} {σ : L2.St} {H : Hp} {s : Shared} {d : Addr} {o : Obj}
theorem frzTv {kvs : List (List Key × V)} (I : Inv X pins σ H s) (h : H d = some (.frz o (.dT kvs))) :
    (d == sysModules) = false ∧ s.heap.get? d = some o ∧ o.ExactDict ∧ ∃ (es : Array DictEntry) (ep : Nat), o.data = .dict es ep ∧ es.size = kvs.length ∧
      ∀ (i : Nat) (k : List Key) (v : V), kvs[i]? = some (k, v) → ∃ (en : DictEntry) (q : Addr), es[i]? = some en ∧ en.key = .ref q ∧ H q = some (.tup (k.map kV)) ∧ RelV v en.val := by
  obtain ⟨hd, z, hs, xs, pr, o', es, ep, ho, hx, hdt, he, _⟩ := I.hok d _ h
  rw [hd] at ho
  cases ho
  refine ⟨hs, hd, hx, es, ep, hdt, ?_, fun i k v e => ?_⟩
  · have l1 : es.size = xs.length := size_of_entries he
    have l2 : kvs.length = xs.length := Paired.length pr
    omega
  · obtain ⟨b, hb, e1, e2, e3⟩ := paired_get pr e
    have q := entry_at he i
    rw [hb] at q
    exact ⟨_, b.2.1, q, rfl, e2, e3⟩
end
theorem turn_itemsT {P : Program} {w : World} {K : PySem.W.Frag} {d : Addr} {o : Obj} {es : Array DictEntry} {ep : Nat} {kvs : List (List Key × V)} {elts : List Expr} {kk : Nat} {tpos : Pos} (it : Addr) (hod : o.data = .dict es ep) :
    Turn P w K (.Tuple elts kk tpos) (ItiT d o kvs) [it] it (fun i h => ∃ ok ov, IsItemIter h it d i es.size ep ok ov) where
  mem := by simp
  obj := fun i h st b hb => by
    have e : b = it := by simpa using hb
    subst e
    obtain ⟨ok, ov, e⟩ := st
    exact ⟨_, e, fun v z => nomatch z⟩
  keep := fun i h h' st k => let ⟨ok, ov, e⟩ := st; ⟨ok, ov, k it (by simp) _ e⟩
  item := by
    intro X hP hw hK hc i pins s σ H E I hf st hg
    subst hP hw hK
    obtain ⟨hd, hi⟩ := hg
    obtain ⟨hs, hgd, hx, es', ep', hdt, hsz, ent⟩ := frzTv I hd
    obtain ⟨rfl, rfl⟩ := dict_ep hod hdt
    obtain ⟨⟨k, v⟩, hkv⟩ : ∃ p, kvs[i]? = some p := ⟨kvs[i], List.getElem?_eq_getElem hi⟩
    obtain ⟨en, q, hen, hkey, hq, rv⟩ := ent i k v hkv
    obtain ⟨ok, ov, he⟩ := st
    have hlt : it < s.heap.objs.size := Heap.lt_size he
    have hi2 : i < es'.size := by omega
    have hen2 : es'[i] = en := by
      rw [Array.getElem?_eq_getElem hi2] at hen
      exact Option.some.inj hen
    refine DT.nextI he ⟨o, hgd, hx, hdt⟩ hi2 fun h' ho hT hz hk => ?_
    refine ⟨_, rfl, wpAny_letOwnedTupleGo_items (s := { s with heap := h' }) ho fun h'' he' sb => ?_⟩
    have hT2 : h''.get? s.heap.objs.size = some { cls := .type "tuple", data := .seq #[es'[i].key, es'[i].val] } := (sb.2 _ (Nat.ne_of_gt hlt)).trans hT
    have new : ObjOk X.prog X.w (upd H s.heap.objs.size (.tup [.ref q, v])) h'' s.heap.objs.size (.tup [.ref q, v]) :=
      ⟨by show 2 ≤ sizeLine; decide, [es'[i].key, es'[i].val], .cons (by rw [hen2, hkey]; rfl) (.cons (by rw [hen2]; exact rv) .nil), ⟨_, hT2, rfl, _, rfl⟩⟩
    have I1 : Inv X pins σ (upd H s.heap.objs.size (.tup [.ref q, v])) { s with heap := h'' } :=
      I.turnedNew (t' := s.toks) (ch := [it]) (fun b ob hb e => (sb.2 b (by simpa using hb)).trans (hk b ob (by simpa using hb) e)) hf (Nat.le_refl _) new
    refine ⟨.ref s.heap.objs.size, _, I1, rfl, ⟨_, q, k, v, hkv, rfl, hq, I.hok.fresh (Nat.le_refl _), rfl⟩, ⟨_, _, he'⟩, fun b hb => ?_⟩
    have e : b = it := by simpa using hb
    rw [e, upd_ne (Nat.ne_of_lt hlt)]
    exact (hf it (by simp)).1
  done := by
    intro X hP hw hK hc i pins s σ H E I hf st hg
    subst hP hw hK
    obtain ⟨hd, hi⟩ := hg
    obtain ⟨f0, f1, f2, f3, f4, f5⟩ := hf it (by simp)
    obtain ⟨hs, hgd, hx, es', ep', hdt, hsz, ent⟩ := frzTv I hd
    obtain ⟨rfl, rfl⟩ := dict_ep hod hdt
    obtain ⟨ok, ov, he⟩ := st
    exact DT.endI (I.ok.hd hc) he ⟨o, hgd, hx, hdt⟩ (by omega) fun h' eb => ⟨rfl, I.turned (t' := s.toks) (fun b ob hb e => eb b ob hb e) f0 f1 f3 f4 f5⟩
  self := fun A i s Q E st h => let ⟨_, _, e⟩ := st; PySem.W.kcp_self e h
def iItemsT (td : TE) : TI := fun σ H R => td σ H fun x H1 => ∃ d o kvs, x = .ref d ∧ H1 d = some (.frz o (.dT kvs)) ∧ R (ItiT d o kvs) H1
theorem pi_itemsT {X : Cx} {e : Expr} {td : TE} {apos cpos : Pos} {elts : List Expr} {kk : Nat} {tpos : Pos} (he : PE X e td) (hbase : attributeBase e "items" X.env (eval e X.env) = eval e X.env := by rfl) (hline : (apos.endLine == cpos.line) = true := by rfl) :
    PI X (.Tuple elts kk tpos) (.Call (.Attribute e "items" apos) [] [] cpos) (iItemsT td) := by
  refine ⟨fun pins s σ H R I h => ?_⟩
  refine wpAny_Call_method (T := "dict") (id := "dict.items") hbase rfl hline F.plainAttrs_dict F.slot_dict_items F.type_dict_items (thn (he.run pins s σ H _ I h) fun u s1 ⟨x, H1, I1, rx, d, o, kvs, ex, hd, q⟩ => ?_)
  subst ex
  obtain rfl : u = Value.ref d := rx
  obtain ⟨hs, hgd, hx, es, ep, hdt, hsz, ent⟩ := frzTv I1 hd
  have raw : DT.Raw s1.heap d es ep := ⟨o, hgd, hx, hdt⟩
  refine ⟨raw.typeIs, (fun a z => ⟨o, by cases z; exact hgd, hx.2.1⟩), ?_⟩
  have I2 : Inv X pins σ H1 { s1 with heap := s1.heap.push { cls := .type "dict_items", data := .fields #[.ref d] } } := I1.kept (t' := s1.toks) fun b ob q => Heap.get?_push_of_some _ q
  have fin : wpAny (model X.prog X.w) X.A (pyIter (.ref s1.heap.objs.size)) (PIE X pins σ (.Tuple elts kk tpos) R) X.xe { s1 with heap := s1.heap.push { cls := .type "dict_items", data := .fields #[.ref d] } } := by
    refine DT.iterI (d := d) (es := es) (ep := ep) ⟨_, Heap.get?_push_size _ rfl, rfl, rfl⟩ (raw.push _) (pi_one (tk := s1.toks) I2 _ (turn_itemsT _ hdt) ⟨.none, .none, ?_⟩ q)
    exact Heap.get?_push_size _ rfl
  show wpAny _ _ (callWith cpos (.builtin "dict.items") [.ref d] [] []) _ X.xe s1
  exact method_meetsIn F.slot_dict_items F.entry_dict_items rfl (PySem.evalArgs_none ⟨rfl, raw.typeIs, F.args_dict_items_1 _, _, DT.meetsItems (es := es) (ep := ep) hs, raw, fin⟩)
theorem walk_itemsT {d : Addr} {o : Obj} {kvs : List (List Key × V)} : Walk (ItiT d o kvs) kvs.length (fun H => H d = some (.frz o (.dT kvs))) (fun i H x H' => ∃ (T q : Addr) (k : List Key) (v : V), kvs[i]? = some (k, v) ∧ x = .ref T ∧ H q = some (.tup (k.map kV)) ∧ H T = none ∧ H' = upd H T (.tup [.ref q, v])) :=
  ⟨fun i H hi g => ⟨g, hi⟩, fun H g => ⟨g, Nat.le_refl _⟩, fun i H x H' _ _ y => y⟩
/-! ### enumerate of a tuple -/
def IteT (K : PySem.W.Frag) (a : Addr) : It :=
  ⟨fun i H => ∃ (xs : List V) (x : V), SqT K H a xs ∧ xs[i]? = some x, fun i H v H' => ∃ T x, v = .ref T ∧ H T = none ∧ H' = upd H T (.tup [.int (i : Nat), x]) ∧ ∀ xs, SqT K H a xs → xs[i]? = some x, fun i H => ∃ xs : List V, SqT K H a xs ∧ xs.length ≤ i⟩
theorem turn_enumT {P : Program} {w : World} {K : PySem.W.Frag} {elts : List Expr} {kk : Nat} {tpos : Pos} (a e it : Addr) :
    Turn P w K (.Tuple elts kk tpos) (IteT K a) [e, it] e (fun i h => (∃ old, IsEnum h e it ((i : Nat) : Int) old) ∧ h.IsTupleIter it a i ∧ e ≠ it) where
  mem := by simp
  obj := fun i h st b hb => by
    obtain ⟨⟨old, he⟩, ⟨o, ho, hc, hd⟩, _⟩ := st
    have e' : b = e ∨ b = it := by simpa using hb
    rcases e' with z | z
    · rw [z]; exact ⟨_, he, fun v q => nomatch q⟩
    · rw [z]; exact ⟨o, ho, fun v q => by rw [hd] at q; cases q⟩
  keep := fun i h h' st k => let ⟨⟨old, he⟩, hi, hne⟩ := st; ⟨⟨old, k e (by simp) _ he⟩, hi.at fun o q => k it (by simp) o q, hne⟩
  item := by
    intro X hP hw hK hc i pins s σ H E I hf st hg
    subst hP hw hK
    obtain ⟨⟨old, he⟩, hit, hne⟩ := st
    obtain ⟨xs, x, hq, hx⟩ := hg
    obtain ⟨its, rv, p, hz⟩ := I.tuple hq
    obtain ⟨u, hu, ru⟩ := rv.get hx
    have hel : e < s.heap.objs.size := Heap.lt_size he
    have hil : it < s.heap.objs.size := by obtain ⟨_, q, _⟩ := hit; exact Heap.lt_size q
    have ht : s.heap.IsTuple a its.toArray := p
    have nai : a ≠ it := fun z => by
      obtain ⟨o1, h1, c1, _⟩ := ht
      obtain ⟨o2, h2, c2, _⟩ := hit
      rw [z, h2] at h1
      cases h1
      rw [c1] at c2
      exact absurd c2 (by decide)
    have nae : a ≠ e := fun z => by
      obtain ⟨o1, h1, c1, _⟩ := ht
      rw [z, he] at h1
      cases h1
      exact absurd (show Value.type "enumerate" = Value.type "tuple" from c1) (by decide)
    have hin : i < its.toArray.size := by
      rw [List.size_toArray]
      exact (List.getElem?_eq_some_iff.mp hu).1
    refine wpAny_pyNext_enum_itemD (D := Draws.tuple (show X.A.in1.handled = none from I.ok.hd hc) it a nai its.toArray) he ⟨hit, ht⟩ hin hne (by simp only [List.mem_cons, List.not_mem_nil, or_false, not_or]; exact ⟨hne, fun z => nae z.symm⟩) fun u' h' tk hu' ho hst' hT hsz hk => ?_
    have eu : u' = u := by
      have q : its[i]? = some u' := by simpa using hu'
      rw [hu] at q
      exact (Option.some.inj q).symm
    subst eu
    refine ⟨_, rfl, wpAny_letOwnedTupleGo_enum (s := { s with heap := h', toks := tk + 1 }) ho fun h'' he' sb => ?_⟩
    have hT2 : h''.get? s.heap.objs.size = some { cls := .type "tuple", data := .seq #[.int i tk, u'] } := (sb.2 _ (Nat.ne_of_gt hel)).trans hT
    have new : ObjOk X.prog X.w (upd H s.heap.objs.size (.tup [.int (i : Nat), x])) h'' s.heap.objs.size (.tup [.int (i : Nat), x]) :=
      ⟨by show 2 ≤ sizeLine; decide, [.int i tk, u'], .cons ⟨_, rfl⟩ (.cons ru .nil), ⟨_, hT2, rfl, _, rfl⟩⟩
    have I1 : Inv X pins σ (upd H s.heap.objs.size (.tup [.int (i : Nat), x])) { s with heap := h'', toks := tk + 1 } :=
      I.turnedNew (ch := [e, it]) (fun b ob hb q => (sb.2 b (fun z => hb (by simp [z]))).trans (hk b ob (fun z => hb (by simp [z])) (fun z => hb (by simp [z])) q)) hf (Nat.le_refl _) new
    refine ⟨.ref s.heap.objs.size, _, I1, rfl, ⟨_, x, rfl, I.hok.fresh (Nat.le_refl _), rfl, fun ys hy => by rw [I.tuple_inj hy hq]; exact hx⟩, ⟨⟨u', ?_⟩, hst'.1.at fun o q => (sb.2 it (Ne.symm hne)).trans q, hne⟩, fun b hb => ?_⟩
    · have e1 : ((i + 1 : Nat) : Int) = (i : Int) + 1 := by omega
      rw [e1]; exact he'
    · have hb' : b < s.heap.objs.size := by
        have e' : b = e ∨ b = it := by simpa using hb
        rcases e' with z | z
        · rw [z]; exact hel
        · rw [z]; exact hil
      rw [upd_ne (Nat.ne_of_lt hb')]
      exact (hf b hb).1
  done := by
    intro X hP hw hK hc i pins s σ H E I hf st hg
    subst hP hw hK
    obtain ⟨⟨old, he⟩, hit, hne⟩ := st
    obtain ⟨xs, hq, hx⟩ := hg
    obtain ⟨its, rv, p, hz⟩ := I.tuple hq
    obtain ⟨f0, f1, f2, f3, f4, f5⟩ := hf it (by simp)
    have hl := rv.length
    have hT : s.TypeIs (.ref e) "enumerate" := ⟨_, he, rfl⟩
    unfold pyNext
    refine wpAny_bind (wpAny_attempt (wpAny_callSpecial?_slot (name := Str.ofString "__next__") hT F.slot_enumerate_next
      (wpAny_call_entry F.slot_enumerate_next hT F.entry_enumerate_next ?_ (F.args_enumerate_next_1 _))))
    show wpAny _ _ (field (.ref e) 2 >>= _) _ _ _
    refine wpAny_bind (wpAny_field he rfl (x := .ref it) rfl ?_)
    refine wpAny_bind (wpAny_nextOf_tuple_end (show X.A.in1.handled = none from I.ok.hd hc) hit (show s.heap.IsTuple a its.toArray from p) (by simp; omega) fun h' x he' hx' => ?_)
    obtain ⟨o, ho, hc'⟩ := hx'
    refine wpAny_bind (wpAny_isInstance (T := "StopIteration") (b := true) ⟨o, ho, hc'⟩ isSubtype_stop ?_)
    exact wpAny_pure ⟨rfl, I.turned (t' := s.toks) (fun b o hb q => he' b o hb q) f0 f1 f3 f4 f5⟩
  self := fun A i s Q E st h => let ⟨⟨_, he⟩, _⟩ := st; wpAny_pyIter_enum he h
set_option maxHeartbeats 1000000 in
theorem meets_enumerate_newV {v : Value} {o : Obj} {H : Heap → Prop} (B : Begins v o H) :
    Meets (Builtin.«enumerate.__new__» ⟨[.type "enumerate", v], []⟩) (fun _ R s => H s.heap ∧
      R (.ok (.ret (.ref (s.heap.push o).objs.size))) { s with heap := (s.heap.push o).push { cls := .type "enumerate", data := .fields #[.none, .bool false, .ref s.heap.objs.size, rawInt 0, .none, .none] } }) :=
  .of_wp fun prog w A R s h => by
    obtain ⟨hp, g, d, tk, os⟩ := s; obtain ⟨h1, h⟩ := h
    have hsub := sub_enumerate
    have q1 : ∀ {A' : Around} {E : Value → Shared → Prop} {Q : Value → Shared → Prop}, Q (.ref hp.objs.size) ⟨hp.push o, g, d, tk, os⟩ → wpAny (model prog w) A' (pyIter v) Q E ⟨hp, g, d, tk, os⟩ :=
      fun q => B.iter prog w _ _ ⟨hp, g, d, tk, os⟩ _ h1 q
    wp_walk using q1
    refine wpAny_stack_any fun st => wpAny_pure ?_
    split
    · rename_i c _ _ _ _ _
      cases (c == Value.type "enumerate")
      · wp_walk using q1
        exact ⟨_, rfl, h⟩
      · wp_walk using q1
        exact ⟨_, rfl, h⟩
    · wp_walk using q1
      exact ⟨_, rfl, h⟩
theorem enum_beginsV {prog : Program} {w : World} {A : Around} {E : Value → Shared → Prop} {s : Shared} {v : Value} {o : Obj} {H : Heap → Prop} {Q : Value → Shared → Prop} (B : Begins v o H) (h1 : H s.heap)
    (h : ∀ h', IsEnum h' (s.heap.objs.size + 1) s.heap.objs.size 0 .none → h'.get? s.heap.objs.size = some o → h'.objs.size = s.heap.objs.size + 2 →
      (∀ b o, s.heap.get? b = some o → h'.get? b = some o) → Q (.ref (s.heap.objs.size + 1)) { s with heap := h' }) :
    wpAny (model prog w) A (call (.type "enumerate") [v]) Q E s := by
  refine callType_new F.called_enumerate (by decide) (F.typeCall_enumerate_1 _) (F.newCall_enumerate_1 _) (fun obj => F.args_object_init_2 obj _) F.entry_enumerate_new
    (meets_enumerate_newV B) ⟨h1, ?_⟩
  have hz : (s.heap.push o).objs.size = s.heap.objs.size + 1 := Heap.size_push ..
  show _ ∧ _
  rw [hz]
  have he : IsEnum ((s.heap.push o).push { cls := .type "enumerate", data := .fields #[.none, .bool false, .ref s.heap.objs.size, rawInt 0, .none, .none] }) (s.heap.objs.size + 1) s.heap.objs.size 0 .none := by
    have := Heap.get?_push_size (s.heap.push o) (o := { cls := .type "enumerate", data := .fields #[.none, .bool false, .ref s.heap.objs.size, rawInt 0, .none, .none] }) rfl
    rw [hz] at this; exact this
  refine ⟨⟨_, he, rfl⟩, h _ he (Heap.get?_push_of_some _ (Heap.get?_push_size _ B.free)) (by rw [Heap.size_push, hz]) fun b o x => Heap.get?_push_of_some _ (Heap.get?_push_of_some _ x)⟩
def iEnumT (K : PySem.W.Frag) (ta : TA) : TI := fun σ H R => ta σ H fun vs H1 => ∃ a xs, vs = [.ref a] ∧ SqT K H1 a xs ∧ R (IteT K a) H1
theorem pi_enumT {X : Cx} {e : Expr} {ta : TA} {p pos tpos : Pos} {elts : List Expr} {kk : Nat} (hg : Gl X "enumerate") (hm : X.mg "enumerate" = none) (ha : PA X [e] ta) (hs : starEach [e] X.env = [(false, eval e X.env)] := by rfl) :
    PI X (.Tuple elts kk tpos) (.Call (.Name "enumerate" p) [e] [] pos) (iEnumT X.K ta) := by
  refine ⟨fun pins s σ H R I h => ?_⟩
  refine Call_ (ld_blt I hg hm boot_enumerate (PyProof.Rows.callWith_type1 (thn (ha.run pos pins s σ H _ I h) fun us s1 ⟨vs, H1, I1, r1, q1⟩ => ?_) hs rfl))
  obtain ⟨a, xs, ex, hq, q⟩ := q1
  subst ex
  cases r1 with
  | cons r rr =>
    cases rr
    cases r
    obtain ⟨its, rv, p', hz⟩ := I1.tuple hq
    refine enum_beginsV (begins_tuple a its.toArray) (show s1.heap.IsTuple a its.toArray from p') fun h' he hit hsz hk => wpAny_pyIter_enum he ?_
    have I2 : Inv X pins σ H1 { s1 with heap := h' } := I1.kept (t' := s1.toks) hk
    refine ⟨s1.heap.objs.size + 1, [s1.heap.objs.size + 1, s1.heap.objs.size], _, _, H1, rfl, I2, turn_enumT a (s1.heap.objs.size + 1) s1.heap.objs.size, ⟨⟨.none, he⟩, ⟨_, hit, rfl, rfl⟩, Nat.succ_ne_self _⟩, fun b hb => ?_, q⟩
    have e' : b = s1.heap.objs.size + 1 ∨ b = s1.heap.objs.size := by simpa using hb
    have hle : s1.heap.objs.size ≤ b := by
      rcases e' with z | z
      · rw [z]; exact Nat.le_add_right _ _
      · rw [z]; exact Nat.le_refl _
    exact I1.fpOk hle (I1.hok.fresh hle)
theorem walk_enumT {K : PySem.W.Frag} {a : Addr} {xs : List V} : Walk (IteT K a) xs.length (fun H => SqT K H a xs) (YPair (fun i => some (.int (i : Nat))) (fun i => xs[i]?)) :=
  ⟨fun i _ hi q => ⟨xs, xs[i], q, by simp [hi]⟩, fun _ q => ⟨xs, q, Nat.le_refl _⟩, fun i H v H' _ q y => by
    obtain ⟨T, x, e1, e2, e3, e4⟩ := y
    exact ⟨T, _, x, e1, e2, e3, rfl, e4 xs q⟩⟩
end S
end

section
set_option maxRecDepth 100000
set_option maxHeartbeats 4000000
/-! Data of tuples; the keys of the makers; KEYS; sided; ways. -/
namespace S
open PySem PySem.Spec PyProof.Rows L2 SM
/-! ### data of tuples -/
def Asc (x : Str) : Prop := ∀ c ∈ cs x, c < 1114112
inductive Tn : Nat → PyData → Prop where
  | bool {n : Nat} (b : Bool) : Tn n (.bool b)
  | int {n : Nat} (i : Int) : Tn n (.int i)
  | str {n : Nat} (x : Str) (h : Asc x) : Tn n (.str x)
  | tup {n : Nat} (ds : List PyData) (h : ∀ d ∈ ds, Tn n d) : Tn (n + 1) (.tuple ds)
theorem tn_can : ∀ (n : Nat) (d : PyData), Tn n d → d.canLay0 = true ∧ d.depth ≤ n := by
  intro n
  induction n with
  | zero =>
    intro d h
    cases h with
    | bool b => exact ⟨rfl, Nat.le_refl _⟩
    | int i => exact ⟨rfl, Nat.le_refl _⟩
    | str x h =>
      refine ⟨?_, Nat.le_refl _⟩
      show PySem.PyData.strOk x = true
      unfold PySem.PyData.strOk
      rw [Array.all_eq_true_iff_forall_mem]
      exact fun c hc => decide_eq_true (h c (Array.mem_toList_iff.mpr hc))
  | succ n ih =>
    intro d h
    cases h with
    | bool b => exact ⟨rfl, Nat.zero_le _⟩
    | int i => exact ⟨rfl, Nat.zero_le _⟩
    | str x h =>
      refine ⟨?_, Nat.zero_le _⟩
      show PySem.PyData.strOk x = true
      unfold PySem.PyData.strOk
      rw [Array.all_eq_true_iff_forall_mem]
      exact fun c hc => decide_eq_true (h c (Array.mem_toList_iff.mpr hc))
    | tup ds h =>
      have all : ∀ l : List PyData, (∀ d ∈ l, Tn n d) → PyData.canLayAll0 l = true ∧ PyData.depthAll l ≤ n := by
        intro l
        induction l with
        | nil => exact fun _ => ⟨rfl, Nat.zero_le _⟩
        | cons a l il =>
          intro hl
          obtain ⟨a1, a2⟩ := ih a (hl a List.mem_cons_self)
          obtain ⟨b1, b2⟩ := il fun d hd => hl d (List.mem_cons_of_mem _ hd)
          refine ⟨?_, ?_⟩
          · show (PyData.canLay0 a && PyData.canLayAll0 l) = true
            rw [a1, b1] <;> rfl
          · show max (PyData.depth a) (PyData.depthAll l) ≤ n
            exact Nat.max_le.mpr ⟨a2, b2⟩
      obtain ⟨a1, a2⟩ := all ds h
      exact ⟨a1, Nat.succ_le_succ a2⟩
theorem tn_shaped {n : Nat} {d : PyData} (h : Tn n d) (hn : n ≤ 64) : SeqAt.shaped d = true := by
  obtain ⟨a, b⟩ := tn_can n d h
  unfold SeqAt.shaped
  rw [a, decide_eq_true (show d.depth ≤ 64 by omega)] <;> rfl
theorem tn_none {n : Nat} {d : PyData} (h : Tn n d) : d ≠ .none := by
  cases h <;> exact fun z => by cases z
/-- the heap without one thing -/
def del (D : Addr) (H : Hp) : Hp := fun b => if b = D then none else H b
theorem del_ne {D b : Addr} {H : Hp} (h : b ≠ D) : del D H b = H b := by unfold del; rw [if_neg h]
theorem del_at {D : Addr} {H : Hp} : del D H D = none := by unfold del; rw [if_pos rfl]
theorem del_sub (D : Addr) (H : Hp) : Same (del D H) H := fun b o e => by
  by_cases hb : b = D
  · rw [hb, del_at] at e; cases e
  · rw [del_ne hb] at e; exact e
theorem del_upd (D : Addr) (H : Hp) (u : HO) : del D (upd H D u) = del D H := by
  funext b
  by_cases hb : b = D
  · rw [hb, del_at, del_at]
  · rw [del_ne hb, del_ne hb, upd_ne hb]
theorem del_same {D : Addr} {H H' : Hp} (e : Same H H') : Same (del D H) (del D H') := fun b o eb => by
  by_cases hb : b = D
  · rw [hb, del_at] at eb; cases eb
  · rw [del_ne hb] at eb ⊢; exact e b o eb
theorem del_in {D : Addr} {H H' : Hp} (hD : H D = none) (e : Same H H') : Same H (del D H') := fun b o eb => by
  rw [del_ne (ne_of_none eb hD)]
  exact e b o eb
theorem sqt_del {K : PySem.W.Frag} {H : Hp} {D a : Addr} {l xs : List V} (hD : H D = some (.lst l)) (h : SqT K H a xs) : SqT K (del D H) a xs := by
  have ne : ∀ o, H a = some o → o ≠ .lst l → a ≠ D := fun o e n q => by
    subst q
    rw [e] at hD
    exact n (Option.some.inj hD)
  rcases h with (h | ⟨o, h⟩) | h
  · exact .inl (.inl (by rw [del_ne (ne _ h (by intro z; cases z))]; exact h))
  · exact .inl (.inr ⟨o, by rw [del_ne (ne _ h (by intro z; cases z))]; exact h⟩)
  · exact .inr h
theorem dp_del {K : PySem.W.Frag} {H : Hp} {D : Addr} {l : List V} (hD : H D = some (.lst l)) : ∀ (n : Nat) (d : PyData) (v : V), Tn n d → Dp K H v d → Dp K (del D H) v d := by
  intro n
  induction n with
  | zero =>
    intro d v ht h
    cases ht with
    | bool b => cases h; exact .bl b
    | int i => cases h; exact .int i
    | str x _ => cases h; exact .str x
  | succ n ih =>
    intro d v ht h
    cases ht with
    | bool b => cases h; exact .bl b
    | int i => cases h; exact .int i
    | str x _ => cases h; exact .str x
    | tup ds hds =>
      cases h with
      | tup hs ha =>
        refine .tup (sqt_del hD hs) ?_
        have all : ∀ (es : List PyData) (vs : List V), (∀ d ∈ es, Tn n d) → DpAll K H vs es → DpAll K (del D H) vs es := by
          intro es
          induction es with
          | nil => intro vs _ h; cases h; exact .nil
          | cons a es il =>
            intro vs hl h
            cases h with
            | cons h1 h2 => exact .cons (ih a _ (hl a List.mem_cons_self) h1) (il _ (fun d hd => hl d (List.mem_cons_of_mem _ hd)) h2)
        exact all ds _ hds ha
theorem dpAll_app {K : PySem.W.Frag} {H : Hp} {v : V} {d : PyData} (h : Dp K H v d) : ∀ {vs : List V} {ds : List PyData}, DpAll K H vs ds → DpAll K H (vs ++ [v]) (ds ++ [d])
  | _, _, .nil => .cons h .nil
  | _, _, .cons a b => .cons a (dpAll_app h b)
theorem dpAll_len {K : PySem.W.Frag} {H : Hp} : ∀ {vs : List V} {ds : List PyData}, DpAll K H vs ds → vs.length = ds.length
  | _, _, .nil => rfl
  | _, _, .cons a b => by rw [List.length_cons, List.length_cons, dpAll_len b]
/-! ### keys are such data -/
theorem asc_digits {x : Str} (h : NumText.AllDigits (cs x)) : Asc x := fun c hc => by
  have := h c hc

  omega
theorem asc_low {x : Str} (h : ∀ c ∈ cs x, Low c) : Asc x := fun c hc => by
  have := (h c hc).2
  omega
theorem asc_points {x : Str} (h : OkPoints x) : Asc x := by
  rcases h with rfl | h
  · intro c hc
    rw [emp_cs] at hc
    cases hc
  · exact asc_digits h.2.1
theorem asc_maker {x : Str} (h : OkMaker x) : Asc x := by
  obtain ⟨a, l, e, ha, hl⟩ := h
  intro c hc
  rw [e] at hc
  rcases List.mem_cons.mp hc with rfl | hc
  · have := ha.2; omega
  · have := hl.2.1 c hc
    
    omega
theorem tn_whole {n : Nat} (x : Str) : Tn (n + 1) (wholeOf x) := by
  unfold wholeOf
  split
  · refine .tup _ fun d hd => ?_
    simp only [List.mem_cons, List.not_mem_nil, or_false] at hd
    rcases hd with rfl | rfl | rfl <;> exact .int _
  · refine .tup _ fun d hd => ?_
    simp only [List.mem_cons, List.not_mem_nil, or_false] at hd
    rcases hd with rfl | rfl | rfl <;> exact .int _
theorem asc_figO {y : Option Int} (h : ∀ n, y = some n → 0 ≤ n) : Asc (figO y) := by
  cases y with
  | none => intro c hc; exact absurd (show c ∈ cs emp from hc) (by rw [emp_cs]; exact List.not_mem_nil)
  | some n => exact asc_digits (figs_digits (h n rfl))
theorem tn_pair {n : Nat} {a b : PyData} (ha : Tn n a) (hb : Tn n b) : Tn (n + 1) (.tuple [a, b]) := by
  refine .tup _ fun d hd => ?_
  simp only [List.mem_cons, List.not_mem_nil, or_false] at hd
  rcases hd with rfl | rfl
  · exact ha
  · exact hb
theorem tn_strs {n : Nat} {xs : List Str} (h : ∀ x ∈ xs, OkMaker x) : Tn (n + 1) (.tuple (xs.map .str)) := by
  refine .tup _ fun d hd => ?_
  obtain ⟨x, hx, rfl⟩ := List.mem_map.mp hd
  exact .str x (asc_maker (h x hx))
theorem tn_mkW {n : Nat} {x : Str} (h : OkMaker x) : Tn (n + 2) (mkW x) := by
  refine tn_pair (.str _ ?_) (tn_whole _)
  intro c hc
  have : c ∈ (cs x).take 1 := hc
  exact asc_maker h c (List.mem_of_mem_take this)
theorem tn_key {j : Nat} (hj : j < 17) {u : PV} (h : OkP (wp j) u) : Tn 3 (keyP j u) := by
  have e : j = 0 ∨ j = 1 ∨ j = 2 ∨ j = 3 ∨ j = 4 ∨ j = 5 ∨ j = 6 ∨ j = 7 ∨ j = 8 ∨ j = 9 ∨ j = 10 ∨ j = 11 ∨ j = 12 ∨ j = 13 ∨ j = 14 ∨ j = 15 ∨ j = 16 := by omega
  rcases e with rfl | rfl | rfl | rfl | rfl | rfl | rfl | rfl | rfl | rfl | rfl | rfl | rfl | rfl | rfl | rfl | rfl <;> cases u <;> simp only [wp, OkP] at h <;> simp only [keyP]
  · exact .str _ (asc_low h.2.2)
  · exact tn_pair (.int _) (.str _ (asc_low h.2.2))
  · exact .int _
  · exact .str _ (asc_digits (figs_digits (by omega)))
  · exact .str _ (asc_points h)
  · exact tn_whole _
  · exact tn_pair (.bool _) (.str _ (asc_points h))
  · exact tn_strs h.2
  · refine .tup _ fun d hd => ?_
    obtain ⟨x, hx, rfl⟩ := List.mem_map.mp hd
    exact tn_mkW (h.2 x hx)
  · exact tn_pair (.int _) (tn_strs h.2)
  · exact .int _
  · exact .int _
  · exact .int _
  · exact .str _ (asc_figO fun n e => by have := h n e; omega)
  · exact .int _
  · exact .int _
  · exact .str _ (asc_figO fun n e => by have := h n e; omega)
end S
end

section
set_option maxRecDepth 100000
set_option maxHeartbeats 4000000
/-! Defs: makers_whole, key_by, sided, ways. -/
namespace S
open PySem PySem.Spec PyProof.Rows L2 SM
section
variable {P : Program} {w : World} {K : PySem.W.Frag} {mg : Str → Option Value} {base : Heap} {CM : Addr}
abbrev s_makers_whole : Stmt := top 50
theorem sc_makers_whole : FnScope ["mark", "maker"] ["mark"] (defScope s_makers_whole) := ⟨rfl, rfl, rfl, by decide +kernel, rfl, by decide +kernel, by decide +kernel⟩
theorem b_makers_whole (T : Free mg) (g4 : C8.Met P w K mg base 1 CM "makers" (spTellM K CM) []) (G_whole_of : C8.Cal P w K mg base 2 "whole_of" (spWholeOf K) []) : Body P w K mg base 2 ["mark", "maker"] "makers_whole" s_makers_whole (spWay K CM 8) := by
  intro f cdv A outer s H vs Q E hr h
  obtain ⟨r, m, rfl, hM, k⟩ := h
  have hM2 := hM
  obtain ⟨ok, dx, t, hH, ht⟩ := hM2
  have nd := sc_makers_whole.nd
  have hmk := (okm ok).2.2.2.1
  have sz := sizeLine_eq
  refine ⟨_, (pss_one (ps_ret (pe_tupleOf (by rfl) T.tuple (pe_lc (own := [("maker", 1)]) (g := gName 1) (tt := tYes) (by rfl) nd (pi_tup (C8.pe_mt0 g4 hr (by decide) (pv 0))) (blkOk_by (own := [("maker", 1)]) (N := ["mark", "maker"]) (sc := defScope s_makers_whole) (by decide +kernel)) (fun _ _ _ _ _ => (pg_name (i := 1) nd rfl (Or.inl rfl))) (fun _ _ _ _ _ => pts_nil) (fun _ _ _ _ _ => (pe_tup (pa_cons (pe_ix ix_str (pv 1) pe_int (fun _ _ => rfl)) (pa_cons (C8.pe_c G_whole_of hr (by decide) rfl (pa_cons (pe_slice sl_str (pv 1) (po_some pe_int) po_none) pa_nil)) pa_nil)))))))), ?_⟩
  refine ⟨_, rfl, r, dx, _, rfl, hH, rfl, r, m, rfl, hM, fun t ht => ⟨t, rfl, ⟨_, ht⟩, fun D hD => lc_it (walk_tup (xs := m.makers.map V.str)) (fun j H' => ∃ vs, H' D = some (.lst vs) ∧ DpAll K (del D H') vs ((m.makers.take j).map mkW) ∧ Same H (del D H')) ?_ ?_ ?_ ?_⟩⟩
  · refine ⟨[], upd_same, .nil, ?_⟩
    exact del_in hD (same_new hD)
  · rintro i H' _ ⟨vs, h1, h2, h3⟩
    exact same_sqt (h3.trans (del_sub D H')) ht
  · rintro i x H1 H2 hi ⟨vs, h1, h2, h3⟩ ⟨rfl, hx⟩
    obtain ⟨y, hy, rfl⟩ := at_map hx
    have hyM := hmk.2 y (List.mem_of_getElem? hy)
    obtain ⟨a, l, e, ha, hl⟩ := id hyM
    have hz := maker_le hyM
    refine ⟨rfl, ?_⟩
    dsimp only [tYes]
    refine iteT ?_
    refine ⟨_, rfl, y, 0, a, rfl, rfl, by omega, ?_, _, rfl, _, rfl, y, rfl, by omega, _, rfl, ?_, ?_, fun v H3 sm hv => ⟨(by decide : 2 ≤ sizeLine), fun p hp => ?_⟩⟩
    · show atI (cs y) 0 = some a
      rw [e]
      exact atI_nat (j := 0) rfl
    · right
      rw [cut_tail, e]
      exact hl.2.1
    · rw [cs_len, cut_tail, List.length_drop, ← cs_len]
      omega
    · have eT : cutS y (some 1) none = tl1 y := cs_inj (cut_tail y)
      have eH : (⟨#[a]⟩ : Str) = hd1 y := cs_inj (by
        show [a] = (cs y).take 1
        rw [e] <;> rfl)
      rw [eT] at hv
      have hD3 : H3 D = some (.lst vs) := sm _ _ h1
      have pD : p ≠ D := fun z => by rw [z, hD3] at hp; cases hp
      have hlen := dpAll_len h2
      rw [List.length_map, List.length_take] at hlen
      refine ⟨vs, by rw [upd_ne (Ne.symm pD)]; exact hD3, by omega, _, upd_same, ?_, ?_⟩
      · rw [del_upd]
        have s3 : Same (del D H2) (del D (upd H3 p (.tup [V.str ⟨#[a]⟩, v]))) := (del_same sm).trans (del_same (same_new hp))
        have eM : (m.makers.take (i + 1)).map mkW = (m.makers.take i).map mkW ++ [mkW y] := by
          rw [List.take_add_one, hy, List.map_append] <;> rfl
        rw [eM]
        refine dpAll_app ?_ (dp_sameAll s3 _ _ h2)
        have hv2 : Dp K (del D H3) v (wholeOf (tl1 y)) := dp_del hD3 1 _ _ (tn_whole _) hv
        refine .tup (xs := [V.str ⟨#[a]⟩, v]) (.of (by rw [del_ne pD, upd_same])) (.cons (by rw [eH]; exact .str _) (.cons ?_ .nil))
        exact dp_same (del_same (same_new hp)) _ _ hv2
      · rw [del_upd]
        exact h3.trans ((del_same sm).trans (del_same (same_new hp)))
  · rintro H' ⟨vs, h1, h2, h3⟩
    refine .inl ⟨D, vs, rfl, .of h1, fun q hq => k _ _ ((h3.trans (del_sub D H')).trans (same_new hq)) (.tup (.of upd_same) ?_)⟩
    have e : m.makers.take (m.makers.map V.str).length = m.makers := by rw [List.length_map, List.take_length]
    rw [e] at h2
    exact dp_sameAll ((del_sub D H').trans (same_new hq)) _ _ h2
theorem makers_whole_ (D : DefT K mg "makers_whole" s_makers_whole []) (T : Free mg) (g4 : C8.Met P w K mg base 1 CM "makers" (spTellM K CM) []) (G : C8.Cal P w K mg base 2 "whole_of" (spWholeOf K) []) : C8.Cal P w K mg base 3 "makers_whole" (spWay K CM 8) [] :=
  cal_of D sc_makers_whole (fun _ _ _ _ _ _ us hl => match us, hl with | [_], _ => rfl) way_len (b_makers_whole T g4 G)
/-! ### names of the parts and of the ways -/
def PNs : List Str := ["letters", "number", "points", "makers", "year", "copy"]
def PN (p : Nat) : Str := PNs.getD p emp
def WNs : List Str := ["letters words", "letters short", "number whole", "number figures", "points decimal", "points whole", "points late", "makers decimal", "makers whole", "makers few", "year rising", "year falling", "year late", "year figures", "copy rising", "copy falling", "copy figures"]
def WN (j : Nat) : Str := WNs.getD j emp
def WWs : List Str := ["words", "short", "whole", "figures", "decimal", "whole", "late", "decimal", "whole", "few", "rising", "falling", "late", "figures", "rising", "falling", "figures"]
def WW (j : Nat) : Str := WWs.getD j emp
def waysOf (p : Nat) : List Nat := (List.range 17).filter fun j => decide (wp j = p)
theorem wn_eq : ∀ j : Fin 17, ((Str.empty ++ PN (wp j.val)) ++ Str.ofString " ") ++ WW j.val = WN j.val := by decide +kernel
theorem wn_starts : ∀ p : Fin 6, ∀ j : Fin 17, Txt.startswith (WN j.val) ((Str.empty ++ PN p.val) ++ Str.ofString " ") = decide (wp j.val = p.val) := by decide +kernel
theorem wn_cut : ∀ j : Fin 17, cutS (WN j.val) (some (((PN (wp j.val)).length : Int) + 1)) none = WW j.val := by decide +kernel
theorem pn_len : ∀ p, (PN p).length ≤ 7 := by
  have h : ∀ p : Fin 6, (PN p.val).length ≤ 7 := by decide +kernel
  intro p
  by_cases hp : p < 6
  · exact h ⟨p, hp⟩
  · unfold PN
    rw [List.getD_eq_getElem?_getD, List.getElem?_eq_none (by show 6 ≤ p; omega)]
    decide +kernel
theorem ww_len : ∀ j, (WW j).length ≤ 7 := by
  have h : ∀ p : Fin 17, (WW p.val).length ≤ 7 := by decide +kernel
  intro p
  by_cases hp : p < 17
  · exact h ⟨p, hp⟩
  · unfold WW
    rw [List.getD_eq_getElem?_getD, List.getElem?_eq_none (by show 17 ≤ p; omega)]
    decide +kernel
/-! ### a call of a local name that holds a way -/
section
variable {X : Cx} {k i : Nat} {x : Str} {p pos : Pos} {e : Expr} {es : List Expr} {t : TA}
structure Ways (P : Program) (w : World) (K : PySem.W.Frag) (mg : Str → Option Value) (base : Heap) (CM : Addr) (ka : Nat → Addr) : Prop where
  held : ∀ j, j < 17 → Held P w K mg base 3 (ka j) (spWay K CM j)
def tCallW (i : Nat) (ka : Nat → Addr) (sp : Nat → Sp) (t : TA) : TE := fun σ H Q => ∃ j, j < 17 ∧ σ[i]? = some (some (.ref (ka j))) ∧ t σ H fun vs H1 => sp j vs H1 Q (fun _ _ _ => False)
theorem pe_callW {ka : Nat → Addr} {CM : Addr} (A : Ways X.prog X.w X.K X.mg X.base CM ka) (hr : Room k X.A) (hk : 3 ≤ k) (hN : X.N[i]? = some x) (hv : Vis X.env.scope x) (ha : PA X (e :: es) t)
    (hdb : (x == ("__debug__" : Str)) = false := by decide) (hcd : (x == ("__classdict__" : Str)) = false := by decide)
    (he : starEach (e :: es) X.env = (false, eval e X.env) :: starEach es X.env := by rfl) (hpl : (backTo pos (starEach es X.env)).any (·.1) = false := by rfl) : PE X (.Call (.Name x p) (e :: es) [] pos) (tCallW i ka (spWay X.K CM) t) := by
  refine ⟨fun pins s σ H Q I h => ?_⟩
  obtain ⟨j, hj, hs, ht⟩ := h
  obtain ⟨fd, ps, F, hk2, hb⟩ := (A.held j hj).ex
  refine (pe_callL (i := i) (f := ka j) (sp := spWay X.K CM j) (dvs := []) (E := fun _ _ _ => False) F (hr.mono hk) hN hv hk2 hb .nil (fun _ _ _ _ _ _ _ z => z.elim) ha hdb hcd he hpl).run pins s σ H Q I ⟨hs, ?_⟩
  have e0 : (fun (vs : List V) (H1 : Hp) => spWay X.K CM j (vs ++ []) H1 Q (fun _ _ _ => False)) = fun vs H1 => spWay X.K CM j vs H1 Q (fun _ _ _ => False) := by
    funext vs H1
    rw [List.append_nil]
  show t σ H (fun vs H1 => spWay X.K CM j (vs ++ []) H1 Q (fun _ _ _ => False))
  rw [e0]
  exact ht
end
/-! ### key_by, sided -/
structure KeysF (K : PySem.W.Frag) (w : World) (kA : Addr) (ka : Nat → Addr) : Prop where
  names : KNames K kA WNs
  at_ : ∀ j, j < 17 → KDct K w kA (WN j) (.ref (ka j))
def spKeyBy (ka : Nat → Addr) : Sp := fun vs H Q _ => ∃ j, j < 17 ∧ vs = [.str (PN (wp j)), .str (WW j)] ∧ Q (.ref (ka j)) H
abbrev sKeyBy : Stmt := top 63
theorem scKeyBy : FnScope ["part", "way"] ["part", "way"] (defScope sKeyBy) := ⟨rfl, rfl, rfl, by decide +kernel, rfl, by decide +kernel, by decide +kernel⟩
theorem b_key_by {kA : Addr} {ka : Nat → Addr} (c_KEYS : Con mg "KEYS" (.ref kA)) (F : KeysF K w kA ka) : Body P w K mg base 0 ["part", "way"] "key_by" sKeyBy (spKeyBy ka) := by
  intro f cdv A outer s H vs Q E hr h
  obtain ⟨j, hj, rfl, k⟩ := h
  refine ⟨_, (pss_one (ps_ret (pe_ix ix_kdict (C8.pe_gc rfl c_KEYS) (pe_joined (.cons (pe_fmt (pv 0)) (.cons pe_str (.cons (pe_fmt (pv 1)) .nil)))) (fun _ _ => rfl)))), ?_⟩
  have sz := sizeLine_eq
  have l1 := pn_len (wp j)
  have l2 := ww_len j
  have l3 : (Str.ofString " ").length = 1 := by decide +kernel
  have e := wn_eq ⟨j, hj⟩
  refine ⟨_, rfl, .inl ⟨_, rfl, by omega, _, rfl, by rw [emp_app]; omega, _, rfl, by rw [emp_app, app_len]; omega, _, rfl, .inl ⟨_, rfl, by omega, _, rfl, by rw [emp_app, app_len, app_len]; omega, ?_⟩⟩⟩
  exact ⟨kA, _, _, rfl, rfl, by rw [e]; exact F.at_ j hj, k⟩
theorem key_by_ {kA : Addr} {ka : Nat → Addr} (D : DefT K mg "key_by" sKeyBy []) (c : Con mg "KEYS" (.ref kA)) (F : KeysF K w kA ka) : C8.Cal P w K mg base 1 "key_by" (spKeyBy ka) [] :=
  cal_of D scKeyBy (fun _ _ _ _ _ _ us hl => match us, hl with | [_, _], _ => rfl) (fun vs H Q E h => by
    obtain ⟨_, _, rfl, _⟩ := h
    rfl) (b_key_by c F)
def spSided (K : PySem.W.Frag) (CM : Addr) : Sp := fun vs H Q _ => ∃ (j : Nat) (r1 r2 : Addr) (m1 m2 : Mk), j < 17 ∧ vs = [.str (PN (wp j)), .str (WW j), .ref r1, .ref r2] ∧ MarkAt K CM H r1 m1 ∧ MarkAt K CM H r2 m2 ∧ ∀ H', Same H H' → Q (.int (ans m1 m2 j)) H'
abbrev sSided : Stmt := top 64
theorem scSided : FnScope ["part", "way", "one", "other", "key", "left", "right"] ["part", "way", "one", "other"] (defScope sSided) := ⟨rfl, rfl, rfl, by decide +kernel, rfl, by decide +kernel, by decide +kernel⟩
theorem b_sided {ka : Nat → Addr} (W : Ways P w K mg base CM ka) (G_key_by : C8.Cal P w K mg base 1 "key_by" (spKeyBy ka) []) : Body P w K mg base 3 ["part", "way", "one", "other", "key", "left", "right"] "sided" sSided (spSided K CM) := by
  intro f cdv A outer s H vs Q E hr h
  obtain ⟨j, r1, r2, m1, m2, hj, rfl, h1, h2, k⟩ := h
  have nd := scSided.nd
  have hu := hr.units
  refine ⟨_, (pss_cons (ps_set (i := 4) nd rfl (Or.inl rfl) (C8.pe_c G_key_by hr (by decide) rfl (pa_cons (pv 0) (pa_cons (pv 1) pa_nil))))
      (pss_cons (ps_set (i := 5) nd rfl (Or.inl rfl) (pe_callW (i := 4) W hr (Nat.le_refl _) rfl (by first | exact .inl rfl | exact .inr (.inl rfl)) (pa_cons (pv 2) pa_nil)))
      (pss_cons (ps_set (i := 6) nd rfl (Or.inl rfl) (pe_callW (i := 4) W hr (Nat.le_refl _) rfl (by first | exact .inl rfl | exact .inr (.inl rfl)) (pa_cons (pv 3) pa_nil)))
      (pss_cons (ps_if (pt_cmpR (op_eqD hu) (pv 5) (pv 6) (nomark _))
        (pss_one (ps_ret pe_int))
        pss_nil)
      (pss_one (ps_ret (pe_ifExp (pt_cmpR (op_ltD hu) (pv 5) (pv 6) (nomark _)) (pe_un un_neg pe_int) pe_int))))))), ?_⟩
  have o1 := h1.1 _ (wp_lt j hj)
  have o2 := h2.1 _ (wp_lt j hj)
  have t1 := tn_key hj o1
  have t2 := tn_key hj o2
  have hal := key_alike hj o1 o2
  refine ⟨_, rfl, _, rfl, j, hj, rfl, j, hj, rfl, _, rfl, r1, m1, rfl, h1, fun v1 H1 s1 d1 => ?_⟩
  refine ⟨j, hj, rfl, _, rfl, r2, m2, rfl, mark_same s1 h2, fun v2 H2 s2 d2 => ?_⟩
  have d1' := dp_same s2 _ _ d1
  refine ⟨_, rfl, _, rfl, _, _, d1', d2, tn_shaped t1 (by decide), tn_shaped t2 (by decide), _, rfl, ?_⟩
  have e : ans m1 m2 j = sideD (keyP j (m1.get (wp j))) (keyP j (m2.get (wp j))) := rfl
  cases q : PyData.eqv (keyP j (m1.get (wp j))) (keyP j (m2.get (wp j))) with
  | true =>
    refine iteT ?_
    have z := sideD_of q (c := PySem.W.dataLt (keyP j (m1.get (wp j))) (keyP j (m2.get (wp j)))) rfl
    rw [if_pos rfl] at z
    have k2 := k H2 (s1.trans s2)
    rw [e, z] at k2
    exact k2
  | false =>
    refine iteF ?_
    refine ⟨_, rfl, _, rfl, _, _, d1', d2, hal, tn_none t1, ?_, _, rfl, ?_⟩
    · have := (tn_can _ _ t1).2
      omega
    have z := sideD_of q (c := PySem.W.dataLt (keyP j (m1.get (wp j))) (keyP j (m2.get (wp j)))) rfl
    rw [if_neg Bool.false_ne_true] at z
    have k2 := k H2 (s1.trans s2)
    rw [e, z] at k2
    cases q2 : PySem.W.dataLt (keyP j (m1.get (wp j))) (keyP j (m2.get (wp j))) with
    | true =>
      rw [q2, if_pos rfl] at k2
      exact iteT ⟨_, rfl, k2⟩
    | false =>
      rw [q2, if_neg Bool.false_ne_true] at k2
      exact iteF k2
theorem sided_ {ka : Nat → Addr} (D : DefT K mg "sided" sSided []) (W : Ways P w K mg base CM ka) (G : C8.Cal P w K mg base 1 "key_by" (spKeyBy ka) []) : C8.Cal P w K mg base 4 "sided" (spSided K CM) [] :=
  cal_of D scSided (fun _ _ _ _ _ _ us hl => match us, hl with | [_, _, _, _], _ => rfl) (fun vs H Q E h => by
    obtain ⟨_, _, _, _, _, _, rfl, _⟩ := h
    rfl) (b_sided W G)
/-! ### ways -/
def spWays : Sp := fun vs H Q _ => ∃ p, p < 6 ∧ vs = [.str (PN p)] ∧ ∀ a H', Same H H' → H' a = some (.lst ((waysOf p).map fun j => V.str (WW j))) → Q (.ref a) H'
structure PartsF (K : PySem.W.Frag) (pA : Addr) : Prop where
  at_ : ∀ H, SqT K H pA (PNs.map V.str)
abbrev sWays : Stmt := top 62
theorem scWays : FnScope ["part", "row"] ["part"] (defScope sWays) := ⟨rfl, rfl, rfl, by decide +kernel, rfl, by decide +kernel, by decide +kernel⟩
theorem pn_in : ∀ p : Fin 6, inV (.str (PN p.val)) (PNs.map V.str) = true := by decide +kernel
def someWays (p i : Nat) : List Nat := (List.range i).filter fun j => decide (wp j = p)
theorem someWays_succ (p i : Nat) : someWays p (i + 1) = if wp i = p then someWays p i ++ [i] else someWays p i := by
  unfold someWays
  rw [List.range_succ, List.filter_append]
  by_cases h : wp i = p
  · rw [if_pos h, List.filter_cons, if_pos (by exact decide_eq_true h)] <;> rfl
  · rw [if_neg h, List.filter_cons, if_neg (by rw [decide_eq_false h]; exact Bool.false_ne_true), List.filter_nil, List.append_nil]
theorem b_ways (T : Free mg) {kA pA : Addr} {ka : Nat → Addr} (c_KEYS : Con mg "KEYS" (.ref kA)) (c_PARTS : Con mg "PARTS" (.ref pA)) (F : KeysF K w kA ka) (FP : PartsF K pA) : Body P w K mg base 0 ["part", "row"] "ways" sWays spWays := by
  intro f cdv A outer s H vs Q E hr h
  obtain ⟨p, hp, rfl, k⟩ := h
  have nd := scWays.nd
  refine ⟨_, (pss_cons (ps_if (PW.pt (pw_or (pt_not (pt_val (pe_callB call_isi (by rfl) T.isinstance boot_isinstance (pa_cons (pv 0) (pa_cons (pe_bltn (v := .ty "str") (by rfl) T.str boot_str rfl) pa_nil))))) (pw_or1 (pt_cmpR op_notIn_seq (pv 0) (C8.pe_gc rfl c_PARTS) rfl))))
        (pss_one (ps_never))
        pss_nil)
      (pss_one (ps_ret (pe_lc (own := [("row", 1)]) (g := gName 1) (by rfl) nd (pi_kd (C8.pe_gc rfl c_KEYS)) (blkOk_by (own := [("row", 1)]) (N := ["part", "row"]) (sc := defScope sWays) (by decide +kernel)) (fun _ _ _ _ _ => (pg_name (i := 1) nd rfl (Or.inl rfl))) (fun _ _ _ _ _ => (pts_one (pt_val (pe_m1 PySem.F.slot_str_startswith PySem.F.type_str_startswith mt_startswith (pv 1) (pe_joined (.cons (pe_fmt (pv 0)) (.cons pe_str .nil))))))) (fun _ _ _ _ _ => (pe_slice sl_str (pv 1) (po_some (pe_op op_add (pe_callB call_len_str (by rfl) T.len boot_len (pa_cons (pv 0) pa_nil)) pe_int)) po_none)))))), ?_⟩
  have sz := sizeLine_eq
  have l1 := pn_len p
  have l3 : (Str.ofString " ").length = 1 := by decide +kernel
  refine ⟨_, rfl, _, _, _, _, true, rfl, .ty "str", .base (.str _), kit_ty (by decide +kernel), _, rfl, iteF ?_⟩
  refine ⟨_, rfl, pA, _, rfl, .inr (FP.at_ _), rfl, by decide +kernel, _, rfl, ?_⟩
  rw [if_pos rfl, pn_in ⟨p, hp⟩]
  refine iteF ?_
  refine ⟨kA, WNs, rfl, F.names, fun D hD => lc_it walk_kd (fun i H' => H' = upd H D (.lst ((someWays p i).map fun j => V.str (WW j)))) rfl (fun _ _ _ _ => True.intro) ?_ ?_⟩
  · rintro i x H1 H2 hi rfl ⟨rfl, z, hz, rfl⟩
    have hi17 : i < 17 := hi
    have ez : z = WN i := by
      unfold WN
      rw [List.getD_eq_getElem?_getD, hz] <;> rfl
    subst ez
    refine ⟨rfl, ?_⟩
    refine ⟨_, rfl, ⟨_, rfl⟩, _, rfl, .inl ⟨_, rfl, by omega, _, rfl, by rw [emp_app]; omega, _, rfl, by rw [emp_app, app_len]; omega, _, _, rfl, rfl, _, rfl, ?_⟩⟩
    have st := wn_starts ⟨p, hp⟩ ⟨i, hi17⟩
    dsimp only at st
    rw [st, someWays_succ]
    by_cases hw : wp i = p
    · rw [decide_eq_true hw, if_pos hw]
      refine iteT ⟨_, rfl, _, rfl, _, rfl, by omega, _, _, rfl, rfl, _, rfl, _, rfl, ?_, _, upd_same, ?_, ?_⟩
      · have : WNs.all (fun z => decide (z.length ≤ 60)) = true := by decide +kernel
        have := of_decide_eq_true (List.all_eq_true.mp this _ (List.mem_of_getElem? hz))
        omega
      · rw [List.length_map]
        have : (someWays p i).length ≤ i := Nat.le_trans (List.length_filter_le _ _) (by rw [List.length_range]; exact Nat.le_refl _)
        omega
      · have e := wn_cut ⟨i, hi17⟩
        dsimp only at e
        rw [hw] at e
        rw [upd_upd, List.map_append, e] <;> rfl
    · rw [decide_eq_false hw, if_neg hw]
      exact iteF rfl
  · rintro _ rfl
    exact k D _ (same_new hD) upd_same
theorem ways_ (D : DefT K mg "ways" sWays []) (T : Free mg) {kA pA : Addr} {ka : Nat → Addr} (c1 : Con mg "KEYS" (.ref kA)) (c2 : Con mg "PARTS" (.ref pA)) (F : KeysF K w kA ka) (FP : PartsF K pA) : C8.Cal P w K mg base 1 "ways" spWays [] :=
  cal_of D scWays (fun _ _ _ _ _ _ us hl => match us, hl with | [_], _ => rfl) (fun vs H Q E h => by
    obtain ⟨_, _, rfl, _⟩ := h
    rfl) (b_ways T c1 c2 F FP)
end
end S
end

section
set_option maxRecDepth 100000
set_option maxHeartbeats 4000000
/-! Defs: the rule. -/
namespace S
open PySem PySem.Spec PyProof.Rows L2 SM
section
variable {P : Program} {w : World} {K : PySem.W.Frag} {mg : Str → Option Value} {base : Heap} {CM CR : Addr}
def StepV (K : PySem.W.Frag) (H : Hp) (v : V) (j : Nat) : Prop := ∃ t, v = .ref t ∧ SqT K H t [.str (PN (wp j)), .str (WW j)]
abbrev StepsV (K : PySem.W.Frag) (H : Hp) (vs : List V) (ws : List Nat) : Prop := Paired (StepV K H) vs ws
theorem steps_same {H H' : Hp} (e : Same H H') {vs : List V} {ws : List Nat} (h : StepsV K H vs ws) : StepsV K H' vs ws := Paired.mapP h fun v j ⟨t, a, b⟩ => ⟨t, a, same_sqt e b⟩
theorem steps_upd {H : Hp} {x C dx : Addr} {fs : List (Str × V)} {u : HO} (hx : H x = some (.ins C dx fs)) {vs : List V} {ws : List Nat} (h : StepsV K H vs ws) : StepsV K (upd H x u) vs ws := Paired.mapP h fun v j ⟨t, a, b⟩ => ⟨t, a, sqt_upd b hx⟩
theorem steps_updL {H : Hp} {l : Addr} {xs : List V} {u : HO} (hx : H l = some (.lst xs)) {vs : List V} {ws : List Nat} (h : StepsV K H vs ws) : StepsV K (upd H l u) vs ws := Paired.mapP h fun v j ⟨t, a, b⟩ => ⟨t, a, by
  have q := sqt_del hx b
  refine same_sqt (fun c o e => ?_) q
  have nc : c ≠ l := fun z => by rw [z, del_at] at e; cases e
  rw [del_ne nc] at e
  rw [upd_ne nc]
  exact e⟩
theorem paired_take {α β : Type} {F : α → β → Prop} : ∀ {l₁ : List α} {l₂ : List β}, Paired F l₁ l₂ → ∀ i, Paired F (l₁.take i) (l₂.take i)
  | _, _, .nil, i => by rw [List.take_nil, List.take_nil]; exact .nil
  | _, _, .cons a b, 0 => .nil
  | _, _, .cons a b, i + 1 => .cons a (paired_take b i)
/-- in a list of texts -/
theorem in_strs (x : Str) : ∀ xs : List Str, inV (.str x) (xs.map V.str) = decide (x ∈ xs)
  | [] => rfl
  | y :: ys => by
    have ih := in_strs x ys
    by_cases h : x = y
    · subst h
      rw [decide_eq_true List.mem_cons_self]
      unfold inV
      simp [eqV]
    · have e : decide (x ∈ y :: ys) = decide (x ∈ ys) := by
        refine decide_eq_decide.mpr ⟨fun q => (List.mem_cons.mp q).resolve_left h, List.mem_cons_of_mem _⟩
      rw [e, ← ih]
      unfold inV
      simp [eqV, h, Ne.symm h]
theorem flat_strs (xs : List Str) : (xs.map V.str).all flatV = true := by
  rw [List.all_eq_true]
  intro v hv
  obtain ⟨x, _, rfl⟩ := List.mem_map.mp hv
  rfl
theorem pn_inj : ∀ {p q : Nat}, p < 6 → q < 6 → PN p = PN q → p = q := by
  have h : ∀ p q : Fin 6, PN p.val = PN q.val → p.val = q.val := by decide +kernel
  exact fun {p q} hp hq e => h ⟨p, hp⟩ ⟨q, hq⟩ e
theorem ww_in : ∀ j : Fin 17, inV (.str (WW j.val)) ((waysOf (wp j.val)).map fun i => V.str (WW i)) = true := by decide +kernel
theorem ww_flat (p : Nat) : ((waysOf p).map fun i => V.str (WW i)).all flatV = true := by
  rw [List.all_eq_true]
  intro v hv
  obtain ⟨x, _, rfl⟩ := List.mem_map.mp hv
  rfl
/-! ### need_step -/
def spNeedStep (K : PySem.W.Frag) : Sp := fun vs H Q _ => ∃ (v : V) (l : Addr) (us : List V) (j : Nat) (ws : List Nat), vs = [v, .ref l] ∧ j < 17 ∧ StepV K H v j ∧ H l = some (.lst us) ∧ StepsV K H us ws ∧ (∀ i ∈ ws, i < 17) ∧ ws.length ≤ 6 ∧ wp j ∉ ws.map wp ∧ ∀ H', Same H H' → Q .non H'
abbrev sNeedStep : Stmt := top 76
theorem scNeedStep : FnScope ["step", "ahead", "part", "way", "row"] ["step", "ahead"] (defScope sNeedStep) := ⟨rfl, rfl, rfl, by decide +kernel, rfl, by decide +kernel, by decide +kernel⟩
theorem b_need_step (T : Free mg) (G_ways : C8.Cal P w K mg base 1 "ways" spWays []) : Body P w K mg base 1 ["step", "ahead", "part", "way", "row"] "need_step" sNeedStep (spNeedStep K) := by
  intro f cdv A outer s H vs Q E hr h
  obtain ⟨v, l, us, j, ws, rfl, hj, ⟨t, rfl, ht⟩, hl, hs, hw, h6, hn, k⟩ := h
  have nd := scNeedStep.nd
  have sz := sizeLine_eq
  have hp := wp_lt j hj
  refine ⟨_, (pss_cons (ps_if (PW.pt (pw_or (pt_not (pt_val (pe_callB call_isi (by rfl) T.isinstance boot_isinstance (pa_cons (pv 0) (pa_cons (pe_bltn (v := .ty "tuple") (by rfl) T.tuple boot_tuple rfl) pa_nil))))) (pw_or1 (pt_cmpR op_ne (pe_callB call_len_seq (by rfl) T.len boot_len (pa_cons (pv 0) pa_nil)) pe_int (nomark _)))))
        (pss_one (ps_never))
        pss_nil)
      (pss_cons (ps_asg (pv 0) (pg_tup rfl (pgs_cons (pg_name (i := 2) nd rfl (Or.inl rfl)) (pgs_cons (pg_name (i := 3) nd rfl (Or.inl rfl)) pgs_nil))))
      (pss_cons (ps_if (pt_cmpR op_notIn_seq (pv 3) (C8.pe_c G_ways hr (by decide) rfl (pa_cons (pv 2) pa_nil)) rfl)
        (pss_one (ps_never))
        pss_nil)
      (pss_one (ps_if (pt_cmpR op_in_seq (pv 2) (pe_lc (own := [("row", 4)]) (g := gName 4) (tt := tYes) (by rfl) nd (pi_list (pv 1)) (blkOk_by (own := [("row", 4)]) (N := ["step", "ahead", "part", "way", "row"]) (sc := defScope sNeedStep) (by decide +kernel)) (fun _ _ _ _ _ => (pg_name (i := 4) nd rfl (Or.inl rfl))) (fun _ _ _ _ _ => pts_nil) (fun _ _ _ _ _ => (pe_ix (show IxR _ (rIxT K) from ix_tup) (pv 4) pe_int (fun _ _ => rfl)))) rfl)
        (pss_one (ps_never))
        pss_nil))))), ?_⟩
  refine ⟨_, rfl, _, _, _, _, true, rfl, .ty "tuple", tyx_tup ht, kit_ty (by decide +kernel), _, rfl, iteF ?_⟩
  refine ⟨_, rfl, t, _, rfl, .inr ht, rfl, _, rfl, iteF ?_⟩
  refine ⟨_, rfl, t, _, rfl, ht, rfl, _, _, rfl, _, _, rfl, rfl, ?_⟩
  refine ⟨_, rfl, _, rfl, wp j, hp, rfl, fun a H1 s1 ha => ⟨a, _, rfl, .inl (.of ha), rfl, ww_flat _, _, rfl, ?_⟩⟩
  rw [if_pos rfl, ww_in ⟨j, hj⟩]
  refine iteF ?_
  have hl1 := s1 _ _ hl
  have hs1 := steps_same s1 hs
  refine ⟨_, rfl, _, rfl, l, rfl, ⟨_, .of hl1⟩, fun D hD => lc_it (walk_list (xs := us)) (fun i H' => H' = upd H1 D (.lst (((ws.take i).map fun j => PN (wp j)).map V.str))) rfl (fun i H' _ e => ?_) ?_ ?_⟩
  · rw [e]
    exact .of (same_new hD _ _ hl1)
  · rintro i x H2 H3 hi rfl ⟨rfl, hx⟩
    obtain ⟨j', hj', t', rfl, ht'⟩ := paired_get hs1 hx
    refine ⟨rfl, ?_⟩
    dsimp only [tYes]
    refine iteT ?_
    refine ⟨_, rfl, t', _, 0, _, rfl, rfl, same_sqt (same_new hD) ht', atI_nat (j := 0) rfl, _, upd_same, ?_, ?_⟩
    · rw [List.length_map, List.length_map, List.length_take]
      omega
    · rw [upd_upd, List.take_add_one, hj', List.map_append, List.map_append] <;> rfl
  · rintro _ rfl
    refine ⟨D, _, rfl, .inl (.of upd_same), rfl, flat_strs _, _, rfl, ?_⟩
    rw [if_neg Bool.false_ne_true, in_strs]
    have e : List.take us.length ws = ws := by rw [Paired.length hs, List.take_length]
    rw [e, decide_eq_false (show ¬ PN (wp j) ∈ ws.map fun j => PN (wp j) from fun q => by
      obtain ⟨i, hi, e2⟩ := List.mem_map.mp q
      exact hn (List.mem_map.mpr ⟨i, hi, pn_inj (wp_lt i (hw i hi)) hp e2⟩))]
    exact iteF (k _ (s1.trans (same_new hD)))
theorem need_step_ (D : DefT K mg "need_step" sNeedStep []) (T : Free mg) (G : C8.Cal P w K mg base 1 "ways" spWays []) : C8.Cal P w K mg base 2 "need_step" (spNeedStep K) [] :=
  cal_of D scNeedStep (fun _ _ _ _ _ _ us hl => match us, hl with | [_, _], _ => rfl) (fun vs H Q E h => by
    obtain ⟨_, _, _, _, _, rfl, _⟩ := h
    rfl) (b_need_step T G)
/-! ### the rule -/
structure ClR (K : PySem.W.Frag) (CR : Addr) : Prop where
  cls : Cls K CR
  steps : NoAttr K CR "kept_steps"
def RuleAt (K : PySem.W.Frag) (CR : Addr) (H : Hp) (r : Addr) (ws : List Nat) : Prop := OkR ws ∧ ∃ dx l vs, H r = some (.ins CR dx [("kept_steps", .ref l)]) ∧ H l = some (.lst vs) ∧ StepsV K H vs ws
theorem rule_same {H H' : Hp} {r : Addr} {ws : List Nat} (e : Same H H') (h : RuleAt K CR H r ws) : RuleAt K CR H' r ws := by
  obtain ⟨ok, dx, l, vs, h1, h2, h3⟩ := h
  exact ⟨ok, dx, l, vs, e _ _ h1, e _ _ h2, steps_same e h3⟩
theorem okr_six {ws : List Nat} (h : OkR ws) : ws.length ≤ 6 := by
  have q := nd_six (ws.map wp) h.nd (fun x hx => by
    obtain ⟨j, hj, rfl⟩ := List.mem_map.mp hx
    exact wp_lt j (h.ways j hj))
  rw [List.length_map] at q
  exact q
def spRule (K : PySem.W.Frag) (CR : Addr) : Sp := fun vs H Q _ => ∃ (x dx a : Addr) (us : List V) (ws : List Nat), vs = [.ref x, .ref a] ∧ OkR ws ∧ 1 ≤ ws.length ∧ H x = some (.ins CR dx []) ∧ H a = some (.lst us) ∧ StepsV K H us ws ∧
  ∀ H', (∀ b o, b ≠ x → H b = some o → H' b = some o) → RuleAt K CR H' x ws → Q .non H'
abbrev sRule : Stmt := inClass (top 77) 0
theorem scRule : FnScope ["self", "steps", "found", "step"] ["self", "steps"] (defScope sRule) := ⟨rfl, rfl, rfl, by decide +kernel, rfl, by decide +kernel, by decide +kernel⟩
theorem b_rule (T : Free mg) (c : ClR K CR) (c_MOST : Con mg "MOST" (.int 6)) (G_need_step : C8.Cal P w K mg base 2 "need_step" (spNeedStep K) []) : Body P w K mg base 2 ["self", "steps", "found", "step"] "Rule.__init__" sRule (spRule K CR) := by
  intro f cdv A outer s H vs Q E hr h
  obtain ⟨x, dx, a, us, ws, rfl, ok, h1, hx, ha, hs, k⟩ := h
  have nd := scRule.nd
  have h6 := okr_six ok
  have hlen : us.length = ws.length := Paired.length hs
  have sz := sizeLine_eq
  refine ⟨_, (pss_cons (ps_if (PW.pt (pw_or (pt_not (pt_val (pe_callB call_isiT (by rfl) T.isinstance boot_isinstance (pa_cons (pv 1) (pa_cons (pe_tup (pa_cons (pe_bltn (v := .ty "list") (by rfl) T.list boot_list rfl) (pa_cons (pe_bltn (v := .ty "tuple") (by rfl) T.tuple boot_tuple rfl) pa_nil))) pa_nil))))) (pw_or1 (pt_not (pt_chain op_le op_le pe_int (pe_callB call_len_seq (by rfl) T.len boot_len (pa_cons (pv 1) pa_nil)) (C8.pe_gc rfl c_MOST))))))
        (pss_one (ps_never))
        pss_nil)
      (pss_cons (ps_set (i := 2) nd rfl (Or.inl rfl) (pe_lst pa_nil))
      (pss_cons (ps_for PassesOwn.never rfl (pi_list (pv 1)) (pg_name (i := 3) nd rfl (Or.inl rfl))
        (pss_cons (ps_expr (C8.pe_c G_need_step hr (by decide) rfl (pa_cons (pv 3) (pa_cons (pv 2) pa_nil))))
        (pss_one (ps_expr (pe_bm PySem.F.plainAttrs_list PySem.F.slot_list_append PySem.F.type_list_append mt_append (pv 2) (pa_cons (pv 3) pa_nil))))))
      (pss_one (ps_fld (pv 0) (pv 2) rfl))))), ?_⟩
  refine ⟨_, rfl, (by decide : 2 ≤ sizeLine), fun p hp => ?_⟩
  have s1 := same_new (u := HO.tup [V.ty "list", V.ty "tuple"]) hp
  refine ⟨_, _, _, _, [.type "list", .type "tuple"], true, rfl, upd_same, .cons (.ty _) (.cons (.ty _) .nil), .base (.lst (s1 _ _ ha)), kitAny_cons (b := true) (kit_ty (by decide +kernel)) (fun z => by cases z) (fun _ => rfl), _, rfl, iteF ?_⟩
  refine ⟨_, rfl, _, _, rfl, .inl (.of (s1 _ _ ha)), 1, _, rfl, rfl, _, rfl, ?_⟩
  rw [decide_eq_true (show (1 : Int) ≤ (us.length : Nat) by omega)]
  refine iteT ⟨_, _, rfl, rfl, _, rfl, ?_⟩
  rw [decide_eq_true (show ((us.length : Nat) : Int) ≤ 6 by omega)]
  refine iteF ?_
  refine ⟨Nat.zero_le _, fun q hq => ?_⟩
  have s2 := s1.trans (same_new (u := HO.lst []) hq)
  have nq : ∀ b o, H b = some o → b ≠ q := fun b o e z => by
    rw [z] at e
    rw [s1 _ _ e] at hq
    cases hq
  refine ⟨_, rfl, a, rfl, ⟨_, .of (s2 _ _ ha)⟩, for_list (xs := us) (fun i σ' H' => (∃ z, σ' = [some (.ref x), some (.ref a), some (.ref q), z]) ∧ H' q = some (.lst (us.take i)) ∧ Same H H') ⟨⟨_, rfl⟩, upd_same, s2⟩ (fun i σ' H' _ e => .of (e.2.2 _ _ ha)) ?_ ?_⟩
  · rintro i v σ2 H2 hv ⟨⟨z, rfl⟩, e1, e2⟩
    have hi : i < us.length := (List.getElem?_eq_some_iff.mp hv).1
    obtain ⟨j, hj, ht⟩ := paired_get hs hv
    have hjw := List.mem_of_getElem? hj
    obtain ⟨t, rfl, ht⟩ := ht
    have hps : StepsV K H2 (us.take i) (ws.take i) := steps_same e2 (paired_take hs i)
    refine ⟨_, rfl, _, rfl, .ref t, q, us.take i, j, ws.take i, rfl, ok.ways j hjw, ⟨t, rfl, same_sqt e2 ht⟩, e1, hps, fun i' hi' => ok.ways i' (List.mem_of_mem_take hi'), by rw [List.length_take]; omega, ?_, fun H3 s3 => ?_⟩
    · intro hm
      have nd2 := ok.nd
      have e3 : ws = ws.take i ++ ws.drop i := (List.take_append_drop i ws).symm
      have hiw : i < ws.length := by omega
      have e4 : ws.drop i = j :: ws.drop (i + 1) := by
        rw [List.drop_eq_getElem_cons hiw]
        rw [List.getElem?_eq_getElem hiw] at hj
        rw [Option.some.inj hj]
      rw [e3, e4, List.map_append, List.map_cons] at nd2
      exact (List.nodup_append.mp nd2).2.2 _ hm _ List.mem_cons_self rfl
    · refine ⟨_, rfl, .inl ⟨rfl, _, SqL.of (s3 _ _ e1)⟩, _, rfl, q, _, _, rfl, rfl, s3 _ _ e1, by rw [List.length_take]; omega, ⟨_, rfl⟩, ?_, fun b o e => ?_⟩
      · rw [upd_same, List.take_add_one, hv] <;> rfl
      · rw [upd_ne (nq b o e)]
        exact s3 _ _ (e2 _ _ e)
  · rintro σ2 H2 ⟨⟨z, rfl⟩, e1, e2⟩
    refine ⟨_, rfl, _, rfl, x, CR, dx, _, rfl, e2 _ _ hx, c.cls, c.steps, by decide, ?_⟩
    refine k _ (fun b o ne e => ?_) ⟨ok, dx, q, us, upd_same, ?_, steps_upd (e2 _ _ hx) (steps_same e2 hs)⟩
    · rw [upd_ne ne]
      exact e2 _ _ e
    · rw [upd_ne (Ne.symm (nq x _ hx)), e1, List.take_length]
theorem rule_ {fi : Addr} {fd : FuncData} (c : ClR K CR) (M : Mk K CR fi) (hm : mg "Rule" = some (.ref CR)) (F : FunD K "__init__" "Rule.__init__" (defArgs sRule) (defBody sRule) (defScope sRule) [] [] fi fd)
    (T : Free mg) (c_MOST : Con mg "MOST" (.int 6)) (G : C8.Cal P w K mg base 2 "need_step" (spNeedStep K) []) : C8.Mak P w K mg base 3 "Rule" CR (spRule K CR) [] := by
  refine ⟨fi, fd, ["self", "steps"], [], M, F.ok scRule (fun vs H Q E h => by
    obtain ⟨_, _, _, _, _, rfl, _⟩ := h
    rfl) fun cdv A outer s H vs Q E hr h => ?_, hm, F.bindsN (fun _ _ _ _ _ _ us hl => match us, hl with | [_, _], _ => rfl), .nil⟩
  obtain ⟨t, h1, h2⟩ := b_rule T c c_MOST G fi cdv A outer s H vs Q E hr h
  exact ⟨t, h1.nox, h2⟩
/-! ### order -/
def spOrder (K : PySem.W.Frag) (CM CR : Addr) : Sp := fun vs H Q _ => ∃ (r r1 r2 : Addr) (ws : List Nat) (m1 m2 : Mk), vs = [.ref r, .ref r1, .ref r2] ∧ RuleAt K CR H r ws ∧ MarkAt K CM H r1 m1 ∧ MarkAt K CM H r2 m2 ∧ ∀ H', Same H H' → Q (.int (order ws m1 m2)) H'
abbrev sOrder : Stmt := inClass (top 77) 4
theorem scOrder : FnScope ["self", "one", "other", "part", "way", "side"] ["self", "one", "other"] (defScope sOrder) := ⟨rfl, rfl, rfl, by decide +kernel, rfl, by decide +kernel, by decide +kernel⟩
theorem b_order (c : ClR K CR) (G_sided : C8.Cal P w K mg base 4 "sided" (spSided K CM) []) : Body P w K mg base 4 ["self", "one", "other", "part", "way", "side"] "Rule.order" sOrder (spOrder K CM CR) := by
  intro f cdv A outer s H vs Q E hr h
  obtain ⟨r, r1, r2, ws, m1, m2, rfl, ⟨ok, dx, l, us, hx, hl, hs⟩, h1, h2, k⟩ := h
  have nd := scOrder.nd
  refine ⟨_, (pss_cons (ps_for PassesOwn.never rfl (pi_list (pe_fld (pv 0) rfl)) (pg_tup rfl (pgs_cons (pg_name (i := 3) nd rfl (Or.inl rfl)) (pgs_cons (pg_name (i := 4) nd rfl (Or.inl rfl)) pgs_nil)))
        (pss_cons (ps_set (i := 5) nd rfl (Or.inl rfl) (C8.pe_c G_sided hr (by decide) rfl (pa_cons (pv 3) (pa_cons (pv 4) (pa_cons (pv 1) (pa_cons (pv 2) pa_nil))))))
        (pss_one (ps_if (pt_cmpR op_ne (pv 5) pe_int (nomark _))
          (pss_one (ps_ret (pv 5)))
          pss_nil))))
      (pss_one (ps_ret pe_int))), ?_⟩
  have hlen : us.length = ws.length := Paired.length hs
  refine ⟨_, rfl, r, CR, dx, _, _, rfl, hx, c.cls, c.steps, rfl, l, rfl, ⟨_, .of hl⟩, for_list (xs := us) (fun i σ' H' => (∃ a b d, σ' = [some (.ref r), some (.ref r1), some (.ref r2), a, b, d]) ∧ Same H H' ∧ order ws m1 m2 = ord (ws.drop i) (ans m1 m2)) ⟨⟨_, _, _, rfl⟩, Same.refl H, rfl⟩ (fun i σ' H' _ e => .of (e.2.1 _ _ hl)) ?_ ?_⟩
  · rintro i v σ2 H2 hv ⟨⟨a, b, d, rfl⟩, e1, e2⟩
    obtain ⟨j, hj, t, rfl, ht⟩ := paired_get hs hv
    have hjw := List.mem_of_getElem? hj
    have hiw : i < ws.length := (List.getElem?_eq_some_iff.mp hj).1
    have e4 : ws.drop i = j :: ws.drop (i + 1) := by
      rw [List.drop_eq_getElem_cons hiw]
      rw [List.getElem?_eq_getElem hiw] at hj
      rw [Option.some.inj hj]
    rw [e4] at e2
    refine ⟨t, _, rfl, same_sqt e1 ht, rfl, _, _, rfl, _, _, rfl, rfl, ?_⟩
    refine ⟨_, rfl, _, rfl, _, rfl, _, rfl, j, r1, r2, m1, m2, ok.ways j hjw, rfl, mark_same e1 h1, mark_same e1 h2, fun H3 s3 => ?_⟩
    refine ⟨_, rfl, rfl, _, rfl, ?_⟩
    unfold ord at e2
    by_cases z : ans m1 m2 j = 0
    · rw [z, if_neg (fun q => q rfl)] at e2
      rw [z]
      exact iteF ⟨⟨_, _, _, rfl⟩, e1.trans s3, e2⟩
    · rw [if_pos z] at e2
      rw [decide_eq_false (show ¬ V.int (ans m1 m2 j) = V.int 0 from fun q => z (by injection q))]
      refine iteT ⟨_, rfl, ?_⟩
      rw [← e2]
      exact k _ (e1.trans s3)
  · rintro σ2 H2 ⟨⟨a, b, d, rfl⟩, e1, e2⟩
    have z : ws.drop us.length = [] := by rw [hlen]; exact List.drop_length
    rw [z] at e2
    have k2 := k H2 e1
    rw [e2] at k2
    exact k2
theorem order_ (c : ClR K CR) (D : MetT K CR "order" "Rule.order" sOrder []) (G : C8.Cal P w K mg base 4 "sided" (spSided K CM) []) : C8.Met P w K mg base 5 CR "order" (spOrder K CM CR) [] :=
  met_of c.cls D scOrder (fun _ _ _ _ _ _ us hl => match us, hl with | [_, _, _], _ => rfl) (fun vs H Q E h => by
    obtain ⟨_, _, _, _, _, _, rfl, _⟩ := h
    rfl) (b_order c G)
/-! ### way_of -/
def spWayOf (K : PySem.W.Frag) (CR : Addr) : Sp := fun vs H Q _ => ∃ (r : Addr) (ws : List Nat) (p : Nat), vs = [.ref r, .str (PN p)] ∧ p < 6 ∧ RuleAt K CR H r ws ∧
  match wayOf ws p with
  | none => ∀ H', Same H H' → Q .non H'
  | some (i, j) => ∀ t H', Same H H' → H' t = some (.tup [.int (i : Nat), .str (WW j)]) → Q (.ref t) H'
abbrev sWayOf : Stmt := inClass (top 77) 7
theorem scWayOf : FnScope ["self", "part", "number", "step"] ["self", "part"] (defScope sWayOf) := ⟨rfl, rfl, rfl, by decide +kernel, rfl, by decide +kernel, by decide +kernel⟩
theorem b_way_of (T : Free mg) (c : ClR K CR) : Body P w K mg base 1 ["self", "part", "number", "step"] "Rule.way_of" sWayOf (spWayOf K CR) := by
  intro f cdv A outer s H vs Q E hr h
  obtain ⟨r, ws, p, rfl, hp, ⟨ok, dx, l, us, hx, hl, hs⟩, k⟩ := h
  have nd := scWayOf.nd
  refine ⟨_, (pss_cons (ps_for PassesOwn.never rfl (pi_enum (by rfl) T.enumerate (pa_cons (pe_fld (pv 0) rfl) pa_nil)) (pg_tup rfl (pgs_cons (pg_name (i := 2) nd rfl (Or.inl rfl)) (pgs_cons (pg_name (i := 3) nd rfl (Or.inl rfl)) pgs_nil)))
        (pss_one (ps_if (pt_cmpR op_eq (pe_ix ix_tup (pv 3) pe_int (fun _ _ => rfl)) (pv 1) (nomark _))
          (pss_one (ps_ret (pe_tup (pa_cons (pv 2) (pa_cons (pe_ix ix_tup (pv 3) pe_int (fun _ _ => rfl)) pa_nil)))))
          pss_nil)))
      (pss_one (ps_ret pe_non))), ?_⟩
  have hlen : us.length = ws.length := Paired.length hs
  refine ⟨_, rfl, r, CR, dx, _, _, rfl, hx, c.cls, c.steps, rfl, l, us, rfl, .of hl, for_it (walk_enum (xs := us)) (fun i σ' H' => (∃ a b, σ' = [some (.ref r), some (.str (PN p)), a, b]) ∧ Same H H' ∧ wayOf ws p = wayAt (ws.drop i) p i) ⟨⟨_, _, rfl⟩, Same.refl H, rfl⟩ (fun i σ' H' _ e => .of (e.2.1 _ _ hl)) ?_ ?_⟩
  · rintro i v σ2 H2 H3 hi ⟨⟨a, b, rfl⟩, e1, e2⟩ ⟨U, x, y, rfl, hU, rfl, ex, hv⟩
    obtain rfl : V.int (i : Nat) = x := Option.some.inj ex
    obtain ⟨j, hj, t, rfl, ht⟩ := paired_get hs hv
    have hjw := List.mem_of_getElem? hj
    have hiw : i < ws.length := (List.getElem?_eq_some_iff.mp hj).1
    have e4 : ws.drop i = j :: ws.drop (i + 1) := by
      rw [List.drop_eq_getElem_cons hiw]
      rw [List.getElem?_eq_getElem hiw] at hj
      rw [Option.some.inj hj]
    rw [e4] at e2
    have sU := e1.trans (same_new (u := HO.tup [V.int (i : Nat), V.ref t]) hU)
    refine ⟨U, _, rfl, .of upd_same, rfl, _, _, rfl, _, _, rfl, rfl, ?_⟩
    refine ⟨_, rfl, t, _, 0, _, rfl, rfl, same_sqt sU ht, atI_nat (j := 0) rfl, _, rfl, rfl, _, rfl, ?_⟩
    unfold wayAt at e2
    by_cases z : wp j = p
    · rw [if_pos z] at e2
      rw [decide_eq_true (show V.str (PN (wp j)) = V.str (PN p) by rw [z])]
      refine iteT ⟨_, rfl, _, rfl, t, _, 1, _, rfl, rfl, same_sqt sU ht, atI_nat (j := 1) rfl, (by decide : 2 ≤ sizeLine), fun q hq => ?_⟩
      rw [e2] at k
      exact k q _ (sU.trans (same_new hq)) upd_same
    · rw [if_neg z] at e2
      rw [decide_eq_false (show ¬ V.str (PN (wp j)) = V.str (PN p) from fun q => z (pn_inj (wp_lt j (ok.ways j hjw)) hp (by injection q)))]
      exact iteF ⟨⟨_, _, rfl⟩, sU, e2⟩
  · rintro σ2 H2 ⟨⟨a, b, rfl⟩, e1, e2⟩
    have z : ws.drop us.length = [] := by rw [hlen]; exact List.drop_length
    rw [z] at e2
    rw [e2] at k
    exact k _ e1
theorem way_of_ (c : ClR K CR) (D : MetT K CR "way_of" "Rule.way_of" sWayOf []) (T : Free mg) : C8.Met P w K mg base 2 CR "way_of" (spWayOf K CR) [] :=
  met_of c.cls D scWayOf (fun _ _ _ _ _ _ us hl => match us, hl with | [_, _], _ => rfl) (fun vs H Q E h => by
    obtain ⟨_, _, _, rfl, _⟩ := h
    rfl) (b_way_of T c)
end
end S
end

section
set_option maxRecDepth 100000
set_option maxHeartbeats 4000000
/-! Defs: mark_with, side_by, decided. -/
namespace S
open PySem PySem.Spec PyProof.Rows L2 SM
section
variable {P : Program} {w : World} {K : PySem.W.Frag} {mg : Str → Option Value} {base : Heap} {CM CR : Addr}
/-- what one part of a mark is, as a value -/
def PVat (K : PySem.W.Frag) (H : Hp) (v : V) : PV → Prop
  | .s x => v = .str x
  | .i n => v = .int n
  | .l xs => ∃ a, v = .ref a ∧ SqT K H a (xs.map V.str)
  | .o y => v = hiV y
theorem pv_same {H H' : Hp} (e : Same H H') {v : V} {u : PV} (h : PVat K H v u) : PVat K H' v u := by
  cases u with
  | s x => exact h
  | i n => exact h
  | l xs =>
    obtain ⟨a, h1, h2⟩ := h
    exact ⟨a, h1, same_sqt e h2⟩
  | o y => exact h
structure SomeF (K : PySem.W.Frag) (w : World) (sA : Addr) : Prop where
  row : ∀ p, p < 6 → ∃ tA vs, KDct K w sA (PN p) (.ref tA) ∧ ∀ H, SqT K H tA vs ∧ Paired (PVat K H) vs (SOME p)
theorem paired_getL {α β : Type} {G : α → β → Prop} : ∀ {l₁ : List α} {l₂ : List β}, Paired G l₁ l₂ → ∀ {i : Nat} {b : β}, l₂[i]? = some b → ∃ a, l₁[i]? = some a ∧ G a b
  | _, _, .nil, i, b, h => by simp at h
  | _, _, .cons r t, 0, b, h => by
    rw [List.getElem?_cons_zero] at h
    rw [← Option.some.inj h]
    exact ⟨_, rfl, r⟩
  | _, _, .cons r t, i + 1, b, h => by
    rw [List.getElem?_cons_succ] at h
    exact paired_getL t h
/-! ### mark_with -/
def spMarkWith (K : PySem.W.Frag) (CM : Addr) : Sp := fun vs H Q _ => ∃ (d : Addr) (kvs : List (Key × V)) (m : Mk), vs = [.ref d] ∧ H d = some (.dK kvs) ∧ OkM m ∧
  (∀ p, p < 6 → (∃ v, valV kvs (.inr (PN p)) = some v ∧ PVat K H v (m.get p)) ∨ (valV kvs (.inr (PN p)) = none ∧ m.get p = leastM.get p)) ∧ ∀ r H', Same H H' → MarkAt K CM H' r m → Q (.ref r) H'
abbrev sMarkWith : Stmt := top 67
theorem scMarkWith : FnScope ["parts", "least", "part"] ["parts"] (defScope sMarkWith) := ⟨rfl, rfl, rfl, by decide +kernel, rfl, by decide +kernel, by decide +kernel⟩
theorem pn_at (i : Nat) (hi : i < 6) : PNs[i]? = some (PN i) := by
  unfold PN
  rw [List.getD_eq_getElem?_getD, List.getElem?_eq_getElem (show i < PNs.length from hi)] <;> rfl
theorem b_mark_with {pA sA : Addr} (c_PARTS : Con mg "PARTS" (.ref pA)) (FP : PartsF K pA) (c_SOME : Con mg "SOME" (.ref sA)) (FS : SomeF K w sA) (G_Mark : C8.Mak P w K mg base 4 "Mark" CM (spMark K CM) []) :
    Body P w K mg base 5 ["parts", "least", "part"] "mark_with" sMarkWith (spMarkWith K CM) := by
  intro f cdv A outer s H vs Q E hr h
  obtain ⟨d, kvs, m, rfl, hd, ok, hk, k⟩ := h
  have nd := scMarkWith.nd
  have hu := hu_of hr
  have sz := sizeLine_eq
  refine ⟨_, (pss_cons (ps_setLc (i := 1) (own := [("part", 2)]) (g := gName 2) (tt := tYes) rfl nd rfl rfl (sw_true rfl rfl rfl (by decide +kernel)) (pi_tup (C8.pe_gc rfl c_PARTS)) (blkOk_by (own := [("part", 2)]) (N := ["parts", "least", "part"]) (sc := defScope sMarkWith) (by decide +kernel)) (fun _ _ _ _ _ => (pg_name (i := 2) nd rfl (Or.inl rfl))) (fun _ _ _ _ _ => pts_nil) (fun _ _ _ _ _ => (pe_dget2 hu (pv 0) (pv 2) (pe_ix (show IxR _ (rIxT K) from ix_tup) (pe_ix (show IxR _ (rIxD K w) from ix_kdict) (C8.pe_gc rfl c_SOME) (pv 2) (fun _ _ => rfl)) pe_int (fun _ _ => rfl)) ⟨rfl, rfl, rfl, rfl⟩)))
      (pss_one (ps_ret (C8.pe_mk G_Mark hr (by decide) rfl (pa_cons (pe_ix ix_list (pv 1) pe_int (fun _ _ => rfl)) (pa_cons (pe_ix ix_list (pv 1) pe_int (fun _ _ => rfl)) (pa_cons (pe_ix ix_list (pv 1) pe_int (fun _ _ => rfl)) (pa_cons (pe_ix ix_list (pv 1) pe_int (fun _ _ => rfl)) (pa_cons (pe_ix ix_list (pv 1) pe_int (fun _ _ => rfl)) (pa_cons (pe_ix ix_list (pv 1) pe_int (fun _ _ => rfl)) pa_nil)))))))))), ?_⟩
  refine ⟨pA, rfl, ⟨_, FP.at_ _⟩, fun D hD => lc_it (walk_tup (xs := PNs.map V.str)) (fun i H' => ∃ vs, H' D = some (.lst vs) ∧ Paired (PVat K (del D H')) vs ((List.range i).map m.get) ∧ Same H (del D H')) ?_ ?_ ?_ ?_⟩
  · exact ⟨[], upd_same, .nil, del_in hD (same_new hD)⟩
  · exact fun i H' _ _ => FP.at_ _
  · rintro i x H1 H2 hi ⟨vs, h1, h2, h3⟩ ⟨rfl, hx⟩
    obtain ⟨y, hy, rfl⟩ := at_map hx
    have hi6 : i < 6 := hi
    obtain rfl : PN i = y := by
      rw [pn_at i hi6] at hy
      exact Option.some.inj hy
    obtain ⟨tA, ws, hS, hall⟩ := FS.row i hi6
    obtain ⟨x0, hx0, ex0⟩ := least_get hi6
    obtain ⟨v0, hv0, pv0⟩ := paired_getL (hall H2).2 hx0
    have hD2 : Same H H2 := h3.trans (del_sub D H2)
    refine ⟨rfl, ?_⟩
    dsimp only [tYes]
    refine iteT ?_
    refine ⟨_, rfl, d, rfl, .inl ⟨kvs, .inl (hD2 _ _ hd)⟩, _, rfl, _, rfl, sA, _, _, rfl, rfl, hS, tA, ws, 0, v0, rfl, rfl, (hall _).1, atI_nat (j := 0) hv0, valV kvs (.inr (PN i)), DGet.k (k := .inr (PN i)) (hD2 _ _ hd), vs, h1, ?_, ?_⟩
    · have q := Paired.length h2
      rw [List.length_map, List.length_range] at q
      omega
    · refine ⟨_, upd_same, ?_, by rw [del_upd]; exact h3⟩
      rw [del_upd, List.range_succ, List.map_append]
      refine Paired.snoc h2 ?_
      rcases hk i hi6 with ⟨v, e1, e2⟩ | ⟨e1, e2⟩
      · rw [e1]
        exact pv_same h3 e2
      · rw [e1]
        show PVat K _ v0 (m.get i)
        rw [e2, ex0]
        exact (paired_get (hall (del D H2)).2 hv0).elim fun b ⟨hb, q⟩ => by
          rw [hx0] at hb
          rw [Option.some.inj hb]
          exact q
  · rintro H' ⟨vs, h1, h2, h3⟩
    have h2' : Paired (PVat K H') vs ((List.range 6).map m.get) := Paired.mapP h2 fun a b q => pv_same (del_sub D H') q
    have sm := h3.trans (del_sub D H')
    clear h2
    cases h2' with | cons q0 h2' =>
    cases h2' with | cons q1 h2' =>
    cases h2' with | cons q2 h2' =>
    cases h2' with | cons q3 h2' =>
    cases h2' with | cons q4 h2' =>
    cases h2' with | cons q5 h2' =>
    cases h2'
    obtain ⟨a, rfl, ha⟩ := (show ∃ a, _ = V.ref a ∧ SqT K H' a (m.makers.map V.str) from q3)
    obtain rfl := (show _ = V.str m.letters from q0)
    obtain rfl := (show _ = V.int m.number from q1)
    obtain rfl := (show _ = V.str m.points from q2)
    obtain rfl := (show _ = hiV m.year from q4)
    obtain rfl := (show _ = hiV m.copy from q5)
    refine ⟨_, rfl, D, _, 0, _, rfl, rfl, .of h1, rfl, _, rfl, D, _, 1, _, rfl, rfl, .of h1, rfl, _, rfl, D, _, 2, _, rfl, rfl, .of h1, rfl, _, rfl, D, _, 3, _, rfl, rfl, .of h1, rfl, _, rfl, D, _, 4, _, rfl, rfl, .of h1, rfl, _, rfl, D, _, 5, _, rfl, rfl, .of h1, rfl, fun x dx hx hdx ne => ?_⟩
    have s0 : Same H' (upd (upd H' dx (.own x)) x (.ins CM dx [])) := Same.made hx hdx fun b o e _ => e
    refine ⟨x, dx, a, m, rfl, ok, upd_same, .inr (same_sqt (fun b o e => ?_) ha), fun H2 kp hM => ⟨rfl, k x H2 (sm.trans (Same.made hx hdx fun b o e ne => kp b o ne e)) hM⟩⟩
    rw [upd_ne (ne_of_none e hx), upd_ne (ne_of_none e hdx)]
    exact e
theorem mark_with_ (D : DefT K mg "mark_with" sMarkWith []) {pA sA : Addr} (c1 : Con mg "PARTS" (.ref pA)) (FP : PartsF K pA) (c2 : Con mg "SOME" (.ref sA)) (FS : SomeF K w sA) (G : C8.Mak P w K mg base 4 "Mark" CM (spMark K CM) []) : C8.Cal P w K mg base 6 "mark_with" (spMarkWith K CM) [] :=
  cal_of D scMarkWith (fun _ _ _ _ _ _ us hl => match us, hl with | [_], _ => rfl) (fun vs H Q E h => by
    obtain ⟨_, _, _, rfl, _⟩ := h
    rfl) (b_mark_with c1 FP c2 FS G)
/-! ### side_by -/
def spSideBy (K : PySem.W.Frag) (CM CR : Addr) : Sp := fun vs H Q _ => ∃ (r r1 r2 : Addr) (ws : List Nat) (m1 m2 : Mk) (p : Nat), vs = [.ref r, .str (PN p), .ref r1, .ref r2] ∧ p < 6 ∧ RuleAt K CR H r ws ∧ MarkAt K CM H r1 m1 ∧ MarkAt K CM H r2 m2 ∧ ∀ H', Same H H' → Q (.int (sV ws p (m1.get p) (m2.get p))) H'
abbrev sSideBy : Stmt := top 68
theorem scSideBy : FnScope ["rule", "part", "one", "other", "step"] ["rule", "part", "one", "other"] (defScope sSideBy) := ⟨rfl, rfl, rfl, by decide +kernel, rfl, by decide +kernel, by decide +kernel⟩
theorem rule_get {H : Hp} {r : Addr} {ws : List Nat} (h : RuleAt K CR H r ws) : ∃ dx fs, H r = some (.ins CR dx fs) ∧ ∀ x : Str, x ≠ "kept_steps" → fs.lookup x = none := by
  obtain ⟨_, dx, l, vs, h1, _⟩ := h
  refine ⟨dx, _, h1, fun x hx => ?_⟩
  rw [List.lookup_cons]
  have : (x == ("kept_steps" : Str)) = false := by
    rw [beq_eq_false_iff_ne]
    exact hx
  rw [this] <;> rfl
theorem b_side_by (G_way_of : C8.Met P w K mg base 2 CR "way_of" (spWayOf K CR) []) (G_sided : C8.Cal P w K mg base 4 "sided" (spSided K CM) []) : Body P w K mg base 4 ["rule", "part", "one", "other", "step"] "side_by" sSideBy (spSideBy K CM CR) := by
  intro f cdv A outer s H vs Q E hr h
  obtain ⟨r, r1, r2, ws, m1, m2, p, rfl, hp, hR, h1, h2, k⟩ := h
  have nd := scSideBy.nd
  obtain ⟨dx, fs, hx, hf⟩ := rule_get hR
  refine ⟨_, (pss_cons (ps_set (i := 4) nd rfl (Or.inl rfl) (C8.pe_mt G_way_of hr (by decide) (pv 0) (pa_cons (pv 1) pa_nil)))
      (pss_cons (ps_if (pt_cmpR op_isN (pv 4) pe_non (nomark _))
        (pss_one (ps_ret pe_int))
        pss_nil)
      (pss_one (ps_ret (C8.pe_c G_sided hr (by decide) rfl (pa_cons (pv 1) (pa_cons (pe_ix ix_tup (pv 4) pe_int (fun _ _ => rfl)) (pa_cons (pv 2) (pa_cons (pv 3) pa_nil))))))))), ?_⟩
  refine ⟨_, rfl, r, dx, fs, rfl, hx, hf _ (by decide +kernel), _, rfl, r, ws, p, rfl, hp, hR, ?_⟩
  unfold sV at k
  cases e : wayOf ws p with
  | none =>
    rw [e] at k
    intro H' sm
    exact ⟨_, rfl, rfl, _, rfl, iteT (k H' sm)⟩
  | some z =>
    obtain ⟨i, j⟩ := z
    rw [e] at k
    obtain ⟨hm, hw, _⟩ := wayOf_mem e
    intro t H' sm ht
    refine ⟨_, rfl, rfl, _, rfl, iteF ?_⟩
    refine ⟨_, rfl, _, rfl, t, _, 1, _, rfl, rfl, .of ht, atI_nat (j := 1) rfl, _, rfl, _, rfl, j, r1, r2, m1, m2, hR.1.ways j hm, by rw [hw] <;> rfl, mark_same sm h1, mark_same sm h2, fun H2 s2 => ?_⟩
    have k2 := k H2 (sm.trans s2)
    unfold ans
    rw [hw]
    exact k2
theorem side_by_ (D : DefT K mg "side_by" sSideBy []) (G1 : C8.Met P w K mg base 2 CR "way_of" (spWayOf K CR) []) (G2 : C8.Cal P w K mg base 4 "sided" (spSided K CM) []) : C8.Cal P w K mg base 5 "side_by" (spSideBy K CM CR) [] :=
  cal_of D scSideBy (fun _ _ _ _ _ _ us hl => match us, hl with | [_, _, _, _], _ => rfl) (fun vs H Q E h => by
    obtain ⟨_, _, _, _, _, _, _, rfl, _⟩ := h
    rfl) (b_side_by G1 G2)
/-! ### decided -/
def spDecided (K : PySem.W.Frag) (CR : Addr) : Sp := fun vs H Q _ => ∃ (r t1 t2 : Addr) (ws : List Nat) (p q : Nat) (sp sq : Int), vs = [.ref r, .ref t1, .ref t2] ∧ p < 6 ∧ q < 6 ∧ RuleAt K CR H r ws ∧ SqT K H t1 [.str (PN p), .int sp] ∧ SqT K H t2 [.str (PN q), .int sq] ∧
  (sp ≠ 0 → wayOf ws p ≠ none) ∧ (sq ≠ 0 → wayOf ws q ≠ none) ∧ ∀ H', Same H H' → Q (.int (decided ws p sp q sq)) H'
abbrev sDecided : Stmt := top 70
theorem scDecided : FnScope ["rule", "first", "second", "ahead"] ["rule", "first", "second"] (defScope sDecided) := ⟨rfl, rfl, rfl, by decide +kernel, rfl, by decide +kernel, by decide +kernel⟩
theorem b_decided (G_way_of : C8.Met P w K mg base 2 CR "way_of" (spWayOf K CR) []) : Body P w K mg base 2 ["rule", "first", "second", "ahead"] "decided" sDecided (spDecided K CR) := by
  intro f cdv A outer s H vs Q E hr h
  obtain ⟨r, t1, t2, ws, p, q, sp, sq, rfl, hp, hq, hR, h1, h2, n1, n2, k⟩ := h
  have nd := scDecided.nd
  refine ⟨_, (pss_cons (ps_if (pt_cmpR op_eq (pe_ix ix_tup (pv 1) pe_int (fun _ _ => rfl)) pe_int (nomark _))
        (pss_one (ps_ret (pe_ix ix_tup (pv 2) pe_int (fun _ _ => rfl))))
        pss_nil)
      (pss_cons (ps_if (pt_cmpR op_eq (pe_ix ix_tup (pv 2) pe_int (fun _ _ => rfl)) pe_int (nomark _))
        (pss_one (ps_ret (pe_ix ix_tup (pv 1) pe_int (fun _ _ => rfl))))
        pss_nil)
      (pss_cons (ps_set (i := 3) nd rfl (Or.inl rfl) (pe_cmpR op_lt (pe_ix ix_tup (C8.pe_mt G_way_of hr (by decide) (pv 0) (pa_cons (pe_ix ix_tup (pv 1) pe_int (fun _ _ => rfl)) pa_nil)) pe_int (fun _ _ => rfl)) (pe_ix ix_tup (C8.pe_mt G_way_of hr (by decide) (pv 0) (pa_cons (pe_ix ix_tup (pv 2) pe_int (fun _ _ => rfl)) pa_nil)) pe_int (fun _ _ => rfl)) (nomark _)))
      (pss_one (ps_ret (pe_ifExp (pt_val (pv 3)) (pe_ix ix_tup (pv 1) pe_int (fun _ _ => rfl)) (pe_ix ix_tup (pv 2) pe_int (fun _ _ => rfl)))))))), ?_⟩
  refine ⟨_, rfl, t1, _, 1, _, rfl, rfl, h1, atI_nat (j := 1) rfl, rfl, _, rfl, ?_⟩
  unfold decided at k
  by_cases e1 : sp = 0
  · rw [decide_eq_true (show V.int sp = V.int 0 by rw [e1])]
    rw [if_pos e1] at k
    exact iteT ⟨_, rfl, t2, _, 1, _, rfl, rfl, h2, atI_nat (j := 1) rfl, k H (Same.refl H)⟩
  rw [decide_eq_false (show ¬ V.int sp = V.int 0 from fun z => e1 (by injection z))]
  rw [if_neg e1] at k
  refine iteF ⟨_, rfl, t2, _, 1, _, rfl, rfl, h2, atI_nat (j := 1) rfl, rfl, _, rfl, ?_⟩
  by_cases e2 : sq = 0
  · rw [decide_eq_true (show V.int sq = V.int 0 by rw [e2])]
    rw [if_pos e2] at k
    exact iteT ⟨_, rfl, t1, _, 1, _, rfl, rfl, h1, atI_nat (j := 1) rfl, k H (Same.refl H)⟩
  rw [decide_eq_false (show ¬ V.int sq = V.int 0 from fun z => e2 (by injection z))]
  rw [if_neg e2] at k
  refine iteF ?_
  have a1 := n1 e1
  have a2 := n2 e2
  cases w1 : wayOf ws p with
  | none => exact absurd w1 a1
  | some z1 =>
  cases w2 : wayOf ws q with
  | none => exact absurd w2 a2
  | some z2 =>
  obtain ⟨i1, j1⟩ := z1
  obtain ⟨i2, j2⟩ := z2
  have x1 : idx ws p = i1 := by unfold idx; rw [w1]
  have x2 : idx ws q = i2 := by unfold idx; rw [w2]
  rw [x1, x2] at k
  obtain ⟨dx, fs, hx, hf⟩ := rule_get hR
  refine ⟨_, rfl, r, dx, fs, rfl, hx, hf _ (by decide +kernel), _, rfl, t1, _, 0, _, rfl, rfl, h1, atI_nat (j := 0) rfl, r, ws, p, rfl, hp, hR, ?_⟩
  rw [w1]
  intro u1 H1 s1 hu1
  refine ⟨u1, _, 0, _, rfl, rfl, .of hu1, atI_nat (j := 0) rfl, _, rfl, r, dx, fs, rfl, s1 _ _ hx, hf _ (by decide +kernel), _, rfl, t2, _, 0, _, rfl, rfl, same_sqt s1 h2, atI_nat (j := 0) rfl, r, ws, q, rfl, hq, rule_same s1 hR, ?_⟩
  rw [w2]
  intro u2 H2 s2 hu2
  have s12 := s1.trans s2
  refine ⟨u2, _, 0, _, rfl, rfl, .of hu2, atI_nat (j := 0) rfl, _, _, rfl, rfl, _, rfl, _, rfl, ?_⟩
  by_cases e3 : i1 < i2
  · rw [decide_eq_true (show ((i1 : Nat) : Int) < (i2 : Nat) by omega)]
    rw [if_pos e3] at k
    exact iteT ⟨_, rfl, t1, _, 1, _, rfl, rfl, same_sqt s12 h1, atI_nat (j := 1) rfl, k _ s12⟩
  · rw [decide_eq_false (show ¬ ((i1 : Nat) : Int) < (i2 : Nat) by omega)]
    rw [if_neg e3] at k
    exact iteF ⟨_, rfl, t2, _, 1, _, rfl, rfl, same_sqt s12 h2, atI_nat (j := 1) rfl, k _ s12⟩
theorem decided_ (D : DefT K mg "decided" sDecided []) (G1 : C8.Met P w K mg base 2 CR "way_of" (spWayOf K CR) []) : C8.Cal P w K mg base 3 "decided" (spDecided K CR) [] :=
  cal_of D scDecided (fun _ _ _ _ _ _ us hl => match us, hl with | [_, _, _], _ => rfl) (fun vs H Q E h => by
    obtain ⟨_, _, _, _, _, _, _, _, rfl, _⟩ := h
    rfl) (b_decided G1)
end
end S
end

section
set_option maxRecDepth 100000
set_option maxHeartbeats 4000000
/-! Rules that the layer lacks, 3: len(o), str(o) of an own class. -/
namespace S
open PySem PySem.Spec PyProof.Rows L2 SM
section
variable {X : Cx} {k : Nat} {f C : Addr} {fd : FuncData} {ps : List Str} {sp : Sp} {ds : List Value} {pins : List (Addr × Obj)} {σ : L2.St} {H : Hp} {s : Shared} {Q : VK} {us : List Value} {vs : List V}
theorem run_fnA {A' : Around} (F : FnOk X.prog X.w X.K X.mg X.base C8.CX0 k f fd ps sp) (hr : Room k A') (he : Env0 X.prog X.w X.K X.mg X.base A' X.stack s H) (hb : Binds X.K fd ps ds) (hd : Vals [] ds)
    (I : Inv X pins σ H s) (r : Vals vs us) (h : sp vs H Q C8.E0) {E : Value → Shared → Prop} : wpAny (model X.prog X.w) A' (call (.ref f) us) (EP X pins σ Q) E s := by
  have r2 : Vals (vs ++ []) (us ++ ds) := r.append hd
  rw [List.append_nil] at r2
  have hl : (us ++ ds).length = ps.length := by rw [← r2.length]; exact F.len _ _ _ _ h
  refine wpAny_call (codeAny_mono (F.run A' X.stack s H ⟨us, []⟩ (us ++ ds) vs Q C8.E0 hr he (hb s us I.kIn hl) r2 h) fun r s' hq => ?_)
  cases r with
  | error e => exact hq.elim
  | ok fl =>
    cases fl with
    | ret u => exact I.after hq
    | next => exact False.elim hq
    | brk => exact False.elim hq
    | cont => exact False.elim hq
def rLenO (C : Addr) (sp : Sp) : List V → Hp → VK → Prop := fun xs H Q => ∃ a dx fs, xs = [.ref a] ∧ H a = some (.ins C dx fs) ∧ sp [.ref a] H (fun v H2 => ∃ n : Nat, v = .int (n : Nat) ∧ n < 2 ^ 62 ∧ Q (.int (n : Nat)) H2) C8.E0
theorem call_lenO (c : C8.Met X.prog X.w X.K X.mg X.base k C "__len__" sp []) (hr : Room (k + 1) X.A) : CallR X (.builtin "len") (rLenO C sp) := by
  intro pins s σ H xs us Q I r h
  obtain ⟨a, dx, fs, rfl, ha, q⟩ := h
  obtain ⟨u, rfl, ru⟩ := vals1 r
  cases ru
  obtain ⟨f, fd, ps, ds, hc, hm, F, hb, hd⟩ := c.ex
  obtain ⟨mA, O, _⟩ := ins_get I.hok ha
  obtain ⟨od, IA, _⟩ := O.look
  refine Calls.call_function_entry kind_len plain_len entry_len (args_len1 _) ?_
  unfold Builtin.«len»
  refine wpAny_bind (m := oneArg "len" _) (wpAny_pure ?_)
  refine wpAny_bind (m := callSpecial? (.ref a) (Str.ofString "__len__")) (PySem.W.special_fn I.kIn IA hm.at_ (beq_iff_eq.mp hm.fn) (wpAny_mono (run_fnA (A' := X.A.in1) F hr.in1 I.env0.in1 hb hd I (us := [.ref a]) (vs := [.ref a]) (.cons (show RelV (V.ref a) (Value.ref a) from rfl) .nil) q) (fun r s' hr => ?_) fun _ _ y => y))
  obtain ⟨v, H2, I2, rv, n, rfl, hn, q2⟩ := hr
  obtain ⟨t, rfl⟩ := rv
  refine wpAny_bind (wpAny_holding (wpAny_pure ?_))
  refine wpAny_bind (wpAny_letGo ?_)
  show wpAny _ _ (if ((n : Nat) : Int) < 0 then _ else _) _ _ _
  rw [if_neg (by omega)]
  show wpAny _ _ (if ((n : Nat) : Int) ≥ 2 ^ 63 then _ else _) _ _ _
  rw [if_neg (by omega)]
  exact wpAny_bind (wpAny_mkInt (wpAny_pure ⟨_, rfl, .int (n : Nat), H2, I2.tok _, ⟨_, rfl⟩, q2⟩))
def rStrO (C : Addr) (sp : Sp) : List V → Hp → VK → Prop := fun xs H Q => ∃ a dx fs, xs = [.ref a] ∧ H a = some (.ins C dx fs) ∧ sp [.ref a] H (fun v H2 => ∃ z : Str, v = .str z ∧ Q (.str z) H2) C8.E0
theorem call_strO (c : C8.Met X.prog X.w X.K X.mg X.base k C "__str__" sp []) (hr : Room (k + 2) X.A) : CallR X (.type "str") (rStrO C sp) := by
  intro pins s σ H xs us Q I r h
  obtain ⟨a, dx, fs, rfl, ha, q⟩ := h
  obtain ⟨u, rfl, ru⟩ := vals1 r
  cases ru
  obtain ⟨f, fd, ps, ds, hc, hm, F, hb, hd⟩ := c.ex
  obtain ⟨mA, O, _⟩ := ins_get I.hok ha
  obtain ⟨od, IA, _⟩ := O.look
  have hu : X.A.in1.in1.units < cLine := by have := hr.un; show X.A.units + 1 + 1 < _; omega
  refine PySem.W.kso_call hu I.kIn IA hm.at_ hm.fn (wpAny_mono (run_fnA (A' := X.A.in1.in1) F hr.in1.in1 I.env0.in1.in1 hb hd I (us := [.ref a]) (vs := [.ref a]) (.cons (show RelV (V.ref a) (Value.ref a) from rfl) .nil) q) (fun r s' hr => ?_) fun _ _ y => y)
  obtain ⟨v, H2, I2, rv, z, rfl, q2⟩ := hr
  obtain ⟨t, rfl⟩ := rv
  exact ⟨.str z, H2, I2, ⟨t, rfl⟩, q2⟩
end
end S
end

section
set_option maxRecDepth 100000
set_option maxHeartbeats 4000000
/-! Defs: cheapest. -/
namespace S
open PySem PySem.Spec PyProof.Rows L2 SM
/-! ### tables -/
def sameK (e n : Ent) : Bool := decide (e.s1 = n.s1) && decide (e.s2 = n.s2)
def putE (es : List Ent) (n : Ent) : List Ent := if es.any (fun e => sameK e n) = true then es.map (fun e => if sameK e n = true then n else e) else es ++ [n]
def keyE (n : Ent) : List Key := [.inl n.s1, .inl n.s2]
theorem keyE_eq (e n : Ent) : decide (keyE e = keyE n) = sameK e n := by
  unfold sameK keyE
  rw [← Bool.decide_and]
  refine decide_eq_decide.mpr ⟨fun h => ?_, fun h => by rw [h.1, h.2]⟩
  injection h with h1 h2
  injection h2 with h2 _
  exact ⟨by injection h1, by injection h2⟩
theorem sameK_iff {e n : Ent} : sameK e n = true ↔ e.s1 = n.s1 ∧ e.s2 = n.s2 := by
  unfold sameK
  rw [Bool.and_eq_true, decide_eq_true_eq, decide_eq_true_eq]
structure TabI (one other : List Nat) (p : Nat) (done : PV → PV → Prop) (es : List Ent) : Prop where
  sound : ∀ e ∈ es, EntOk one other p e
  uniq : ∀ e ∈ es, ∀ e' ∈ es, sameK e e' = true → e.n = e'.n
  full : ∀ x y, done x y → ∃ e ∈ es, e.s1 = sV one p x y ∧ e.s2 = sV other p x y ∧ e.n ≤ many p x y
def nE (one other : List Nat) (p : Nat) (x y : PV) : Ent := ⟨sV one p x y, sV other p x y, many p x y, x, y⟩
theorem nE_ok {one other : List Nat} {p : Nat} {x y : PV} (hx : x ∈ SOME p) (hy : y ∈ SOME p) : EntOk one other p (nE one other p x y) := ⟨hx, hy, rfl, rfl, rfl⟩
section
variable {one other : List Nat} {p : Nat} {done done' : PV → PV → Prop} {es : List Ent} {x y : PV}
theorem TabI.keep (T : TabI one other p done es) (hd : ∀ a b, done' a b → done a b ∨ (a = x ∧ b = y)) {e : Ent} (he : e ∈ es) (hk : sameK e (nE one other p x y) = true) (hn : e.n ≤ many p x y) : TabI one other p done' es := by
  refine ⟨T.sound, T.uniq, fun a b h => ?_⟩
  rcases hd a b h with h | ⟨rfl, rfl⟩
  · exact T.full a b h
  · have q := sameK_iff.mp hk
    exact ⟨e, he, q.1, q.2, hn⟩
theorem mem_putE {e n : Ent} (h : e ∈ putE es n) : e ∈ es ∨ e = n := by
  unfold putE at h
  split at h
  · obtain ⟨e0, he0, q⟩ := List.mem_map.mp h
    split at q
    · exact .inr q.symm
    · exact .inl (q ▸ he0)
  · rcases List.mem_append.mp h with h | h
    · exact .inl h
    · exact .inr (List.mem_singleton.mp h)
theorem n_mem_putE (es : List Ent) (n : Ent) : n ∈ putE es n := by
  unfold putE
  split
  · rename_i h
    obtain ⟨e, he, hk⟩ := List.any_eq_true.mp h
    exact List.mem_map.mpr ⟨e, he, by rw [if_pos hk]⟩
  · exact List.mem_append_right _ List.mem_cons_self
theorem mem_putE_of {e n : Ent} (h : e ∈ es) (hk : sameK e n = false) : e ∈ putE es n := by
  unfold putE
  split
  · exact List.mem_map.mpr ⟨e, h, by rw [if_neg (by rw [hk]; exact Bool.false_ne_true)]⟩
  · exact List.mem_append_left _ h
/-- of a table with n put in, all of n's key are n -/
theorem key_putE {e n : Ent} (h : e ∈ putE es n) (hk : sameK e n = true) : e = n := by
  unfold putE at h
  split at h
  · obtain ⟨e0, he0, q⟩ := List.mem_map.mp h
    split at q
    · exact q.symm
    · rename_i z
      subst q
      exact absurd hk z
  · rename_i z
    rcases List.mem_append.mp h with h | h
    · exact absurd (List.any_eq_true.mpr ⟨e, h, hk⟩) z
    · exact List.mem_singleton.mp h
theorem len_putE (es : List Ent) (n : Ent) : (putE es n).length ≤ es.length + 1 := by
  unfold putE
  split
  · rw [List.length_map]; omega
  · rw [List.length_append]; exact Nat.le_refl _
theorem sameK_symm {e n : Ent} (h : sameK e n = true) : sameK n e = true := by
  have q := sameK_iff.mp h
  exact sameK_iff.mpr ⟨q.1.symm, q.2.symm⟩
theorem sameK_trans {a b c : Ent} (h : sameK a b = true) (h' : sameK b c = true) : sameK a c = true := by
  have q := sameK_iff.mp h
  have q' := sameK_iff.mp h'
  exact sameK_iff.mpr ⟨q.1.trans q'.1, q.2.trans q'.2⟩
theorem TabI.put (T : TabI one other p done es) (hx : x ∈ SOME p) (hy : y ∈ SOME p) (hd : ∀ a b, done' a b → done a b ∨ (a = x ∧ b = y)) (hl : ∀ e ∈ es, sameK e (nE one other p x y) = true → many p x y ≤ e.n) :
    TabI one other p done' (putE es (nE one other p x y)) := by
  refine ⟨fun e he => ?_, fun e he e' he' hk => ?_, fun a b h => ?_⟩
  · rcases mem_putE he with h | rfl
    · exact T.sound e h
    · exact nE_ok hx hy
  · cases q : sameK e (nE one other p x y) with
    | true =>
      have q' : sameK e' (nE one other p x y) = true := sameK_trans (sameK_symm hk) q
      rw [key_putE he q, key_putE he' q']
    | false =>
      cases q' : sameK e' (nE one other p x y) with
      | true => rw [sameK_trans hk q'] at q; cases q
      | false =>
        have a1 := (mem_putE he).resolve_right fun z => by rw [z, sameK_iff.mpr ⟨rfl, rfl⟩] at q; cases q
        have a2 := (mem_putE he').resolve_right fun z => by rw [z, sameK_iff.mpr ⟨rfl, rfl⟩] at q'; cases q'
        exact T.uniq e a1 e' a2 hk
  · rcases hd a b h with h | ⟨rfl, rfl⟩
    · obtain ⟨e, he, h1, h2, h3⟩ := T.full a b h
      cases q : sameK e (nE one other p x y) with
      | true =>
        have z := sameK_iff.mp q
        exact ⟨_, n_mem_putE es _, z.1.symm.trans h1, z.2.symm.trans h2, Nat.le_trans (hl e he q) h3⟩
      | false => exact ⟨e, mem_putE_of he q, h1, h2, h3⟩
    · exact ⟨_, n_mem_putE es _, rfl, rfl, Nat.le_refl _⟩
end
section
variable {P : Program} {w : World} {K : PySem.W.Frag} {mg : Str → Option Value} {base : Heap} {CM CR : Addr}
def EntV (K : PySem.W.Frag) (H : Hp) (kv : List Key × V) (e : Ent) : Prop := kv.1 = keyE e ∧ ∃ t vx vy, kv.2 = .ref t ∧ SqT K H t [.int (e.n : Nat), vx, vy] ∧ PVat K H vx e.x ∧ PVat K H vy e.y
theorem entV_same {H H' : Hp} (s : Same H H') {kv : List Key × V} {e : Ent} (h : EntV K H kv e) : EntV K H' kv e := by
  obtain ⟨h1, t, vx, vy, h2, h3, h4, h5⟩ := h
  exact ⟨h1, t, vx, vy, h2, same_sqt s h3, pv_same s h4, pv_same s h5⟩
theorem ent_any {H : Hp} {n : Ent} : ∀ {kvs : List (List Key × V)} {es : List Ent}, Paired (EntV K H) kvs es → (kvs.any fun kv => decide (kv.1 = keyE n)) = es.any fun e => sameK e n
  | _, _, .nil => rfl
  | _, _, .cons (a := kv) (b := e) h t => by
    rw [List.any_cons, List.any_cons, ent_any t, h.1, keyE_eq]
theorem ent_val {H : Hp} {n : Ent} : ∀ {kvs : List (List Key × V)} {es : List Ent}, Paired (EntV K H) kvs es → ∀ v, valV kvs (keyE n) = some v → ∃ e ∈ es, sameK e n = true ∧ ∃ kv : List Key × V, kv.2 = v ∧ EntV K H kv e
  | _, _, .nil, v, h => by cases h
  | _, _, .cons (a := kv) (b := e) h t, v, q => by
    by_cases z : kv.1 = keyE n
    · rw [valV_pos z] at q
      refine ⟨e, List.mem_cons_self, ?_, kv, Option.some.inj q, h⟩
      rw [← keyE_eq, ← h.1]
      exact decide_eq_true z
    · rw [valV_neg z] at q
      obtain ⟨e', he, r⟩ := ent_val t v q
      exact ⟨e', List.mem_cons_of_mem _ he, r⟩
theorem ent_put {H : Hp} {n : Ent} {v : V} (hv : EntV K H (keyE n, v) n) {kvs : List (List Key × V)} {es : List Ent} (h : Paired (EntV K H) kvs es) : Paired (EntV K H) (putK kvs (keyE n) v) (putE es n) := by
  unfold putK putE
  rw [ent_any h]
  split
  · have : ∀ {kvs : List (List Key × V)} {es : List Ent}, Paired (EntV K H) kvs es → Paired (EntV K H) (kvs.map fun kv => if kv.1 = keyE n then (kv.1, v) else kv) (es.map fun e => if sameK e n = true then n else e) := by
      intro kvs es h
      induction h with
      | nil => exact .nil
      | @cons kv e l1 l2 h t ih =>
        refine .cons ?_ ih
        dsimp only
        by_cases z : kv.1 = keyE n
        · have z2 : sameK e n = true := by rw [← keyE_eq, ← h.1]; exact decide_eq_true z
          rw [if_pos z, if_pos z2, z]
          exact hv
        · have z2 : ¬ sameK e n = true := fun q => z (by rw [← keyE_eq, decide_eq_true_eq] at q; rw [h.1, q])
          rw [if_neg z, if_neg z2]
          exact h
    exact this h
  · exact Paired.snoc h hv
def TabAt (K : PySem.W.Frag) (H : Hp) (d : Addr) (one other : List Nat) (p : Nat) : Prop := ∃ kvs es, H d = some (.dT kvs) ∧ Paired (EntV K H) kvs es ∧ TabOk one other p es
theorem tab_same {H H' : Hp} (s : Same H H') {d : Addr} {one other : List Nat} {p : Nat} (h : TabAt K H d one other p) : TabAt K H' d one other p := by
  obtain ⟨kvs, es, h1, h2, h3⟩ := h
  exact ⟨kvs, es, s _ _ h1, Paired.mapP h2 fun a b q => entV_same s q, h3⟩
theorem TabI.mono {one other : List Nat} {p : Nat} {done done' : PV → PV → Prop} {es : List Ent} (T : TabI one other p done es) (h : ∀ a b, done' a b → done a b) : TabI one other p done' es := ⟨T.sound, T.uniq, fun x y q => T.full x y (h x y q)⟩
def doneTo (p i j : Nat) (x y : PV) : Prop := ∃ i' j' : Nat, (SOME p)[i']? = some x ∧ (SOME p)[j']? = some y ∧ (i' < i ∨ (i' = i ∧ j' < j))
theorem some_five : ∀ p, (SOME p).length ≤ 5 := by
  intro p
  unfold SOME
  split <;> decide
theorem many_lt {p : Nat} {x y : PV} (hp : p < 6) (hx : OkP p x) (hy : OkP p y) : many p x y < 3000 := by
  have a := small_text (put_ok hp least_ok hx)
  have b := small_text (put_ok hp least_ok hy)
  rw [text_len] at a b
  unfold many
  omega
theorem one_get {p q : Nat} (hp : p < 6) (hq : q < 6) (v : V) : valV [((Sum.inr (PN p) : Key), v)] (.inr (PN q)) = if q = p then some v else none := by
  by_cases h : q = p
  · subst h
    rw [if_pos rfl, valV_pos rfl]
  · rw [if_neg h, valV_neg (fun z => h (pn_inj hq hp (by injection z with z; exact z.symm)))]
    rfl
def spCheapest (K : PySem.W.Frag) (CR : Addr) : Sp := fun vs H Q _ => ∃ (ra rb : Addr) (one other : List Nat) (p : Nat), vs = [.ref ra, .ref rb, .str (PN p)] ∧ p < 6 ∧ RuleAt K CR H ra one ∧ RuleAt K CR H rb other ∧ ∀ d H', H d = none → Same H H' → TabAt K H' d one other p → Q (.ref d) H'
abbrev sCheapest : Stmt := top 69
theorem scCheapest : FnScope ["one", "other", "part", "found", "left", "right", "marks", "sides", "many"] ["one", "other", "part"] (defScope sCheapest) := ⟨rfl, rfl, rfl, by decide +kernel, rfl, by decide +kernel, by decide +kernel⟩
/-- where the table stands in the loops -/
def ChI (K : PySem.W.Frag) (H0 : Hp) (d : Addr) (one other : List Nat) (p i j : Nat) (H' : Hp) : Prop :=
  Same H0 (del d H') ∧ ∃ kvs es, H' d = some (.dT kvs) ∧ Paired (EntV K (del d H')) kvs es ∧ TabI one other p (doneTo p i j) es ∧ es.length ≤ 5 * i + j
theorem b_cheapest {sA : Addr} (c_SOME : Con mg "SOME" (.ref sA)) (FS : SomeF K w sA) (T : Free mg) (G_mark_with : C8.Cal P w K mg base 6 "mark_with" (spMarkWith K CM) []) (G_side_by : C8.Cal P w K mg base 5 "side_by" (spSideBy K CM CR) [])
    (g_len : C8.Met P w K mg base 1 CM "__len__" (spTell K CM fun m => .int (m.len : Nat)) []) : Body P w K mg base 6 ["one", "other", "part", "found", "left", "right", "marks", "sides", "many"] "cheapest" sCheapest (spCheapest K CR) := by
  intro f cdv A outer s H vs Q E hr h
  obtain ⟨ra, rb, one, other, p, rfl, hp, hR1, hR2, k⟩ := h
  have nd := scCheapest.nd
  have hu := hu_of hr
  have sz := sizeLine_eq
  refine ⟨_, (pss_cons (ps_set (i := 3) nd rfl (Or.inl rfl) pe_dnewT)
      (pss_cons (ps_for PassesOwn.never rfl (pi_tup (pe_ix (show IxR _ (rIxD K w) from ix_kdict) (C8.pe_gc rfl c_SOME) (pv 2) (fun _ _ => rfl))) (pg_name (i := 4) nd rfl (Or.inl rfl))
        (pss_one (ps_for PassesOwn.never rfl (pi_tup (pe_ix (show IxR _ (rIxD K w) from ix_kdict) (C8.pe_gc rfl c_SOME) (pv 2) (fun _ _ => rfl))) (pg_name (i := 5) nd rfl (Or.inl rfl))
          (pss_cons (ps_set (i := 6) nd rfl (Or.inl rfl) (pe_tup (pa_cons (C8.pe_c G_mark_with hr (by decide) rfl (pa_cons (pe_disp (pps_cons (pv 2) (pv 4) pps_nil) (by rfl) (by rfl) (fun z => by cases z) (by decide)) pa_nil)) (pa_cons (C8.pe_c G_mark_with hr (by decide) rfl (pa_cons (pe_disp (pps_cons (pv 2) (pv 5) pps_nil) (by rfl) (by rfl) (fun z => by cases z) (by decide)) pa_nil)) pa_nil))))
          (pss_cons (ps_set (i := 7) nd rfl (Or.inl rfl) (pe_tup (pa_cons (C8.pe_c G_side_by hr (by decide) rfl (pa_cons (pv 0) (pa_cons (pv 2) (pa_cons (pe_ix ix_tup (pv 6) pe_int (fun _ _ => rfl)) (pa_cons (pe_ix ix_tup (pv 6) pe_int (fun _ _ => rfl)) pa_nil))))) (pa_cons (C8.pe_c G_side_by hr (by decide) rfl (pa_cons (pv 1) (pa_cons (pv 2) (pa_cons (pe_ix ix_tup (pv 6) pe_int (fun _ _ => rfl)) (pa_cons (pe_ix ix_tup (pv 6) pe_int (fun _ _ => rfl)) pa_nil))))) pa_nil))))
          (pss_cons (ps_set (i := 8) nd rfl (Or.inl rfl) (pe_op op_add (pe_callB (call_lenO g_len (hr.mono (by decide))) (by rfl) T.len boot_len (pa_cons (pe_ix ix_tup (pv 6) pe_int (fun _ _ => rfl)) pa_nil)) (pe_callB (call_lenO g_len (hr.mono (by decide))) (by rfl) T.len boot_len (pa_cons (pe_ix ix_tup (pv 6) pe_int (fun _ _ => rfl)) pa_nil))))
          (pss_one (ps_if (PW.pt (pw_or (pt_cmp (pc_dnotin hu (pv 7) (pv 3))) (pw_or1 (pt_cmpR op_lt (pv 8) (pe_ix ix_tup (pe_dget hu (pv 3) (pv 7) (fun _ _ => rfl)) pe_int (fun _ _ => rfl)) (nomark _)))))
            (pss_one (ps_dput hu (pv 3) (pv 7) (pe_tup (pa_cons (pv 8) (pa_cons (pv 4) (pa_cons (pv 5) pa_nil)))) rfl))
            pss_nil))))))))
      (pss_one (ps_ret (pv 3))))), ?_⟩
  intro d hd
  obtain ⟨tA, vs, hS, hall⟩ := FS.row p hp
  have hvl : vs.length = (SOME p).length := Paired.length (hall H).2
  have h5 := some_five p
  refine ⟨_, rfl, sA, _, _, rfl, rfl, hS, tA, rfl, ⟨_, (hall _).1⟩, for_it (walk_tup (xs := vs)) (fun i σ' H' => (∃ a b c e g, σ' = [some (.ref ra), some (.ref rb), some (.str (PN p)), some (.ref d), a, b, c, e, g]) ∧ ChI K H d one other p i 0 H') ?_ (fun _ _ _ _ _ => (hall _).1) ?_ ?_⟩
  · refine ⟨⟨_, _, _, _, _, rfl⟩, del_in hd (same_new hd), [], [], upd_same, .nil, ⟨fun _ h => absurd h List.not_mem_nil, fun _ h => absurd h List.not_mem_nil, fun x y h => ?_⟩, Nat.zero_le _⟩
    obtain ⟨i', j', _, _, h⟩ := h
    omega
  · rintro i vL σ2 H1 H2 hi ⟨⟨a, b, c, e, g, rfl⟩, hI⟩ ⟨rfl, hL⟩
    obtain ⟨xL, hxL, _⟩ := paired_get (hall H).2 hL
    refine ⟨_, rfl, sA, _, _, rfl, rfl, hS, tA, rfl, ⟨_, (hall _).1⟩, for_it (walk_tup (xs := vs)) (fun j σ' H' => (∃ b c e g, σ' = [some (.ref ra), some (.ref rb), some (.str (PN p)), some (.ref d), some vL, b, c, e, g]) ∧ ChI K H d one other p i j H') ⟨⟨_, _, _, _, rfl⟩, hI⟩ (fun _ _ _ _ _ => (hall _).1) ?_ ?_⟩
    · rintro j vR σ2 H1 H2' hj ⟨⟨b, c, e, g, rfl⟩, s1, kvs, es, hd1, hP, hT, hz⟩ ⟨rfl, hRR⟩
      obtain ⟨xR, hxR, _⟩ := paired_get (hall H).2 hRR
      have mL := List.mem_of_getElem? hxL
      have mR := List.mem_of_getElem? hxR
      have oL := some_ok p hp _ mL
      have oR := some_ok p hp _ mR
      have pvL : ∀ H'', PVat K H'' vL xL := fun H'' => by
        obtain ⟨b', hb', q⟩ := paired_get (hall H'').2 hL
        rw [hxL] at hb'
        rw [Option.some.inj hb']
        exact q
      have pvR : ∀ H'', PVat K H'' vR xR := fun H'' => by
        obtain ⟨b', hb', q⟩ := paired_get (hall H'').2 hRR
        rw [hxR] at hb'
        rw [Option.some.inj hb']
        exact q
      have cond : ∀ (x : PV) (v : V) (H'' : Hp), OkP p x → PVat K H'' v x → ∀ q, q < 6 → (∃ u, valV [((Sum.inr (PN p) : Key), v)] (.inr (PN q)) = some u ∧ PVat K H'' u ((leastM.put p x).get q)) ∨ (valV [((Sum.inr (PN p) : Key), v)] (.inr (PN q)) = none ∧ (leastM.put p x).get q = leastM.get q) := fun x v H'' ox px q hq => by
        rw [one_get hp hq]
        by_cases z : q = p
        · subst z
          rw [if_pos rfl]
          refine .inl ⟨v, rfl, ?_⟩
          rw [put_get ox]
          exact px
        · rw [if_neg z]
          exact .inr ⟨rfl, put_ne hp hq ox z⟩
      have sR := s1.trans (del_sub d H2')
      refine fun p1 hp1 => ⟨_, rfl, _, rfl, upd_same, [(.inr (PN p), vL)], rfl, (by decide : 1 ≤ 15), p1, _, leastM.put p xL, rfl, upd_same, put_ok hp least_ok oL, cond xL vL _ oL (pvL _), fun r1 H4 s4 hM1 => fun p2 hp2 => ⟨_, rfl, _, rfl, upd_same, [(.inr (PN p), vR)], rfl, (by decide : 1 ≤ 15), p2, _, leastM.put p xR, rfl, upd_same, put_ok hp least_ok oR, cond xR vR _ oR (pvR _), fun r2 H5 s5 hM2 => ⟨(by decide : 2 ≤ sizeLine), fun tm htm => ?_⟩⟩⟩
      rw [upd_upd] at s4 s5
      have s14 : Same H2' H4 := (same_new hp1).trans s4
      have s45 : Same H4 H5 := (same_new hp2).trans s5
      have s56 : Same H5 (upd H5 tm (.tup [.ref r1, .ref r2])) := same_new htm
      have s16 := s14.trans (s45.trans s56)
      have hM1' := mark_same (s45.trans s56) hM1
      have hM2' := mark_same s56 hM2
      have htm6 : SqT K (upd H5 tm (.tup [.ref r1, .ref r2])) tm [.ref r1, .ref r2] := .of upd_same
      have g1 : (leastM.put p xL).get p = xL := put_get oL
      have g2 : (leastM.put p xR).get p = xR := put_get oR
      refine ⟨_, rfl, _, rfl, _, rfl, tm, _, 0, _, rfl, rfl, htm6, atI_nat (j := 0) rfl, _, rfl, tm, _, 1, _, rfl, rfl, htm6, atI_nat (j := 1) rfl, ra, r1, r2, one, leastM.put p xL, leastM.put p xR, p, rfl, hp, rule_same (sR.trans s16) hR1, hM1', hM2', fun H7 s7 => ?_⟩
      refine ⟨_, rfl, _, rfl, _, rfl, tm, _, 0, _, rfl, rfl, same_sqt s7 htm6, atI_nat (j := 0) rfl, _, rfl, tm, _, 1, _, rfl, rfl, same_sqt s7 htm6, atI_nat (j := 1) rfl, rb, r1, r2, other, leastM.put p xL, leastM.put p xR, p, rfl, hp, rule_same (sR.trans (s16.trans s7)) hR2, mark_same s7 hM1', mark_same s7 hM2', fun H8 s8 => ⟨(by decide : 2 ≤ sizeLine), fun ts hts => ?_⟩⟩
      rw [g1, g2]
      have hu2 : Same H8 (upd H8 ts (.tup [.int (sV one p xL xR), .int (sV other p xL xR)])) := same_new hts
      have s68 := s7.trans s8
      have s69 := s68.trans hu2
      have hM1'' := mark_same s69 hM1'
      have hM2'' := mark_same s69 hM2'
      have htm9 := same_sqt s69 htm6
      obtain ⟨ok1, dx1, q1, hx1, _⟩ := id hM1''
      obtain ⟨ok2, dx2, q2, hx2, _⟩ := id hM2''
      have ln1 := small_text ok1
      have ln2 := small_text ok2
      rw [text_len] at ln1 ln2
      refine ⟨_, rfl, tm, _, 0, _, rfl, rfl, htm9, atI_nat (j := 0) rfl, r1, dx1, _, rfl, hx1, r1, _, rfl, hM1'', _, rfl, by omega, ?_⟩
      refine ⟨_, rfl, tm, _, 1, _, rfl, rfl, htm9, atI_nat (j := 1) rfl, r2, dx2, _, rfl, hx2, r2, _, rfl, hM2'', _, rfl, by omega, _, _, rfl, rfl, ?_⟩
      have hts9 : upd H8 ts (.tup [.int (sV one p xL xR), .int (sV other p xL xR)]) ts = some (.tup ((keyE (nE one other p xL xR)).map kV)) := upd_same
      have hd9 : upd H8 ts (.tup [.int (sV one p xL xR), .int (sV other p xL xR)]) d = some (.dT kvs) := (s16.trans s69) _ _ hd1
      have emany : (((leastM.put p xL).len : Nat) : Int) + ((leastM.put p xR).len : Nat) = ((many p xL xR : Nat) : Int) := by unfold many; omega
      generalize hH9 : upd H8 ts (.tup [.int (sV one p xL xR), .int (sV other p xL xR)]) = H9 at *
      have s29 : Same H2' H9 := s16.trans s69
      have del29 : Same (del d H2') (del d H9) := del_same s29
      have hP9 : Paired (EntV K (del d H9)) kvs es := Paired.mapP hP fun a b q => entV_same del29 q
      have hmono : ∀ x y, doneTo p i (j + 1) x y → doneTo p i j x y ∨ (x = xL ∧ y = xR) := by
        rintro x y ⟨i', j', e1, e2, e3⟩
        by_cases z : i' = i ∧ j' = j
        · right
          rw [z.1, hxL] at e1
          rw [z.2, hxR] at e2
          exact ⟨(Option.some.inj e1).symm, (Option.some.inj e2).symm⟩
        · exact .inl ⟨i', j', e1, e2, by omega⟩
      have hlen : kvs.length = es.length := Paired.length hP
      have hjl : j < (SOME p).length := by omega
      have hil : i < (SOME p).length := by omega
      -- what storing does
      have store : (∀ e ∈ es, sameK e (nE one other p xL xR) = true → many p xL xR ≤ e.n) → ∀ tv, H9 tv = none → ChI K H d one other p i (j + 1) (upd (upd H9 tv (.tup [.int (many p xL xR : Nat), vL, vR])) d (.dT (putK kvs (keyE (nE one other p xL xR)) (.ref tv)))) := fun hl tv htv => by
        have nvd : tv ≠ d := fun z => by rw [z, hd9] at htv; cases htv
        have sv : Same H9 (upd H9 tv (.tup [.int (many p xL xR : Nat), vL, vR])) := same_new htv
        refine ⟨?_, _, putE es (nE one other p xL xR), upd_same, ?_, hT.put mL mR hmono hl, ?_⟩
        · rw [del_upd]
          exact s1.trans (del29.trans (del_same sv))
        · rw [del_upd]
          refine ent_put ⟨rfl, tv, vL, vR, rfl, .of (by rw [del_ne nvd, upd_same] <;> rfl), pvL _, pvR _⟩ (Paired.mapP hP9 fun a b q => entV_same (del_same sv) q)
        · have := len_putE es (nE one other p xL xR)
          omega
      refine ⟨_, rfl, _, rfl, d, _, rfl, DGet.t hd9 hts9, _, rfl, ?_⟩
      cases hv : valV kvs (keyE (nE one other p xL xR)) with
      | none =>
        refine iteT (iteT ⟨_, rfl, _, rfl, _, rfl, (by decide : 3 ≤ sizeLine), fun tv htv => ?_⟩)
        refine ⟨_, rfl, _, rfl, d, _, rfl, DPut.t ((same_new htv) _ _ hd9) ((same_new htv) _ _ hts9) (by omega), ⟨_, _, _, _, rfl⟩, ?_⟩
        have q := store (fun e he hk => by
          have z := valV_any (keyE (nE one other p xL xR)) kvs
          rw [hv, ent_any hP9] at z
          exact absurd (List.any_eq_true.mpr ⟨e, he, hk⟩) (by rw [z]; exact Bool.false_ne_true)) tv htv
        rw [← emany] at q
        exact q
      | some v0 =>
        obtain ⟨e0, he0, hk0, kv0, rfl, _, t0, vx, vy, e1, e2, e3, e4⟩ := ent_val hP9 v0 hv
        refine iteF ⟨_, rfl, _, rfl, _, rfl, d, _, rfl, ?_, t0, _, 0, _, e1, rfl, same_sqt (del_sub d H9) e2, atI_nat (j := 0) rfl, _, _, rfl, rfl, _, rfl, ?_⟩
        · have q := DGet.t (k := keyE (nE one other p xL xR)) hd9 hts9
          rw [hv] at q
          exact q
        · rw [emany]
          by_cases z : many p xL xR < e0.n
          · rw [decide_eq_true (show ((many p xL xR : Nat) : Int) < (e0.n : Nat) by omega)]
            refine iteT ⟨_, rfl, _, rfl, _, rfl, (by decide : 3 ≤ sizeLine), fun tv htv => ?_⟩
            refine ⟨_, rfl, _, rfl, d, _, rfl, DPut.t ((same_new htv) _ _ hd9) ((same_new htv) _ _ hts9) (by omega), ⟨_, _, _, _, rfl⟩, ?_⟩
            have q := store (fun e he hk => by
              have := hT.uniq e he e0 he0 (sameK_trans hk (sameK_symm hk0))
              omega) tv htv
            rw [← emany] at q
            exact q
          · rw [decide_eq_false (show ¬ ((many p xL xR : Nat) : Int) < (e0.n : Nat) by omega)]
            exact iteF ⟨⟨_, _, _, _, rfl⟩, s1.trans del29, kvs, es, hd9, hP9, hT.keep hmono he0 hk0 (by omega), by omega⟩
    · rintro σ2 H3 ⟨⟨b, c, e, g, rfl⟩, s1, kvs, es, hd1, hP, hT, hz⟩
      refine ⟨⟨_, _, _, _, _, rfl⟩, s1, kvs, es, hd1, hP, hT.mono fun x y h => ?_, by omega⟩
      obtain ⟨i', j', h1, h2, h3⟩ := h
      refine ⟨i', j', h1, h2, ?_⟩
      have : j' < (SOME p).length := (List.getElem?_eq_some_iff.mp h2).1
      omega
  · rintro σ2 H3 ⟨⟨a, b, c, e, g, rfl⟩, s1, kvs, es, hd1, hP, hT, hz⟩
    refine ⟨_, rfl, k d H3 hd (s1.trans (del_sub d H3)) ⟨kvs, es, hd1, Paired.mapP hP fun a b q => entV_same (del_sub d H3) q, hT.sound, fun x hx y hy => ?_⟩⟩
    obtain ⟨i', hi'⟩ := List.getElem?_of_mem hx
    obtain ⟨j', hj'⟩ := List.getElem?_of_mem hy
    have : i' < (SOME p).length := (List.getElem?_eq_some_iff.mp hi').1
    exact hT.full x y ⟨i', j', hi', hj', .inl (by omega)⟩
theorem cheapest_ (D : DefT K mg "cheapest" sCheapest []) {sA : Addr} (c : Con mg "SOME" (.ref sA)) (FS : SomeF K w sA) (T : Free mg) (G1 : C8.Cal P w K mg base 6 "mark_with" (spMarkWith K CM) []) (G2 : C8.Cal P w K mg base 5 "side_by" (spSideBy K CM CR) [])
    (g : C8.Met P w K mg base 1 CM "__len__" (spTell K CM fun m => .int (m.len : Nat)) []) : C8.Cal P w K mg base 7 "cheapest" (spCheapest K CR) [] :=
  cal_of D scCheapest (fun _ _ _ _ _ _ us hl => match us, hl with | [_, _, _], _ => rfl) (fun vs H Q E h => by
    obtain ⟨_, _, _, _, _, rfl, _⟩ := h
    rfl) (b_cheapest c FS T G1 G2 g)
end
end S
end

section
set_option maxRecDepth 100000
set_option maxHeartbeats 4000000
/-! Defs: fewest_in, parted, alike. -/
namespace S
open PySem PySem.Spec PyProof.Rows L2 SM
section
variable {P : Program} {w : World} {K : PySem.W.Frag} {mg : Str → Option Value} {base : Heap} {CM CR : Addr}
/-! ### the heap without a dict -/
theorem sqt_delT {H : Hp} {D a : Addr} {l : List (List Key × V)} {xs : List V} (hD : H D = some (.dT l)) (h : SqT K H a xs) : SqT K (del D H) a xs := by
  have ne : ∀ o, H a = some o → o ≠ .dT l → a ≠ D := fun o e n q => by
    subst q
    rw [e] at hD
    exact n (Option.some.inj hD)
  rcases h with (h | ⟨o, h⟩) | h
  · exact .inl (.inl (by rw [del_ne (ne _ h (by intro z; cases z))]; exact h))
  · exact .inl (.inr ⟨o, by rw [del_ne (ne _ h (by intro z; cases z))]; exact h⟩)
  · exact .inr h
theorem pv_delT {H : Hp} {D : Addr} {l : List (List Key × V)} {v : V} {u : PV} (hD : H D = some (.dT l)) (h : PVat K H v u) : PVat K (del D H) v u := by
  cases u with
  | s x => exact h
  | i n => exact h
  | l xs =>
    obtain ⟨a, h1, h2⟩ := h
    exact ⟨a, h1, sqt_delT hD h2⟩
  | o y => exact h
theorem ent_delT {H : Hp} {D : Addr} {l : List (List Key × V)} (hD : H D = some (.dT l)) {kv : List Key × V} {e : Ent} (h : EntV K H kv e) : EntV K (del D H) kv e := by
  obtain ⟨h1, t, vx, vy, h2, h3, h4, h5⟩ := h
  exact ⟨h1, t, vx, vy, h2, sqt_delT hD h3, pv_delT hD h4, pv_delT hD h5⟩
theorem rule_delT {H : Hp} {D r : Addr} {ws : List Nat} {l : List (List Key × V)} (hD : H D = some (.dT l)) (h : RuleAt K CR H r ws) : RuleAt K CR (del D H) r ws := by
  obtain ⟨ok, dx, a, vs, h1, h2, h3⟩ := h
  have ne : ∀ b o, H b = some o → o ≠ .dT l → b ≠ D := fun b o e n q => by
    subst q
    rw [e] at hD
    exact n (Option.some.inj hD)
  exact ⟨ok, dx, a, vs, by rw [del_ne (ne _ _ h1 (by intro z; cases z))]; exact h1, by rw [del_ne (ne _ _ h2 (by intro z; cases z))]; exact h2, Paired.mapP h3 fun v j ⟨t, e1, e2⟩ => ⟨t, e1, sqt_delT hD e2⟩⟩
/-! ### the best so far -/
def Found (K : PySem.W.Frag) (H : Hp) (v : V) (p q : Nat) (e e' : Ent) : Prop := ∃ (t k1 k2 : Addr) (vx vx' vy vy' : V), v = .ref t ∧ SqT K H t [.int ((e.n + e'.n : Nat) : Int), .ref k1, .ref k2] ∧
  H k1 = some (.dK [(.inr (PN p), vx), (.inr (PN q), vx')]) ∧ PVat K H vx e.x ∧ PVat K H vx' e'.x ∧ H k2 = some (.dK [(.inr (PN p), vy), (.inr (PN q), vy')]) ∧ PVat K H vy e.y ∧ PVat K H vy' e'.y
theorem found_same {H H' : Hp} (s : Same H H') {v : V} {p q : Nat} {e e' : Ent} (h : Found K H v p q e e') : Found K H' v p q e e' := by
  obtain ⟨t, k1, k2, vx, vx', vy, vy', h1, h2, h3, h4, h5, h6, h7, h8⟩ := h
  exact ⟨t, k1, k2, vx, vx', vy, vy', h1, same_sqt s h2, s _ _ h3, pv_same s h4, pv_same s h5, s _ _ h6, pv_same s h7, pv_same s h8⟩
def Best (K : PySem.W.Frag) (H : Hp) (one other : List Nat) (v : V) (C : Nat → Nat → Ent → Ent → Prop) : Prop :=
  (v = .non ∧ ∀ p q e e', C p q e e' → ¬ Cand one other p q e e') ∨
  ∃ p q e e', Found K H v p q e e' ∧ C p q e e' ∧ Cand one other p q e e' ∧ ∀ p' q' d d', C p' q' d d' → Cand one other p' q' d d' → e.n + e'.n ≤ d.n + d'.n
theorem best_same {H H' : Hp} (s : Same H H') {one other : List Nat} {v : V} {C : Nat → Nat → Ent → Ent → Prop} (h : Best K H one other v C) : Best K H' one other v C :=
  h.imp id fun ⟨p, q, e, e', h1, h2⟩ => ⟨p, q, e, e', found_same s h1, h2⟩
theorem best_iff {H : Hp} {one other : List Nat} {v : V} {C C' : Nat → Nat → Ent → Ent → Prop} (i : ∀ p q e e', C p q e e' ↔ C' p q e e') (h : Best K H one other v C) : Best K H one other v C' :=
  h.imp (fun ⟨a, b⟩ => ⟨a, fun p q e e' z => b p q e e' ((i p q e e').mpr z)⟩) fun ⟨p, q, e, e', h1, h2, h3, h4⟩ => ⟨p, q, e, e', h1, (i p q e e').mp h2, h3, fun p' q' d d' z => h4 p' q' d d' ((i p' q' d d').mpr z)⟩
theorem two_merge {p q : Nat} (hp : p < 6) (hq : q < 6) (ne : p ≠ q) (a b : V) : mergeK [] [((.inr (PN p) : Key), a), (.inr (PN q), b)] = [(.inr (PN p), a), (.inr (PN q), b)] := by
  unfold mergeK
  rw [List.foldl_cons, List.foldl_cons, List.foldl_nil]
  have e1 : putK ([] : List (Key × V)) (.inr (PN p)) a = [(.inr (PN p), a)] := rfl
  rw [e1]
  unfold putK
  have nk : ¬ ((Sum.inr (PN p) : Key) = .inr (PN q)) := fun z => ne (pn_inj hp hq (by injection z))
  rw [List.any_cons, decide_eq_false (show ¬ ((Sum.inr (PN p) : Key), a).1 = .inr (PN q) from nk), List.any_nil, Bool.false_or, if_neg Bool.false_ne_true]
  rfl
theorem sV_way {ws : List Nat} {p : Nat} {x y : PV} (h : sV ws p x y ≠ 0) : wayOf ws p ≠ none := fun z => h (by unfold sV; rw [z])
theorem dget_at {H : Hp} {a : Addr} {kvs : List (Key × V)} {k : Key} {v : V} (e : H a = some (.dK kvs)) (h : valV kvs k = some v) : DGet H a (kV k) (some v) := by
  rw [← h]
  exact DGet.k e
theorem best_skip {H : Hp} {one other : List Nat} {v : V} {C C' : Nat → Nat → Ent → Ent → Prop} {p q : Nat} {e1 e2 : Ent} (i : ∀ p' q' e e', C' p' q' e e' ↔ C p' q' e e' ∨ (p' = p ∧ q' = q ∧ e = e1 ∧ e' = e2)) (n : ¬ Cand one other p q e1 e2) (h : Best K H one other v C) : Best K H one other v C' := by
  rcases h with ⟨a, b⟩ | ⟨p0, q0, e, e', h1, h2, h3, h4⟩
  · refine .inl ⟨a, fun p' q' e e' z => ?_⟩
    rcases (i p' q' e e').mp z with z | ⟨rfl, rfl, rfl, rfl⟩
    · exact b _ _ _ _ z
    · exact n
  · refine .inr ⟨p0, q0, e, e', h1, (i _ _ _ _).mpr (.inl h2), h3, fun p' q' d d' z c => ?_⟩
    rcases (i p' q' d d').mp z with z | ⟨rfl, rfl, rfl, rfl⟩
    · exact h4 _ _ _ _ z c
    · exact absurd c n
theorem best_stay {H : Hp} {one other : List Nat} {v : V} {C C' : Nat → Nat → Ent → Ent → Prop} {p q p0 q0 : Nat} {e1 e2 e e' : Ent} (i : ∀ p' q' e e', C' p' q' e e' ↔ C p' q' e e' ∨ (p' = p ∧ q' = q ∧ e = e1 ∧ e' = e2))
    (h1 : Found K H v p0 q0 e e') (h2 : C p0 q0 e e') (h3 : Cand one other p0 q0 e e') (h4 : ∀ p' q' d d', C p' q' d d' → Cand one other p' q' d d' → e.n + e'.n ≤ d.n + d'.n) (n : e.n + e'.n ≤ e1.n + e2.n) : Best K H one other v C' := by
  refine .inr ⟨p0, q0, e, e', h1, (i _ _ _ _).mpr (.inl h2), h3, fun p' q' d d' z c => ?_⟩
  rcases (i p' q' d d').mp z with z | ⟨rfl, rfl, rfl, rfl⟩
  · exact h4 _ _ _ _ z c
  · exact n
theorem best_new {H : Hp} {one other : List Nat} {v : V} {C C' : Nat → Nat → Ent → Ent → Prop} {p q : Nat} {e1 e2 : Ent} (i : ∀ p' q' e e', C' p' q' e e' ↔ C p' q' e e' ∨ (p' = p ∧ q' = q ∧ e = e1 ∧ e' = e2)) (hc : Cand one other p q e1 e2)
    (h1 : Found K H v p q e1 e2) (h4 : ∀ p' q' d d', C p' q' d d' → Cand one other p' q' d d' → e1.n + e2.n ≤ d.n + d'.n) : Best K H one other v C' := by
  refine .inr ⟨p, q, e1, e2, h1, (i _ _ _ _).mpr (.inr ⟨rfl, rfl, rfl, rfl⟩), hc, fun p' q' d d' z c => ?_⟩
  rcases (i p' q' d d').mp z with z | ⟨rfl, rfl, rfl, rfl⟩
  · exact h4 _ _ _ _ z c
  · exact Nat.le_refl _
def spFewest (K : PySem.W.Frag) (CR : Addr) : Sp := fun vs H Q _ => ∃ (ra rb dt d1 d2 : Addr) (tks : List (Key × V)) (one other : List Nat) (p q : Nat) (kvs1 kvs2 : List (List Key × V)) (es1 es2 : List Ent),
  vs = [.ref ra, .ref rb, .str (PN p), .str (PN q), .ref dt] ∧ p < 6 ∧ q < 6 ∧ p < q ∧ RuleAt K CR H ra one ∧ RuleAt K CR H rb other ∧ H dt = some (.dK tks) ∧ valV tks (.inr (PN p)) = some (.ref d1) ∧ valV tks (.inr (PN q)) = some (.ref d2) ∧ d1 ≠ d2 ∧
  H d1 = some (.dT kvs1) ∧ Paired (EntV K H) kvs1 es1 ∧ (∀ e ∈ es1, EntOk one other p e) ∧ H d2 = some (.dT kvs2) ∧ Paired (EntV K H) kvs2 es2 ∧ (∀ e ∈ es2, EntOk one other q e) ∧
  ∀ v H', Same H H' → Best K H' one other v (fun p' q' e e' => p' = p ∧ q' = q ∧ e ∈ es1 ∧ e' ∈ es2) → Q v H'
abbrev sFewest : Stmt := top 71
theorem scFewest : FnScope ["one", "other", "first", "second", "tables", "best", "left", "row", "right", "line", "told", "due"] ["one", "other", "first", "second", "tables"] (defScope sFewest) := ⟨rfl, rfl, rfl, by decide +kernel, rfl, by decide +kernel, by decide +kernel⟩
/-- the pairs of entries that were looked at -/
def seen (p q : Nat) (es1 es2 : List Ent) (i j : Nat) : Nat → Nat → Ent → Ent → Prop := fun p' q' e e' => p' = p ∧ q' = q ∧ ∃ i' j' : Nat, es1[i']? = some e ∧ es2[j']? = some e' ∧ (i' < i ∨ (i' = i ∧ j' < j))
theorem b_fewest (G_decided : C8.Cal P w K mg base 3 "decided" (spDecided K CR) []) : Body P w K mg base 3 ["one", "other", "first", "second", "tables", "best", "left", "row", "right", "line", "told", "due"] "fewest_in" sFewest (spFewest K CR) := by
  intro f cdv A outer s H vs Q E hr h
  obtain ⟨ra, rb, dt, d1, d2, tks, one, other, p, q, kvs1, kvs2, es1, es2, rfl, hp, hq, hpq, hR1, hR2, hdt, hv1, hv2, ne12, hd1, hP1, hE1, hd2, hP2, hE2, k⟩ := h
  have nd := scFewest.nd
  have hu := hu_of hr
  have sz := sizeLine_eq
  refine ⟨_, (pss_cons (ps_set (i := 5) nd rfl (Or.inl rfl) pe_non)
      (pss_cons (ps_lock (ps_for PassesOwn.never rfl (pi_itemsT (pe_dget hu (pv 4) (pv 2) (fun _ _ => rfl))) (pg_tup rfl (pgs_cons (pg_name (i := 6) nd rfl (Or.inl rfl)) (pgs_cons (pg_name (i := 7) nd rfl (Or.inl rfl)) pgs_nil)))
        (pss_one (ps_lock (ps_for PassesOwn.never rfl (pi_itemsT (pe_dget hu (pv 4) (pv 3) (fun _ _ => rfl))) (pg_tup rfl (pgs_cons (pg_name (i := 8) nd rfl (Or.inl rfl)) (pgs_cons (pg_name (i := 9) nd rfl (Or.inl rfl)) pgs_nil)))
          (pss_cons (ps_set (i := 10) nd rfl (Or.inl rfl) (C8.pe_c G_decided hr (by decide) rfl (pa_cons (pv 0) (pa_cons (pe_tup (pa_cons (pv 2) (pa_cons (pe_ix ix_tup (pv 6) pe_int (fun _ _ => rfl)) pa_nil))) (pa_cons (pe_tup (pa_cons (pv 3) (pa_cons (pe_ix ix_tup (pv 8) pe_int (fun _ _ => rfl)) pa_nil))) pa_nil)))))
          (pss_cons (ps_set (i := 11) nd rfl (Or.inl rfl) (C8.pe_c G_decided hr (by decide) rfl (pa_cons (pv 1) (pa_cons (pe_tup (pa_cons (pv 2) (pa_cons (pe_ix ix_tup (pv 6) pe_int (fun _ _ => rfl)) pa_nil))) (pa_cons (pe_tup (pa_cons (pv 3) (pa_cons (pe_ix ix_tup (pv 8) pe_int (fun _ _ => rfl)) pa_nil))) pa_nil)))))
          (pss_one (ps_if (PW.pt (pw_and (pt_cmpR op_ne (pv 10) (pv 11) (nomark _)) (pw_and1 (PW.pt (pw_or (pt_cmpR op_isN (pv 5) pe_non (nomark _)) (pw_or1 (pt_cmpR op_lt (pe_op op_add (pe_ix ix_tup (pv 7) pe_int (fun _ _ => rfl)) (pe_ix ix_tup (pv 9) pe_int (fun _ _ => rfl))) (pe_ix ix_tup (pv 5) pe_int (fun _ _ => rfl)) (nomark _))))))))
            (pss_one (ps_set (i := 5) nd rfl (Or.inl rfl) (pe_tup (pa_cons (pe_op op_add (pe_ix ix_tup (pv 7) pe_int (fun _ _ => rfl)) (pe_ix ix_tup (pv 9) pe_int (fun _ _ => rfl))) (pa_cons (pe_disp (pps_cons (pv 2) (pe_ix ix_tup (pv 7) pe_int (fun _ _ => rfl)) (pps_cons (pv 3) (pe_ix ix_tup (pv 9) pe_int (fun _ _ => rfl)) pps_nil)) (by rfl) (by rfl) (fun z => by cases z) (by decide)) (pa_cons (pe_disp (pps_cons (pv 2) (pe_ix ix_tup (pv 7) pe_int (fun _ _ => rfl)) (pps_cons (pv 3) (pe_ix ix_tup (pv 9) pe_int (fun _ _ => rfl)) pps_nil)) (by rfl) (by rfl) (fun z => by cases z) (by decide)) pa_nil))))))
            pss_nil)))))))))
      (pss_one (ps_ret (pv 5))))), ?_⟩
  -- the heap without both tables
  let core : Hp → Hp := fun H => del d2 (del d1 H)
  have core1 : ∀ H u, core (upd H d1 u) = core H := fun H u => by show del d2 (del d1 (upd H d1 u)) = _; rw [del_upd]
  have core2 : ∀ H u, core (upd H d2 u) = core H := fun H u => by
    funext b
    show del d2 (del d1 (upd H d2 u)) b = del d2 (del d1 H) b
    by_cases hb : b = d2
    · rw [hb, del_at, del_at]
    · rw [del_ne hb, del_ne hb]
      by_cases hb1 : b = d1
      · rw [hb1, del_at, del_at]
      · rw [del_ne hb1, del_ne hb1, upd_ne hb]
  have coreS : ∀ {H H'}, Same H H' → Same (core H) (core H') := fun s => del_same (del_same s)
  have coreB : ∀ H, Same (core H) H := fun H => (del_sub d2 _).trans (del_sub d1 H)
  have coreN : ∀ {H' : Hp} {b : Addr}, b ≠ d1 → b ≠ d2 → core H' b = H' b := fun {H' b} n1 n2 => by show del d2 (del d1 H') b = _; rw [del_ne n2, del_ne n1]
  have hd2' : del d1 H d2 = some (.dT kvs2) := by rw [del_ne (Ne.symm ne12)]; exact hd2
  have cR1 : RuleAt K CR (core H) ra one := rule_delT hd2' (rule_delT hd1 hR1)
  have cR2 : RuleAt K CR (core H) rb other := rule_delT hd2' (rule_delT hd1 hR2)
  have cP1 : Paired (EntV K (core H)) kvs1 es1 := Paired.mapP hP1 fun a b z => ent_delT hd2' (ent_delT hd1 z)
  have cP2 : Paired (EntV K (core H)) kvs2 es2 := Paired.mapP hP2 fun a b z => ent_delT hd2' (ent_delT hd1 z)
  have ndt1 : dt ≠ d1 := fun z => by rw [z, hd1] at hdt; cases hdt
  have ndt2 : dt ≠ d2 := fun z => by rw [z, hd2] at hdt; cases hdt
  have cdt : core H dt = some (.dK tks) := by rw [coreN ndt1 ndt2]; exact hdt
  have l1 : kvs1.length = es1.length := Paired.length hP1
  have l2 : kvs2.length = es2.length := Paired.length hP2
  refine ⟨d1, _, hd1, True.intro, fun od1 => ?_⟩
  refine ⟨_, rfl, _, rfl, dt, .ref d1, rfl, dget_at (k := .inr (PN p)) (by rw [upd_ne ndt1]; exact hdt) hv1, d1, od1, kvs1, rfl, upd_same, for_it walk_itemsT (fun i σ' H' => (∃ v a b c e g g', σ' = [some (.ref ra), some (.ref rb), some (.str (PN p)), some (.str (PN q)), some (.ref dt), some v, a, b, c, e, g, g'] ∧ Best K (core H') one other v (seen p q es1 es2 i 0)) ∧ Same (core H) (core H') ∧ H' d1 = some (.frz od1 (.dT kvs1)) ∧ H' d2 = some (.dT kvs2)) ?_ (fun i σ' H' _ z => z.2.2.1) ?_ ?_⟩
  · refine ⟨⟨_, _, _, _, _, _, _, rfl, .inl ⟨rfl, ?_⟩⟩, by rw [core1]; exact Same.refl _, upd_same, by rw [upd_ne (Ne.symm ne12)]; exact hd2⟩
    rintro _ _ e e' ⟨_, _, i', j', _, _, z⟩
    omega
  · rintro i x σ2 H1 H2 hi ⟨⟨v, a, b, c, e, g, g', rfl, hB⟩, sm, f1, f2⟩ ⟨T1, q1, k1, w1, hk1, rfl, hq1, hT1, rfl⟩
    obtain ⟨e1, he1, hV1⟩ := paired_get cP1 hk1
    have nT1 : T1 ≠ d1 := fun z => by rw [z, f1] at hT1; cases hT1
    have nT2 : T1 ≠ d2 := fun z => by rw [z, f2] at hT1; cases hT1
    have sT : Same H1 (upd H1 T1 (.tup [.ref q1, w1])) := same_new hT1
    refine ⟨T1, _, rfl, .of upd_same, rfl, _, _, rfl, _, _, rfl, rfl, ?_⟩
    refine ⟨d2, _, sT _ _ f2, True.intro, fun od2 => ?_⟩
    obtain rfl : k1 = keyE e1 := hV1.1
    have nq1 : q1 ≠ d1 := fun z => by rw [z, f1] at hq1; cases hq1
    have nq2 : q1 ≠ d2 := fun z => by rw [z, f2] at hq1; cases hq1
    refine ⟨_, rfl, _, rfl, dt, .ref d2, rfl, dget_at (k := .inr (PN q)) (by rw [upd_ne ndt2]; exact sT _ _ (coreB _ _ _ (sm _ _ cdt))) hv2, d2, od2, kvs2, rfl, upd_same, for_it walk_itemsT (fun j σ' H' => (∃ v c e g g', σ' = [some (.ref ra), some (.ref rb), some (.str (PN p)), some (.str (PN q)), some (.ref dt), some v, some (.ref q1), some w1, c, e, g, g'] ∧ Best K (core H') one other v (seen p q es1 es2 i j)) ∧ Same (core H) (core H') ∧ H' d1 = some (.frz od1 (.dT kvs1)) ∧ H' d2 = some (.frz od2 (.dT kvs2)) ∧ H' q1 = some (.tup ((keyE e1).map kV))) ?_ (fun j σ' H' _ z => z.2.2.2.1) ?_ ?_⟩
    · refine ⟨⟨_, _, _, _, _, rfl, ?_⟩, ?_, ?_, upd_same, ?_⟩
      · rw [core2]
        exact best_same (coreS sT) hB
      · rw [core2]
        exact sm.trans (coreS sT)
      · rw [upd_ne ne12]
        exact sT _ _ f1
      · rw [upd_ne nq2]
        exact sT _ _ hq1
    · rintro j x σ2 H3 H4 hj ⟨⟨v, c, e, g, g', rfl, hB⟩, sm, f1, f2, f3⟩ ⟨T2, q2, k2, w2, hk2, rfl, hq2, hT2, rfl⟩
      obtain ⟨e2, he2, hV2⟩ := paired_get cP2 hk2
      obtain rfl : k2 = keyE e2 := hV2.1
      have sT : Same H3 (upd H3 T2 (.tup [.ref q2, w2])) := same_new hT2
      have E1 := hE1 e1 (List.mem_of_getElem? he1)
      have E2 := hE2 e2 (List.mem_of_getElem? he2)
      refine ⟨T2, _, rfl, .of upd_same, rfl, _, _, rfl, _, _, rfl, rfl, ?_⟩
      have sC : Same (core H) (upd H3 T2 (.tup [.ref q2, w2])) := sm.trans ((coreB H3).trans sT)
      have f3' := sT _ _ f3
      have hq2' := sT _ _ hq2
      have f1' := sT _ _ f1
      have f2' := sT _ _ f2
      have hB' := best_same (coreS sT) hB
      have sm' := sm.trans (coreS sT)
      generalize hH5 : upd H3 T2 (.tup [.ref q2, w2]) = H5 at *
      -- told
      refine ⟨_, rfl, _, rfl, _, rfl, q1, _, 0, _, rfl, rfl, .of f3', atI_nat (j := 0) rfl, (by decide : 2 ≤ sizeLine), fun t1 ht1 => ?_⟩
      refine ⟨_, rfl, _, rfl, q2, _, 0, _, rfl, rfl, .of (same_new ht1 _ _ hq2'), atI_nat (j := 0) rfl, (by decide : 2 ≤ sizeLine), fun t2 ht2 => ?_⟩
      have s6 := (same_new (u := HO.tup [V.str (PN p), V.int e1.s1]) ht1).trans (same_new (u := HO.tup [V.str (PN q), V.int e2.s1]) ht2)
      refine ⟨ra, t1, t2, one, p, q, e1.s1, e2.s1, rfl, hp, hq, rule_same (sC.trans s6) cR1, .of (same_new ht2 _ _ upd_same), .of upd_same, fun z => sV_way (by rw [← E1.h1]; exact z), fun z => sV_way (by rw [← E2.h1]; exact z), fun H7 s7 => ?_⟩
      have s57 := s6.trans s7
      -- due
      refine ⟨_, rfl, _, rfl, _, rfl, q1, _, 1, _, rfl, rfl, .of (s57 _ _ f3'), atI_nat (j := 1) rfl, (by decide : 2 ≤ sizeLine), fun t3 ht3 => ?_⟩
      refine ⟨_, rfl, _, rfl, q2, _, 1, _, rfl, rfl, .of (same_new ht3 _ _ (s57 _ _ hq2')), atI_nat (j := 1) rfl, (by decide : 2 ≤ sizeLine), fun t4 ht4 => ?_⟩
      have s8 := (same_new (u := HO.tup [V.str (PN p), V.int e1.s2]) ht3).trans (same_new (u := HO.tup [V.str (PN q), V.int e2.s2]) ht4)
      refine ⟨rb, t3, t4, other, p, q, e1.s2, e2.s2, rfl, hp, hq, rule_same (sC.trans (s57.trans s8)) cR2, .of (same_new ht4 _ _ upd_same), .of upd_same, fun z => sV_way (by rw [← E1.h2]; exact z), fun z => sV_way (by rw [← E2.h2]; exact z), fun H9 s9 => ?_⟩
      have s59 := s57.trans (s8.trans s9)
      have g1 := s59 _ _ f1'
      have g2 := s59 _ _ f2'
      have g3 := s59 _ _ f3'
      have sm9 := sm'.trans (coreS s59)
      have hB9 := best_same (coreS s59) hB'
      have mono : ∀ p' q' e e', seen p q es1 es2 i (j + 1) p' q' e e' ↔ seen p q es1 es2 i j p' q' e e' ∨ (p' = p ∧ q' = q ∧ e = e1 ∧ e' = e2) := by
        intro p' q' e e'
        refine ⟨?_, ?_⟩
        · rintro ⟨rfl, rfl, i', j', a1, a2, a3⟩
          by_cases z : i' = i ∧ j' = j
          · right
            rw [z.1, he1] at a1
            rw [z.2, he2] at a2
            exact ⟨rfl, rfl, (Option.some.inj a1).symm, (Option.some.inj a2).symm⟩
          · exact .inl ⟨rfl, rfl, i', j', a1, a2, by omega⟩
        · rintro (⟨rfl, rfl, i', j', a1, a2, a3⟩ | ⟨rfl, rfl, rfl, rfl⟩)
          · exact ⟨rfl, rfl, i', j', a1, a2, by omega⟩
          · exact ⟨rfl, rfl, i, j, he1, he2, by omega⟩
      refine ⟨_, rfl, _, rfl, rfl, _, rfl, ?_⟩
      by_cases hc : Cand one other p q e1 e2
      · rw [decide_eq_false (show ¬ V.int (decided one p e1.s1 q e2.s1) = V.int (decided other p e1.s2 q e2.s2) from fun z => hc (by injection z))]
        refine iteT ⟨_, rfl, rfl, _, rfl, ?_⟩
        obtain ⟨_, ta, vax, vay, rfl, hta, pax, pay⟩ := hV1
        obtain ⟨_, tb, vbx, vby, rfl, htb, pbx, pby⟩ := hV2
        have htaC : SqT K H9 ta _ := same_sqt (sm9.trans (coreB H9)) hta
        have htbC : SqT K H9 tb _ := same_sqt (sm9.trans (coreB H9)) htb
        replace pax := pv_same sm9 pax
        replace pay := pv_same sm9 pay
        replace pbx := pv_same sm9 pbx
        replace pby := pv_same sm9 pby
        rcases hB9 with ⟨rfl, hno⟩ | ⟨p0, q0, e0, e0', hF, hC0, hCd, hmin⟩
        · refine iteT (iteT ?_)
          refine ⟨_, rfl, ta, _, 0, _, rfl, rfl, htaC, atI_nat (j := 0) rfl, _, rfl, tb, _, 0, _, rfl, rfl, htbC, atI_nat (j := 0) rfl, _, _, rfl, rfl, fun kx hkx => ?_⟩
          have sx := same_new (u := HO.dK []) hkx
          refine ⟨_, rfl, _, rfl, ta, _, 1, _, rfl, rfl, same_sqt sx htaC, atI_nat (j := 1) rfl, _, rfl, _, rfl, tb, _, 1, _, rfl, rfl, same_sqt sx htbC, atI_nat (j := 1) rfl, upd_same, [(.inr (PN p), vax), (.inr (PN q), vbx)], rfl, (by decide : 2 ≤ 15), fun ky hky => ?_⟩
          rw [upd_upd, two_merge hp hq (Nat.ne_of_lt hpq)] at hky ⊢
          have sx2 := same_new (u := HO.dK [(.inr (PN p), vax), (.inr (PN q), vbx)]) hkx
          have sy := sx2.trans (same_new (u := HO.dK []) hky)
          refine ⟨_, rfl, _, rfl, ta, _, 2, _, rfl, rfl, same_sqt sy htaC, atI_nat (j := 2) rfl, _, rfl, _, rfl, tb, _, 2, _, rfl, rfl, same_sqt sy htbC, atI_nat (j := 2) rfl, upd_same, [(.inr (PN p), vay), (.inr (PN q), vby)], rfl, (by decide : 2 ≤ 15), (by decide : 3 ≤ sizeLine), fun tn htn => ?_⟩
          rw [upd_upd, two_merge hp hq (Nat.ne_of_lt hpq)] at htn ⊢
          have sy2 := sx2.trans (same_new (u := HO.dK [(.inr (PN p), vay), (.inr (PN q), vby)]) hky)
          have sz2 := sy2.trans (same_new (u := HO.tup [V.int ((e1.n : Nat) + (e2.n : Nat)), .ref kx, .ref ky]) htn)
          have nx1 : kx ≠ d1 := fun z => by rw [z, g1] at hkx; cases hkx
          have nx2 : kx ≠ d2 := fun z => by rw [z, g2] at hkx; cases hkx
          have ny1 : ky ≠ d1 := fun z => by rw [z, sx2 _ _ g1] at hky; cases hky
          have ny2 : ky ≠ d2 := fun z => by rw [z, sx2 _ _ g2] at hky; cases hky
          have nt1 : tn ≠ d1 := fun z => by rw [z, sy2 _ _ g1] at htn; cases htn
          have nt2 : tn ≠ d2 := fun z => by rw [z, sy2 _ _ g2] at htn; cases htn
          have hkx' : upd H9 kx (.dK [(.inr (PN p), vax), (.inr (PN q), vbx)]) kx = _ := upd_same
          have cz := coreS sz2
          refine ⟨⟨_, _, _, _, _, rfl, best_new mono hc ⟨tn, kx, ky, vax, vbx, vay, vby, rfl, ?_, ?_, pv_same cz pax, pv_same cz pbx, ?_, pv_same cz pay, pv_same cz pby⟩ (fun p' q' d d' z c => absurd c (hno _ _ _ _ z))⟩, sm9.trans cz, sz2 _ _ g1, sz2 _ _ g2, sz2 _ _ g3⟩
          · refine .of ?_
            rw [coreN nt1 nt2, upd_same, Int.natCast_add]
          · rw [coreN nx1 nx2]
            exact (same_new htn) _ _ ((same_new hky) _ _ hkx')
          · rw [coreN ny1 ny2]
            exact (same_new htn) _ _ upd_same
        · obtain ⟨t0, k0, k0', vx, vx', vy, vy', rfl, hF2, hF3⟩ := id hF
          refine iteF ?_
          have ht0 : SqT K H9 t0 _ := same_sqt (coreB H9) hF2
          refine ⟨_, rfl, ta, _, 0, _, rfl, rfl, htaC, atI_nat (j := 0) rfl, _, rfl, tb, _, 0, _, rfl, rfl, htbC, atI_nat (j := 0) rfl, _, _, rfl, rfl, _, rfl, t0, _, 0, _, rfl, rfl, ht0, atI_nat (j := 0) rfl, _, _, rfl, rfl, _, rfl, ?_⟩
          by_cases z : e1.n + e2.n < e0.n + e0'.n
          · rw [decide_eq_true (show (e1.n : Int) + (e2.n : Nat) < ((e0.n + e0'.n : Nat) : Int) by omega)]
            refine iteT ?_
            refine ⟨_, rfl, ta, _, 0, _, rfl, rfl, htaC, atI_nat (j := 0) rfl, _, rfl, tb, _, 0, _, rfl, rfl, htbC, atI_nat (j := 0) rfl, _, _, rfl, rfl, fun kx hkx => ?_⟩
            have sx := same_new (u := HO.dK []) hkx
            refine ⟨_, rfl, _, rfl, ta, _, 1, _, rfl, rfl, same_sqt sx htaC, atI_nat (j := 1) rfl, _, rfl, _, rfl, tb, _, 1, _, rfl, rfl, same_sqt sx htbC, atI_nat (j := 1) rfl, upd_same, [(.inr (PN p), vax), (.inr (PN q), vbx)], rfl, (by decide : 2 ≤ 15), fun ky hky => ?_⟩
            rw [upd_upd, two_merge hp hq (Nat.ne_of_lt hpq)] at hky ⊢
            have sx2 := same_new (u := HO.dK [(.inr (PN p), vax), (.inr (PN q), vbx)]) hkx
            have sy := sx2.trans (same_new (u := HO.dK []) hky)
            refine ⟨_, rfl, _, rfl, ta, _, 2, _, rfl, rfl, same_sqt sy htaC, atI_nat (j := 2) rfl, _, rfl, _, rfl, tb, _, 2, _, rfl, rfl, same_sqt sy htbC, atI_nat (j := 2) rfl, upd_same, [(.inr (PN p), vay), (.inr (PN q), vby)], rfl, (by decide : 2 ≤ 15), (by decide : 3 ≤ sizeLine), fun tn htn => ?_⟩
            rw [upd_upd, two_merge hp hq (Nat.ne_of_lt hpq)] at htn ⊢
            have sy2 := sx2.trans (same_new (u := HO.dK [(.inr (PN p), vay), (.inr (PN q), vby)]) hky)
            have sz2 := sy2.trans (same_new (u := HO.tup [V.int ((e1.n : Nat) + (e2.n : Nat)), .ref kx, .ref ky]) htn)
            have nx1 : kx ≠ d1 := fun z => by rw [z, g1] at hkx; cases hkx
            have nx2 : kx ≠ d2 := fun z => by rw [z, g2] at hkx; cases hkx
            have ny1 : ky ≠ d1 := fun z => by rw [z, sx2 _ _ g1] at hky; cases hky
            have ny2 : ky ≠ d2 := fun z => by rw [z, sx2 _ _ g2] at hky; cases hky
            have nt1 : tn ≠ d1 := fun z => by rw [z, sy2 _ _ g1] at htn; cases htn
            have nt2 : tn ≠ d2 := fun z => by rw [z, sy2 _ _ g2] at htn; cases htn
            have hkx' : upd H9 kx (.dK [(.inr (PN p), vax), (.inr (PN q), vbx)]) kx = _ := upd_same
            have cz := coreS sz2
            refine ⟨⟨_, _, _, _, _, rfl, best_new mono hc ⟨tn, kx, ky, vax, vbx, vay, vby, rfl, ?_, ?_, pv_same cz pax, pv_same cz pbx, ?_, pv_same cz pay, pv_same cz pby⟩ (fun p' q' d d' z' c => Nat.le_trans (Nat.le_of_lt z) (hmin _ _ _ _ z' c))⟩, sm9.trans cz, sz2 _ _ g1, sz2 _ _ g2, sz2 _ _ g3⟩
            · refine .of ?_
              rw [coreN nt1 nt2, upd_same, Int.natCast_add]
            · rw [coreN nx1 nx2]
              exact (same_new htn) _ _ ((same_new hky) _ _ hkx')
            · rw [coreN ny1 ny2]
              exact (same_new htn) _ _ upd_same
          · rw [decide_eq_false (show ¬ (e1.n : Int) + (e2.n : Nat) < ((e0.n + e0'.n : Nat) : Int) by omega)]
            exact iteF ⟨⟨_, _, _, _, _, rfl, best_stay mono hF hC0 hCd hmin (by omega)⟩, sm9, g1, g2, g3⟩
      · have hc' : decided one p e1.s1 q e2.s1 = decided other p e1.s2 q e2.s2 := Classical.not_not.mp hc
        rw [hc', decide_eq_true rfl]
        exact iteF (iteF ⟨⟨_, _, _, _, _, rfl, best_skip mono hc hB9⟩, sm9, g1, g2, g3⟩)
    · rintro σ2 H3 ⟨⟨v, c, e, g, g', rfl, hB⟩, sm, f1, f2, f3⟩
      refine ⟨f2, ⟨_, _, _, _, _, _, _, rfl, ?_⟩, by rw [core2]; exact sm, by rw [upd_ne ne12]; exact f1, upd_same⟩
      rw [core2]
      refine best_iff (fun p' q' e e' => ⟨?_, ?_⟩) hB
      · rintro ⟨z1, z2, i', j', a1, a2, a3⟩
        exact ⟨z1, z2, i', j', a1, a2, by omega⟩
      · rintro ⟨z1, z2, i', j', a1, a2, a3⟩
        have : j' < es2.length := (List.getElem?_eq_some_iff.mp a2).1
        exact ⟨z1, z2, i', j', a1, a2, by omega⟩
  · rintro σ2 H3 ⟨⟨v, a, b, c, e, g, g', rfl, hB⟩, sm, f1, f2⟩
    refine ⟨f1, _, rfl, k v _ ?_ ?_⟩
    · intro b o eb
      by_cases z1 : b = d1
      · rw [z1, upd_same, ← hd1, ← z1, eb]
      · rw [upd_ne z1]
        by_cases z2 : b = d2
        · rw [z2, f2, ← hd2, ← z2, eb]
        · exact coreB _ _ _ (sm _ _ (by rw [coreN z1 z2]; exact eb))
    · have q1 : Same (core H3) (upd H3 d1 (.dT kvs1)) := by
        rw [← core1 H3 (.dT kvs1)]
        exact coreB _
      refine best_same q1 (best_iff (fun p' q' e e' => ⟨?_, ?_⟩) hB)
      · rintro ⟨z1, z2, i', j', a1, a2, a3⟩
        exact ⟨z1, z2, List.mem_of_getElem? a1, List.mem_of_getElem? a2⟩
      · rintro ⟨z1, z2, a1, a2⟩
        obtain ⟨i', a1⟩ := List.getElem?_of_mem a1
        obtain ⟨j', a2⟩ := List.getElem?_of_mem a2
        have : i' < es1.length := (List.getElem?_eq_some_iff.mp a1).1
        exact ⟨z1, z2, i', j', a1, a2, by omega⟩
end
end S
end

section
set_option maxRecDepth 100000
set_option maxHeartbeats 4000000
/-! Defs: parted, alike. -/
namespace S
open PySem PySem.Spec PyProof.Rows L2 SM
theorem cutV_from (xs : List V) (k : Nat) (h : k ≤ xs.length) : cutV xs (some (k : Int)) none = xs.drop k := by
  unfold cutV
  rw [HT.sIx_nat, HT.sIx_none, Nat.min_eq_left h, List.take_of_length_le]
  rw [List.length_drop]
  exact Nat.le_refl _
theorem order_self {r : List Nat} (R : OkR r) {a : Mk} (ha : OkM a) : order r a a = 0 :=
  ord_all0 fun j hj => (side_zero (R.ways j hj) (ha _ (wp_lt j (R.ways j hj))) (ha _ (wp_lt j (R.ways j hj)))).mpr rfl
section
variable {P : Program} {w : World} {K : PySem.W.Frag} {mg : Str → Option Value} {base : Heap} {CM CR : Addr}
theorem sqt_delK {H : Hp} {D a : Addr} {l : List (Key × V)} {xs : List V} (hD : H D = some (.dK l)) (h : SqT K H a xs) : SqT K (del D H) a xs := by
  have ne : ∀ o, H a = some o → o ≠ .dK l → a ≠ D := fun o e n q => by
    subst q
    rw [e] at hD
    exact n (Option.some.inj hD)
  rcases h with (h | ⟨o, h⟩) | h
  · exact .inl (.inl (by rw [del_ne (ne _ h (by intro z; cases z))]; exact h))
  · exact .inl (.inr ⟨o, by rw [del_ne (ne _ h (by intro z; cases z))]; exact h⟩)
  · exact .inr h
theorem pv_delK {H : Hp} {D : Addr} {l : List (Key × V)} {v : V} {u : PV} (hD : H D = some (.dK l)) (h : PVat K H v u) : PVat K (del D H) v u := by
  cases u with
  | s x => exact h
  | i n => exact h
  | l xs =>
    obtain ⟨a, h1, h2⟩ := h
    exact ⟨a, h1, sqt_delK hD h2⟩
  | o y => exact h
theorem tab_delK {H : Hp} {D d : Addr} {l : List (Key × V)} {one other : List Nat} {p : Nat} (hD : H D = some (.dK l)) (h : TabAt K H d one other p) : TabAt K (del D H) d one other p := by
  obtain ⟨kvs, es, h1, h2, h3⟩ := h
  have ne : d ≠ D := fun z => by rw [z, hD] at h1; cases h1
  refine ⟨kvs, es, by rw [del_ne ne]; exact h1, Paired.mapP h2 fun a b q => ?_, h3⟩
  obtain ⟨k1, t, vx, vy, k2, k3, k4, k5⟩ := q
  exact ⟨k1, t, vx, vy, k2, sqt_delK hD k3, pv_delK hD k4, pv_delK hD k5⟩
/-! ### the dict of the tables -/
def tks (D : Nat → Addr) (n : Nat) : List (Key × V) := (List.range n).map fun p => ((Sum.inr (PN p) : Key), V.ref (D p))
theorem valV_app {κ : Type} [DecidableEq κ] (a b : List (κ × V)) (k : κ) : valV (a ++ b) k = (valV a k).or (valV b k) := by
  unfold valV
  rw [List.find?_append]
  cases List.find? (fun kv => decide (kv.1 = k)) a <;> rfl
theorem tks_get (D : Nat → Addr) : ∀ n, n ≤ 6 → ∀ p, p < 6 → valV (tks D n) (.inr (PN p)) = if p < n then some (.ref (D p)) else none
  | 0, _, p, _ => by rw [if_neg (by omega)]; rfl
  | n + 1, hn, p, hp => by
    unfold tks
    rw [List.range_succ, List.map_append, valV_app]
    have ih := tks_get D n (by omega) p hp
    unfold tks at ih
    rw [ih]
    by_cases h1 : p < n
    · rw [if_pos h1, if_pos (by omega)] <;> rfl
    · rw [if_neg h1]
      show valV [((Sum.inr (PN n) : Key), V.ref (D n))] (.inr (PN p)) = _
      rw [one_get (by omega) hp]
      by_cases h2 : p = n
      · rw [if_pos h2, if_pos (by omega), h2]
      · rw [if_neg h2, if_neg (by omega)]
theorem tks_put (D : Nat → Addr) {n : Nat} (hn : n < 6) (d : Addr) : putK (tks D n) (.inr (PN n)) (.ref d) = tks (fun p => if p = n then d else D p) (n + 1) := by
  unfold putK
  rw [valV_any, tks_get D n (by omega) n hn, if_neg (Nat.lt_irrefl n), if_neg (by exact Bool.false_ne_true)]
  unfold tks
  rw [List.range_succ, List.map_append]
  congr 1
  · refine List.map_congr_left fun p hp => ?_
    have := List.mem_range.mp hp
    dsimp only
    rw [if_neg (by omega)]
  · show _ = [((Sum.inr (PN n) : Key), V.ref (if n = n then d else D n))]
    rw [if_pos rfl]
theorem two_get {p q : Nat} (hp : p < 6) (hq : q < 6) (ne : p ≠ q) (a b : V) {z : Nat} (hz : z < 6) : valV [((Sum.inr (PN p) : Key), a), (.inr (PN q), b)] (.inr (PN z)) = if z = p then some a else if z = q then some b else none := by
  by_cases h : z = p
  · subst h
    rw [if_pos rfl, valV_pos rfl]
  · rw [if_neg h, valV_neg (fun e => h (pn_inj hz hp (by injection e with e; exact e.symm)))]
    exact one_get hq hz b
/-! ### parted -/
def PartedV (K : PySem.W.Frag) (CM : Addr) (H : Hp) (one other : List Nat) (v : V) : Prop :=
  (v = .non ∧ ∀ a b, OkM a → OkM b → order one a b = order other a b) ∨
  ∃ (t r1 r2 : Addr) (m1 m2 : Mk), v = .ref t ∧ SqT K H t [.ref r1, .ref r2] ∧ MarkAt K CM H r1 m1 ∧ MarkAt K CM H r2 m2 ∧ order one m1 m2 ≠ order other m1 m2 ∧ m1.text ≠ m2.text ∧
    ∀ a b, OkM a → OkM b → order one a b ≠ order other a b → m1.len + m2.len ≤ a.len + b.len
def spParted (K : PySem.W.Frag) (CM CR : Addr) : Sp := fun vs H Q _ => ∃ (ra rb : Addr) (one other : List Nat), vs = [.ref ra, .ref rb] ∧ RuleAt K CR H ra one ∧ RuleAt K CR H rb other ∧ ∀ v H', Same H H' → PartedV K CM H' one other v → Q v H'
abbrev sParted : Stmt := top 72
theorem scParted : FnScope ["one", "other", "tables", "part", "best", "number", "first", "second", "found"] ["one", "other"] (defScope sParted) := ⟨rfl, rfl, rfl, by decide +kernel, rfl, by decide +kernel, by decide +kernel⟩
/-- the pairs of parts that were looked at -/
def looked (t : Nat → List Ent) (i j : Nat) : Nat → Nat → Ent → Ent → Prop := fun p q e e' => p < q ∧ q < 6 ∧ e ∈ t p ∧ e' ∈ t q ∧ (p < i ∨ (p = i ∧ q < i + 1 + j))
theorem b_parted {pA : Addr} (T : Free mg) (c_PARTS : Con mg "PARTS" (.ref pA)) (FP : PartsF K pA) (G_cheapest : C8.Cal P w K mg base 7 "cheapest" (spCheapest K CR) []) (G_fewest_in : C8.Cal P w K mg base 4 "fewest_in" (spFewest K CR) []) (G_mark_with : C8.Cal P w K mg base 6 "mark_with" (spMarkWith K CM) []) :
    Body P w K mg base 7 ["one", "other", "tables", "part", "best", "number", "first", "second", "found"] "parted" sParted (spParted K CM CR) := by
  intro f cdv A outer s H vs Q E hr h
  obtain ⟨ra, rb, one, other, rfl, hR1, hR2, k⟩ := h
  have nd := scParted.nd
  have hu := hu_of hr
  have sz := sizeLine_eq
  refine ⟨_, (pss_cons (ps_set (i := 2) nd rfl (Or.inl rfl) pe_dnewK)
      (pss_cons (ps_for PassesOwn.never rfl (pi_tup (C8.pe_gc rfl c_PARTS)) (pg_name (i := 3) nd rfl (Or.inl rfl))
        (pss_one (ps_dput hu (pv 2) (pv 3) (C8.pe_c G_cheapest hr (by decide) rfl (pa_cons (pv 0) (pa_cons (pv 1) (pa_cons (pv 3) pa_nil)))) rfl)))
      (pss_cons (ps_set (i := 4) nd rfl (Or.inl rfl) pe_non)
      (pss_cons (ps_for PassesOwn.never rfl (pi_enumT (by rfl) T.enumerate (pa_cons (C8.pe_gc rfl c_PARTS) pa_nil)) (pg_tup rfl (pgs_cons (pg_name (i := 5) nd rfl (Or.inl rfl)) (pgs_cons (pg_name (i := 6) nd rfl (Or.inl rfl)) pgs_nil)))
        (pss_one (ps_for PassesOwn.never rfl (pi_tup (pe_slice sl_tup (C8.pe_gc rfl c_PARTS) (po_some (pe_op op_add (pv 5) pe_int)) po_none)) (pg_name (i := 7) nd rfl (Or.inl rfl))
          (pss_cons (ps_set (i := 8) nd rfl (Or.inl rfl) (C8.pe_c G_fewest_in hr (by decide) rfl (pa_cons (pv 0) (pa_cons (pv 1) (pa_cons (pv 6) (pa_cons (pv 7) (pa_cons (pv 2) pa_nil)))))))
          (pss_one (ps_if (PW.pt (pw_and (pt_cmpR op_notN (pv 8) pe_non (nomark _)) (pw_and1 (PW.pt (pw_or (pt_cmpR op_isN (pv 4) pe_non (nomark _)) (pw_or1 (pt_cmpR op_lt (pe_ix ix_tup (pv 8) pe_int (fun _ _ => rfl)) (pe_ix ix_tup (pv 4) pe_int (fun _ _ => rfl)) (nomark _))))))))
            (pss_one (ps_set (i := 4) nd rfl (Or.inl rfl) (pv 8)))
            pss_nil))))))
      (pss_cons (ps_if (pt_cmpR op_isN (pv 4) pe_non (nomark _))
        (pss_one (ps_ret pe_non))
        pss_nil)
      (pss_one (ps_ret (pe_tup (pa_cons (C8.pe_c G_mark_with hr (by decide) rfl (pa_cons (pe_ix ix_tup (pv 4) pe_int (fun _ _ => rfl)) pa_nil)) (pa_cons (C8.pe_c G_mark_with hr (by decide) rfl (pa_cons (pe_ix ix_tup (pv 4) pe_int (fun _ _ => rfl)) pa_nil)) pa_nil)))))))))), ?_⟩
  intro dt hdt
  refine ⟨pA, rfl, ⟨_, FP.at_ _⟩, for_it (walk_tup (xs := PNs.map V.str)) (fun i σ' H' => (∃ z, σ' = [some (.ref ra), some (.ref rb), some (.ref dt), z, none, none, none, none, none]) ∧ Same H (del dt H') ∧ ∃ D : Nat → Addr, H' dt = some (.dK (tks D i)) ∧ (∀ p, p < i → TabAt K (del dt H') (D p) one other p) ∧ ∀ p q, p < i → q < i → p ≠ q → D p ≠ D q) ?_ (fun _ _ _ _ _ => FP.at_ _) ?_ ?_⟩
  · exact ⟨⟨_, rfl⟩, del_in hdt (same_new hdt), fun _ => 0, upd_same, fun p hp => absurd hp (Nat.not_lt_zero _), fun p q hp => absurd hp (Nat.not_lt_zero _)⟩
  · rintro i x σ2 H1 H2 hi ⟨⟨z, rfl⟩, s1, D, hD, hT, hN⟩ ⟨rfl, hx⟩
    obtain ⟨y, hy, rfl⟩ := at_map hx
    have hi6 : i < 6 := hi
    obtain rfl : PN i = y := by
      rw [pn_at i hi6] at hy
      exact Option.some.inj hy
    have sB := s1.trans (del_sub dt H2)
    refine ⟨_, rfl, _, rfl, _, rfl, ra, rb, one, other, i, rfl, hi6, rule_same sB hR1, rule_same sB hR2, fun d H3 hd0 s3 hTab => ?_⟩
    have hD3 := s3 _ _ hD
    refine ⟨_, rfl, _, rfl, dt, _, rfl, DPut.k (k := .inr (PN i)) hD3 (by show ((List.range i).map _).length < _; rw [List.length_map, List.length_range]; omega), ⟨_, rfl⟩, ?_, fun p => if p = i then d else D p, ?_, ?_, ?_⟩
    · rw [del_upd]
      exact s1.trans (del_same s3)
    · rw [upd_same, tks_put D hi6]
    · intro p hp
      rw [del_upd]
      dsimp only
      by_cases e : p = i
      · rw [if_pos e, e]
        exact tab_delK hD3 hTab
      · rw [if_neg e]
        exact tab_same (del_same s3) (hT p (by omega))
    · have nd0 : ∀ p, p < i → D p ≠ d := fun p hp e => by
        obtain ⟨kvs, es, h1, _⟩ := hT p hp
        have q := del_sub dt H2 _ _ h1
        rw [e, hd0] at q
        cases q
      intro p q hp hq ne
      dsimp only
      by_cases e1 : p = i
      · rw [if_pos e1, if_neg (by omega)]
        exact Ne.symm (nd0 q (by omega))
      · rw [if_neg e1]
        by_cases e2 : q = i
        · rw [if_pos e2]
          exact nd0 p (by omega)
        · rw [if_neg e2]
          exact hN p q (by omega) (by omega) ne
  · rintro σ2 H6 ⟨⟨z, rfl⟩, s1, D, hD, hT, hN⟩
    have hD6 : H6 dt = some (.dK (tks D 6)) := hD
    have s06 := s1.trans (del_sub dt H6)
    have hT6 : ∀ p, p < 6 → TabAt K H6 (D p) one other p := fun p hp => tab_same (del_sub dt H6) (hT p hp)
    obtain ⟨kt, hkt⟩ : ∃ kt : Nat → List (List Key × V) × List Ent, ∀ p, p < 6 → H6 (D p) = some (.dT (kt p).1) ∧ Paired (EntV K H6) (kt p).1 (kt p).2 ∧ TabOk one other p (kt p).2 := by
      have q : ∀ p, ∃ x : List (List Key × V) × List Ent, p < 6 → H6 (D p) = some (.dT x.1) ∧ Paired (EntV K H6) x.1 x.2 ∧ TabOk one other p x.2 := fun p => by
        by_cases hp : p < 6
        · obtain ⟨kvs, es, h1, h2, h3⟩ := hT6 p hp
          exact ⟨(kvs, es), fun _ => ⟨h1, h2, h3⟩⟩
        · exact ⟨([], []), fun z => absurd z hp⟩
      exact ⟨fun p => Classical.choose (q p), fun p => Classical.choose_spec (q p)⟩
    have hR1' := rule_same s06 hR1
    have hR2' := rule_same s06 hR2
    refine ⟨pA, _, rfl, FP.at_ _, for_it (walk_enumT (xs := PNs.map V.str)) (fun i σ' H' => (∃ v a b c e g, σ' = [some (.ref ra), some (.ref rb), some (.ref dt), a, some v, b, c, e, g] ∧ Best K H' one other v (looked (fun p => (kt p).2) i 0)) ∧ Same H6 H') ?_ (fun _ _ _ _ _ => FP.at_ _) ?_ ?_⟩
    · refine ⟨⟨_, _, _, _, _, _, rfl, .inl ⟨rfl, ?_⟩⟩, Same.refl _⟩
      rintro p q e e' ⟨h1, h2, h3, h4, h5⟩
      omega
    · rintro i x σ2 H1 H2 hi ⟨⟨v, a, b, c, e, g, rfl, hB⟩, sm⟩ ⟨U, y1, y2, rfl, hU, rfl, ey1, hx⟩
      obtain rfl : V.int (i : Nat) = y1 := Option.some.inj ey1
      obtain ⟨y, hy, rfl⟩ := at_map hx
      have hi6 : i < 6 := hi
      obtain rfl : PN i = y := by
        rw [pn_at i hi6] at hy
        exact Option.some.inj hy
      have sU : Same H1 (upd H1 U (.tup [.int (i : Nat), .str (PN i)])) := same_new hU
      refine ⟨U, _, rfl, .of upd_same, rfl, _, _, rfl, _, _, rfl, rfl, ?_⟩
      refine ⟨_, rfl, _, _, rfl, rfl, _, rfl, pA, PNs.map V.str, rfl, FP.at_ _, ?_, fun tS htS => ?_⟩
      · rintro ⟨z, _⟩
        have q : HT.sIx (PNs.map V.str).length 0 (some (((i + 1 : Nat) : Int))) = min (i + 1) 6 := HT.sIx_nat _ _ _
        rw [Int.natCast_add] at q
        rw [show ((1 : Nat) : Int) = 1 from rfl] at q
        rw [q] at z
        omega
      have ecut : cutV (PNs.map V.str) (some ((i : Int) + 1)) none = (PNs.map V.str).drop (i + 1) := cutV_from _ (i + 1) (by show i + 1 ≤ 6; omega)
      rw [ecut]
      have sS := sU.trans (same_new (u := HO.tup ((PNs.map V.str).drop (i + 1))) htS)
      have hlen : ((PNs.map V.str).drop (i + 1)).length = 5 - i := by rw [List.length_drop]; show 6 - (i + 1) = _; omega
      refine ⟨tS, rfl, ⟨_, .of upd_same⟩, for_it (walk_tup (xs := (PNs.map V.str).drop (i + 1))) (fun j σ' H' => (∃ v a e g, σ' = [some (.ref ra), some (.ref rb), some (.ref dt), a, some v, some (.int (i : Nat)), some (.str (PN i)), e, g] ∧ Best K H' one other v (looked (fun p => (kt p).2) i j)) ∧ Same H6 H' ∧ H' tS = some (.tup ((PNs.map V.str).drop (i + 1)))) ?_ (fun _ _ _ _ z => .of z.2.2) ?_ ?_⟩
      · exact ⟨⟨_, _, _, _, rfl, best_same sS hB⟩, sm.trans sS, upd_same⟩
      · rintro j x σ2 H3 H4 hj ⟨⟨v, a, e, g, rfl, hB⟩, sm, hts⟩ ⟨rfl, hx⟩
        rw [List.getElem?_drop] at hx
        obtain ⟨y, hy, rfl⟩ := at_map hx
        have hj6 : i + 1 + j < 6 := by omega
        obtain rfl : PN (i + 1 + j) = y := by
          rw [pn_at _ hj6] at hy
          exact Option.some.inj hy
        obtain ⟨a1, a2, a3⟩ := hkt i hi6
        obtain ⟨b1, b2, b3⟩ := hkt (i + 1 + j) hj6
        have g1 := tks_get D 6 (Nat.le_refl _) i hi6
        have g2 := tks_get D 6 (Nat.le_refl _) (i + 1 + j) hj6
        rw [if_pos hi6] at g1
        rw [if_pos hj6] at g2
        refine ⟨_, rfl, _, rfl, _, rfl, _, rfl, _, rfl, ra, rb, dt, D i, D (i + 1 + j), tks D 6, one, other, i, i + 1 + j, (kt i).1, (kt (i + 1 + j)).1, (kt i).2, (kt (i + 1 + j)).2, rfl, hi6, hj6, by omega, rule_same sm hR1', rule_same sm hR2', sm _ _ hD6, g1, g2, hN i (i + 1 + j) hi6 hj6 (by omega), sm _ _ a1, Paired.mapP a2 (fun _ _ z => entV_same sm z), a3.sound, sm _ _ b1, Paired.mapP b2 (fun _ _ z => entV_same sm z), b3.sound, fun v' H5 s5 hB' => ?_⟩
        have hB5 := best_same s5 hB
        have sm5 := sm.trans s5
        have mono : ∀ p q e e', looked (fun p => (kt p).2) i (j + 1) p q e e' ↔ looked (fun p => (kt p).2) i j p q e e' ∨ (p = i ∧ q = i + 1 + j ∧ e ∈ (kt i).2 ∧ e' ∈ (kt (i + 1 + j)).2) := by
          intro p q e e'
          refine ⟨?_, ?_⟩
          · rintro ⟨h1, h2, h3, h4, h5⟩
            by_cases z : p = i ∧ q = i + 1 + j
            · obtain ⟨rfl, rfl⟩ := z
              exact .inr ⟨rfl, rfl, h3, h4⟩
            · exact .inl ⟨h1, h2, h3, h4, by omega⟩
          · rintro (⟨h1, h2, h3, h4, h5⟩ | ⟨rfl, rfl, h3, h4⟩)
            · exact ⟨h1, h2, h3, h4, by omega⟩
            · exact ⟨by omega, hj6, h3, h4, by omega⟩
        refine ⟨_, rfl, rfl, _, rfl, ?_⟩
        rcases hB' with ⟨rfl, hno⟩ | ⟨p1, q1, e1, e1', hF, hC, hCd, hmin⟩
        · refine iteF (iteF ⟨⟨_, _, _, _, rfl, ?_⟩, sm5, s5 _ _ hts⟩)
          refine hB5.imp (fun ⟨x1, x2⟩ => ⟨x1, fun p q e e' z => ?_⟩) fun ⟨p, q, e, e', x1, x2, x3, x4⟩ => ⟨p, q, e, e', x1, (mono _ _ _ _).mpr (.inl x2), x3, fun p' q' d d' z c => ?_⟩
          · exact ((mono p q e e').mp z).elim (x2 _ _ _ _) fun z => hno _ _ _ _ z
          · exact ((mono p' q' d d').mp z).elim (fun z => x4 _ _ _ _ z c) fun z => absurd c (hno _ _ _ _ z)
        · obtain ⟨t1, k1, k1', vx, vx', vy, vy', rfl, hF2, hF3⟩ := id hF
          refine iteT ⟨_, rfl, rfl, _, rfl, ?_⟩
          rcases hB5 with ⟨rfl, hno⟩ | ⟨p0, q0, e0, e0', hG, hC0, hCd0, hmin0⟩
          · refine iteT (iteT ⟨_, rfl, ⟨_, _, _, _, rfl, .inr ⟨p1, q1, e1, e1', hF, (mono _ _ _ _).mpr (.inr hC), hCd, fun p' q' d d' z c => ?_⟩⟩, sm5, s5 _ _ hts⟩)
            exact ((mono p' q' d d').mp z).elim (fun z => absurd c (hno _ _ _ _ z)) fun z => hmin _ _ _ _ z c
          · obtain ⟨t0, k0, k0', wx, wx', wy, wy', rfl, hG2, hG3⟩ := id hG
            refine iteF ⟨_, rfl, t1, _, 0, _, rfl, rfl, hF2, atI_nat (j := 0) rfl, _, rfl, t0, _, 0, _, rfl, rfl, hG2, atI_nat (j := 0) rfl, _, _, rfl, rfl, _, rfl, ?_⟩
            by_cases z : e1.n + e1'.n < e0.n + e0'.n
            · rw [decide_eq_true (show ((e1.n + e1'.n : Nat) : Int) < ((e0.n + e0'.n : Nat) : Int) by omega)]
              refine iteT ⟨_, rfl, ⟨_, _, _, _, rfl, .inr ⟨p1, q1, e1, e1', hF, (mono _ _ _ _).mpr (.inr hC), hCd, fun p' q' d d' z' c => ?_⟩⟩, sm5, s5 _ _ hts⟩
              exact ((mono p' q' d d').mp z').elim (fun z' => Nat.le_trans (Nat.le_of_lt z) (hmin0 _ _ _ _ z' c)) fun z' => hmin _ _ _ _ z' c
            · rw [decide_eq_false (show ¬ ((e1.n + e1'.n : Nat) : Int) < ((e0.n + e0'.n : Nat) : Int) by omega)]
              refine iteF ⟨⟨_, _, _, _, rfl, .inr ⟨p0, q0, e0, e0', hG, (mono _ _ _ _).mpr (.inl hC0), hCd0, fun p' q' d d' z' c => ?_⟩⟩, sm5, s5 _ _ hts⟩
              exact ((mono p' q' d d').mp z').elim (fun z' => hmin0 _ _ _ _ z' c) fun z' => Nat.le_trans (Nat.le_of_not_lt z) (hmin _ _ _ _ z' c)
      · rintro σ2 H3 ⟨⟨v, a, e, g, rfl, hB⟩, sm, hts⟩
        refine ⟨⟨_, _, _, _, _, _, rfl, best_iff (fun p q e e' => ⟨?_, ?_⟩) hB⟩, sm⟩
        · rintro ⟨h1, h2, h3, h4, h5⟩
          exact ⟨h1, h2, h3, h4, by omega⟩
        · rintro ⟨h1, h2, h3, h4, h5⟩
          exact ⟨h1, h2, h3, h4, by rw [hlen]; omega⟩
    · rintro σ2 H3 ⟨⟨v, a, b, c, e, g, rfl, hB⟩, sm⟩
      have TT : ∀ p, p < 6 → TabOk one other p ((fun p => (kt p).2) p) := fun p hp => (hkt p hp).2.2
      have s03 := s06.trans sm
      refine ⟨_, rfl, rfl, _, rfl, ?_⟩
      rcases hB with ⟨rfl, hno⟩ | ⟨p, q, e, e', hF, hC, hCd, hmin⟩
      · refine iteT (k .non _ s03 (.inl ⟨rfl, fun a b ha hb => ?_⟩))
        exact alike_of hR1.1 hR2.1 TT (fun p q hp hq hpq e he e' he' => hno p q e e' ⟨hpq, hq, he, he', by show p < 6 ∨ _; omega⟩) ha hb
      · obtain ⟨t, k1, k2, vx, vx', vy, vy', rfl, f1, f2, f3, f4, f5, f6, f7⟩ := hF
        obtain ⟨hpq, hq, he, he', _⟩ := hC
        have hp : p < 6 := by omega
        have ne := Nat.ne_of_lt hpq
        obtain ⟨o1, o2, o3, o4⟩ := parted_of hR1.1 hR2.1 TT hp hq hpq he he' hCd (fun p' q' hp' hq' hpq' d hd d' hd' c => hmin p' q' d d' ⟨hpq', hq', hd, hd', by show p' < 6 ∨ _; omega⟩ c)
        have Ee := (TT p hp).sound e he
        have Ee' := (TT q hq).sound e' he'
        have cond : ∀ (x x' : PV) (u u' : V) (H'' : Hp), OkP p x → OkP q x' → PVat K H'' u x → PVat K H'' u' x' → ∀ z, z < 6 → (∃ y, valV [((Sum.inr (PN p) : Key), u), (.inr (PN q), u')] (.inr (PN z)) = some y ∧ PVat K H'' y (((leastM.put p x).put q x').get z)) ∨ (valV [((Sum.inr (PN p) : Key), u), (.inr (PN q), u')] (.inr (PN z)) = none ∧ ((leastM.put p x).put q x').get z = leastM.get z) := by
          intro x x' u u' H'' ox ox' px px' z hz
          obtain ⟨g1, g2, g3⟩ := get_two hp hq ne ox ox'
          rw [two_get hp hq ne u u' hz]
          by_cases z1 : z = p
          · rw [if_pos z1, z1, g1]
            exact .inl ⟨u, rfl, px⟩
          · rw [if_neg z1]
            by_cases z2 : z = q
            · rw [if_pos z2, z2, g2]
              exact .inl ⟨u', rfl, px'⟩
            · rw [if_neg z2]
              exact .inr ⟨rfl, g3 z hz z1 z2⟩
        have okx := some_ok p hp _ Ee.hx
        have oky := some_ok p hp _ Ee.hy
        have okx' := some_ok q hq _ Ee'.hx
        have oky' := some_ok q hq _ Ee'.hy
        refine iteF ⟨_, rfl, t, _, 1, _, rfl, rfl, f1, atI_nat (j := 1) rfl, k1, _, (leastM.put p e.x).put q e'.x, rfl, f2, o1, cond _ _ vx vx' _ okx okx' f3 f4, fun r1 H4 s4 hM1 => ?_⟩
        refine ⟨_, rfl, t, _, 2, _, rfl, rfl, same_sqt s4 f1, atI_nat (j := 2) rfl, k2, _, (leastM.put p e.y).put q e'.y, rfl, s4 _ _ f5, o2, cond _ _ vy vy' _ oky oky' (pv_same s4 f6) (pv_same s4 f7), fun r2 H5 s5 hM2 => ⟨(by decide : 2 ≤ sizeLine), fun tr htr => ?_⟩⟩
        have sN := same_new (u := HO.tup [V.ref r1, V.ref r2]) htr
        refine k _ _ (s03.trans (s4.trans (s5.trans sN))) (.inr ⟨tr, r1, r2, _, _, rfl, .of upd_same, mark_same (s5.trans sN) hM1, mark_same sN hM2, o3, fun et => o3 ?_, o4⟩)
        obtain ⟨q1, q2⟩ := texts_apart hp hq hpq Ee.hx Ee.hy Ee'.hx Ee'.hy et
        rw [q1, q2] at o1 ⊢
        rw [order_self hR1.1 o2, order_self hR2.1 o2]
theorem parted_ (D : DefT K mg "parted" sParted []) {pA : Addr} (T : Free mg) (c : Con mg "PARTS" (.ref pA)) (FP : PartsF K pA) (G1 : C8.Cal P w K mg base 7 "cheapest" (spCheapest K CR) []) (G2 : C8.Cal P w K mg base 4 "fewest_in" (spFewest K CR) []) (G3 : C8.Cal P w K mg base 6 "mark_with" (spMarkWith K CM) []) :
    C8.Cal P w K mg base 8 "parted" (spParted K CM CR) [] :=
  cal_of D scParted (fun _ _ _ _ _ _ us hl => match us, hl with | [_, _], _ => rfl) (fun vs H Q E h => by
    obtain ⟨_, _, _, _, rfl, _⟩ := h
    rfl) (b_parted T c FP G1 G2 G3)
/-! ### alike -/
def spAlike (K : PySem.W.Frag) (CR : Addr) : Sp := fun vs H Q _ => ∃ (ra rb : Addr) (one other : List Nat), vs = [.ref ra, .ref rb] ∧ RuleAt K CR H ra one ∧ RuleAt K CR H rb other ∧
  ∀ (b : Bool) H', Same H H' → (b = true → ∀ a c, OkM a → OkM c → order one a c = order other a c) → (b = false → ∃ a c, OkM a ∧ OkM c ∧ order one a c ≠ order other a c) → Q (.bl b) H'
abbrev sAlike : Stmt := top 73
theorem scAlike : FnScope ["one", "other"] ["one", "other"] (defScope sAlike) := ⟨rfl, rfl, rfl, by decide +kernel, rfl, by decide +kernel, by decide +kernel⟩
theorem b_alike (G_parted : C8.Cal P w K mg base 8 "parted" (spParted K CM CR) []) : Body P w K mg base 8 ["one", "other"] "alike" sAlike (spAlike K CR) := by
  intro f cdv A outer s H vs Q E hr h
  obtain ⟨ra, rb, one, other, rfl, hR1, hR2, k⟩ := h
  refine ⟨_, (pss_one (ps_ret (pe_cmpR op_isN (C8.pe_c G_parted hr (by decide) rfl (pa_cons (pv 0) (pa_cons (pv 1) pa_nil))) pe_non (nomark _)))), ?_⟩
  refine ⟨_, rfl, _, rfl, ra, rb, one, other, rfl, hR1, hR2, fun v H' sm hv => ⟨rfl, ?_⟩⟩
  rcases hv with ⟨rfl, h1⟩ | ⟨t, r1, r2, m1, m2, rfl, h1, h2, h3, h4, h5, h6⟩
  · exact k true H' sm (fun _ => h1) (fun z => by cases z)
  · exact k false H' sm (fun z => by cases z) (fun _ => ⟨m1, m2, h2.1, h3.1, h4⟩)
theorem alike_ (D : DefT K mg "alike" sAlike []) (G : C8.Cal P w K mg base 8 "parted" (spParted K CM CR) []) : C8.Cal P w K mg base 9 "alike" (spAlike K CR) [] :=
  cal_of D scAlike (fun _ _ _ _ _ _ us hl => match us, hl with | [_, _], _ => rfl) (fun vs H Q E h => by
    obtain ⟨_, _, _, _, rfl, _⟩ := h
    rfl) (b_alike G)
end
end S
end

section
set_option maxRecDepth 100000
set_option maxHeartbeats 4000000
/-! Defs: told, the key of a rule. -/
namespace S
open PySem PySem.Spec PyProof.Rows L2 SM NdefX LamX
abbrev sKeyOf : Stmt := inClass (top 77) 5
abbrev sTold : Stmt := (defBody sKeyOf).getD 1 (.Pass ⟨0, 0, 0, 0⟩)
def qTold : Str := ("Rule.key_of" ++ ".<locals>.") ++ "told"
def TF (cl : List (Str × Addr)) (c' : Addr) : NF := NF.of sTold "told" qTold cl c'
section
variable {P : Program} {w : World} {K : PySem.W.Frag} {mg : Str → Option Value} {base : Heap} {CM CR : Addr}
/-! ### the frame of told: its parameter a cell, keys captured -/
def envT (c c' f L : Addr) : Env := PySem.W.envX qTold (C8.fnScope sTold) L f (.ref c') [("mark", L + 1), ("keys", c)]
theorem told_env {M : Model} {A : Around} {E : Value → Shared → Prop} {s : Shared} {c c' f : Addr} {v : Value} {Q : Env → Shared → Prop}
    (hQ : ∀ h', h'.Ns s.heap.objs.size (fun _ => none) → (∀ b o, s.heap.get? b = some o → h'.get? b = some o) → h'.IsCell (s.heap.objs.size + 1) (some v) → Q (envT c c' f s.heap.objs.size) { s with heap := h' }) :
    wpAny M A (newFunctionEnv (C8.fnScope sTold) mainGlobals [("keys", c)] [("mark", v)] (qTold ++ ".<locals>.") (some f) (.ref c') none builtinsNs) Q E s := by
  simp only [newFunctionEnv, Option.isSome_none, Bool.false_eq_true, if_false]
  refine wpAny_bind (wpAny_alloc ?_)
  refine wpAny_bind (wpAny_layCells _ (fun name kind cells => by cases hkc : kind == NameKind.cell <;> simp [hkc]) _ _ _ _ ?_)
  have e1 : (s.heap.push { cls := .type "frame", data := .dict #[] }).objs.size = s.heap.objs.size + 1 := Heap.size_push ..
  have e2 : ∀ n : Nat, cellsFrom n (C8.fnScope sTold).names [(("keys" : Str), c)] = [(("mark" : Str), n), (("keys" : Str), c)] := fun n => rfl
  have e3 : ∀ h : Heap, pushCells h (C8.fnScope sTold).names = h.push { cls := .type "cell", data := .cell none } := fun h => rfl
  dsimp only
  rw [e1, e2, e3]
  have hc : ((s.heap.push { cls := .type "frame", data := .dict #[] }).push { cls := .type "cell", data := .cell none }).IsCell (s.heap.objs.size + 1) none := ⟨_, by rw [← e1]; exact Heap.get?_push_size _ rfl, rfl⟩
  have hn : ((s.heap.push { cls := .type "frame", data := .dict #[] }).push { cls := .type "cell", data := .cell none }).Ns s.heap.objs.size (fun _ => none) := (Heap.Ns.new s.heap (.type "frame")).keeps fun b o e => Heap.get?_push_of_some _ e
  rw [List.forIn_cons]
  refine wpAny_bind (wpAny_bind (wpAny_bind (wpAny_storeName_cell (c := s.heap.objs.size + 1) rfl rfl rfl hc fun h' hc' hs => wpAny_pure ?_)))
  dsimp only
  rw [List.forIn_nil]
  refine wpAny_pure (wpAny_pure ?_)
  have ne : s.heap.objs.size ≠ s.heap.objs.size + 1 := Nat.ne_of_lt (Nat.lt_succ_self _)
  exact hQ h' (hn.sameBut hs ne) (fun b o e => (hs.2 b (Nat.ne_of_lt (Nat.lt_succ_of_lt (Heap.lt_size e)))).trans (Heap.get?_push_of_some _ (Heap.get?_push_of_some _ e))) hc'
def tCx (P : Program) (w : World) (K : PySem.W.Frag) (mg : Str → Option Value) (base : Heap) (c c' f : Addr) (A : Around) (outer : List Env) (s : Shared) (H : Hp) : Cx where
  prog := P
  w := w
  K := K
  mg := mg
  base := base
  A := A.deeper (envT c c' f s.heap.objs.size)
  N := ["mark", "keys", "key"]
  s_0 := s
  H_0 := H
  env := envT c c' f s.heap.objs.size
  outer := outer
  stack := envT c c' f s.heap.objs.size :: outer
  ex := []
  calm := true
  fn := fun _ => false
  pn := []
  xe := fun e s' => wpAny (model P w) (A.deeper (envT c c' f s.heap.objs.size)) (leaving (envT c c' f s.heap.objs.size) e) (fun _ s'' => C8.CX0 outer H s C8.E0 e s'') (fun e' s'' => C8.CX0 outer H s C8.E0 e' s'') s'
theorem inv_startT {A : Around} {outer : List Env} {s : Shared} {H : Hp} {c c' f l r : Addr} {h₁ : Heap} (hd : A.handled = none) (e0 : Env0 P w K mg base A outer s H) (hc0 : H c = none) (hc : s.heap.IsCell c (some (.ref l))) (hns : h₁.Ns s.heap.objs.size (fun _ => none))
    (kp : ∀ b o, s.heap.get? b = some o → h₁.get? b = some o) (hm : h₁.IsCell (s.heap.objs.size + 1) (some (.ref r))) : Inv (tCx P w K mg base c c' f A outer s H) [] [some (.ref r), some (.ref l), none] H { s with heap := h₁ } := by
  have noA : ∀ b : Addr, b ∉ (tCx P w K mg base c c' f A outer s H).ex := fun b z => absurd (show b ∈ ([] : List Addr) from z) (by simp)
  have hcl : c < s.heap.objs.size := by
    obtain ⟨o, ho, _⟩ := hc
    exact Heap.lt_size ho
  have hkeys : h₁.IsCell c (some (.ref l)) := by
    obtain ⟨o, ho, hd⟩ := hc
    exact ⟨o, kp _ _ ho, hd⟩
  have look : ∀ (x : Str) (b : Addr), (tCx P w K mg base c c' f A outer s H).env.cells.lookup x = some b → (x = "mark" ∧ b = s.heap.objs.size + 1) ∨ (x = "keys" ∧ b = c) := fun x b e => by
    have e : List.lookup x [(("mark" : Str), s.heap.objs.size + 1), (("keys" : Str), c)] = some b := e
    rw [List.lookup_cons] at e
    cases q : (x == ("mark" : Str)) with
    | true =>
      rw [q] at e
      exact .inl ⟨beq_iff_eq.mp q, (Option.some.inj e).symm⟩
    | false =>
      rw [q] at e
      dsimp only at e
      rw [List.lookup_cons] at e
      cases q2 : (x == ("keys" : Str)) with
      | true =>
        rw [q2] at e
        exact .inr ⟨beq_iff_eq.mp q2, (Option.some.inj e).symm⟩
      | false =>
        rw [q2] at e
        cases e
  refine ⟨⟨e0.mod, rfl, rfl, rfl, Nat.le_refl _, fun x y b e1 e2 => ?_, fun x hx => ?_, fun y b z _ => ?_, fun _ => hd, Around.frames_deeper e0.frames, .inr ⟨rfl, rfl⟩, fun b z => absurd z (noA b), e0.bs, e0.bsz, fun b _ _ => noA b, fun b z => absurd z (noA b), e0.funs, e0.frf⟩,
    rfl, e0.bare, Un.kept kp, ⟨_, hns, fun i y v e1 e2 e3 => ?_⟩, fun x b e => ?_, e0.hok.fresh (Nat.le_refl _), fun x b e => ?_, fun q hq => absurd (show q ∈ ([] : List (Addr × Obj)) ++ [] from hq) (by simp), e0.hok.kept kp, rfl⟩
  · rcases look x b e1 with ⟨a1, a2⟩ | ⟨a1, a2⟩ <;> rcases look y b e2 with ⟨b1, b2⟩ | ⟨b1, b2⟩
    · rw [a1, b1]
    · exact absurd (a2.symm.trans b2) (Nat.ne_of_gt (Nat.lt_succ_of_lt hcl))
    · exact absurd (b2.symm.trans a2) (Nat.ne_of_gt (Nat.lt_succ_of_lt hcl))
    · rw [a1, b1]
  · have hx : List.lookup x (C8.fnScope sTold).names = some .cell ∨ List.lookup x (C8.fnScope sTold).names = some .free := hx
    have all : ∀ y ∈ (C8.fnScope sTold).names, y.2 = .cell ∨ y.2 = .free → y.1 = "mark" ∨ y.1 = "keys" := by decide +kernel
    have hxm : x = "mark" ∨ x = "keys" := hx.elim (fun z => all _ (PySem.mem_of_lookup z) (.inl rfl)) fun z => all _ (PySem.mem_of_lookup z) (.inr rfl)
    rcases hxm with rfl | rfl
    · exact ⟨_, rfl⟩
    · exact ⟨_, rfl⟩
  · have z : false = true := z
    cases z
  · match i, e1, e2 with
    | 0, e1, e2 =>
      obtain rfl : (("mark" : Str)) = y := Option.some.inj e1
      obtain rfl : V.ref r = v := Option.some.inj (Option.some.inj e2)
      exact ⟨.ref r, rfl, .inr ⟨.inl rfl, _, rfl, hm⟩⟩
    | 1, e1, e2 =>
      obtain rfl : (("keys" : Str)) = y := Option.some.inj e1
      obtain rfl : V.ref l = v := Option.some.inj (Option.some.inj e2)
      exact ⟨.ref l, rfl, .inr ⟨.inr rfl, _, rfl, hkeys⟩⟩
    | 2, e1, e2 => cases (Option.some.inj e2)
    | i + 3, e1, e2 => cases e2
  · rcases look x b e with ⟨_, rfl⟩ | ⟨_, rfl⟩
    · exact ⟨_, hm⟩
    · exact ⟨_, hkeys⟩
  · rcases look x b e with ⟨_, rfl⟩ | ⟨_, rfl⟩
    · exact e0.hok.fresh (Nat.le_succ _)
    · exact hc0
theorem told_run {ka : Nat → Addr} (T : Free mg) (W : Ways P w K mg base CM ka) {A : Around} {outer : List Env} {s : Shared} {H : Hp} {c c' f l r : Addr} {m : Mk} {js : List Nat} {Q : VK} (hr : Room 4 A) (e0 : Env0 P w K mg base A outer s H)
    (hf : H f = some (FnO f (TF [(("keys" : Str), c)] c'))) (hco : H c' = some (CodeO c' qTold)) (hc0 : H c = none) (hc : s.heap.IsCell c (some (.ref l))) (hj : ∀ j ∈ js, j < 17) (h6 : js.length ≤ 6) (hL : H l = some (.lst (js.map fun j => V.ref (ka j)))) (hM : MarkAt K CM H r m)
    (k : ∀ v H', Same H H' → Dp K H' v (keyD js m) → Q v H') : codeAny (model P w) A (.call (.ref f) ⟨[.ref r], []⟩) (L2.CR C8.CX0 outer P w H s Q C8.E0) s := by
  have lim : s.heap.NoLimit := e0.mod.nolimit.keeps fun b o e => (e0.bs b o e).1
  obtain ⟨od, sl, doc, pm, ctv, ho⟩ := fnO_at e0.hok hf
  refine codeAny_call_function hr.depth ho rfl rfl rfl rfl (codeO_at e0.hok hco) ?_
  refine wpAny_of_eq (a := [(("mark" : Str), Value.ref r)]) rfl ?_
  refine told_env fun h₁ hns kp hm => ⟨lim.keeps kp, ?_⟩
  refine codeAny_func ?_
  have I := inv_startT (P := P) (w := w) (K := K) (mg := mg) (base := base) (c' := c') (f := f) hr.hd e0 hc0 hc hns kp hm
  have hr2 : Room 3 (A.deeper (envT c c' f s.heap.objs.size)) := hr.deeper _
  have nd : (["mark", "keys", "key"] : List Str).Nodup := by decide +kernel
  have sz := sizeLine_eq
  obtain ⟨t, B, hq⟩ : ∃ t, PSs (tCx P w K mg base c c' f A outer s H) (C8.fnBody sTold) t ∧ t { nx := fun _ _ => False, rt := Q } [some (.ref r), some (.ref l), none] H := by
    refine ⟨_, (pss_one (ps_ret (pe_tupleOf (by rfl) T.tuple (pe_lc (own := [("key", 2)]) (g := gName 2) (tt := tYes) (by rfl) nd (pi_list (pv 1)) (blkOk_by (own := [("key", 2)]) (N := ["mark", "keys", "key"]) (sc := C8.fnScope sTold) (by decide +kernel)) (fun _ _ _ _ _ => (pg_name (i := 2) nd rfl (Or.inl rfl))) (fun _ _ _ _ _ => pts_nil) (fun _ _ _ _ _ => (show PE _ _ (tCallW 2 ka (spWay K CM) (tCons (tVar 0) tNil)) from pe_callW (i := 2) W hr2 (Nat.le_refl _) rfl (.inl rfl) (pa_cons (pv 0) pa_nil))))))), ?_⟩
    refine ⟨_, rfl, l, rfl, ⟨_, .of hL⟩, fun D hD => lc_it (walk_list (xs := js.map fun j => V.ref (ka j))) (fun i H' => ∃ vs, H' D = some (.lst vs) ∧ DpAll K (del D H') vs ((js.take i).map fun j => keyP j (m.get (wp j))) ∧ Same H (del D H')) ?_ ?_ ?_ ?_⟩
    · exact ⟨[], upd_same, .nil, del_in hD (same_new hD)⟩
    · rintro i H' _ ⟨vs, h1, h2, h3⟩
      exact .of (del_sub D H' _ _ (h3 _ _ hL))
    · rintro i x H1 H2 hi ⟨vs, h1, h2, h3⟩ ⟨rfl, hx⟩
      rw [List.getElem?_map] at hx
      cases ej : js[i]? with
      | none => rw [ej] at hx; cases hx
      | some j =>
        rw [ej] at hx
        obtain rfl : V.ref (ka j) = x := Option.some.inj hx
        have hj17 := hj j (List.mem_of_getElem? ej)
        refine ⟨rfl, ?_⟩
        dsimp only [tYes]
        refine iteT ?_
        refine ⟨j, hj17, rfl, _, rfl, r, m, rfl, mark_same (h3.trans (del_sub D H2)) hM, fun v H3 sm hv => ?_⟩
        have hD3 := sm _ _ h1
        have hlen := dpAll_len h2
        rw [List.length_map, List.length_take] at hlen
        rw [List.length_map] at hi
        refine ⟨vs, hD3, by omega, _, upd_same, ?_, ?_⟩
        · rw [del_upd, List.take_add_one, ej, List.map_append]
          exact dpAll_app (dp_del hD3 3 _ _ (tn_key hj17 (hM.1 _ (wp_lt j hj17))) hv) (dp_sameAll (del_same sm) _ _ h2)
        · rw [del_upd]
          exact h3.trans (del_same sm)
    · rintro H' ⟨vs, h1, h2, h3⟩
      refine .inl ⟨D, vs, rfl, .of h1, fun q hq => k _ _ ((h3.trans (del_sub D H')).trans (same_new hq)) (.tup (.of upd_same) ?_)⟩
      rw [List.length_map, List.take_length] at h2
      exact dp_sameAll ((del_sub D H').trans (same_new hq)) _ _ h2
  refine wpAny_mono (B.run [] _ _ H { nx := fun _ _ => False, rt := Q } I hq) (fun fl s' hs => ?_) fun e s' hs => hs
  · cases fl with
    | ret u =>
      obtain ⟨v, σ', H', J, rv, q⟩ := hs
      exact ⟨v, H', J.os, J.bare, J.base, J.hok, rv, q⟩
    | next =>
      obtain ⟨_, _, _, q⟩ := hs
      exact q.elim
    | brk =>
      obtain ⟨_, _, _, q⟩ := hs
      exact False.elim q
    | cont =>
      obtain ⟨_, _, _, q⟩ := hs
      exact False.elim q
end
end S
end

section
set_option maxRecDepth 100000
set_option maxHeartbeats 4000000
/-! Defs: key_of, as it leaves the heap. -/
namespace S
open PySem PySem.Spec PyProof.Rows L2 SM NdefX LamX
abbrev TabK (PK : Addr) : List NTab := [(PK, fun _ _ => qTold)]
section
variable {P : Program} {w : World} {K : PySem.W.Frag} {mg : Str → Option Value} {base : Heap} {CM CR : Addr}
theorem scKeyOf : FnScope ["self", "keys", "told", "part", "way"] ["self"] (defScope sKeyOf) := ⟨rfl, rfl, rfl, by decide +kernel, rfl, by decide +kernel, by decide +kernel⟩
/-- how key_of leaves the heap -/
def KoEnd (P : Program) (w : World) (ka : Nat → Addr) (PK : Addr) (outer : List Env) (s : Shared) (H : Hp) (ws : List Nat) (u : Value) (s' : Shared) : Prop := ∃ (fa c c' l : Addr) (H' : Hp), u = .ref fa ∧ s'.os = s.os ∧ AllBare s'.gens ∧ Un (frs outer) [] H H' s.heap s'.heap ∧ HOk P w H' s'.heap ∧
  H' fa = some (FnO fa (TF [(("keys" : Str), c)] c')) ∧ H' c' = some (CodeO c' qTold) ∧ H' c = none ∧ s'.heap.IsCell c (some (.ref l)) ∧ s.heap.objs.size ≤ c ∧ H' l = some (.lst (ws.map fun j => V.ref (ka j))) ∧ ExtN H H' ∧ TabsN (TabK PK) H'
theorem key_of_run {ka : Nat → Addr} {f cK PK : Addr} {fd : FuncData} (F : FunD K "key_of" "Rule.key_of" (defArgs sKeyOf) (defBody sKeyOf) (defScope sKeyOf) [] [] f fd) (hcd : fd.code = .ref cK) (TB : TabB base mg cK PK) (c : ClR K CR) (G_key_by : C8.Cal P w K mg base 1 "key_by" (spKeyBy ka) [])
    {A : Around} {outer : List Env} {s : Shared} {H : Hp} {r : Addr} {ws : List Nat} (hr : Room 2 A) (e0 : Env0 P w K mg base A outer s H) (hT : TabsN (TabK PK) H) (hR : RuleAt K CR H r ws) :
    codeAny (model P w) A (.call (.ref f) ⟨[.ref r], []⟩) (fun res s' => ∃ u, res = .ok (.ret u) ∧ KoEnd P w ka PK outer s H ws u s') s := by
  have KX : K.In s.heap := e0.mod.kin.keeps fun b o e => (e0.bs b o e).1
  have lim : s.heap.NoLimit := e0.mod.nolimit.keeps fun b o e => (e0.bs b o e).1
  have hb : BindsTo s fd ⟨[.ref r], []⟩ [(("self" : Str), Value.ref r)] := F.bindsN (ps := ["self"]) (fun _ _ _ _ _ _ us hl => match us, hl with | [_], _ => rfl) s [.ref r] KX rfl
  obtain ⟨oc, od, dV, kV, doc, pm, an, cdv, ct, osl, rfl, lk, hcd2, _, _⟩ := F.ex
  obtain rfl : cdv = .ref cK := hcd
  have S := scKeyOf
  have nd := S.nd
  have hkind : ∀ y ∈ [(("self" : Str), Value.ref r)], (defScope sKeyOf).names.lookup y.1 = some .local ∨ ((defScope sKeyOf).names.lookup y.1 = some .cell ∧ ((cellsFrom (s.heap.objs.size + 1) (defScope sKeyOf).names []).lookup y.1).isSome = true) := fun y hy => by
    obtain rfl := List.mem_singleton.mp hy
    exact .inl rfl
  refine codeAny_call_function hr.depth (KX _ _ lk) rfl S.co S.gen rfl (PySem.W.codeRec_of KX hcd2) (hb _ _ _ _ ?_)
  refine wpAny_newFunctionEnv_cells S.kind hkind fun env he s1 x => ?_
  subst he
  refine ⟨lim.keeps x.toInCall.keep, codeAny_func ?_⟩
  have I : Inv (cxOf C8.CX0 P w K mg base ["self", "keys", "told", "part", "way"] "Rule.key_of" (defScope sKeyOf) f (.ref cK) A outer s H C8.E0) [] (L2.start ["self", "keys", "told", "part", "way"] [.ref r]) H s1 := inv_start S hr.hd e0 (us := [.ref r]) rfl (.cons (show RelV (V.ref r) (Value.ref r) from rfl) .nil) x
  have hr1 : Room 1 (A.deeper (envOfC "Rule.key_of" (defScope sKeyOf) s.heap.objs.size f (.ref cK))) := hr.deeper _
  have sz := sizeLine_eq
  obtain ⟨ok, dx, l0, us, hx, hl, hs⟩ := id hR
  have hlen : us.length = ws.length := Paired.length hs
  have h6 := okr_six ok
  -- the first statement
  obtain ⟨t1, B1, q1⟩ : ∃ t, PS (cxOf C8.CX0 P w K mg base ["self", "keys", "told", "part", "way"] "Rule.key_of" (defScope sKeyOf) f (.ref cK) A outer s H C8.E0) ((defBody sKeyOf).getD 0 (.Pass ⟨0, 0, 0, 0⟩)) t ∧
      t { nx := fun σ' H' => (∃ l, σ' = [some (.ref r), some (.ref l), none, none, none] ∧ H' l = some (.lst (ws.map fun j => V.ref (ka j)))) ∧ Same H H', rt := fun _ _ => False } (L2.start ["self", "keys", "told", "part", "way"] [.ref r]) H := by
    refine ⟨_, (ps_set (i := 1) nd rfl (Or.inr rfl) (pe_lc (own := [("part", 3), ("way", 4)]) (tt := tYes) rfl nd (pi_list (pe_fld (pv 0) rfl)) (blkOk_by (own := [("part", 3), ("way", 4)]) (N := ["self", "keys", "told", "part", "way"]) (sc := defScope sKeyOf) (by decide +kernel)) (fun _ _ _ _ _ => (show PG _ _ (gTup K 2 (gCons (gName 3) (gCons (gName 4) gNil))) from pg_tup rfl (pgs_cons (pg_name (i := 3) nd rfl (Or.inl rfl)) (pgs_cons (pg_name (i := 4) nd rfl (Or.inl rfl)) pgs_nil)))) (fun _ _ _ _ _ => pts_nil) (fun _ _ _ _ _ => (C8.pe_c G_key_by hr1 (Nat.le_refl _) rfl (pa_cons (pv 3) (pa_cons (pv 4) pa_nil)))))), ?_⟩
    refine ⟨_, rfl, r, CR, dx, _, _, rfl, hx, c.cls, c.steps, rfl, l0, rfl, ⟨_, .of hl⟩, fun D hD => lc_it (walk_list (xs := us)) (fun i H' => H' = upd H D (.lst ((ws.take i).map fun j => V.ref (ka j)))) rfl (fun i H' _ e => ?_) ?_ ?_⟩
    · rw [e]
      exact .of (same_new hD _ _ hl)
    · rintro i v H1 H2 hi rfl ⟨rfl, hv⟩
      obtain ⟨j, hj, t, rfl, ht⟩ := paired_get hs hv
      refine ⟨t, _, rfl, same_sqt (same_new hD) ht, rfl, _, _, rfl, _, _, rfl, rfl, rfl, ?_⟩
      dsimp only [tYes]
      refine iteT ⟨_, rfl, _, rfl, j, ok.ways j (List.mem_of_getElem? hj), rfl, _, upd_same, ?_, ?_⟩
      · rw [List.length_map, List.length_take]
        omega
      · rw [upd_upd, List.take_add_one, hj, List.map_append] <;> rfl
    · rintro _ rfl
      have e : ws.take us.length = ws := by rw [hlen, List.take_length]
      rw [e]
      exact ⟨⟨D, rfl, upd_same⟩, same_new hD⟩
  -- the second
  have B2 : ∀ X : Cx, X = cxOf C8.CX0 P w K mg base ["self", "keys", "told", "part", "way"] "Rule.key_of" (defScope sKeyOf) f (.ref cK) A outer s H C8.E0 → PS X sTold (tNdef (TabK PK) 2 fun c' => TF [(("keys" : Str), s.heap.objs.size + 1)] c') := fun X eX => by
    subst eX
    exact ps_ndefS (P := PK) (c := cK) (nm := fun _ _ => qTold) (name := "told") rfl TB rfl List.mem_cons_self rfl (fun p hp _ => by rw [List.mem_singleton.mp hp]) (show ∀ y ∈ (C8.fnScope sTold).names, y.2 = .free → (defScope sKeyOf).names.lookup y.1 = some .cell ∨ (defScope sKeyOf).names.lookup y.1 = some .free from by decide +kernel) rfl rfl rfl nd rfl (Or.inl rfl) (Or.inl rfl)
  show wpAny _ _ (execs [(defBody sKeyOf).getD 0 (.Pass ⟨0, 0, 0, 0⟩), sTold, .Return (some (.Name "told" ⟨366, 15, 366, 19⟩)) ⟨366, 8, 366, 19⟩] _) _ _ _
  refine wpAny_execs_cons (wpAny_mono (B1.run [] s1 _ H _ I q1) (fun fl s2 h2 => ?_) fun e s' hs => wpAny_mono hs (fun _ _ h => (show False from h).elim) fun _ _ h => (show False from h).elim)
  cases fl with
  | ret v => obtain ⟨_, _, _, _, _, q⟩ := h2; exact q.elim
  | brk => obtain ⟨_, _, _, q⟩ := h2; exact False.elim q
  | cont => obtain ⟨_, _, _, q⟩ := h2; exact False.elim q
  | next =>
    obtain ⟨σ2, H2, I2, ⟨l, rfl, hl2⟩, sm2⟩ := h2
    refine wpAny_execs_cons (wpAny_mono ((B2 _ rfl).run [] s2 _ H2 { nx := fun σ' H' => ∃ fa c', σ' = [some (.ref r), some (.ref l), some (.ref fa), none, none] ∧ H' fa = some (FnO fa (TF [(("keys" : Str), s.heap.objs.size + 1)] c')) ∧ H' c' = some (CodeO c' qTold) ∧ ExtN H2 H' ∧ TabsN (TabK PK) H', rt := fun _ _ => False } I2 ⟨hT.ext sm2, fun fa c' H1 eN hT1 hf0 hf1 hc1 => ⟨fa, c', rfl, hf1, hc1, eN, hT1⟩⟩) (fun fl s3 h3 => ?_) fun e s' hs => wpAny_mono hs (fun _ _ h => (show False from h).elim) fun _ _ h => (show False from h).elim)
    cases fl with
    | ret v => obtain ⟨_, _, _, _, _, q⟩ := h3; exact q.elim
    | brk => obtain ⟨_, _, _, q⟩ := h3; exact False.elim q
    | cont => obtain ⟨_, _, _, q⟩ := h3; exact False.elim q
    | next =>
      obtain ⟨σ3, H3, I3, fa, c', rfl, hfa, hc', eN, hT3⟩ := h3
      refine wpAny_execs_cons (wpAny_Return_some (wpAny_mono ((pv (X := cxOf C8.CX0 P w K mg base ["self", "keys", "told", "part", "way"] "Rule.key_of" (defScope sKeyOf) f (.ref cK) A outer s H C8.E0) 2).run [] s3 _ H3 (fun v H' => v = .ref fa ∧ H' = H3) I3 ⟨_, rfl, rfl, rfl⟩) (fun u s4 ⟨v, H4, I4, rv, ev, eH⟩ => ?_) fun e s' hs => wpAny_mono hs (fun _ _ h => (show False from h).elim) fun _ _ h => (show False from h).elim))
      subst ev eH
      obtain rfl : u = Value.ref fa := rv
      obtain ⟨m, hns, hlk⟩ := I4.loc
      obtain ⟨u2, ru2, lk2⟩ := hlk 1 "keys" (.ref l) rfl rfl (.inr (.inl rfl))
      obtain rfl : u2 = Value.ref l := ru2
      have hcell : s4.heap.IsCell (s.heap.objs.size + 1) (some (.ref l)) := by
        rcases lk2 with ⟨z, _⟩ | ⟨_, b, hb1, hb2⟩
        · exact absurd (show (some NameKind.cell) = some NameKind.local from z) (by decide)
        · obtain rfl : s.heap.objs.size + 1 = b := Option.some.inj (show some (s.heap.objs.size + 1) = some b from hb1)
          exact hb2
      exact ⟨.ref fa, rfl, fa, s.heap.objs.size + 1, c', l, H4, rfl, I4.os, I4.bare, I4.base, I4.hok, hfa, hc', I4.freeC "keys" _ rfl, hcell, Nat.le_succ _, eN _ _ hl2 (fun ps z => by cases z), (ExtN.of sm2).trans eN, hT3⟩
end
end S
end

section
set_option maxRecDepth 100000
set_option maxHeartbeats 4000000
/-! Defs: sorted(marks, key=told). -/
namespace S
open PySem PySem.Spec PyProof.Rows L2 SM NdefX LamX PySem.Calls PySem.W
def MarkV (K : PySem.W.Frag) (CM : Addr) (H : Hp) (v : V) (m : Mk) : Prop := ∃ r, v = .ref r ∧ MarkAt K CM H r m
def RM (K : PySem.W.Frag) (CM : Addr) (H : Hp) (v : Value) (m : Mk) : Prop := ∃ r, v = .ref r ∧ MarkAt K CM H r m
theorem rm_of {K : PySem.W.Frag} {CM : Addr} {H : Hp} : ∀ {vs : List V} {us : List Value} {ms : List Mk}, Paired (MarkV K CM H) vs ms → Vals vs us → EachIs (RM K CM H) us ms
  | _, _, _, .nil, .nil => .nil
  | _, _, _, .cons (a := v) ⟨r, e, h⟩ t, .cons rv rt => by
    subst e
    cases rv
    exact .cons ⟨r, rfl, h⟩ (rm_of t rt)
theorem rm_to {K : PySem.W.Frag} {CM : Addr} {H : Hp} : ∀ {us : List Value} {ms : List Mk}, EachIs (RM K CM H) us ms → ∃ vs, Vals vs us ∧ Paired (MarkV K CM H) vs ms
  | _, _, .nil => ⟨[], .nil, .nil⟩
  | _, _, .cons ⟨r, e, h⟩ t => by
    obtain ⟨vs, h1, h2⟩ := rm_to t
    subst e
    exact ⟨.ref r :: vs, .cons rfl h1, .cons ⟨r, rfl, h⟩ h2⟩
theorem each_get {α β : Type} {R : α → β → Prop} : ∀ {as : List α} {bs : List β}, EachIs R as bs → ∀ {i : Nat} {a : α}, as[i]? = some a → ∃ b, bs[i]? = some b ∧ R a b
  | _, _, .nil, i, a, h => by simp at h
  | _, _, .cons r t, 0, a, h => by
    rw [List.getElem?_cons_zero] at h
    rw [← Option.some.inj h]
    exact ⟨_, rfl, r⟩
  | _, _, .cons r t, i + 1, a, h => by
    rw [List.getElem?_cons_succ] at h
    exact each_get t h
theorem dp_each {X : Cx} {pins : List (Addr × Obj)} {σ : L2.St} {H : Hp} {s : Shared} (I : Inv X pins σ H s) : ∀ {kvs : List V} {us : List Value} {ds : List PyData}, Vals kvs us → DpAll X.K H kvs ds → EachIs (fun v d => ∃ as, Reads s.heap v d as) us ds
  | _, _, _, .nil, .nil => .nil
  | _, _, _, .cons r t, .cons h th => .cons (Dp.reads I _ _ _ h r) (dp_each I t th)
theorem stk_new {X : Cx} {pins : List (Addr × Obj)} {σ : L2.St} {H : Hp} {s : Shared} (I : Inv X pins σ H s) {b : Addr} (h : s.heap.objs.size ≤ b) : b ∉ frs X.stack := fun z => by
  rcases List.mem_cons.mp (I.stkSub b z) with e | e
  · exact absurd (Nat.lt_of_lt_of_le I.lt (e ▸ h)) (Nat.lt_irrefl _)
  · exact I.nofs h e
section
variable {X : Cx} {pins : List (Addr × Obj)} {σ : L2.St} {H : Hp} {s : Shared} {CM : Addr}
/-- where the making of the keys stands -/
structure KeyI (X : Cx) (pins : List (Addr × Obj)) (σ : L2.St) (H : Hp) (D kS c l : Addr) (e1 : Nat) (ds : List PyData) (s' : Shared) (H' : Hp) (kvs : List V) (kA : Array Value) (e : Nat) : Prop where
  inv : Inv X pins σ H' s'
  same : Same H H'
  nD : H' D = none
  nK : H' kS = none
  nc : H' c = none
  aD : s'.heap.get? D = some (seqObj "list" #[] e1)
  aK : s'.heap.get? kS = some (seqObj "list" kA e)
  ac : s'.heap.IsCell c (some (.ref l))
  vals : Vals kvs kA.toList
  dp : DpAll X.K H' kvs ds
theorem sort_told {ka : Nat → Addr} {a f c c' l : Addr} {js : List Nat} {vs : List V} {ms : List Mk} {Q : VK} (T : Free X.mg) (W : Ways X.prog X.w X.K X.mg X.base CM ka) (I : Inv X pins σ H s) (hr : Room 6 X.A) (ok : OkR js) (hjl : 1 ≤ js.length)
    (ha : H a = some (.lst vs)) (hv : Paired (MarkV X.K CM H) vs ms) (hf : H f = some (FnO f (TF [(("keys" : Str), c)] c'))) (hco : H c' = some (CodeO c' qTold)) (hc0 : H c = none) (hc : s.heap.IsCell c (some (.ref l))) (hcf : c ∉ frs X.stack)
    (hL : H l = some (.lst (js.map fun j => V.ref (ka j)))) (q : ∀ D H' vs', Same H H' → H' D = some (.lst vs') → Paired (MarkV X.K CM H') vs' (sortR js ms) → Q (.ref D) H') :
    wpAny (model X.prog X.w) X.A (call (.builtin "sorted") [.ref a] [(Str.ofString "key", .ref f)]) (EP X pins σ Q) X.xe s := by
  obtain ⟨hz, us, n, hus, hla⟩ := (show ObjOk X.prog X.w H s.heap a (.lst vs) from I.hok a _ ha)
  have hE : EachIs (RM X.K CM H) us ms := rm_of hv hus
  have hlen : us.length = ms.length := hE.length
  have hvl : vs.length = us.length := Paired.length hus
  have okm' : ∀ m ∈ ms, OkM m := fun m hm => by
    obtain ⟨i, hi⟩ := List.getElem?_of_mem hm
    obtain ⟨v, _, r, _, h⟩ := paired_getL hv hi
    exact h.1
  have hla' : s.heap.IsList a us.toArray := ⟨_, hla, rfl, n, rfl⟩
  have room4 : Room 4 X.A.in1.in1 := hr.in1.in1
  refine sorted_of_sort hla' (by omega) (ksk_s1 _ _) (fun _ => ksk_l1 _ _) fun E' => ?_
  rw [ksk_t1]
  have hD0 : (copyHeap s.heap us).get? (s.heap.objs.size + 1) = some (seqObj "list" us.toArray 0) := copyHeap_at _ _
  unfold ksk_tree
  refine wpAny_bind (listItems_at hD0 rfl ?_)
  refine wpAny_bind (listUpdate_at hD0 rfl ?_ (by rw [List.size_toArray]; omega) (Nat.zero_le _))
  obtain ⟨e1, ho1⟩ : ∃ e1, ((copyHeap s.heap us).update (s.heap.objs.size + 1) (Obj.mapSeq fun _ => (#[] : Array Value))).get? (s.heap.objs.size + 1) = some (seqObj "list" #[] e1) := ⟨_, get?_update_seq hD0 fun _ => #[]⟩
  refine wpAny_bind (seqEpoch_at ho1 rfl ?_)
  refine wpAny_bind (wpAny_newTuple ?_ (by show us.length ≤ _; omega))
  refine wpAny_bind (wpAny_newList ?_ (Nat.zero_le _))
  refine wpAny_holding ?_
  have hsz : (copyHeap s.heap us).objs.size = s.heap.objs.size + 2 := by
    unfold copyHeap
    rw [size_push', Heap.size_update, size_push']
  have hkS : (((copyHeap s.heap us).update (s.heap.objs.size + 1) (Obj.mapSeq fun _ => (#[] : Array Value))).push (seqObj "tuple" us.toArray 0)).objs.size = s.heap.objs.size + 3 := by rw [size_push', Heap.size_update, hsz]
  show wpAny _ _ (ksk_rest (s.heap.objs.size + 1) (.ref f) false us.toArray e1 (.ref (((copyHeap s.heap us).update (s.heap.objs.size + 1) (Obj.mapSeq fun _ => (#[] : Array Value))).push (seqObj "tuple" us.toArray 0)).objs.size)) _ _ { s with heap := sortingHeap (copyHeap s.heap us) (s.heap.objs.size + 1) us }
  rw [hkS]
  have nD0 : H (s.heap.objs.size + 1) = none := I.hok.fresh (Nat.le_succ _)
  have nK0 : H (s.heap.objs.size + 3) = none := I.hok.fresh (Nat.le_add_right _ _)
  have kp0 : ∀ b o, s.heap.get? b = some o → (sortingHeap (copyHeap s.heap us) (s.heap.objs.size + 1) us).get? b = some o := fun b o e => sortingHeap_old (Nat.ne_of_lt (Nat.lt_succ_of_lt (Heap.lt_size e))) (copyHeap_old e)
  have start : KeyI X pins σ H (s.heap.objs.size + 1) (s.heap.objs.size + 3) c l e1 [] { s with heap := sortingHeap (copyHeap s.heap us) (s.heap.objs.size + 1) us } H [] #[] 0 := by
    refine ⟨I.kept (t' := s.toks) kp0, Same.refl H, nD0, nK0, hc0, ?_, ?_, ?_, .nil, .nil⟩
    · exact Heap.get?_push_of_some _ (Heap.get?_push_of_some _ ho1)
    · show (sortingHeap (copyHeap s.heap us) (s.heap.objs.size + 1) us).get? (s.heap.objs.size + 3) = _
      unfold sortingHeap
      rw [← hkS]
      exact Heap.get?_push_size _ rfl
    · obtain ⟨o, ho, hd⟩ := hc
      exact ⟨o, kp0 _ _ ho, hd⟩
  have fD : FpOk X pins H (s.heap.objs.size + 1) := I.fpOk (Nat.le_succ _) nD0
  have fK : FpOk X pins H (s.heap.objs.size + 3) := I.fpOk (Nat.le_add_right _ _) nK0
  have sD : s.heap.objs.size + 1 ∉ frs X.stack := stk_new I (Nat.le_succ _)
  have sK : s.heap.objs.size + 3 ∉ frs X.stack := stk_new I (Nat.le_add_right _ _)
  have neDK : s.heap.objs.size + 3 ≠ s.heap.objs.size + 1 := by
    intro z
    have := Nat.add_left_cancel z
    omega
  have ckS : c ≠ s.heap.objs.size + 3 := by
    obtain ⟨o, ho, _⟩ := hc
    exact Nat.ne_of_lt (Nat.lt_of_lt_of_le (Heap.lt_size ho) (Nat.le_add_right _ _))
  have cD : c ≠ s.heap.objs.size + 1 := by
    obtain ⟨o, ho, _⟩ := hc
    exact Nat.ne_of_lt (Nat.lt_of_lt_of_le (Heap.lt_size ho) (Nat.le_add_right _ _))
  have key : ∀ m, m ∈ ms → Tn 4 (keyD js m) := fun m hm => by
    refine .tup _ fun d hd => ?_
    obtain ⟨j, hj, rfl⟩ := List.mem_map.mp hd
    exact tn_key (ok.ways j hj) (okm' m hm _ (wp_lt j (ok.ways j hj)))
  unfold ksk_rest
  refine wpAny_bind (wpAny_rule ?_)
  first
    | rw [List.forIn_toArray]
    | (rw [← Array.forIn_toList]; simp only [List.toList_toArray])
    | rw [← Array.forIn_toList]
  refine wpAny_bind (ksk_fold (fun i s' => ∃ H' kvs kA e, KeyI X pins σ H (s.heap.objs.size + 1) (s.heap.objs.size + 3) c l e1 ((ms.take i).map (keyD js)) s' H' kvs kA e) us 0 _ ⟨H, [], #[], 0, start⟩ ?step ?done)
  case step =>
    rintro i x s' hx ⟨H', kvs, kA, e, J⟩
    simp only [Nat.zero_add] at J ⊢
    obtain ⟨m, hm, r, rfl, hM⟩ := each_get hE hx
    have hmm := List.mem_of_getElem? hm
    have hil : i < us.length := (List.getElem?_eq_some_iff.mp hx).1
    have hkz : kA.size = i := by
      have q1 : kvs.length = kA.size := (Paired.length J.vals).trans Array.length_toList
      have q2 := dpAll_len J.dp
      rw [List.length_map, List.length_take] at q2
      omega
    have S := J.same
    have fn := S _ _ hf
    have run := told_run (ka := ka) (r := r) (m := m) (js := js) (Q := fun v H2 => Same H' H2 ∧ Dp X.K H2 v (keyD js m)) T W room4 J.inv.env0.in1.in1 (S _ _ hf) (S _ _ hco) J.nc J.ac ok.ways (okr_six ok) (S _ _ hL) (mark_same S hM) (fun v H2 s2 hd => ⟨s2, hd⟩)
    refine wpAny_bind (wpAny_attempt (wpAny_call (codeAny_mono run fun res s2 hres => ?_)))
    cases res with
    | error e => exact (show False from hres).elim
    | ok fl =>
      cases fl with
      | next => exact (show False from hres).elim
      | brk => exact (show False from hres).elim
      | cont => exact (show False from hres).elim
      | ret u =>
        obtain ⟨v, H2, os, bare, un, hok, rv, s2m, hdp⟩ := hres
        have hL2 : (([] : List Addr)).all (fun _ => true) = true := rfl
        have J2 : Inv X pins σ H2 s2 := J.inv.call' (ch := []) os un hok bare fun b hb => absurd hb (by simp)
        have aD2 : s2.heap.get? (s.heap.objs.size + 1) = some (seqObj "list" #[] e1) := un.keep _ _ J.aD J.nD sD (by simp)
        have aK2 : s2.heap.get? (s.heap.objs.size + 3) = some (seqObj "list" kA e) := un.keep _ _ J.aK J.nK sK (by simp)
        have nD2 := un.free _ _ J.aD J.nD (by simp)
        have nK2 := un.free _ _ J.aK J.nK (by simp)
        obtain ⟨oc, hoc, hdc⟩ := J.ac
        have ac2 : s2.heap.get? c = some oc := un.keep _ _ hoc J.nc hcf (by simp)
        have nc2 := un.free _ _ hoc J.nc (by simp)
        try dsimp only
        have s1 := Heap.SameBut.update s2.heap (s.heap.objs.size + 3) (Obj.mapSeq (·.push u))
        obtain ⟨c2, hc2⟩ : ∃ c2, (s2.heap.update (s.heap.objs.size + 3) (Obj.mapSeq (·.push u))).get? (s.heap.objs.size + 3) = some (seqObj "list" (kA.push u) c2) := ⟨_, get?_update_seq aK2 (·.push u)⟩
        refine wpAny_bind (listUpdate_at aK2 rfl ?_ (by omega) (by rw [Array.size_push]; omega))
        obtain ⟨_, f1, f2, f3, f4, f5⟩ := fK
        refine wpAny_pure ⟨rfl, H2, kvs ++ [v], kA.push u, c2, ?_⟩
        have et : (ms.take (i + 1)).map (keyD js) = (ms.take i).map (keyD js) ++ [keyD js m] := by
          rw [List.take_add_one, hm, List.map_append] <;> rfl
        rw [et]
        exact ⟨J2.turned (t' := s2.toks) (fun b o hb e => (s1.2 b hb).trans e) nK2 f1 f3 f4 f5, J.same.trans s2m, nD2, nK2, nc2, (s1.2 _ neDK.symm).trans aD2, hc2, ⟨oc, (s1.2 c ckS).trans ac2, hdc⟩, by
          rw [Array.toList_push]
          exact J.vals.append (.cons rv .nil), dpAll_app hdp (dp_sameAll s2m _ _ J.dp)⟩
  case done =>
    rintro s3 ⟨H3, kvs, kA, e, J⟩
    simp only [Nat.zero_add] at J
    have etk : ms.take us.length = ms := by rw [hlen, List.take_length]
    rw [etk] at J
    have hk' : EachIs (fun v k => ∃ as, Reads s3.heap v k as) kA.toList (ms.map (keyD js)) := dp_each J.inv J.vals J.dp
    have hkz : kA.size = us.length := by
      have q1 : kvs.length = kA.size := (Paired.length J.vals).trans Array.length_toList
      have q2 := dpAll_len J.dp
      rw [List.length_map] at q2
      omega
    try dsimp only
    refine wpAny_bind (listItems_at J.aK rfl ?_)
    have hal : AllAlike (ms.map (keyD js)) := by
      intro x hx y hy
      obtain ⟨m1, h1, rfl⟩ := List.mem_map.mp hx
      obtain ⟨m2, h2, rfl⟩ := List.mem_map.mp hy
      exact keyD_alike ok (okm' m1 h1) (okm' m2 h2)
    have hsk : Sortable (ms.map (keyD js)) := by
      refine Sortable.tuples fun m => ?_
      cases js with
      | nil => exact absurd hjl (by decide)
      | cons j r => exact ⟨_, _, rfl⟩
    have hu : ∀ d, d ∈ ms.map (keyD js) → X.A.in1.in1.units + d.depth < cLine := fun d hd => by
      obtain ⟨m1, h1, rfl⟩ := List.mem_map.mp hd
      have q1 := (tn_can _ _ (key m1 h1)).2
      have q2 := room4.units
      omega
    -- the heap without the store of the keys
    have eh : ∀ b o, b ≠ s.heap.objs.size + 3 → s3.heap.get? b = some o → (hidT s3.heap (upd (fun _ => none) (s.heap.objs.size + 3) (.own 0))).get? b = some o := fun b o hb e => hidT_get e (by rw [upd_ne hb])
    have hn : (hidT s3.heap (upd (fun _ => none) (s.heap.objs.size + 3) (.own 0))).get? (s.heap.objs.size + 3) = none := by
      cases z : (hidT s3.heap (upd (fun _ => none) (s.heap.objs.size + 3) (.own 0))).get? (s.heap.objs.size + 3) with
      | none => rfl
      | some o =>
        have q2 := (of_hidT z).2
        rw [upd_same] at q2
        cases q2
    refine keyH_end (κ := dataKind s3.heap (ms.map (keyD js))) (h₁ := hidT s3.heap (upd (fun _ => none) (s.heap.objs.size + 3) (.own 0))) (b := false) (vs := us) (fun b o hb e => (of_hidT e).1) hn J.aK J.aD neDK (SortsAt.data (s := s3) hk' hal hsk hu) hkz (by omega) fun h3 tk3 c3 k3 n3 => ⟨rfl, ?_⟩
    have ko : KeyedOut false (ms.map (keyD js)) us (sortVals (dataKind s3.heap (ms.map (keyD js))) false kA.toList us) := ⟨s3.heap, kA.toList, hal, rfl, hk'⟩
    have hout := keyedOut_each (keyD js) ko hE
    rw [sort_key ok okm'] at hout
    obtain ⟨outV, hov, hop⟩ := rm_to hout
    have holen : outV.length ≤ sizeLine := by
      have q1 : outV.length = (sortR js ms).length := Paired.length hop
      rw [sort_len] at q1
      omega
    have k3' : ∀ b o, b ≠ s.heap.objs.size + 3 → b ≠ s.heap.objs.size + 1 → s3.heap.get? b = some o → h3.get? b = some o := fun b o h1 h2 e => k3 b o h2 (eh b o h1 e)
    obtain ⟨_, d1, d2, d3, d4, d5⟩ := fD
    obtain ⟨_, f1, f2, f3, f4, f5⟩ := fK
    have fin : Inv X pins σ (upd H3 (s.heap.objs.size + 1) (.lst outV)) { s3 with heap := h3, toks := tk3 } := by
      refine J.inv.step (g' := s3.gens) (d' := s3.drawn) (ch := [s.heap.objs.size + 3, s.heap.objs.size + 1]) (fun b hb => ?_) (fun b o _ _ hcb e _ => ?_) (fun b o _ _ hcb e _ => ?_) (fun b o hcb e n => ?_) (fun b o hcb e => ?_) (fun b xs e => ?_) (fun b o u e => ?_) (fun b ps e => ?_) (fun m hm => ?_) (fun b o e => ?_) J.inv.bare
      · have hb' : b = s.heap.objs.size + 3 ∨ b = s.heap.objs.size + 1 := by simpa using hb
        rcases hb' with rfl | rfl
        · exact ⟨f3, f1, f4, f5⟩
        · exact ⟨d3, d1, d4, d5⟩
      · exact k3' b o (fun z => hcb (by simp [z])) (fun z => hcb (by simp [z])) e
      · exact ⟨o.slots, k3' b o (fun z => hcb (by simp [z])) (fun z => hcb (by simp [z])) e⟩
      · rw [upd_ne (fun z => hcb (by simp [z]))]
        exact n
      · exact ⟨o, k3' b o (fun z => hcb (by simp [z])) (fun z => hcb (by simp [z])) e⟩
      · rw [upd_ne (fun z => by rw [z, J.nD] at e; cases e)]
        exact e
      · rw [upd_ne (fun z => by rw [z, J.nD] at e; cases e)]
        exact e
      · exact ⟨#[], by rw [upd_ne (fun z => by rw [z, J.nD] at e; cases e), e]; simp⟩
      · obtain ⟨o, es, ep, ho, r⟩ := hm
        exact ⟨o, es, ep, k3' _ o (Ne.symm f1) (Ne.symm d1) ho, r⟩
      · by_cases hb : b = s.heap.objs.size + 1
        · rw [hb, upd_same] at e
          cases e
          rw [hb]
          exact ⟨holen, _, c3, hov, n3⟩
        · rw [upd_ne hb] at e
          refine (J.inv.hok b o e).stay (fun c0 v hc0 z => ?_) (fun c0 z => ?_) fun c0 xs z => ?_
          · refine k3' c0 v (fun z1 => ?_) (fun z1 => ?_) z
            · rcases hc0 with z2 | z2
              · rw [← z2, z1, J.nK] at e; cases e
              · rw [z1, J.nK] at z2; cases z2
            · rcases hc0 with z2 | z2
              · exact hb (z2.symm.trans z1)
              · rw [z1, J.nD] at z2; cases z2
          · rw [upd_ne (fun z1 => by rw [z1, J.nD] at z; cases z)]
            exact z
          · rw [upd_ne (fun z1 => by rw [z1, J.nD] at z; cases z)]
            exact z
    refine ⟨.ref (s.heap.objs.size + 1), _, fin, rfl, q _ _ outV (J.same.trans (same_new J.nD)) upd_same ?_⟩
    exact Paired.mapP hop fun v m ⟨r, h1, h2⟩ => ⟨r, h1, mark_same (J.same.trans (same_new J.nD)) h2⟩
end
end S
end

section
set_option maxRecDepth 100000
set_option maxHeartbeats 4000000
/-! Defs: in_order. -/
namespace S
open PySem PySem.Spec PyProof.Rows L2 SM NdefX LamX
theorem sqt_extn {K : PySem.W.Frag} {H H' : Hp} {a : Addr} {xs : List V} (e : ExtN H H') (h : SqT K H a xs) : SqT K H' a xs := by
  rcases h with (h | ⟨o, h⟩) | h
  · exact .inl (.inl (e _ _ h fun ps z => by cases z))
  · exact .inl (.inr ⟨o, e _ _ h fun ps z => by cases z⟩)
  · exact .inr h
theorem mark_extn {K : PySem.W.Frag} {H H' : Hp} {CM r : Addr} {m : Mk} (e : ExtN H H') (h : MarkAt K CM H r m) : MarkAt K CM H' r m := by
  obtain ⟨ok, dx, t, h1, h2⟩ := h
  exact ⟨ok, dx, t, e _ _ h1 (fun ps z => by cases z), sqt_extn e h2⟩
theorem rule_extn {K : PySem.W.Frag} {H H' : Hp} {CR r : Addr} {ws : List Nat} (e : ExtN H H') (h : RuleAt K CR H r ws) : RuleAt K CR H' r ws := by
  obtain ⟨ok, dx, l, vs, h1, h2, h3⟩ := h
  exact ⟨ok, dx, l, vs, e _ _ h1 (fun ps z => by cases z), e _ _ h2 (fun ps z => by cases z), Paired.mapP h3 fun v j ⟨t, e1, e2⟩ => ⟨t, e1, sqt_extn e e2⟩⟩
def spInOrder (K : PySem.W.Frag) (CM CR PK : Addr) : Sp := fun vs H Q _ => ∃ (r a : Addr) (ws : List Nat) (us : List V) (ms : List Mk), vs = [.ref r, .ref a] ∧ 1 ≤ ws.length ∧ RuleAt K CR H r ws ∧ H a = some (.lst us) ∧ Paired (MarkV K CM H) us ms ∧ TabsN (TabK PK) H ∧
  ∀ D H' us', ExtN H H' → TabsN (TabK PK) H' → H' D = some (.lst us') → Paired (MarkV K CM H') us' (sortR ws ms) → Q (.ref D) H'
section
variable {X : Cx} {CM CR PK : Addr} {p p1 p2 p3 p4 kpos pos : Pos} {pl : Sem Bool}
def tIO (K : PySem.W.Frag) (CM CR PK : Addr) : TE := fun σ H Q => ∃ (r a : Addr), σ[0]? = some (some (.ref r)) ∧ σ[1]? = some (some (.ref a)) ∧ spInOrder K CM CR PK [.ref r, .ref a] H Q C8.E0
theorem pe_io {ka : Nat → Addr} {f cK : Addr} {fd : FuncData} (T : Free X.mg) (W : Ways X.prog X.w X.K X.mg X.base CM ka) (F : FunD X.K "key_of" "Rule.key_of" (defArgs sKeyOf) (defBody sKeyOf) (defScope sKeyOf) [] [] f fd) (hm : Meth X.K CR "key_of" f) (hcd : fd.code = .ref cK) (TB : TabB X.base X.mg cK PK) (c : ClR X.K CR)
    (G : C8.Cal X.prog X.w X.K X.mg X.base 1 "key_by" (spKeyBy ka) []) (hr : Room 6 X.A) (hg : Gl X "sorted") (h0 : PE X (.Name "self" p2) (tVar 0)) (h1 : PA X [.Name "marks" p1] (tCons (tVar 1) tNil))
    (ht : eval (.Call (.Attribute (.Name "self" p2) "key_of" p3) [] [] p4) X.env = (do
      let ov ← eval (.Name "self" p2) X.env
      standAt p3.atName
      let (f, first) ← holding [ov] (getMethod ov "key_of" pl)
      callWith p4 f first (backTo p4 (starEach [] X.env)) (backToKw p4 (keywordEach [] X.env))) := by rfl)
    (he : backTo pos (starEach [.Name "marks" p1] X.env) = (false, eval (.Name "marks" p1) X.env) :: backTo pos (starEach [] X.env) := by rfl) (hpl : (backTo pos (starEach [.Name "marks" p1] X.env)).any (·.1) = false := by rfl)
    (hall : (backToKw pos (keywordEach [⟨some "key", .Call (.Attribute (.Name "self" p2) "key_of" p3) [] [] p4, kpos⟩] X.env)).all (·.1.isSome) = true := by rfl) (hnone : (backToKw pos (keywordEach [⟨some "key", .Call (.Attribute (.Name "self" p2) "key_of" p3) [] [] p4, kpos⟩] X.env)).any (·.1.isNone) = false := by rfl)
    (hks : (backToKw pos (keywordEach [⟨some "key", .Call (.Attribute (.Name "self" p2) "key_of" p3) [] [] p4, kpos⟩] X.env)).filterMap (·.1) = [("key" : Str)] := by rfl) :
    PE X (.Call (.Name "sorted" p) [.Name "marks" p1] [⟨some "key", .Call (.Attribute (.Name "self" p2) "key_of" p3) [] [] p4, kpos⟩] pos) (tIO X.K CM CR PK) := by
  refine ⟨fun pins s σ H Q I h => ?_⟩
  obtain ⟨r, a, e0, e1, h⟩ := h
  obtain ⟨r', a', ws, us, ms, ev, hl1, hR, ha, hv, hT, k⟩ := h
  injection ev with ev1 ev2
  injection ev2 with ev2 _
  injection ev1 with ev1
  injection ev2 with ev2
  subst ev1 ev2
  have room2 : Room 2 X.A := hr.mono (by decide)
  refine wpAny_Call_Name_kw (ld_blt I hg T.sorted (show bootBuiltins ("sorted" : Str) = some (.builtin "sorted") from by decide +kernel) ?_ (by decide) (by decide))
  refine PyProof.Rows.callWith_kw (thn (h1.run pos pins s σ H (fun vs H1 => vs = [.ref a] ∧ H1 = H) I ⟨_, e1, rfl, rfl⟩) fun us1 s1 ⟨vs, H1, I1, r1, q1, q2⟩ => ?_) he hpl hall hnone
  subst q1 q2
  obtain ⟨u0, rfl, ru0⟩ := vals1 r1
  obtain rfl : u0 = Value.ref a := ru0
  rw [hks]
  show wpAny _ _ (evalAll ((do let v ← eval (.Call (.Attribute (.Name "self" p2) "key_of" p3) [] [] p4) X.env; standAt pos; pure v) :: [])) _ _ s1
  refine wpAny_evalAll_cons (wpAny_bind (thn (Q := fun u s3 => ∃ s2, Inv X pins σ H1 s2 ∧ KoEnd X.prog X.w ka PK X.stack s2 H1 ws u s3) ?_ fun u s2 hko => wpAny_bind (wpAny_standAt (wpAny_pure (wpAny_evalAll_nil ?_)))))
  · refine PySem.W.methodCall_KW (pl := pl) (thn (h0.run pins s1 σ H1 (fun v H2 => v = .ref r ∧ H2 = H1) I1 ⟨_, e0, rfl, rfl⟩) fun u s2 ⟨v, H2, I2, rv, ev, eH⟩ => ?_) ht
    subst ev eH
    obtain rfl : u = Value.ref r := rv
    obtain ⟨dx, fs, hx, hfs⟩ := rule_get hR
    refine getmeth_ok I2 hx c.cls hm (hfs _ (by decide +kernel)) ?_
    refine PySem.W.callWith_K0 (first := [.ref r]) I2.kIn hm.kp (wpAny_call (codeAny_mono (key_of_run F hcd TB c G room2 I2.env0 hT hR) fun res s3 hres => ?_))
    obtain ⟨u, rfl, hko⟩ := hres
    exact ⟨_, I2, hko⟩
  · obtain ⟨s0, I0, fa, cc, c', l, H2, rfl, os, bare, un, hok, hfa, hc', nc, hcell, hge, hl2, eN, hT2⟩ := hko
    have I2 : Inv X pins σ H2 s2 := I0.call' (ch := []) os un hok bare fun b hb => absurd hb (by simp)
    show wpAny _ _ (call (.builtin "sorted") [.ref a] [(Str.ofString "key", .ref fa)]) _ _ s2
    refine sort_told (a := a) (ms := ms) T W I2 hr hR.1 hl1 (eN _ _ ha fun ps z => by cases z) (Paired.mapP hv fun v m ⟨r, z1, z2⟩ => ⟨r, z1, mark_extn eN z2⟩) hfa hc' nc hcell (stk_new I0 hge) hl2 fun D H' us' sm hD hp => ?_
    exact k D H' us' (eN.trans (ExtN.of sm)) (hT2.ext sm) hD hp
end
section
variable {P : Program} {w : World} {K : PySem.W.Frag} {mg : Str → Option Value} {base : Heap} {CM CR PK : Addr}
abbrev sInOrder : Stmt := inClass (top 77) 6
theorem scInOrder : FnScope ["self", "marks"] ["self", "marks"] (defScope sInOrder) := ⟨rfl, rfl, rfl, by decide +kernel, rfl, by decide +kernel, by decide +kernel⟩
theorem b_in_order {ka : Nat → Addr} {fk cK : Addr} {fdk : FuncData} (T : Free mg) (W : Ways P w K mg base CM ka) (F : FunD K "key_of" "Rule.key_of" (defArgs sKeyOf) (defBody sKeyOf) (defScope sKeyOf) [] [] fk fdk) (hm : Meth K CR "key_of" fk) (hcd : fdk.code = .ref cK) (TB : TabB base mg cK PK) (c : ClR K CR)
    (G : C8.Cal P w K mg base 1 "key_by" (spKeyBy ka) []) : Body P w K mg base 6 ["self", "marks"] "Rule.in_order" sInOrder (spInOrder K CM CR PK) := by
  intro f cdv A outer s H vs Q E hr h
  have h' := h
  obtain ⟨r, a, ws, us, ms, rfl, _⟩ := h'
  refine ⟨_, pss_one (ps_ret (pe_io (CM := CM) (CR := CR) (PK := PK) (pl := _) T W F hm hcd TB c G hr rfl (pv 0) (pa_cons (pv 1) pa_nil))), ?_⟩
  exact ⟨r, a, rfl, rfl, h⟩
theorem in_order_ {ka : Nat → Addr} {fk cK : Addr} {fdk : FuncData} (D : MetT K CR "in_order" "Rule.in_order" sInOrder []) (T : Free mg) (W : Ways P w K mg base CM ka) (F : FunD K "key_of" "Rule.key_of" (defArgs sKeyOf) (defBody sKeyOf) (defScope sKeyOf) [] [] fk fdk) (hm : Meth K CR "key_of" fk) (hcd : fdk.code = .ref cK) (TB : TabB base mg cK PK) (c : ClR K CR)
    (G : C8.Cal P w K mg base 1 "key_by" (spKeyBy ka) []) : C8.Met P w K mg base 7 CR "in_order" (spInOrder K CM CR PK) [] :=
  met_of c.cls D scInOrder (fun _ _ _ _ _ _ us hl => match us, hl with | [_, _], _ => rfl) (fun vs H Q E h => by
    obtain ⟨_, _, _, _, _, rfl, _⟩ := h
    rfl) (b_in_order T W F hm hcd TB c G)
end
end S
end

section
set_option maxRecDepth 100000
set_option maxHeartbeats 4000000
/-! Defs: houserule. -/
namespace S
open PySem PySem.Spec PyProof.Rows L2 SM
section
variable {P : Program} {w : World} {K : PySem.W.Frag} {mg : Str → Option Value} {base : Heap} {CM CR PK : Addr}
def RowAt (K : PySem.W.Frag) (CM : Addr) (H : Hp) (a : Addr) (row : List Mk) : Prop := ∃ us, H a = some (.lst us) ∧ Paired (MarkV K CM H) us row
theorem row_same {H H' : Hp} {a : Addr} {row : List Mk} (e : Same H H') (h : RowAt K CM H a row) : RowAt K CM H' a row := by
  obtain ⟨us, h1, h2⟩ := h
  exact ⟨us, e _ _ h1, Paired.mapP h2 fun v m ⟨r, z1, z2⟩ => ⟨r, z1, mark_same e z2⟩⟩
theorem row_get {H : Hp} {a : Addr} {row : List Mk} (h : RowAt K CM H a row) {k : Nat} (hk : k < row.length) : ∃ us r, H a = some (.lst us) ∧ us[k]? = some (.ref r) ∧ MarkAt K CM H r (row[k]'hk) := by
  obtain ⟨us, h1, h2⟩ := h
  obtain ⟨v, hv, r, rfl, hM⟩ := paired_getL h2 (List.getElem?_eq_getElem hk)
  exact ⟨us, r, h1, hv, hM⟩
theorem pl_get {row : List Mk} {k : Nat} (h : k + 1 < row.length) (j : Nat) : pl row k j = ans (row[k]'(by omega)) (row[k + 1]'h) j := by
  rw [pl_at (List.getElem?_eq_getElem (by omega)) (List.getElem?_eq_getElem h)]
def nats (l : List Nat) : List V := l.map fun k => V.int (k : Nat)
/-! ### need_row -/
def spNeedRow : Sp := fun vs H Q _ => ∃ (a : Addr) (us : List V), vs = [.ref a] ∧ H a = some (.lst us) ∧ 2 ≤ us.length ∧ us.length ≤ 20 ∧ ∀ H', Same H H' → Q .non H'
abbrev sNeedRow : Stmt := top 80
theorem scNeedRow : FnScope ["marks"] ["marks"] (defScope sNeedRow) := ⟨rfl, rfl, rfl, by decide +kernel, rfl, by decide +kernel, by decide +kernel⟩
theorem b_need_row (T : Free mg) (c_LONGEST_houserule : Con mg "LONGEST_houserule" (.int 20)) : Body P w K mg base 0 ["marks"] "need_row" sNeedRow spNeedRow := by
  intro f cdv A outer s H vs Q E hr h
  obtain ⟨a, us, rfl, ha, h2, h20, k⟩ := h
  refine ⟨_, (pss_one (ps_if (PW.pt (pw_or (pt_not (pt_val (pe_callB call_isiT (by rfl) T.isinstance boot_isinstance (pa_cons (pv 0) (pa_cons (pe_tup (pa_cons (pe_bltn (v := .ty "list") (by rfl) T.list boot_list rfl) (pa_cons (pe_bltn (v := .ty "tuple") (by rfl) T.tuple boot_tuple rfl) pa_nil))) pa_nil))))) (pw_or1 (pt_not (pt_chain op_le op_le pe_int (pe_callB call_len_seq (by rfl) T.len boot_len (pa_cons (pv 0) pa_nil)) (C8.pe_gc rfl c_LONGEST_houserule))))))
        (pss_one (ps_never))
        pss_nil)), ?_⟩
  refine ⟨_, rfl, (by decide : 2 ≤ sizeLine), fun p hp => ?_⟩
  have s1 := same_new (u := HO.tup [V.ty "list", V.ty "tuple"]) hp
  refine ⟨_, _, _, _, [.type "list", .type "tuple"], true, rfl, upd_same, .cons (.ty _) (.cons (.ty _) .nil), .base (.lst (s1 _ _ ha)), kitAny_cons (b := true) (kit_ty (by decide +kernel)) (fun z => by cases z) (fun _ => rfl), _, rfl, iteF ?_⟩
  refine ⟨_, rfl, _, _, rfl, .inl (.of (s1 _ _ ha)), 2, _, rfl, rfl, _, rfl, ?_⟩
  rw [decide_eq_true (show (2 : Int) ≤ (us.length : Nat) by omega)]
  refine iteT ⟨_, _, rfl, rfl, _, rfl, ?_⟩
  rw [decide_eq_true (show ((us.length : Nat) : Int) ≤ 20 by omega)]
  exact iteF (k _ s1)
theorem need_row_ (D : DefT K mg "need_row" sNeedRow []) (T : Free mg) (c : Con mg "LONGEST_houserule" (.int 20)) : C8.Cal P w K mg base 1 "need_row" spNeedRow [] :=
  cal_of D scNeedRow (fun _ _ _ _ _ _ us hl => match us, hl with | [_], _ => rfl) (fun vs H Q E h => by
    obtain ⟨_, _, rfl, _⟩ := h
    rfl) (b_need_row T c)
/-! ### sides_of -/
def spSidesOf (K : PySem.W.Frag) (CM : Addr) : Sp := fun vs H Q _ => ∃ (a b : Addr) (row : List Mk) (places : List Nat) (j : Nat), vs = [.ref a, .ref b, .str (PN (wp j)), .str (WW j)] ∧ j < 17 ∧ RowAt K CM H a row ∧ H b = some (.lst (nats places)) ∧ (∀ k ∈ places, k + 1 < row.length) ∧ row.length ≤ 20 ∧ places.length ≤ 20 ∧
  ∀ D H', Same H H' → H' D = some (.lst ((places.map fun k => pl row k j).map V.int)) → Q (.ref D) H'
abbrev sSidesOf : Stmt := top 81
theorem scSidesOf : FnScope ["marks", "places", "part", "way", "at"] ["marks", "places", "part", "way"] (defScope sSidesOf) := ⟨rfl, rfl, rfl, by decide +kernel, rfl, by decide +kernel, by decide +kernel⟩
theorem b_sides_of (G_sided : C8.Cal P w K mg base 4 "sided" (spSided K CM) []) : Body P w K mg base 4 ["marks", "places", "part", "way", "at"] "sides_of" sSidesOf (spSidesOf K CM) := by
  intro f cdv A outer s H vs Q E hr h
  obtain ⟨a, b, row, places, j, rfl, hj, hR, hb, hin, h20, hp20, k⟩ := h
  have nd := scSidesOf.nd
  have sz := sizeLine_eq
  refine ⟨_, (pss_one (ps_ret (pe_lc (own := [("at", 4)]) (g := gName 4) (tt := tYes) (by rfl) nd (pi_list (pv 1)) (blkOk_by (own := [("at", 4)]) (N := ["marks", "places", "part", "way", "at"]) (sc := defScope sSidesOf) (by decide +kernel)) (fun _ _ _ _ _ => (pg_name (i := 4) nd rfl (Or.inl rfl))) (fun _ _ _ _ _ => pts_nil) (fun _ _ _ _ _ => (C8.pe_c G_sided hr (by decide) rfl (pa_cons (pv 2) (pa_cons (pv 3) (pa_cons (pe_ix (show IxR _ (rIxL K) from ix_list) (pv 0) (pv 4) (fun _ _ => rfl)) (pa_cons (pe_ix (show IxR _ (rIxL K) from ix_list) (pv 0) (pe_op op_add (pv 4) pe_int) (fun _ _ => rfl)) pa_nil))))))))), ?_⟩
  refine ⟨_, rfl, b, rfl, ⟨_, .of hb⟩, fun D hD => lc_it (walk_list (xs := nats places)) (fun i H' => H' D = some (.lst (((places.take i).map fun k => pl row k j).map V.int)) ∧ Same H (del D H')) ⟨upd_same, del_in hD (same_new hD)⟩ (fun i H' _ e => .of (del_sub D H' _ _ (e.2 _ _ hb))) ?_ ?_⟩
  · rintro i x H1 H2 hi ⟨h1, h2⟩ ⟨rfl, hx⟩
    unfold nats at hx
    rw [List.getElem?_map] at hx
    cases ek : places[i]? with
    | none => rw [ek] at hx; cases hx
    | some kk =>
      rw [ek] at hx
      obtain rfl : V.int (kk : Nat) = x := Option.some.inj hx
      have hk1 := hin kk (List.mem_of_getElem? ek)
      have hR2 := row_same (h2.trans (del_sub D H2)) hR
      obtain ⟨us, r1, u1, u2, u3⟩ := row_get hR2 (k := kk) (by omega)
      obtain ⟨us', r2, u1', u2', u3'⟩ := row_get hR2 (k := kk + 1) hk1
      rw [u1] at u1'
      injection u1' with u1'
      injection u1' with u1'
      subst u1'
      refine ⟨rfl, ?_⟩
      dsimp only [tYes]
      refine iteT ?_
      refine ⟨_, rfl, _, rfl, _, rfl, _, rfl, a, us, (kk : Nat), _, rfl, rfl, .of u1, atI_nat u2, _, rfl, _, rfl, _, _, rfl, rfl, a, us, ((kk + 1 : Nat) : Int), _, rfl, by rw [Int.natCast_add] <;> rfl, .of u1, atI_nat u2', ?_⟩
      refine ⟨j, r1, r2, _, _, hj, rfl, u3, u3', fun H3 s3 => ?_⟩
      rw [← pl_get hk1]
      refine ⟨_, s3 _ _ h1, ?_, ?_, ?_⟩
      · rw [List.length_map, List.length_map, List.length_take]
        omega
      · rw [upd_same, List.take_add_one, ek, List.map_append, List.map_append] <;> rfl
      · rw [del_upd]
        exact h2.trans (del_same s3)
  · rintro H' ⟨h1, h2⟩
    have e : places.take (nats places).length = places := by
      unfold nats
      rw [List.length_map, List.take_length]
    rw [e] at h1
    exact k D H' (h2.trans (del_sub D H')) h1
theorem sides_of_ (D : DefT K mg "sides_of" sSidesOf []) (G : C8.Cal P w K mg base 4 "sided" (spSided K CM) []) : C8.Cal P w K mg base 5 "sides_of" (spSidesOf K CM) [] :=
  cal_of D scSidesOf (fun _ _ _ _ _ _ us hl => match us, hl with | [_, _, _, _], _ => rfl) (fun vs H Q E h => by
    obtain ⟨_, _, _, _, _, rfl, _⟩ := h
    rfl) (b_sides_of G)
/-! ### step_for -/
theorem in_nats (z : Int) : ∀ l : List Int, inV (.int z) (l.map V.int) = decide (z ∈ l)
  | [] => rfl
  | y :: ys => by
    have ih := in_nats z ys
    by_cases h : z = y
    · subst h
      rw [decide_eq_true List.mem_cons_self]
      unfold inV
      simp [eqV]
    · have e : decide (z ∈ y :: ys) = decide (z ∈ ys) := by
        refine decide_eq_decide.mpr ⟨fun q => (List.mem_cons.mp q).resolve_left h, List.mem_cons_of_mem _⟩
      rw [e, ← ih]
      unfold inV
      simp [eqV, h, Ne.symm h]
theorem flat_nats (l : List Int) : (l.map V.int).all flatV = true := by
  rw [List.all_eq_true]
  intro v hv
  obtain ⟨x, _, rfl⟩ := List.mem_map.mp hv
  rfl
theorem good_iff {row : List Mk} {places : List Nat} {j : Nat} : SM.Good (pl row) places j ↔ (1 : Int) ∉ (places.map fun k => pl row k j) ∧ (-1 : Int) ∈ (places.map fun k => pl row k j) := by
  unfold SM.Good
  refine ⟨fun ⟨h1, k, hk, h2⟩ => ⟨fun z => ?_, List.mem_map.mpr ⟨k, hk, h2⟩⟩, fun ⟨h1, h2⟩ => ⟨fun k hk z => h1 (List.mem_map.mpr ⟨k, hk, z⟩), ?_⟩⟩
  · obtain ⟨k, hk, e⟩ := List.mem_map.mp z
    exact h1 k hk e
  · obtain ⟨k, hk, e⟩ := List.mem_map.mp h2
    exact ⟨k, hk, e⟩
def spStepFor (K : PySem.W.Frag) (CM : Addr) : Sp := fun vs H Q _ => ∃ (a b c : Addr) (row : List Mk) (places parts : List Nat), vs = [.ref a, .ref b, .ref c] ∧ RowAt K CM H a row ∧ H b = some (.lst (nats places)) ∧ H c = some (.lst ((parts.map PN).map V.str)) ∧ (∀ k ∈ places, k + 1 < row.length) ∧ row.length ≤ 20 ∧ places.length ≤ 20 ∧ (∀ p ∈ parts, p < 6) ∧
  ((∀ j, j < 17 → wp j ∈ parts → ¬ SM.Good (pl row) places j) → ∀ H', Same H H' → Q .non H') ∧
  ∀ j t H', j < 17 → wp j ∈ parts → SM.Good (pl row) places j → Same H H' → H' t = some (.tup [.str (PN (wp j)), .str (WW j)]) → Q (.ref t) H'
abbrev sStepFor : Stmt := top 82
theorem scStepFor : FnScope ["marks", "places", "parts", "part", "way", "sides"] ["marks", "places", "parts"] (defScope sStepFor) := ⟨rfl, rfl, rfl, by decide +kernel, rfl, by decide +kernel, by decide +kernel⟩
theorem ways_mem {p j : Nat} (h : j ∈ waysOf p) : j < 17 ∧ wp j = p := by
  unfold waysOf at h
  obtain ⟨h1, h2⟩ := List.mem_filter.mp h
  exact ⟨List.mem_range.mp h1, of_decide_eq_true h2⟩
theorem mem_ways {j : Nat} (h : j < 17) : j ∈ waysOf (wp j) := by
  unfold waysOf
  exact List.mem_filter.mpr ⟨List.mem_range.mpr h, decide_eq_true rfl⟩
theorem b_step_for (G_ways : C8.Cal P w K mg base 1 "ways" spWays []) (G_sides_of : C8.Cal P w K mg base 5 "sides_of" (spSidesOf K CM) []) : Body P w K mg base 5 ["marks", "places", "parts", "part", "way", "sides"] "step_for" sStepFor (spStepFor K CM) := by
  intro f cdv A outer s H vs Q E hr h
  obtain ⟨a, b, c, row, places, parts, rfl, hR, hb, hc, hin, h20, hp20, hp6, kN, kS⟩ := h
  have nd := scStepFor.nd
  refine ⟨_, (pss_cons (ps_for PassesOwn.never rfl (pi_list (pv 2)) (pg_name (i := 3) nd rfl (Or.inl rfl))
        (pss_one (ps_for PassesOwn.never rfl (pi_list (C8.pe_c G_ways hr (by decide) rfl (pa_cons (pv 3) pa_nil))) (pg_name (i := 4) nd rfl (Or.inl rfl))
          (pss_cons (ps_set (i := 5) nd rfl (Or.inl rfl) (C8.pe_c G_sides_of hr (by decide) rfl (pa_cons (pv 0) (pa_cons (pv 1) (pa_cons (pv 3) (pa_cons (pv 4) pa_nil))))))
          (pss_one (ps_if (PW.pt (pw_and (pt_cmpR op_notIn_seq pe_int (pv 5) rfl) (pw_and1 (pt_cmpR op_in_seq (pe_un un_neg pe_int) (pv 5) rfl))))
            (pss_one (ps_ret (pe_tup (pa_cons (pv 3) (pa_cons (pv 4) pa_nil)))))
            pss_nil))))))
      (pss_one (ps_ret pe_non))), ?_⟩
  refine ⟨_, rfl, c, rfl, ⟨_, .of hc⟩, for_list (xs := (parts.map PN).map V.str) (fun i σ' H' => (∃ x y z, σ' = [some (.ref a), some (.ref b), some (.ref c), x, y, z]) ∧ Same H H' ∧ ∀ j, j < 17 → wp j ∈ parts.take i → ¬ SM.Good (pl row) places j) ⟨⟨_, _, _, rfl⟩, Same.refl H, fun j _ h => absurd h (by rw [List.take_zero]; exact List.not_mem_nil)⟩ (fun i σ' H' _ e => .of (e.2.1 _ _ hc)) ?_ ?_⟩
  · rintro i x σ2 H2 hx ⟨⟨y1, y2, y3, rfl⟩, sm, hno⟩
    obtain ⟨n, hn, rfl⟩ := at_map hx
    rw [List.getElem?_map] at hn
    cases ep : parts[i]? with
    | none => rw [ep] at hn; cases hn
    | some p =>
      rw [ep] at hn
      obtain rfl : PN p = n := Option.some.inj hn
      have hp := hp6 p (List.mem_of_getElem? ep)
      refine ⟨_, rfl, p, hp, rfl, fun aw H3 s3 haw => ⟨aw, rfl, ⟨_, .of haw⟩, for_list (xs := (waysOf p).map fun j => V.str (WW j)) (fun i' σ' H' => (∃ y z, σ' = [some (.ref a), some (.ref b), some (.ref c), some (.str (PN p)), y, z]) ∧ Same H3 H' ∧ ∀ j, j ∈ (waysOf p).take i' → ¬ SM.Good (pl row) places j) ⟨⟨_, _, rfl⟩, Same.refl _, fun j h => absurd h (by rw [List.take_zero]; exact List.not_mem_nil)⟩ (fun i' σ' H' _ e => .of (e.2.1 _ _ haw)) ?_ ?_⟩⟩
      · rintro i' x' σ3 H4 hx' ⟨⟨y2, y3, rfl⟩, sm3, hno3⟩
        rw [List.getElem?_map] at hx'
        cases ej : (waysOf p)[i']? with
        | none => rw [ej] at hx'; cases hx'
        | some j =>
          rw [ej] at hx'
          obtain rfl : V.str (WW j) = x' := Option.some.inj hx'
          obtain ⟨hj, rfl⟩ := ways_mem (List.mem_of_getElem? ej)
          have s4 := sm.trans (s3.trans sm3)
          refine ⟨_, rfl, _, rfl, _, rfl, _, rfl, a, b, row, places, j, rfl, hj, row_same s4 hR, s4 _ _ hb, hin, h20, hp20, fun D H5 s5 hD => ?_⟩
          refine ⟨_, rfl, D, _, rfl, .inl (.of hD), rfl, flat_nats _, _, rfl, ?_⟩
          rw [if_pos rfl, in_nats]
          by_cases g1 : (1 : Int) ∈ (places.map fun k => pl row k j)
          · rw [decide_eq_true g1]
            refine iteF (iteF ⟨⟨_, _, rfl⟩, sm3.trans s5, fun j' hj' => ?_⟩)
            rw [List.take_add_one, ej] at hj'
            rcases List.mem_append.mp hj' with h | h
            · exact hno3 j' h
            · rw [List.mem_singleton.mp h]
              exact fun z => (good_iff.mp z).1 g1
          · rw [decide_eq_false g1]
            refine iteT ⟨_, rfl, _, rfl, D, _, rfl, .inl (.of hD), rfl, flat_nats _, _, rfl, ?_⟩
            rw [if_neg Bool.false_ne_true, in_nats]
            by_cases g2 : (-1 : Int) ∈ (places.map fun k => pl row k j)
            · rw [decide_eq_true g2]
              refine iteT ⟨_, rfl, _, rfl, (by decide : 2 ≤ sizeLine), fun t ht => ?_⟩
              exact kS j t _ hj (List.mem_of_getElem? ep) (good_iff.mpr ⟨g1, g2⟩) (s4.trans (s5.trans (same_new ht))) upd_same
            · rw [decide_eq_false g2]
              refine iteF ⟨⟨_, _, rfl⟩, sm3.trans s5, fun j' hj' => ?_⟩
              rw [List.take_add_one, ej] at hj'
              rcases List.mem_append.mp hj' with h | h
              · exact hno3 j' h
              · rw [List.mem_singleton.mp h]
                exact fun z => g2 (good_iff.mp z).2
      · rintro σ3 H4 ⟨⟨y2, y3, rfl⟩, sm3, hno3⟩
        rw [List.length_map, List.take_length] at hno3
        refine ⟨⟨_, _, _, rfl⟩, sm.trans (s3.trans sm3), fun j hj hm => ?_⟩
        rw [List.take_add_one, ep] at hm
        rcases List.mem_append.mp hm with h | h
        · exact hno j hj h
        · have e : wp j = p := List.mem_singleton.mp h
          exact hno3 j (by rw [← e]; exact mem_ways hj)
  · rintro σ2 H2 ⟨⟨y1, y2, y3, rfl⟩, sm, hno⟩
    rw [List.length_map, List.length_map, List.take_length] at hno
    exact kN hno _ sm
theorem step_for_ (D : DefT K mg "step_for" sStepFor []) (G1 : C8.Cal P w K mg base 1 "ways" spWays []) (G2 : C8.Cal P w K mg base 5 "sides_of" (spSidesOf K CM) []) : C8.Cal P w K mg base 6 "step_for" (spStepFor K CM) [] :=
  cal_of D scStepFor (fun _ _ _ _ _ _ us hl => match us, hl with | [_, _, _], _ => rfl) (fun vs H Q E h => by
    obtain ⟨_, _, _, _, _, _, rfl, _⟩ := h
    rfl) (b_step_for G1 G2)
end
end S
end

section
set_option maxRecDepth 100000
set_option maxHeartbeats 4000000
/-! Defs: rule_for. -/
namespace S
open PySem PySem.Spec PyProof.Rows L2 SM
theorem rg_nats (n : Nat) : rgV 0 (n : Int) = nats (List.range n) := by
  unfold rgV nats
  have e : ((n : Int) - 0).toNat = n := by omega
  rw [e]
  refine List.map_congr_left fun i _ => ?_
  rw [Int.zero_add]
theorem dpNats {K : PySem.W.Frag} {H : Hp} : ∀ l : List Nat, DpAll K H (nats l) (l.map fun k => PyData.int (k : Nat))
  | [] => .nil
  | k :: l => .cons (.int _) (dpNats l)
theorem nats_can : ∀ l : List Nat, PyData.canLayAll0 (l.map fun k => PyData.int (k : Nat)) = true ∧ PyData.depthAll (l.map fun k => PyData.int (k : Nat)) = 0
  | [] => ⟨rfl, rfl⟩
  | k :: l => by
    obtain ⟨a, b⟩ := nats_can l
    refine ⟨?_, ?_⟩
    · show (true && PyData.canLayAll0 _) = true
      rw [a] <;> rfl
    · show max 0 (PyData.depthAll _) = 0
      rw [b] <;> rfl
theorem nats_shaped (l : List Nat) : SeqAt.shaped (.list (l.map fun k => PyData.int (k : Nat))) = true := by
  obtain ⟨a, b⟩ := nats_can l
  unfold SeqAt.shaped
  have e1 : PyData.canLay0 (.list (l.map fun k => PyData.int (k : Nat))) = true := a
  have e2 : PyData.depth (.list (l.map fun k => PyData.int (k : Nat))) = 1 := by
    show PyData.depthAll _ + 1 = 1
    rw [b]
  rw [e1, e2] <;> rfl
theorem nats_nil (l : List Nat) : PyData.eqv (.list (l.map fun k => PyData.int (k : Nat))) (.list []) = decide (l = []) := by
  cases l with
  | nil => rfl
  | cons a r =>
    simp [PyData.eqv]
    rfl
theorem erase_at : ∀ {l : List Nat} {p : Nat}, p ∈ l → ∃ j, l[j]? = some p ∧ (∀ m, m < j → l[m]? ≠ some p) ∧ l.eraseIdx j = l.erase p
  | [], p, h => absurd h List.not_mem_nil
  | a :: r, p, h => by
    by_cases e : a = p
    · subst e
      exact ⟨0, rfl, fun m hm => absurd hm (Nat.not_lt_zero _), by simp⟩
    · obtain ⟨j, h1, h2, h3⟩ := erase_at ((List.mem_cons.mp h).resolve_left (Ne.symm e))
      refine ⟨j + 1, by rw [List.getElem?_cons_succ]; exact h1, fun m hm => ?_, ?_⟩
      · cases m with
        | zero => rw [List.getElem?_cons_zero]; exact fun z => e (Option.some.inj z)
        | succ m => rw [List.getElem?_cons_succ]; exact h2 m (by omega)
      · rw [List.eraseIdx_cons_succ, h3, List.erase_cons_tail (by simpa using e)]
section
variable {P : Program} {w : World} {K : PySem.W.Frag} {mg : Str → Option Value} {base : Heap} {CM CR PK : Addr}
def spRuleFor (K : PySem.W.Frag) (CM CR : Addr) : Sp := fun vs H Q _ => ∃ (a : Addr) (row : List Mk) (r : List Nat), vs = [.ref a] ∧ RowAt K CM H a row ∧ (∀ m ∈ row, OkM m) ∧ 2 ≤ row.length ∧ row.length ≤ 20 ∧ OkR r ∧ (∀ k, k + 1 < row.length → ord r (pl row k) = -1) ∧
  ∀ t r' steps H', Same H H' → H' t = some (.tup [.str (Str.ofString "rule"), .ref r']) → RuleAt K CR H' r' steps → (∀ k, k + 1 < row.length → ord steps (pl row k) = -1) → Q (.ref t) H'
abbrev sRuleFor : Stmt := top 83
theorem scRuleFor : FnScope ["marks", "places", "parts", "steps", "step", "at"] ["marks"] (defScope sRuleFor) := ⟨rfl, rfl, rfl, by decide +kernel, rfl, by decide +kernel, by decide +kernel⟩
theorem b_rule_for (T : Free mg) {pA : Addr} (c_PARTS : Con mg "PARTS" (.ref pA)) (FP : PartsF K pA) (G_need_row : C8.Cal P w K mg base 1 "need_row" spNeedRow []) (G_step_for : C8.Cal P w K mg base 6 "step_for" (spStepFor K CM) []) (G_sided : C8.Cal P w K mg base 4 "sided" (spSided K CM) []) (G_Rule : C8.Mak P w K mg base 3 "Rule" CR (spRule K CR) []) :
    Body P w K mg base 6 ["marks", "places", "parts", "steps", "step", "at"] "rule_for" sRuleFor (spRuleFor K CM CR) := by
  intro f cdv A outer s H vs Q E hr h
  obtain ⟨a, row, r, rfl, hR, okm, h2, h20, okr, hord, k⟩ := h
  have nd := scRuleFor.nd
  have hu := hr.units
  have sz := sizeLine_eq
  obtain ⟨us, ha, hus⟩ := id hR
  have hul : us.length = row.length := Paired.length hus
  refine ⟨_, (pss_cons (ps_expr (C8.pe_c G_need_row hr (by decide) rfl (pa_cons (pv 0) pa_nil)))
      (pss_cons (ps_set (i := 1) nd rfl (Or.inl rfl) (pe_listRg (by rfl) (by rfl) T.list (prg_1 (by rfl) T.range (pe_op op_sub (pe_callB call_len_seq (by rfl) T.len boot_len (pa_cons (pv 0) pa_nil)) pe_int))))
      (pss_cons (ps_set (i := 2) nd rfl (Or.inl rfl) (pe_callTy call_list_of (by rfl) T.list boot_list (pa_cons (C8.pe_gc rfl c_PARTS) pa_nil)))
      (pss_cons (ps_set (i := 3) nd rfl (Or.inl rfl) (pe_lst pa_nil))
      (pss_cons (ps_while PassesOwn.never (pt_cmpR (op_neD hu) (pv 1) (pe_lst pa_nil) (nomark _))
        (pss_cons (ps_set (i := 4) nd rfl (Or.inr rfl) (C8.pe_c G_step_for hr (by decide) rfl (pa_cons (pv 0) (pa_cons (pv 1) (pa_cons (pv 2) pa_nil)))))
        (pss_cons (ps_if (pt_cmpR op_isN (pv 4) pe_non (nomark _))
          (pss_one (ps_never))
          pss_nil)
        (pss_cons (ps_expr (pe_bm PySem.F.plainAttrs_list PySem.F.slot_list_append PySem.F.type_list_append mt_append (pv 3) (pa_cons (pv 4) pa_nil)))
        (pss_cons (ps_expr (pe_bm PySem.F.plainAttrs_list PySem.F.slot_list_remove PySem.F.type_list_remove mt_removeS (pv 2) (pa_cons (pe_ix ix_tup (pv 4) pe_int (fun _ _ => rfl)) pa_nil)))
        (pss_one (ps_setLc (i := 1) (own := [("at", 5)]) (g := gName 5) rfl nd rfl rfl (sw_true rfl rfl rfl (by decide +kernel)) (pi_list (pv 1)) (blkOk_by (own := [("at", 5)]) (N := ["marks", "places", "parts", "steps", "step", "at"]) (sc := defScope sRuleFor) (by decide +kernel)) (fun _ _ _ _ _ => (pg_name (i := 5) nd rfl (Or.inl rfl))) (fun _ _ _ _ _ => (pts_one (pt_cmpR op_eq (C8.pe_c G_sided hr (by decide) rfl (pa_cons (pe_ix (show IxR _ (rIxT K) from ix_tup) (pv 4) pe_int (fun _ _ => rfl)) (pa_cons (pe_ix (show IxR _ (rIxT K) from ix_tup) (pv 4) pe_int (fun _ _ => rfl)) (pa_cons (pe_ix (show IxR _ (rIxL K) from ix_list) (pv 0) (pv 5) (fun _ _ => rfl)) (pa_cons (pe_ix (show IxR _ (rIxL K) from ix_list) (pv 0) (pe_op op_add (pv 5) pe_int) (fun _ _ => rfl)) pa_nil))))) pe_int (nomark _)))) (fun _ _ _ _ _ => (pv 5)))))))))
      (pss_one (ps_ret (pe_tup (pa_cons pe_str (pa_cons (C8.pe_mk G_Rule hr (by decide) rfl (pa_cons (pv 3) pa_nil)) pa_nil)))))))))), ?_⟩
  refine ⟨_, rfl, a, us, rfl, ha, by omega, by omega, fun H1 s1 => ?_⟩
  refine ⟨_, rfl, a, us, rfl, .inl (.of (s1 _ _ ha)), _, _, rfl, rfl, ((row.length - 1 : Nat) : Int), congrArg V.int (show ((us.length : Nat) : Int) - 1 = ((row.length - 1 : Nat) : Int) by omega), RgOk.of_le (by decide) (by omega) (by decide) (by omega), fun bp hbp => ?_⟩
  rw [rg_nats]
  refine ⟨pA, _, rfl, .inr (FP.at_ _), fun lp hlp => ⟨Nat.zero_le _, fun ls hls => ?_⟩⟩
  have s2 := s1.trans ((same_new (u := HO.lst (nats (List.range (row.length - 1)))) hbp).trans ((same_new (u := HO.lst (PNs.map V.str)) hlp).trans (same_new (u := HO.lst []) hls)))
  have nbp : ∀ b o, H b = some o → b ≠ bp := fun b o e z => by rw [z] at e; rw [s1 _ _ e] at hbp; cases hbp
  have nlp : ∀ b o, H b = some o → b ≠ lp := fun b o e z => by
    rw [z] at e
    rw [same_new (u := HO.lst (nats (List.range (row.length - 1)))) hbp _ _ (s1 _ _ e)] at hlp
    cases hlp
  have nls : ∀ b o, H b = some o → b ≠ ls := fun b o e z => by
    rw [z] at e
    rw [same_new (u := HO.lst (PNs.map V.str)) hlp _ _ (same_new (u := HO.lst (nats (List.range (row.length - 1)))) hbp _ _ (s1 _ _ e))] at hls
    cases hls
  have bl : bp ≠ lp := fun z => by rw [z] at hlp; rw [upd_same] at hlp; cases hlp
  have lsl : lp ≠ ls := fun z => by rw [z] at hls; rw [upd_same] at hls; cases hls
  have bls : bp ≠ ls := fun z => by rw [z] at bl hls; rw [upd_ne bl, upd_same] at hls; cases hls
  let core : Hp → Hp := fun H => del ls (del lp H)
  have coreS : ∀ {H H'}, Same H H' → Same (core H) (core H') := fun s => del_same (del_same s)
  have coreB : ∀ H, Same (core H) H := fun H => (del_sub ls _).trans (del_sub lp H)
  have coreN : ∀ {H' : Hp} {b : Addr}, b ≠ lp → b ≠ ls → core H' b = H' b := fun {H' b} n1 n2 => by show del ls (del lp H') b = _; rw [del_ne n2, del_ne n1]
  have core2 : ∀ H u, core (upd H ls u) = core H := fun H u => by
    funext b
    show del ls (del lp (upd H ls u)) b = del ls (del lp H) b
    by_cases hb : b = ls
    · rw [hb, del_at, del_at]
    · rw [del_ne hb, del_ne hb]
      by_cases hb1 : b = lp
      · rw [hb1, del_at, del_at]
      · rw [del_ne hb1, del_ne hb1, upd_ne hb]
  have core1 : ∀ H u, core (upd H lp u) = core H := fun H u => by show del ls (del lp (upd H lp u)) = _; rw [del_upd]
  have c0 : ∀ H', Same H H' → Same H (core H') := fun H' sm b o e => by rw [coreN (nlp b o e) (nls b o e)]; exact sm b o e
  refine ⟨fun m σ' H' => ∃ bp' places parts steps vst x, σ' = [some (.ref a), some (.ref bp'), some (.ref lp), some (.ref ls), x, none] ∧ m = parts.length ∧ Gr row (row.length - 1) steps parts places ∧ Same H (core H') ∧ bp' ≠ lp ∧ bp' ≠ ls ∧ H' bp' = some (.lst (nats places)) ∧ H' lp = some (.lst ((parts.map PN).map V.str)) ∧ H' ls = some (.lst vst) ∧ StepsV K (core H') vst steps, ⟨6, ?_⟩, ?_⟩
  · refine ⟨bp, List.range (row.length - 1), [0, 1, 2, 3, 4, 5], [], [], none, rfl, rfl, Gr.start _ _, c0 _ s2, bl, bls, ?_, ?_, upd_same, .nil⟩
    · rw [upd_ne bls, upd_ne bl, upd_same]
    · rw [upd_ne lsl, upd_same]
      rfl
  · rintro m σ2 H2 ⟨bp', places, parts, steps, vst, x, rfl, rfl, G, sm, n1, n2, f1, f2, f3, f4⟩
    have smB := sm.trans (coreB H2)
    refine ⟨_, rfl, Nat.zero_le _, fun e0 he0 => ⟨.list (places.map fun k => PyData.int (k : Nat)), .list [], .lst (.of (same_new he0 _ _ f1)) (dpNats _), .lst (.of upd_same) .nil, nats_shaped _, nats_shaped [], _, rfl, ?_⟩⟩
    rw [nats_nil]
    have plen : places.length ≤ 20 := by
      rw [G.pls]
      exact Nat.le_trans (List.length_filter_le _ _) (by rw [List.length_range]; omega)
    by_cases hne : places = []
    · rw [decide_eq_true hne]
      refine iteF ?_
      subst hne
      have done := G.done
      have l1 : 1 ≤ steps.length := by
        cases steps with
        | nil => exact absurd (show (0 : Int) = -1 from done 0 (by omega)) (by decide)
        | cons a l => exact Nat.succ_le_succ (Nat.zero_le _)
      have sE := same_new (u := HO.lst []) he0
      refine ⟨_, rfl, fun x dx hx hdx ne => ?_⟩
      have kk : ∀ b o, upd H2 e0 (.lst []) b = some o → upd (upd (upd H2 e0 (.lst [])) dx (.own x)) x (.ins CR dx []) b = some o := fun b o e => by
        rw [upd_ne (ne_of_none e hx), upd_ne (ne_of_none e hdx)]
        exact e
      refine ⟨x, dx, ls, vst, steps, rfl, G.okR, l1, upd_same, kk _ _ (sE _ _ f3), steps_same (fun b o e => kk _ _ (sE _ _ (coreB H2 _ _ e))) f4, fun H3 kp hRule => ⟨rfl, (by decide : 2 ≤ sizeLine), fun t ht => ?_⟩⟩
      have s3 : Same (upd H2 e0 (.lst [])) H3 := Same.made hx hdx fun b o e ne => kp b o ne e
      exact k t x steps _ (smB.trans (sE.trans (s3.trans (same_new ht)))) upd_same (rule_same (same_new ht) hRule) (fun k hk => done k (by omega))
    · rw [decide_eq_false hne]
      refine iteT ⟨fun σ' H' => ∃ m', m' < parts.length ∧ ∃ bp' places parts steps vst x, σ' = [some (.ref a), some (.ref bp'), some (.ref lp), some (.ref ls), x, none] ∧ m' = parts.length ∧ Gr row (row.length - 1) steps parts places ∧ Same H (core H') ∧ bp' ≠ lp ∧ bp' ≠ ls ∧ H' bp' = some (.lst (nats places)) ∧ H' lp = some (.lst ((parts.map PN).map V.str)) ∧ H' ls = some (.lst vst) ∧ StepsV K (core H') vst steps, fun _ _ z => z, ?_⟩
      have sE := same_new (u := HO.lst []) he0
      have hin : ∀ k ∈ places, k + 1 < row.length := fun k hk => by
        have := (G.mem hk).1
        omega
      refine ⟨_, rfl, _, rfl, _, rfl, a, bp', lp, row, places, parts, rfl, row_same (smB.trans sE) hR, sE _ _ f1, sE _ _ f2, hin, h20, plen, fun p hp => ((G.pin p).mp hp).1, fun hno H3 s3 => ?_, fun j t H3 hj hjp hg s3 ht => ?_⟩
      · obtain ⟨j, hj, hm, hg⟩ := G.there okm okr (fun k hk => hord k (by omega)) hne
        exact absurd hg (hno j hj hm)
      have s23 := sE.trans s3
      have g1 := s23 _ _ f1
      have g2 := s23 _ _ f2
      have g3 := s23 _ _ f3
      have nt1 : t ≠ lp := fun z => by rw [z, g2] at ht; cases ht
      have nt2 : t ≠ ls := fun z => by rw [z, g3] at ht; cases ht
      have sm3 : Same H (core H3) := sm.trans (coreS s23)
      have f43 := steps_same (coreS s23) f4
      refine ⟨_, rfl, rfl, _, rfl, iteF ?_⟩
      -- append
      have sl6 := G.six
      have vl : vst.length = steps.length := Paired.length f4
      refine ⟨_, rfl, .inl ⟨rfl, _, SqL.of g3⟩, _, rfl, ls, _, _, rfl, rfl, g3, by omega, ?_⟩
      have a2 : upd H3 ls (.lst (vst ++ [V.ref t])) lp = some (.lst ((parts.map PN).map V.str)) := by rw [upd_ne lsl]; exact g2
      have at_ : upd H3 ls (.lst (vst ++ [V.ref t])) t = some (.tup [.str (PN (wp j)), .str (WW j)]) := by rw [upd_ne nt2]; exact ht
      -- remove
      obtain ⟨jx, x1, x2, x3⟩ := erase_at hjp
      have inj : ∀ m : Nat, (parts.map PN)[m]? = some (PN (wp j)) → parts[m]? = some (wp j) := fun m e => by
        rw [List.getElem?_map] at e
        cases em : parts[m]? with
        | none => rw [em] at e; cases e
        | some p =>
          rw [em] at e
          have hp6 := ((G.pin p).mp (List.mem_of_getElem? em)).1
          rw [pn_inj hp6 (wp_lt j hj) (Option.some.inj e)]
      refine ⟨_, rfl, .inl ⟨rfl, _, SqL.of a2⟩, _, rfl, t, _, 0, _, rfl, rfl, .of at_, atI_nat (j := 0) rfl, lp, parts.map PN, PN (wp j), jx, rfl, rfl, a2, by rw [List.getElem?_map, x1] <;> rfl, fun m hm e => x2 m hm (inj m e), ?_⟩
      have ee : (parts.map PN).eraseIdx jx = (parts.erase (wp j)).map PN := by
        rw [← x3]
        have : ∀ (l : List Nat) (j : Nat), (l.map PN).eraseIdx j = (l.eraseIdx j).map PN := by
          intro l
          induction l with
          | nil => intro j; simp
          | cons a r ih =>
            intro j
            cases j with
            | zero => simp
            | succ j => simp [ih j]
        exact this parts jx
      rw [ee]
      have hcoreX : core (upd (upd H3 ls (.lst (vst ++ [V.ref t]))) lp (.lst (((parts.erase (wp j)).map PN).map V.str))) = core H3 := by rw [core1, core2]
      have b1 : upd (upd H3 ls (.lst (vst ++ [V.ref t]))) lp (.lst (((parts.erase (wp j)).map PN).map V.str)) bp' = some (.lst (nats places)) := by rw [upd_ne n1, upd_ne n2]; exact g1
      have b3 : upd (upd H3 ls (.lst (vst ++ [V.ref t]))) lp (.lst (((parts.erase (wp j)).map PN).map V.str)) ls = some (.lst (vst ++ [V.ref t])) := by rw [upd_ne (Ne.symm lsl), upd_same]
      have b2 : upd (upd H3 ls (.lst (vst ++ [V.ref t]))) lp (.lst (((parts.erase (wp j)).map PN).map V.str)) lp = some (.lst (((parts.erase (wp j)).map PN).map V.str)) := upd_same
      have bt : upd (upd H3 ls (.lst (vst ++ [V.ref t]))) lp (.lst (((parts.erase (wp j)).map PN).map V.str)) t = some (.tup [.str (PN (wp j)), .str (WW j)]) := by rw [upd_ne nt1]; exact at_
      generalize hH6 : upd (upd H3 ls (.lst (vst ++ [V.ref t]))) lp (.lst (((parts.erase (wp j)).map PN).map V.str)) = H6 at *
      have sm6 : Same H (core H6) := by rw [hcoreX]; exact sm3
      have ct : core H6 t = some (.tup [.str (PN (wp j)), .str (WW j)]) := by rw [coreN nt1 nt2]; exact bt
      have f46 : StepsV K (core H6) (vst ++ [V.ref t]) (steps ++ [j]) := by
        refine Paired.snoc ?_ ⟨t, rfl, .of ct⟩
        rw [hcoreX]
        exact f43
      refine ⟨_, rfl, bp', rfl, ⟨_, .of b1⟩, fun D hD => lc_it (walk_list (xs := nats places)) (fun i H' => H' D = some (.lst (nats ((places.take i).filter fun k => decide (pl row k j = 0)))) ∧ Same H6 (del D H')) ⟨upd_same, del_in hD (same_new hD)⟩ (fun i H' _ e => .of (del_sub D H' _ _ (e.2 _ _ b1))) ?_ ?_⟩
      · rintro i x H7 H8 hi ⟨h1, h2'⟩ ⟨rfl, hx⟩
        unfold nats at hx
        rw [List.getElem?_map] at hx
        cases ek : places[i]? with
        | none => rw [ek] at hx; cases hx
        | some kk =>
          rw [ek] at hx
          obtain rfl : V.int (kk : Nat) = x := Option.some.inj hx
          have hk1 := hin kk (List.mem_of_getElem? ek)
          have s68 := h2'.trans (del_sub D H8)
          have hR2 := row_same ((sm6.trans (coreB H6)).trans s68) hR
          obtain ⟨us', r1, u1, u2, u3⟩ := row_get hR2 (k := kk) (by omega)
          obtain ⟨us'', r2, u1', u2', u3'⟩ := row_get hR2 (k := kk + 1) hk1
          rw [u1] at u1'
          injection u1' with u1'
          injection u1' with u1'
          subst u1'
          refine ⟨rfl, ?_⟩
          refine ⟨_, rfl, t, _, 0, _, rfl, rfl, .of (s68 _ _ bt), atI_nat (j := 0) rfl, _, rfl, t, _, 1, _, rfl, rfl, .of (s68 _ _ bt), atI_nat (j := 1) rfl, _, rfl, _, rfl, a, us', (kk : Nat), _, rfl, rfl, .of u1, atI_nat u2, _, rfl, _, rfl, _, _, rfl, rfl, a, us', ((kk + 1 : Nat) : Int), _, rfl, by rw [Int.natCast_add] <;> rfl, .of u1, atI_nat u2', ?_⟩
          refine ⟨j, r1, r2, _, _, hj, rfl, u3, u3', fun H9 s9 => ⟨rfl, _, rfl, ?_⟩⟩
          rw [← pl_get hk1]
          have et : places.take (i + 1) = places.take i ++ [kk] := by rw [List.take_add_one, ek] <;> rfl
          by_cases z : pl row kk j = 0
          · rw [decide_eq_true (show V.int (pl row kk j) = V.int 0 by rw [z])]
            refine iteT ⟨_, rfl, _, s9 _ _ h1, ?_, ?_, ?_⟩
            · unfold nats
              rw [List.length_map]
              have q1 := List.length_filter_le (fun k => decide (pl row k j = 0)) (places.take i)
              rw [List.length_take] at q1
              omega
            · rw [upd_same, et, List.filter_append, List.filter_cons, if_pos (by exact decide_eq_true z)]
              unfold nats
              rw [List.map_append] <;> rfl
            · rw [del_upd]
              exact h2'.trans (del_same s9)
          · rw [decide_eq_false (show ¬ V.int (pl row kk j) = V.int 0 from fun q => z (by injection q))]
            refine iteF ⟨?_, h2'.trans (del_same s9)⟩
            rw [et, List.filter_append, List.filter_cons, if_neg (by rw [decide_eq_false z]; exact Bool.false_ne_true), List.filter_nil, List.append_nil]
            exact s9 _ _ h1
      · rintro H7 ⟨h1, h2'⟩
        have e : places.take (nats places).length = places := by
          unfold nats
          rw [List.length_map, List.take_length]
        rw [e] at h1
        have s67 := h2'.trans (del_sub D H7)
        refine ⟨(parts.erase (wp j)).length, ?_, D, _, _, _, _, _, rfl, rfl, G.turn hj hjp hg, sm6.trans (coreS s67), fun z => ?_, fun z => ?_, h1, s67 _ _ b2, s67 _ _ b3, steps_same (coreS s67) f46⟩
        · rw [List.length_erase_of_mem hjp]
          have : 0 < parts.length := List.length_pos_of_mem hjp
          omega
        · rw [z, b2] at hD; cases hD
        · rw [z, b3] at hD; cases hD
theorem rule_for_ (D : DefT K mg "rule_for" sRuleFor []) (T : Free mg) {pA : Addr} (c : Con mg "PARTS" (.ref pA)) (FP : PartsF K pA) (G1 : C8.Cal P w K mg base 1 "need_row" spNeedRow []) (G2 : C8.Cal P w K mg base 6 "step_for" (spStepFor K CM) []) (G3 : C8.Cal P w K mg base 4 "sided" (spSided K CM) []) (G4 : C8.Mak P w K mg base 3 "Rule" CR (spRule K CR) []) :
    C8.Cal P w K mg base 7 "rule_for" (spRuleFor K CM CR) [] :=
  cal_of D scRuleFor (fun _ _ _ _ _ _ us hl => match us, hl with | [_], _ => rfl) (fun vs H Q E h => by
    obtain ⟨_, _, _, rfl, _⟩ := h
    rfl) (b_rule_for T c FP G1 G2 G3 G4)
end
end S
end

section
set_option maxRecDepth 100000
set_option maxHeartbeats 4000000
/-! Defs: shows_none. -/
namespace S
open PySem PySem.Spec PyProof.Rows L2 SM
section
variable {P : Program} {w : World} {K : PySem.W.Frag} {mg : Str → Option Value} {base : Heap} {CM CR PK : Addr}
def spShowsNone (K : PySem.W.Frag) (CM : Addr) : Sp := fun vs H Q _ => ∃ (a b : Addr) (row : List Mk) (places : List Nat) (r : List Nat), vs = [.ref a, .ref b] ∧ RowAt K CM H a row ∧ 2 ≤ row.length ∧ row.length ≤ 20 ∧ H b = some (.lst (nats places)) ∧ (∀ k ∈ places, k + 1 < row.length) ∧ places.length ≤ 20 ∧ OkR r ∧ (∀ k, k + 1 < row.length → ord r (pl row k) = -1) ∧
  ∀ H', Same H H' → Q (.bl false) H'
abbrev sShowsNone : Stmt := top 84
theorem scShowsNone : FnScope ["marks", "thing", "part", "way", "sides", "at"] ["marks", "thing"] (defScope sShowsNone) := ⟨rfl, rfl, rfl, by decide +kernel, rfl, by decide +kernel, by decide +kernel⟩
theorem b_shows_none (T : Free mg) {pA : Addr} (c_PARTS : Con mg "PARTS" (.ref pA)) (FP : PartsF K pA) (G_need_row : C8.Cal P w K mg base 1 "need_row" spNeedRow []) (G_is_whole : C8.Cal P w K mg base 1 "is_whole" spIsWhole []) (G_ways : C8.Cal P w K mg base 1 "ways" spWays []) (G_sides_of : C8.Cal P w K mg base 5 "sides_of" (spSidesOf K CM) []) :
    Body P w K mg base 5 ["marks", "thing", "part", "way", "sides", "at"] "shows_none" sShowsNone (spShowsNone K CM) := by
  intro f cdv A outer s H vs Q E hr h
  obtain ⟨a, b, row, places, r, rfl, hR, h2, h20, hb, hin, hp20, okr, hord, k⟩ := h
  have nd := scShowsNone.nd
  have sz := sizeLine_eq
  obtain ⟨us, ha, hus⟩ := id hR
  have hul : us.length = row.length := Paired.length hus
  refine ⟨_, (pss_cons (ps_expr (C8.pe_c G_need_row hr (by decide) rfl (pa_cons (pv 0) pa_nil)))
      (pss_cons (ps_if (PW.pt (pw_or (pt_not (pt_val (pe_callB call_isiT (by rfl) T.isinstance boot_isinstance (pa_cons (pv 1) (pa_cons (pe_tup (pa_cons (pe_bltn (v := .ty "list") (by rfl) T.list boot_list rfl) (pa_cons (pe_bltn (v := .ty "tuple") (by rfl) T.tuple boot_tuple rfl) pa_nil))) pa_nil))))) (pw_or1 (pt_cmpR op_eq (pe_callB call_len_seq (by rfl) T.len boot_len (pa_cons (pv 1) pa_nil)) pe_int (nomark _)))))
        (pss_one (ps_ret pe_bl))
        pss_nil)
      (pss_cons (ps_if (pt_not (pt_val (pe_callB (cr_all rfl) (by rfl) T.all boot_all (pa_cons (pe_lc (own := [("at", 5)]) (g := gName 5) (tt := tYes) (by rfl) nd (pi_list (pv 1)) (blkOk_by (own := [("at", 5)]) (N := ["marks", "thing", "part", "way", "sides", "at"]) (sc := defScope sShowsNone) (by decide +kernel)) (fun _ _ _ _ _ => (pg_name (i := 5) nd rfl (Or.inl rfl))) (fun _ _ _ _ _ => pts_nil) (fun _ _ _ _ _ => (C8.pe_c G_is_whole hr (by decide) rfl (pa_cons (pv 5) (pa_cons pe_int (pa_cons (pe_op op_sub (pe_callB (show CallR _ (.builtin "len") (fun xs H Q => ∃ p ys, xs = [.ref p] ∧ (SqL K H p ys ∨ SqT K H p ys) ∧ Q (.int ys.length) H) from call_len_seq) (by rfl) T.len boot_len (pa_cons (pv 0) pa_nil)) pe_int) pa_nil)))))) pa_nil))))
        (pss_one (ps_never))
        pss_nil)
      (pss_cons (ps_for PassesOwn.never rfl (pi_tup (C8.pe_gc rfl c_PARTS)) (pg_name (i := 2) nd rfl (Or.inl rfl))
        (pss_one (ps_for PassesOwn.never rfl (pi_list (C8.pe_c G_ways hr (by decide) rfl (pa_cons (pv 2) pa_nil))) (pg_name (i := 3) nd rfl (Or.inl rfl))
          (pss_cons (ps_set (i := 4) nd rfl (Or.inl rfl) (C8.pe_c G_sides_of hr (by decide) rfl (pa_cons (pv 0) (pa_cons (pv 1) (pa_cons (pv 2) (pa_cons (pv 3) pa_nil))))))
          (pss_one (ps_if (PW.pt (pw_and (pt_cmpR op_notIn_seq pe_int (pv 4) rfl) (pw_and1 (pt_cmpR op_in_seq (pe_un un_neg pe_int) (pv 4) rfl))))
            (pss_one (ps_ret pe_bl))
            pss_nil))))))
      (pss_one ps_never))))), ?_⟩
  refine ⟨_, rfl, a, us, rfl, ha, by omega, by omega, fun H1 s1 => ?_⟩
  refine ⟨_, rfl, (by decide : 2 ≤ sizeLine), fun p hp => ?_⟩
  have s2 := s1.trans (same_new (u := HO.tup [V.ty "list", V.ty "tuple"]) hp)
  refine ⟨_, _, _, _, [.type "list", .type "tuple"], true, rfl, upd_same, .cons (.ty _) (.cons (.ty _) .nil), .base (.lst (s2 _ _ hb)), kitAny_cons (b := true) (kit_ty (by decide +kernel)) (fun z => by cases z) (fun _ => rfl), _, rfl, iteF ?_⟩
  refine ⟨_, rfl, b, _, rfl, .inl (.of (s2 _ _ hb)), rfl, _, rfl, ?_⟩
  have nl : (nats places).length = places.length := by unfold nats; rw [List.length_map]
  rw [nl]
  by_cases hne : places = []
  · rw [decide_eq_true (show V.int ((places.length : Nat) : Int) = V.int 0 by rw [hne]; rfl)]
    exact iteT (k _ s2)
  · have lpos : 0 < places.length := List.length_pos_iff.mpr hne
    rw [decide_eq_false (show ¬ V.int ((places.length : Nat) : Int) = V.int 0 from fun q => by injection q with q; omega)]
    refine iteF ?_
    refine ⟨_, rfl, b, rfl, ⟨_, .of (s2 _ _ hb)⟩, fun D hD => lc_it (walk_list (xs := nats places)) (fun j H' => H' = upd (upd H1 p (.tup [V.ty "list", V.ty "tuple"])) D (.lst ((List.replicate j true).map V.bl))) rfl (fun j H' _ e => by rw [e]; exact .of (same_new hD _ _ (s2 _ _ hb))) ?_ ?_⟩
    · rintro j x H3 H4 hj rfl ⟨rfl, hx⟩
      unfold nats at hx
      rw [List.getElem?_map] at hx
      cases ek : places[j]? with
      | none => rw [ek] at hx; cases hx
      | some kk =>
        rw [ek] at hx
        obtain rfl : V.int (kk : Nat) = x := Option.some.inj hx
        have hk1 := hin kk (List.mem_of_getElem? ek)
        refine ⟨rfl, ?_⟩
        dsimp only [tYes]
        refine iteT ?_
        refine ⟨_, rfl, _, rfl, a, us, rfl, .inl (.of (same_new hD _ _ (s2 _ _ ha))), _, _, rfl, rfl, (kk : Nat), 0, some ((us.length : Nat) - 2), rfl, ?_⟩
        have e : wholeB (kk : Nat) 0 (some ((us.length : Nat) - 2)) = true := by
          unfold wholeB
          rw [decide_eq_true (show (0 : Int) ≤ (kk : Nat) by omega), Bool.true_and]
          exact decide_eq_true (show ((kk : Nat) : Int) ≤ (us.length : Nat) - 2 by omega)
        rw [e]
        refine ⟨_, upd_same, ?_, ?_⟩
        · rw [List.length_map, List.length_replicate]
          omega
        · rw [upd_upd, List.replicate_succ', List.map_append] <;> rfl
    · rintro _ rfl
      refine ⟨D, _, rfl, SqL.of upd_same, _, rfl, ?_⟩
      rw [all_true]
      refine iteF ?_
      have s3 := s2.trans (same_new (u := HO.lst ((List.replicate (nats places).length true).map V.bl)) hD)
      generalize upd (upd H1 p (.tup [V.ty "list", V.ty "tuple"])) D (.lst ((List.replicate (nats places).length true).map V.bl)) = H3 at *
      refine ⟨pA, rfl, ⟨_, FP.at_ _⟩, for_it (walk_tup (xs := PNs.map V.str)) (fun i σ' H' => (∃ x y z, σ' = [some (.ref a), some (.ref b), x, y, z, none]) ∧ Same H H' ∧ ∀ j, j < 17 → wp j < i → ¬ SM.Good (pl row) places j) ⟨⟨_, _, _, rfl⟩, s3, fun j _ h => absurd h (Nat.not_lt_zero _)⟩ (fun _ _ _ _ _ => FP.at_ _) ?_ ?_⟩
      · rintro i x σ2 H4 H5 hi ⟨⟨y1, y2, y3, rfl⟩, sm, hno⟩ ⟨rfl, hx⟩
        obtain ⟨n, hn, rfl⟩ := at_map hx
        have hi6 : i < 6 := hi
        obtain rfl : PN i = n := by
          rw [pn_at i hi6] at hn
          exact Option.some.inj hn
        refine ⟨_, rfl, i, hi6, rfl, fun aw H6 s6 haw => ⟨aw, rfl, ⟨_, .of haw⟩, for_list (xs := (waysOf i).map fun j => V.str (WW j)) (fun i' σ' H' => (∃ y z, σ' = [some (.ref a), some (.ref b), some (.str (PN i)), y, z, none]) ∧ Same H6 H' ∧ ∀ j, j ∈ (waysOf i).take i' → ¬ SM.Good (pl row) places j) ⟨⟨_, _, rfl⟩, Same.refl _, fun j h => absurd h (by rw [List.take_zero]; exact List.not_mem_nil)⟩ (fun i' σ' H' _ e => .of (e.2.1 _ _ haw)) ?_ ?_⟩⟩
        · rintro i' x' σ3 H7 hx' ⟨⟨y2, y3, rfl⟩, sm3, hno3⟩
          rw [List.getElem?_map] at hx'
          cases ej : (waysOf i)[i']? with
          | none => rw [ej] at hx'; cases hx'
          | some j =>
            rw [ej] at hx'
            obtain rfl : V.str (WW j) = x' := Option.some.inj hx'
            obtain ⟨hj, hwj⟩ := ways_mem (List.mem_of_getElem? ej)
            have s4 := sm.trans (s6.trans sm3)
            refine ⟨_, rfl, _, rfl, _, rfl, _, rfl, a, b, row, places, j, by rw [hwj] <;> rfl, hj, row_same s4 hR, s4 _ _ hb, hin, h20, hp20, fun D' H8 s8 hD' => ?_⟩
            refine ⟨_, rfl, D', _, rfl, .inl (.of hD'), rfl, flat_nats _, _, rfl, ?_⟩
            rw [if_pos rfl, in_nats]
            by_cases g1 : (1 : Int) ∈ (places.map fun k => pl row k j)
            · rw [decide_eq_true g1]
              refine iteF (iteF ⟨⟨_, _, rfl⟩, sm3.trans s8, fun j' hj' => ?_⟩)
              rw [List.take_add_one, ej] at hj'
              rcases List.mem_append.mp hj' with h | h
              · exact hno3 j' h
              · rw [List.mem_singleton.mp h]
                exact fun z => (good_iff.mp z).1 g1
            · rw [decide_eq_false g1]
              refine iteT ⟨_, rfl, _, rfl, D', _, rfl, .inl (.of hD'), rfl, flat_nats _, _, rfl, ?_⟩
              rw [if_neg Bool.false_ne_true, in_nats]
              by_cases g2 : (-1 : Int) ∈ (places.map fun k => pl row k j)
              · rw [decide_eq_true g2]
                exact iteT (k _ (s4.trans s8))
              · rw [decide_eq_false g2]
                refine iteF ⟨⟨_, _, rfl⟩, sm3.trans s8, fun j' hj' => ?_⟩
                rw [List.take_add_one, ej] at hj'
                rcases List.mem_append.mp hj' with h | h
                · exact hno3 j' h
                · rw [List.mem_singleton.mp h]
                  exact fun z => g2 (good_iff.mp z).2
        · rintro σ3 H7 ⟨⟨y2, y3, rfl⟩, sm3, hno3⟩
          rw [List.length_map, List.take_length] at hno3
          refine ⟨⟨_, _, _, rfl⟩, sm.trans (s6.trans sm3), fun j hj hm => ?_⟩
          by_cases e : wp j = i
          · exact hno3 j (by rw [← e]; exact mem_ways hj)
          · exact hno j hj (by omega)
      · rintro σ2 H4 ⟨⟨y1, y2, y3, rfl⟩, sm, hno⟩
        obtain ⟨j, hj, g⟩ := good_there (f := pl row) hne (pl_vals row) (r := r) fun k hk => hord k (hin k hk)
        exact (hno j (okr.ways j hj) (wp_lt j (okr.ways j hj)) g).elim
theorem shows_none_ (D : DefT K mg "shows_none" sShowsNone []) (T : Free mg) {pA : Addr} (c : Con mg "PARTS" (.ref pA)) (FP : PartsF K pA) (G1 : C8.Cal P w K mg base 1 "need_row" spNeedRow []) (G2 : C8.Cal P w K mg base 1 "is_whole" spIsWhole []) (G3 : C8.Cal P w K mg base 1 "ways" spWays []) (G4 : C8.Cal P w K mg base 5 "sides_of" (spSidesOf K CM) []) :
    C8.Cal P w K mg base 6 "shows_none" (spShowsNone K CM) [] :=
  cal_of D scShowsNone (fun _ _ _ _ _ _ us hl => match us, hl with | [_, _], _ => rfl) (fun vs H Q E h => by
    obtain ⟨_, _, _, _, _, rfl, _⟩ := h
    rfl) (b_shows_none T c FP G1 G2 G3 G4)
end
end S
end

section
set_option maxRecDepth 100000
set_option maxHeartbeats 4000000
/-! Defs: fewest_in (the call); the law's cells, its box, its draws. -/
namespace S
open PySem PySem.Spec PyProof.Rows L2 SM
section
variable {P : Program} {w : World} {K : PySem.W.Frag} {mg : Str → Option Value} {base : Heap} {CM CR PK : Addr}
theorem fewest_in_ (D : DefT K mg "fewest_in" sFewest []) (G : C8.Cal P w K mg base 3 "decided" (spDecided K CR) []) : C8.Cal P w K mg base 4 "fewest_in" (spFewest K CR) [] :=
  cal_of D scFewest (fun _ _ _ _ _ _ us hl => match us, hl with | [_, _, _, _, _], _ => rfl) (fun vs H Q E h => by
    obtain ⟨_, _, _, _, _, _, _, _, _, _, _, _, _, _, rfl, _⟩ := h
    rfl) (b_fewest G)

/-! ### the box -/
def BoxAt (H : Hp) (b : Addr) : Prop := ∃ x y z : Int, H b = some (.lst [.int x, .int y, .int z]) ∧ 0 ≤ y ∧ y < 2147483629
structure BS (b : Addr) (H H' : Hp) : Prop where
  same : Same (del b H) (del b H')
  box : BoxAt H' b
theorem BS.trans {b : Addr} {H1 H2 H3 : Hp} (h1 : BS b H1 H2) (h2 : BS b H2 H3) : BS b H1 H3 := ⟨h1.same.trans h2.same, h2.box⟩
theorem BS.refl {b : Addr} {H : Hp} (h : BoxAt H b) : BS b H H := ⟨Same.refl _, h⟩
theorem box_same {b : Addr} {H H' : Hp} (s : Same H H') (h : BoxAt H b) : BoxAt H' b := by
  obtain ⟨x, y, z, e, h⟩ := h
  exact ⟨x, y, z, s _ _ e, h⟩
theorem BS.of {b : Addr} {H H' : Hp} (h : BoxAt H b) (s : Same H H') : BS b H H' := ⟨del_same s, box_same s h⟩
theorem box_some {b : Addr} {H : Hp} (h : BoxAt H b) : ∀ {p : Addr}, H p = none → p ≠ b := fun {p} e q => by
  obtain ⟨x, y, z, e2, _⟩ := h
  rw [q, e2] at e
  cases e
theorem BS.new {b : Addr} {H H' : Hp} (h : BS b H H') {p : Addr} (hp : H' p = none) (u : HO) : BS b H (upd H' p u) := h.trans (.of h.box (same_new hp))
theorem BS.get {b : Addr} {H H' : Hp} (h : BS b H H') {p : Addr} {o : HO} (ne : p ≠ b) (e : H p = some o) : H' p = some o := by
  have := h.same p o (by rw [del_ne ne]; exact e)
  rwa [del_ne ne] at this
theorem BS.fresh {b : Addr} {H H' : Hp} (h : BS b H H') (hb : BoxAt H b) {p : Addr} (e : H' p = none) : H p = none := by
  by_cases q : p = b
  · exact absurd q (box_some h.box e)
  · cases z : H p with
    | none => rfl
    | some o => rw [h.get q z] at e; cases e
/-- what stands beside the box stands -/
theorem BS.sub {b : Addr} {H H' : Hp} (h : BS b H H') : Same (del b H) H' := h.same.trans (del_sub b H')
theorem BS.in {b : Addr} {H H' : Hp} (h : BS b H H') (e : H b = none) : Same H (del b H') := fun p o q => h.same p o (by rw [del_ne (ne_of_none q e)]; exact q)

def spCell (K : PySem.W.Frag) : Sp := fun vs H Q _ => ∃ (a : Addr) (is : List Int) (k : Nat), vs = [.ref a, .int k] ∧ SqL K H a (is.map V.int) ∧ is.length ≤ sizeLine ∧ ∀ n : Int, Q (.int n) H
abbrev sCell : Stmt := top 86
theorem scCell : FnScope ["_law_script", "_law_k"] ["_law_script", "_law_k"] (defScope sCell) := ⟨rfl, rfl, rfl, by decide +kernel, rfl, by decide +kernel, by decide +kernel⟩
theorem b_cell (T : Free mg) : Body P w K mg base 0 ["_law_script", "_law_k"] "_law_cell" sCell (spCell K) := by
  intro f cdv A outer s H vs Q E hr h
  obtain ⟨a, is, k, rfl, ha, hl, q⟩ := h
  refine ⟨_, (pss_cons (ps_if (pt_cmpR op_lt (pv 1) (pe_callB call_len_seq (by rfl) T.len boot_len (pa_cons (pv 0) pa_nil)) (nomark _))
        (pss_one (ps_ret (pe_ix ix_list (pv 0) (pv 1) (fun _ _ => rfl))))
        pss_nil)
      (pss_one (ps_ret (pe_op op_add (pe_op op_mul pe_int (pv 1)) pe_int)))), ?_⟩
  refine ⟨_, rfl, _, rfl, a, _, rfl, .inl ha, _, _, rfl, rfl, _, rfl, ?_⟩
  by_cases z : k < is.length
  · rw [decide_eq_true (show ((k : Nat) : Int) < ((is.map V.int).length : Nat) by rw [List.length_map]; omega)]
    exact iteT ⟨_, rfl, _, rfl, a, _, k, .int is[k], rfl, rfl, ha, atI_nat (by rw [List.getElem?_map, List.getElem?_eq_getElem z] <;> rfl), q _⟩
  · rw [decide_eq_false (show ¬ ((k : Nat) : Int) < ((is.map V.int).length : Nat) by rw [List.length_map]; omega)]
    exact iteF ⟨_, rfl, _, _, rfl, rfl, .inl ⟨by decide, by decide⟩, _, _, rfl, rfl, q _⟩
theorem cell_ (D : DefT K mg "_law_cell" sCell []) (T : Free mg) : C8.Cal P w K mg base 1 "_law_cell" (spCell K) [] :=
  cal_of D scCell (fun _ _ _ _ _ _ us hl => match us, hl with | [_, _], _ => rfl) (fun vs H Q E h => by
    obtain ⟨_, _, _, rfl, _⟩ := h
    rfl) (b_cell T)

def spBox : Sp := fun vs H Q _ => ∃ n : Int, vs = [.int n] ∧ ∀ (b : Addr) (u : HO), H b = none → BoxAt (upd H b u) b → Q (.ref b) (upd H b u)
abbrev sBox : Stmt := top 87
theorem scBox : FnScope ["_law_cell_here"] ["_law_cell_here"] (defScope sBox) := ⟨rfl, rfl, rfl, by decide +kernel, rfl, by decide +kernel, by decide +kernel⟩
theorem b_box (T : Free mg) : Body P w K mg base 0 ["_law_cell_here"] "_law_box" sBox spBox := by
  intro f cdv A outer s H vs Q E hr h
  obtain ⟨n, rfl, q⟩ := h
  refine ⟨_, (pss_one (ps_ret (pe_lst (pa_cons (pe_callB (call_max2 rfl) (by rfl) T.max boot_max (pa_cons pe_int (pa_cons (pe_op op_sub (pv 0) (pe_op op_pow pe_int pe_int)) pa_nil))) (pa_cons (pe_op op_mod (pv 0) pe_int) (pa_cons pe_int pa_nil)))))), ?_⟩
  refine ⟨_, rfl, _, _, rfl, rfl, ⟨by decide, by decide, by decide⟩, _, _, rfl, rfl, _, _, rfl, _, rfl, _, _, rfl, rfl, (by decide : (0:Int) < 2147483629), (by decide : 3 ≤ sizeLine), fun p hp => q p _ hp ⟨_, _, _, upd_same, Int.emod_nonneg _ (by decide), Int.emod_lt_of_pos _ (by decide)⟩⟩
theorem box_ (D : DefT K mg "_law_box" sBox []) (T : Free mg) : C8.Cal P w K mg base 1 "_law_box" spBox [] :=
  cal_of D scBox (fun _ _ _ _ _ _ us hl => match us, hl with | [_], _ => rfl) (fun vs H Q E h => by
    obtain ⟨_, rfl, _⟩ := h
    rfl) (b_box T)

def spTake : Sp := fun vs H Q _ => ∃ (b : Addr) (n : Int), vs = [.ref b, .int n] ∧ 0 < n ∧ n < 1073741824 ∧ BoxAt H b ∧ ∀ (k : Nat) H', (k : Int) < n → BS b H H' → Q (.int k) H'
abbrev sTake : Stmt := top 88
theorem scTake : FnScope ["_law_box_here", "_law_many", "_law_digit", "_law_mixed"] ["_law_box_here", "_law_many"] (defScope sTake) := ⟨rfl, rfl, rfl, by decide +kernel, rfl, by decide +kernel, by decide +kernel⟩
theorem mod_nat {i n : Int} (h : 0 < n) : ∃ k : Nat, i % n = k ∧ (k : Int) < n := by
  have h0 := Int.emod_nonneg i (by omega : n ≠ 0)
  have h1 := Int.emod_lt_of_pos i h
  obtain ⟨k, e⟩ := Int.eq_ofNat_of_zero_le h0
  exact ⟨k, e, by rw [e] at h1; exact h1⟩
theorem b_take (T : Free mg) : Body P w K mg base 0 ["_law_box_here", "_law_many", "_law_digit", "_law_mixed"] "_law_take" sTake spTake := by
  intro f cdv A outer s H vs Q E hr h
  obtain ⟨b, n, rfl, n0, n1, ⟨x, y, z, hb, y0, y1⟩, q⟩ := h
  have nd := scTake.nd
  refine ⟨_, (pss_cons (ps_if (pt_cmpR op_gt (pe_ix ix_list (pv 0) pe_int (fun _ _ => rfl)) pe_int (nomark _))
        (pss_cons (ps_set (i := 2) nd rfl (Or.inl rfl) (pe_op op_mod (pe_ix ix_list (pv 0) pe_int (fun _ _ => rfl)) (pv 1)))
        (pss_cons (ps_asg (pe_op op_fdiv (pe_ix ix_list (pv 0) pe_int (fun _ _ => rfl)) (pv 1)) (pg_sub (pv 0) pe_int set_list))
        (pss_one (ps_ret (pv 2)))))
        pss_nil)
      (pss_cons (ps_asg (pe_op op_add (pe_ix ix_list (pv 0) pe_int (fun _ _ => rfl)) pe_int) (pg_sub (pv 0) pe_int set_list))
      (pss_cons (ps_set (i := 3) nd rfl (Or.inl rfl) (pe_op op_mod (pe_op op_add (pe_op op_add (pe_op op_mul (pe_ix ix_list (pv 0) pe_int (fun _ _ => rfl)) (pe_op op_add (pe_ix ix_list (pv 0) pe_int (fun _ _ => rfl)) pe_int)) (pe_op op_mul pe_int (pe_ix ix_list (pv 0) pe_int (fun _ _ => rfl)))) pe_int) pe_int))
      (pss_cons (ps_set (i := 3) nd rfl (Or.inl rfl) (pe_op op_mod (pe_op op_add (pe_op op_pow (pv 3) pe_int) (pe_op op_mul pe_int (pe_ix ix_list (pv 0) pe_int (fun _ _ => rfl)))) pe_int))
      (pss_one (ps_ret (pe_op op_mod (pe_op op_fdiv (pe_op op_mod (pe_op op_add (pe_op op_pow (pv 3) pe_int) pe_int) pe_int) pe_int) (pv 1)))))))), ?_⟩
  refine ⟨_, rfl, b, _, 0, _, rfl, rfl, .of hb, rfl, _, _, rfl, rfl, _, rfl, ?_⟩
  by_cases c : 0 < x
  · rw [decide_eq_true c]
    obtain ⟨k, e, hk⟩ := mod_nat (i := x) n0
    refine iteT ⟨_, rfl, b, _, 0, _, rfl, rfl, .of hb, rfl, _, rfl, _, _, rfl, rfl, n0, _, rfl, b, _, 0, _, rfl, rfl, .of hb, rfl, _, rfl, _, _, rfl, rfl, ⟨n0, n1⟩, _, rfl, b, _, 0, 0, rfl, rfl, hb, rfl, _, rfl, ?_⟩
    have hq : Q (.int (x % n)) (upd H b (.lst [.int (x / n), .int y, .int z])) := by
      rw [e]
      exact q k _ hk ⟨by rw [del_upd]; exact Same.refl _, _, _, _, upd_same, y0, y1⟩
    exact hq
  · rw [decide_eq_false c]
    refine iteF ⟨_, rfl, b, _, 2, _, rfl, rfl, .of hb, rfl, _, _, rfl, rfl, _, rfl, b, _, 2, 2, rfl, rfl, hb, rfl, ?_⟩
    let H1 := upd H b (.lst [.int x, .int y, .int (z + 1)])
    have hb1 : H1 b = some (.lst [.int x, .int y, .int (z + 1)]) := upd_same
    show _
    have m1 : ∀ i : Int, 0 ≤ i % 2147483629 ∧ i % 2147483629 < 2147483629 := fun i => ⟨Int.emod_nonneg _ (by decide), Int.emod_lt_of_pos _ (by decide)⟩
    have m2 : ∀ i : Int, 0 ≤ i % 2147483647 ∧ i % 2147483647 < 2147483647 := fun i => ⟨Int.emod_nonneg _ (by decide), Int.emod_lt_of_pos _ (by decide)⟩
    have pw : ∀ i : Int, 0 ≤ i → i < 2147483647 → CPow i 5 := fun i h0 h1 => ⟨by decide, by decide, by omega⟩
    refine ⟨_, rfl, b, _, 1, .int y, rfl, rfl, .of hb1, rfl, _, rfl, b, _, 2, .int (z + 1), rfl, rfl, .of hb1, rfl, _, _, rfl, rfl, _, _, rfl, rfl, .inl ⟨by omega, by omega⟩, ?_⟩
    refine ⟨_, rfl, b, _, 2, .int (z + 1), rfl, rfl, .of hb1, rfl, _, _, rfl, rfl, .inl ⟨by decide, by decide⟩, _, _, rfl, rfl, _, _, rfl, rfl, _, _, rfl, rfl, (by decide : (0:Int) < 2147483629), ?_⟩
    refine ⟨_, rfl, _, _, rfl, rfl, pw _ (m1 _).1 (by have := (m1 (y * (z + 1 + 16) + 7907 * (z + 1) + 131)).2; omega), ?_⟩
    refine ⟨_, rfl, b, _, 2, .int (z + 1), rfl, rfl, .of hb1, rfl, _, _, rfl, rfl, .inl ⟨by decide, by decide⟩, _, _, rfl, rfl, _, _, rfl, rfl, (by decide : (0:Int) < 2147483647), ?_⟩
    refine ⟨_, rfl, _, _, rfl, rfl, pw _ (m2 _).1 (m2 _).2, _, _, rfl, rfl, _, _, rfl, rfl, (by decide : (0:Int) < 2147483647), _, _, rfl, rfl, ⟨by decide, by decide⟩, _, rfl, _, _, rfl, rfl, n0, ?_⟩
    generalize hh : (((((y * (z + 1 + 16) + 7907 * (z + 1) + 131) % 2147483629) ^ (5 : Int).toNat + 130363 * (z + 1)) % 2147483647) ^ (5 : Int).toNat + 611953) % 2147483647 / 16 = r
    obtain ⟨k, e, hk⟩ := mod_nat (i := r) n0
    have hq : Q (.int (r % n)) H1 := by
      rw [e]
      exact q k _ hk ⟨by rw [del_upd]; exact Same.refl _, _, _, _, hb1, y0, y1⟩
    exact hq
theorem take_ (D : DefT K mg "_law_take" sTake []) (T : Free mg) : C8.Cal P w K mg base 1 "_law_take" spTake [] :=
  cal_of D scTake (fun _ _ _ _ _ _ us hl => match us, hl with | [_, _], _ => rfl) (fun vs H Q E h => by
    obtain ⟨_, _, rfl, _⟩ := h
    rfl) (b_take T)
end
end S
end

section
set_option maxRecDepth 100000
set_option maxHeartbeats 4000000
/-! Defs: the law's figures, letters, maker. -/
namespace S
open PySem PySem.Spec PyProof.Rows L2 SM
section
variable {P : Program} {w : World} {K : PySem.W.Frag} {mg : Str → Option Value} {base : Heap} {CM CR PK : Addr}
theorem join_cs : ∀ ds : List Str, cs (Txt.join (Str.ofString "") ds) = (ds.map cs).flatten := by
  intro ds
  have e : Str.ofString "" = ⟨#[]⟩ := by decide +kernel
  rw [TL.join_eq, e]
  induction ds with
  | nil => rfl
  | cons x r ih =>
    rw [PyProof.Rows.join_nil_cons, cs_app, ih, List.map_cons, List.flatten_cons]
theorem BS.at_ {b D : Addr} {H H' : Hp} (h : BS b H H') (hD : H D = none) (ne : D ≠ b) (u : HO) : BS b H (upd H' D u) := by
  refine ⟨fun p o e => ?_, ?_⟩
  · have n1 : p ≠ b := fun q => by rw [q, del_at] at e; cases e
    rw [del_ne n1] at e ⊢
    rw [upd_ne (ne_of_none e hD)]
    exact h.get n1 e
  · obtain ⟨x, y, z, e, r⟩ := h.box
    exact ⟨x, y, z, by rw [upd_ne (Ne.symm ne)]; exact e, r⟩
/-- texts of one figure each -/
def Ones (ds : List Str) : Prop := ∀ d ∈ ds, ∃ c, cs d = [c] ∧ 48 ≤ c ∧ c ≤ 57
theorem ones_cs : ∀ {ds : List Str}, Ones ds → NumText.AllDigits (ds.map cs).flatten ∧ (ds.map cs).flatten.length = ds.length ∧ (ds.map (·.length)).sum = ds.length
  | [], _ => ⟨fun c hc => absurd hc List.not_mem_nil, rfl, rfl⟩
  | d :: ds, h => by
    obtain ⟨c, hc, h1, h2⟩ := h d List.mem_cons_self
    obtain ⟨a1, a2, a3⟩ := ones_cs (ds := ds) fun x hx => h x (List.mem_cons_of_mem _ hx)
    rw [List.map_cons, List.flatten_cons, hc, List.map_cons, List.sum_cons, a3, cs_len, hc, List.length_append, a2, List.length_cons]
    refine ⟨fun x hx => ?_, by simp; omega, by simp; omega⟩
    rcases List.mem_append.mp hx with hx | hx
    · obtain rfl := List.mem_singleton.mp hx
      exact ⟨h1, h2⟩
    · exact a1 x hx
theorem one_fig {k : Nat} (h : (k : Int) < 10) : ∃ c, cs (Str.ofString (toString (k : Int))) = [c] ∧ 48 ≤ c ∧ c ≤ 57 ∧ (0 < k → c ≠ 48) := by
  have e : k = 0 ∨ k = 1 ∨ k = 2 ∨ k = 3 ∨ k = 4 ∨ k = 5 ∨ k = 6 ∨ k = 7 ∨ k = 8 ∨ k = 9 := by omega
  rcases e with rfl | rfl | rfl | rfl | rfl | rfl | rfl | rfl | rfl | rfl
  · exact ⟨48, by decide +kernel, by decide, by decide, by decide⟩
  · exact ⟨49, by decide +kernel, by decide, by decide, by decide⟩
  · exact ⟨50, by decide +kernel, by decide, by decide, by decide⟩
  · exact ⟨51, by decide +kernel, by decide, by decide, by decide⟩
  · exact ⟨52, by decide +kernel, by decide, by decide, by decide⟩
  · exact ⟨53, by decide +kernel, by decide, by decide, by decide⟩
  · exact ⟨54, by decide +kernel, by decide, by decide, by decide⟩
  · exact ⟨55, by decide +kernel, by decide, by decide, by decide⟩
  · exact ⟨56, by decide +kernel, by decide, by decide, by decide⟩
  · exact ⟨57, by decide +kernel, by decide, by decide, by decide⟩
theorem one_log {i : Int} (h : i.natAbs < 2 ^ 40) : i.natAbs.log2 < 1920 := by
  by_cases z : i.natAbs = 0
  · rw [z]; decide
  · have := (Nat.log2_lt z).mpr h
    omega
structure Tens (n : Nat) (x : Str) : Prop where
  len : x.length = n
  digits : NumText.AllDigits (cs x)
  last : (cs x).getLast? ≠ some 48
def spLFigs : Sp := fun vs H Q _ => ∃ (b : Addr) (n : Nat), vs = [.ref b, .int n] ∧ n ≤ 40 ∧ BoxAt H b ∧ ∀ (x : Str) H', Tens n x → BS b H H' → Q (.str x) H'
abbrev sLFigs : Stmt := top 89
theorem scLFigs : FnScope ["_law_box_here", "_law_many", "_law_k"] ["_law_box_here", "_law_many"] (defScope sLFigs) := ⟨rfl, rfl, rfl, by decide +kernel, rfl, by decide +kernel, by decide +kernel⟩
theorem b_lfigs (T : Free mg) (G_take : C8.Cal P w K mg base 1 "_law_take" spTake []) : Body P w K mg base 1 ["_law_box_here", "_law_many", "_law_k"] "_law_figures" sLFigs spLFigs := by
  intro f cdv A outer s H vs Q E hr h
  obtain ⟨b, n, rfl, hn, hb, q⟩ := h
  have nd := scLFigs.nd
  have sz := sizeLine_eq
  refine ⟨_, (pss_cons (ps_if (pt_cmpR op_eq (pv 1) pe_int (nomark _))
        (pss_one (ps_ret pe_str))
        pss_nil)
      (pss_one (ps_ret (pe_op op_add_str (pe_join pe_str (pe_lc (own := [("_law_k", 2)]) (g := gName 2) (tt := tYes) (by rfl) nd (pi_range1 rfl T.range (pa_cons (pe_op op_sub (pv 1) pe_int) pa_nil)) (blkOk_by (own := [("_law_k", 2)]) (N := ["_law_box_here", "_law_many", "_law_k"]) (sc := defScope sLFigs) (by decide +kernel)) (fun _ _ _ _ _ => (pg_name (i := 2) nd rfl (Or.inl rfl))) (fun _ _ _ _ _ => pts_nil) (fun _ _ _ _ _ => (pe_callTy call_str_int (by rfl) T.str boot_str (pa_cons (C8.pe_c G_take hr (by decide) rfl (pa_cons (pv 0) (pa_cons pe_int pa_nil))) pa_nil))))) (pe_callTy call_str_int (by rfl) T.str boot_str (pa_cons (pe_op op_add pe_int (C8.pe_c G_take hr (by decide) rfl (pa_cons (pv 0) (pa_cons pe_int pa_nil)))) pa_nil)))))), ?_⟩
  refine ⟨_, rfl, rfl, _, rfl, ?_⟩
  by_cases z : n = 0
  · subst z
    refine iteT (q _ _ ⟨emp_len, ?_, ?_⟩ (.refl hb))
    · rw [show cs (Str.ofString "") = [] from emp_cs]
      exact fun c hc => absurd hc List.not_mem_nil
    · rw [show cs (Str.ofString "") = [] from emp_cs]
      exact fun e => by cases e
  · rw [decide_eq_false (show ¬ V.int (n : Nat) = V.int 0 from fun e => by injection e with e; omega)]
    refine iteF ⟨⟨_, rfl⟩, _, rfl, _, _, rfl, rfl, _, rfl, by omega, by omega, fun D hD => lc_it walk_range (fun i H' => (∃ ds : List Str, H' D = some (.lst (ds.map V.str)) ∧ ds.length = i ∧ Ones ds) ∧ BS b H H') ?_ (fun _ _ _ _ => True.intro) ?_ ?_⟩
    · exact ⟨⟨[], upd_same, rfl, fun d hd => absurd hd List.not_mem_nil⟩, (BS.refl hb).at_ hD (box_some hb hD) _⟩
    · rintro i x H1 H2 hi ⟨⟨ds, hd, hl, ho⟩, bs⟩ ⟨rfl, rfl⟩
      have nD := box_some hb hD
      refine ⟨rfl, ?_⟩
      dsimp only [tYes]
      refine iteT ⟨_, rfl, b, 10, rfl, by decide, by decide, bs.box, fun k H3 hk b3 => ?_⟩
      refine ⟨_, rfl, one_log (by omega), ds.map V.str, b3.get nD hd, by rw [List.length_map]; omega, ⟨ds ++ [Str.ofString (toString (k : Int))], ?_, ?_, ?_⟩, (bs.trans b3).at_ hD nD _⟩
      · rw [upd_same, List.map_append] <;> rfl
      · rw [List.length_append, hl] <;> rfl
      · intro d hd'
        rcases List.mem_append.mp hd' with m | m
        · exact ho d m
        · obtain rfl := List.mem_singleton.mp m
          obtain ⟨c, c1, c2, c3, _⟩ := one_fig hk
          exact ⟨c, c1, c2, c3⟩
    · rintro H1 ⟨⟨ds, hd, hl, ho⟩, bs⟩
      obtain ⟨o1, o2, o3⟩ := ones_cs ho
      have l0 : (Str.ofString "").length = 0 := by decide +kernel
      refine ⟨_, D, ds, rfl, rfl, .inl (.of hd), by rw [o3, l0]; omega, ?_⟩
      refine ⟨_, rfl, b, 9, rfl, by decide, by decide, bs.box, fun k H3 hk b3 => ?_⟩
      have e1 : (1 : Int) + (k : Nat) = ((1 + k : Nat) : Int) := by omega
      obtain ⟨c, c1, c2, c3, c4⟩ := one_fig (k := 1 + k) (by omega)
      refine ⟨_, _, rfl, rfl, _, rfl, one_log (by omega), _, _, rfl, rfl, ?_, ?_⟩
      · rw [e1, cs_len, cs_len, join_cs, o2, c1]
        simp
        omega
      · rw [e1]
        refine q _ _ ⟨?_, ?_, ?_⟩ (bs.trans b3)
        · rw [cs_len, cs_app, join_cs, c1, List.length_append, o2]
          simp
          omega
        · rw [cs_app, join_cs, c1]
          intro x hx
          rcases List.mem_append.mp hx with m | m
          · exact o1 x m
          · obtain rfl := List.mem_singleton.mp m
            exact ⟨c2, c3⟩
        · rw [cs_app, c1, List.getLast?_append, List.getLast?_singleton]
          intro e
          exact c4 (by omega) (Option.some.inj e)
theorem law_figures_ (D : DefT K mg "_law_figures" sLFigs []) (T : Free mg) (G : C8.Cal P w K mg base 1 "_law_take" spTake []) : C8.Cal P w K mg base 2 "_law_figures" spLFigs [] :=
  cal_of D scLFigs (fun _ _ _ _ _ _ us hl => match us, hl with | [_, _], _ => rfl) (fun vs H Q E h => by
    obtain ⟨_, _, rfl, _⟩ := h
    rfl) (b_lfigs T G)
end
end S
end

section
set_option maxRecDepth 100000
set_option maxHeartbeats 4000000
/-! Defs: the law's letters, makers. -/
namespace S
open PySem PySem.Spec PyProof.Rows L2 SM
section
variable {P : Program} {w : World} {K : PySem.W.Frag} {mg : Str → Option Value} {base : Heap} {CM CR PK : Addr}
abbrev ABC : Str := Str.ofString "abcdefghijklmnopqrstuvwxyz"
theorem abc_all : ((List.range 26).all fun k => decide ((cs ABC)[k]? = some (97 + k))) = true := by decide +kernel
theorem abc_len : ABC.length = 26 := by decide +kernel
theorem abc_at {k : Nat} (h : k < 26) : atI ABC.cps.toList (k : Int) = some (97 + k) :=
  atI_nat (of_decide_eq_true (List.all_eq_true.mp abc_all k (List.mem_range.mpr h)))
theorem cs_one (c : Nat) : cs ⟨#[c]⟩ = [c] := rfl
/-- one sign each -/
def Lows (ds : List Str) : Prop := ∀ d ∈ ds, ∃ c, cs d = [c] ∧ Low c
theorem lows_cs : ∀ {ds : List Str}, Lows ds → (∀ c ∈ (ds.map cs).flatten, Low c) ∧ (ds.map cs).flatten.length = ds.length ∧ (ds.map (·.length)).sum = ds.length
  | [], _ => ⟨fun c hc => absurd hc List.not_mem_nil, rfl, rfl⟩
  | d :: ds, h => by
    obtain ⟨c, hc, h1⟩ := h d List.mem_cons_self
    obtain ⟨a1, a2, a3⟩ := lows_cs (ds := ds) fun x hx => h x (List.mem_cons_of_mem _ hx)
    rw [List.map_cons, List.flatten_cons, hc, List.map_cons, List.sum_cons, a3, cs_len, hc, List.length_append, a2, List.length_cons]
    refine ⟨fun x hx => ?_, by simp; omega, by simp; omega⟩
    rcases List.mem_append.mp hx with hx | hx
    · obtain rfl := List.mem_singleton.mp hx
      exact h1
    · exact a1 x hx
def spLLetters : Sp := fun vs H Q _ => ∃ b : Addr, vs = [.ref b] ∧ BoxAt H b ∧ ∀ (x : Str) H', OkLetters x → BS b H H' → Q (.str x) H'
abbrev sLLetters : Stmt := top 90
theorem scLLetters : FnScope ["_law_box_here", "_law_wide", "_law_k"] ["_law_box_here"] (defScope sLLetters) := ⟨rfl, rfl, rfl, by decide +kernel, rfl, by decide +kernel, by decide +kernel⟩
theorem wide_at {k n : Nat} (hk : (k : Int) < 2) : ∃ m : Nat, atI [V.int 26, V.int n] (k : Int) = some (.int m) ∧ (m = 26 ∨ m = n) := by
  have e : k = 0 ∨ k = 1 := by omega
  rcases e with rfl | rfl
  · exact ⟨26, rfl, .inl rfl⟩
  · exact ⟨n, rfl, .inr rfl⟩
theorem b_lletters (T : Free mg) (G_take : C8.Cal P w K mg base 1 "_law_take" spTake []) : Body P w K mg base 1 ["_law_box_here", "_law_wide", "_law_k"] "_law_letters" sLLetters spLLetters := by
  intro f cdv A outer s H vs Q E hr h
  obtain ⟨b, rfl, hb, q⟩ := h
  have nd := scLLetters.nd
  have sz := sizeLine_eq
  refine ⟨_, (pss_cons (ps_set (i := 1) nd rfl (Or.inr rfl) (pe_ix (show IxR _ (rIxL K) from ix_list) (pe_lst (pa_cons pe_int (pa_cons pe_int pa_nil))) (C8.pe_c G_take hr (by decide) rfl (pa_cons (pv 0) (pa_cons pe_int pa_nil))) (fun _ _ => rfl)))
      (pss_one (ps_ret (pe_join pe_str (pe_lc (own := [("_law_k", 2)]) (g := gName 2) (tt := tYes) (by rfl) nd (pi_range1 rfl T.range (pa_cons (pe_op op_add pe_int (C8.pe_c G_take hr (by decide) rfl (pa_cons (pv 0) (pa_cons pe_int pa_nil)))) pa_nil)) (blkOk_by (own := [("_law_k", 2)]) (N := ["_law_box_here", "_law_wide", "_law_k"]) (sc := defScope sLLetters) (by decide +kernel)) (fun _ _ _ _ _ => (pg_name (i := 2) nd rfl (Or.inl rfl))) (fun _ _ _ _ _ => pts_nil) (fun _ _ _ _ _ => (pe_ix (show IxR _ rIxS from ix_str) pe_str (C8.pe_c G_take hr (by decide) rfl (pa_cons (pv 0) (pa_cons (pv 1) pa_nil))) (fun _ _ => rfl)))))))), ?_⟩
  refine ⟨(by decide : 2 ≤ sizeLine), fun p hp => ?_⟩
  have b1 := BS.new (.refl hb) hp (.lst [V.int 26, V.int 3])
  refine ⟨_, rfl, b, 2, rfl, by decide, by decide, b1.box, fun k H2 hk b2 => ?_⟩
  obtain ⟨m, hm, hm2⟩ := wide_at (n := 3) hk
  refine ⟨p, _, k, _, rfl, rfl, .of (b2.get (box_some hb hp) upd_same), hm, ?_⟩
  have b12 := b1.trans b2
  refine ⟨⟨_, rfl⟩, _, rfl, b, 3, rfl, by decide, by decide, b12.box, fun j H3 hj b3 => ?_⟩
  have b13 := b12.trans b3
  have n0 : 0 < m ∧ m < 27 := by omega
  refine ⟨_, _, rfl, rfl, _, rfl, by omega, by omega, fun D hD => lc_it walk_range (fun i H' => (∃ ds : List Str, H' D = some (.lst (ds.map V.str)) ∧ ds.length = i ∧ Lows ds) ∧ BS b H3 H') ?_ (fun _ _ _ _ => True.intro) ?_ ?_⟩
  · exact ⟨⟨[], upd_same, rfl, fun d hd => absurd hd List.not_mem_nil⟩, (BS.refl b13.box).at_ hD (box_some b13.box hD) _⟩
  · rintro i x H4 H5 hi ⟨⟨ds, hd, hl, ho⟩, bs⟩ ⟨rfl, rfl⟩
    have nD := box_some b13.box hD
    refine ⟨rfl, ?_⟩
    dsimp only [tYes]
    refine iteT ⟨_, rfl, _, rfl, b, m, rfl, by omega, by omega, bs.box, fun k H6 hk b6 => ?_⟩
    refine ⟨_, _, _, rfl, rfl, by rw [abc_len]; omega, abc_at (by omega), ds.map V.str, b6.get nD hd, by rw [List.length_map]; omega, ⟨ds ++ [⟨#[97 + k]⟩], ?_, ?_, ?_⟩, (bs.trans b6).at_ hD nD _⟩
    · rw [upd_same, List.map_append] <;> rfl
    · rw [List.length_append, hl] <;> rfl
    · intro d hd'
      rcases List.mem_append.mp hd' with z | z
      · exact ho d z
      · obtain rfl := List.mem_singleton.mp z
        exact ⟨97 + k, rfl, by omega, by omega⟩
  · rintro H4 ⟨⟨ds, hd, hl, ho⟩, bs⟩
    obtain ⟨o1, o2, o3⟩ := lows_cs ho
    have l0 : (Str.ofString "").length = 0 := by decide +kernel
    refine ⟨_, D, ds, rfl, rfl, .inl (.of hd), by rw [o3, l0]; omega, q _ _ ⟨?_, ?_, ?_⟩ (b13.trans bs)⟩
    · rw [cs_len, join_cs, o2]; omega
    · rw [cs_len, join_cs, o2]; omega
    · rw [join_cs]; exact o1
theorem law_letters_ (D : DefT K mg "_law_letters" sLLetters []) (T : Free mg) (G : C8.Cal P w K mg base 1 "_law_take" spTake []) : C8.Cal P w K mg base 2 "_law_letters" spLLetters [] :=
  cal_of D scLLetters (fun _ _ _ _ _ _ us hl => match us, hl with | [_], _ => rfl) (fun vs H Q E h => by
    obtain ⟨_, rfl, _⟩ := h
    rfl) (b_lletters T G)
def spLMaker : Sp := fun vs H Q _ => ∃ b : Addr, vs = [.ref b] ∧ BoxAt H b ∧ ∀ (x : Str) H', OkMaker x → x.length ≤ 5 → BS b H H' → Q (.str x) H'
abbrev sLMaker : Stmt := top 91
theorem scLMaker : FnScope ["_law_box_here", "_law_wide"] ["_law_box_here"] (defScope sLMaker) := ⟨rfl, rfl, rfl, by decide +kernel, rfl, by decide +kernel, by decide +kernel⟩
theorem b_lmaker (T : Free mg) (G_take : C8.Cal P w K mg base 1 "_law_take" spTake []) (G_figures : C8.Cal P w K mg base 2 "_law_figures" spLFigs []) : Body P w K mg base 2 ["_law_box_here", "_law_wide"] "_law_maker" sLMaker spLMaker := by
  intro f cdv A outer s H vs Q E hr h
  obtain ⟨b, rfl, hb, q⟩ := h
  have nd := scLMaker.nd
  have sz := sizeLine_eq
  refine ⟨_, (pss_cons (ps_set (i := 1) nd rfl (Or.inl rfl) (pe_ix (show IxR _ (rIxL K) from ix_list) (pe_lst (pa_cons pe_int (pa_cons pe_int pa_nil))) (C8.pe_c G_take hr (by decide) rfl (pa_cons (pv 0) (pa_cons pe_int pa_nil))) (fun _ _ => rfl)))
      (pss_one (ps_ret (pe_op op_add_str (pe_ix ix_str pe_str (C8.pe_c G_take hr (by decide) rfl (pa_cons (pv 0) (pa_cons (pv 1) pa_nil))) (fun _ _ => rfl)) (C8.pe_c G_figures hr (by decide) rfl (pa_cons (pv 0) (pa_cons (pe_op op_add pe_int (C8.pe_c G_take hr (by decide) rfl (pa_cons (pv 0) (pa_cons pe_int pa_nil)))) pa_nil))))))), ?_⟩
  refine ⟨(by decide : 2 ≤ sizeLine), fun p hp => ?_⟩
  have b1 := BS.new (.refl hb) hp (.lst [V.int 26, V.int 4])
  refine ⟨_, rfl, b, 2, rfl, by decide, by decide, b1.box, fun k H2 hk b2 => ?_⟩
  obtain ⟨m, hm, hm2⟩ := wide_at (n := 4) hk
  refine ⟨p, _, k, _, rfl, rfl, .of (b2.get (box_some hb hp) upd_same), hm, ?_⟩
  have b12 := b1.trans b2
  refine ⟨_, rfl, _, rfl, b, m, rfl, by omega, by omega, b12.box, fun j H3 hj b3 => ?_⟩
  have b13 := b12.trans b3
  refine ⟨_, _, _, rfl, rfl, by rw [abc_len]; omega, abc_at (by omega), _, rfl, _, rfl, b, 4, rfl, by decide, by decide, b13.box, fun i H4 hi b4 => ?_⟩
  have b14 := b13.trans b4
  refine ⟨_, _, rfl, rfl, b, 1 + i, rfl, by omega, b14.box, fun x H5 hx b5 => ?_⟩
  have l1 : (⟨#[97 + j]⟩ : Str).length = 1 := rfl
  have hl := hx.len
  refine ⟨_, _, rfl, rfl, by omega, q _ _ ⟨97 + j, cs x, ?_, ⟨by omega, by omega⟩, ?_, hx.digits, hx.last, ?_⟩ (by rw [app_len]; omega) (b14.trans b5)⟩
  · rw [cs_app, cs_one] <;> rfl
  · intro e
    rw [cs_len, e] at hl
    simp at hl
    omega
  · rw [← cs_len]; omega
theorem law_maker_ (D : DefT K mg "_law_maker" sLMaker []) (T : Free mg) (G : C8.Cal P w K mg base 1 "_law_take" spTake []) (G2 : C8.Cal P w K mg base 2 "_law_figures" spLFigs []) : C8.Cal P w K mg base 3 "_law_maker" spLMaker [] :=
  cal_of D scLMaker (fun _ _ _ _ _ _ us hl => match us, hl with | [_], _ => rfl) (fun vs H Q E h => by
    obtain ⟨_, rfl, _⟩ := h
    rfl) (b_lmaker T G G2)
end
end S
end

section
set_option maxRecDepth 100000
set_option maxHeartbeats 4000000
/-! Defs: the law's parts. -/
namespace S
open PySem PySem.Spec PyProof.Rows L2 SM
section
variable {P : Program} {w : World} {K : PySem.W.Frag} {mg : Str → Option Value} {base : Heap} {CM CR PK : Addr}
theorem at_mem {α : Type} {xs : List α} {k : Nat} (h : (k : Int) < xs.length) : ∃ v, atI xs (k : Int) = some v ∧ v ∈ xs := by
  have hk : k < xs.length := by omega
  exact ⟨xs[k], atI_nat (List.getElem?_eq_getElem hk), List.getElem_mem hk⟩
def sixV (m : Mk) (t : Addr) : List V := [.str m.letters, .int m.number, .str m.points, .ref t, hiV m.year, hiV m.copy]
def PartsAt (H : Hp) (a : Addr) (m : Mk) : Prop := ∃ t, H a = some (.lst (sixV m t)) ∧ H t = some (.lst (m.makers.map V.str))
theorem parts_same {H H' : Hp} (s : Same H H') {a : Addr} {m : Mk} (h : PartsAt H a m) : PartsAt H' a m := by
  obtain ⟨t, h1, h2⟩ := h
  exact ⟨t, s _ _ h1, s _ _ h2⟩
def spLParts : Sp := fun vs H Q _ => ∃ b : Addr, vs = [.ref b] ∧ BoxAt H b ∧ ∀ (a : Addr) (m : Mk) H', OkM m → PartsAt (del b H') a m → H a = none → BS b H H' → Q (.ref a) H'
abbrev sLParts : Stmt := top 92
theorem scLParts : FnScope ["_law_box_here", "_law_digits", "_law_tens", "_law_hands", "_law_age", "_law_turn", "_law_k"] ["_law_box_here"] (defScope sLParts) := ⟨rfl, rfl, rfl, by decide +kernel, rfl, by decide +kernel, by decide +kernel⟩
theorem okm_of {m : Mk} (h0 : OkLetters m.letters) (h1 : 1 ≤ m.number ∧ m.number ≤ 9999) (h2 : OkPoints m.points) (h3 : m.makers.length ≤ 3 ∧ ∀ x ∈ m.makers, OkMaker x) (h4 : OkYear m.year) (h5 : OkCopy m.copy) : OkM m := by
  intro p hp
  have e : p = 0 ∨ p = 1 ∨ p = 2 ∨ p = 3 ∨ p = 4 ∨ p = 5 := by omega
  rcases e with rfl | rfl | rfl | rfl | rfl | rfl
  · exact h0
  · exact h1
  · exact h2
  · exact h3
  · exact h4
  · exact h5
theorem tens_points {n : Nat} {x : Str} (h : Tens n x) (hn : n ≤ 40) : OkPoints x := by
  by_cases z : n = 0
  · refine .inl (cs_emp.mp (List.length_eq_zero_iff.mp ?_))
    rw [← cs_len, h.len, z]
  · refine .inr ⟨fun e => z ?_, h.digits, h.last, ?_⟩
    · have := h.len
      rw [cs_len, e] at this
      simpa using this.symm
    · rw [← cs_len, h.len]; exact hn
theorem b_lparts (T : Free mg) (G_take : C8.Cal P w K mg base 1 "_law_take" spTake []) (G_figures : C8.Cal P w K mg base 2 "_law_figures" spLFigs []) (G_letters : C8.Cal P w K mg base 2 "_law_letters" spLLetters []) (G_maker : C8.Cal P w K mg base 3 "_law_maker" spLMaker []) :
    Body P w K mg base 3 ["_law_box_here", "_law_digits", "_law_tens", "_law_hands", "_law_age", "_law_turn", "_law_k"] "_law_parts" sLParts spLParts := by
  intro f cdv A outer s H vs Q E hr h
  obtain ⟨b, rfl, hb, q⟩ := h
  have nd := scLParts.nd
  have sz := sizeLine_eq
  refine ⟨_, (pss_cons (ps_set (i := 1) nd rfl (Or.inl rfl) (pe_ix (show IxR _ (rIxL K) from ix_list) (pe_lst (pa_cons pe_int (pa_cons pe_int (pa_cons pe_int (pa_cons pe_int (pa_cons (pe_op op_add pe_int (C8.pe_c G_take hr (by decide) rfl (pa_cons (pv 0) (pa_cons pe_int pa_nil)))) (pa_cons (pe_op op_add pe_int (C8.pe_c G_take hr (by decide) rfl (pa_cons (pv 0) (pa_cons pe_int pa_nil)))) pa_nil))))))) (C8.pe_c G_take hr (by decide) rfl (pa_cons (pv 0) (pa_cons pe_int pa_nil))) (fun _ _ => rfl)))
      (pss_cons (ps_set (i := 2) nd rfl (Or.inl rfl) (C8.pe_c G_figures hr (by decide) rfl (pa_cons (pv 0) (pa_cons (pe_ix (show IxR _ (rIxL K) from ix_list) (pe_lst (pa_cons pe_int (pa_cons (C8.pe_c G_take hr (by decide) rfl (pa_cons (pv 0) (pa_cons pe_int pa_nil))) pa_nil))) (C8.pe_c G_take hr (by decide) rfl (pa_cons (pv 0) (pa_cons pe_int pa_nil))) (fun _ _ => rfl)) pa_nil))))
      (pss_cons (ps_setLc (i := 3) (own := [("_law_k", 6)]) (g := gName 6) (tt := tYes) rfl nd rfl rfl (sw_true rfl rfl rfl (by decide +kernel)) (pi_range1 rfl T.range (pa_cons (C8.pe_c G_take hr (by decide) rfl (pa_cons (pv 0) (pa_cons pe_int pa_nil))) pa_nil)) (blkOk_by (own := [("_law_k", 6)]) (N := ["_law_box_here", "_law_digits", "_law_tens", "_law_hands", "_law_age", "_law_turn", "_law_k"]) (sc := defScope sLParts) (by decide +kernel)) (fun _ _ _ _ _ => (pg_name (i := 6) nd rfl (Or.inl rfl))) (fun _ _ _ _ _ => pts_nil) (fun _ _ _ _ _ => (C8.pe_c G_maker hr (by decide) rfl (pa_cons (pv 0) pa_nil))))
      (pss_cons (ps_set (i := 4) nd rfl (Or.inl rfl) (pe_ix (show IxR _ (rIxL K) from ix_list) (pe_lst (pa_cons pe_non (pa_cons (pe_op op_add pe_int (C8.pe_c G_take hr (by decide) rfl (pa_cons (pv 0) (pa_cons pe_int pa_nil)))) (pa_cons pe_int pa_nil)))) (C8.pe_c G_take hr (by decide) rfl (pa_cons (pv 0) (pa_cons pe_int pa_nil))) (fun _ _ => rfl)))
      (pss_cons (ps_set (i := 5) nd rfl (Or.inl rfl) (pe_ix (show IxR _ (rIxL K) from ix_list) (pe_lst (pa_cons pe_non (pa_cons (pe_op op_add pe_int (C8.pe_c G_take hr (by decide) rfl (pa_cons (pv 0) (pa_cons pe_int pa_nil)))) (pa_cons (pe_op op_add pe_int (C8.pe_c G_take hr (by decide) rfl (pa_cons (pv 0) (pa_cons (pe_op op_pow pe_int pe_int) pa_nil)))) pa_nil)))) (C8.pe_c G_take hr (by decide) rfl (pa_cons (pv 0) (pa_cons pe_int pa_nil))) (fun _ _ => rfl)))
      (pss_one (ps_ret (pe_lst (pa_cons (C8.pe_c G_letters hr (by decide) rfl (pa_cons (pv 0) pa_nil)) (pa_cons (pv 1) (pa_cons (pv 2) (pa_cons (pv 3) (pa_cons (pv 4) (pa_cons (pv 5) pa_nil)))))))))))))), ?_⟩
  -- the number
  refine ⟨_, rfl, b, 9999, rfl, by decide, by decide, hb, fun k1 H1 hk1 b1 => ⟨_, _, rfl, rfl, _, rfl, b, 120, rfl, by decide, by decide, b1.box, fun k2 H2 hk2 b2 => ⟨_, _, rfl, rfl, (by decide : 6 ≤ sizeLine), fun p hp => ?_⟩⟩⟩
  replace b2 := b1.trans b2
  have np := box_some b2.box hp
  have b2' := b2.new hp (.lst [V.int 1, V.int 9, V.int 10, V.int 9999, V.int (1 + (k1 : Nat)), V.int (1 + (k2 : Nat))])
  refine ⟨_, rfl, b, 6, rfl, by decide, by decide, b2'.box, fun k3 H3 hk3 b3 => ?_⟩
  obtain ⟨v, hv, hvm⟩ := at_mem (xs := [V.int 1, V.int 9, V.int 10, V.int 9999, V.int (1 + (k1 : Nat)), V.int (1 + (k2 : Nat))]) (k := k3) hk3
  obtain ⟨num, rfl, hn1, hn2⟩ : ∃ n : Int, v = .int n ∧ 1 ≤ n ∧ n ≤ 9999 := by
    simp only [List.mem_cons, List.not_mem_nil, or_false] at hvm
    rcases hvm with rfl | rfl | rfl | rfl | rfl | rfl
    · exact ⟨_, rfl, by decide, by decide⟩
    · exact ⟨_, rfl, by decide, by decide⟩
    · exact ⟨_, rfl, by decide, by decide⟩
    · exact ⟨_, rfl, by decide, by decide⟩
    · exact ⟨_, rfl, by omega, by omega⟩
    · exact ⟨_, rfl, by omega, by omega⟩
  refine ⟨p, _, k3, _, rfl, rfl, .of (b3.get np upd_same), hv, ?_⟩
  replace b3 := b2'.trans b3
  clear b2' b2 b1 hp np hv hvm hk1 hk2 hk3
  -- the points
  refine ⟨_, rfl, _, rfl, b, 5, rfl, by decide, by decide, b3.box, fun k1 H4 hk1 b4 => ⟨(by decide : 2 ≤ sizeLine), fun p hp => ?_⟩⟩
  replace b4 := b3.trans b4
  have np := box_some b4.box hp
  have b4' := b4.new hp (.lst [V.int 0, V.int (k1 : Nat)])
  refine ⟨_, rfl, b, 2, rfl, by decide, by decide, b4'.box, fun k2 H5 hk2 b5 => ?_⟩
  obtain ⟨v, hv, hvm⟩ := at_mem (xs := [V.int 0, V.int (k1 : Nat)]) (k := k2) hk2
  obtain ⟨n, rfl, hn⟩ : ∃ n : Nat, v = .int n ∧ n ≤ 40 := by
    simp only [List.mem_cons, List.not_mem_nil, or_false] at hvm
    rcases hvm with rfl | rfl
    · exact ⟨0, rfl, by decide⟩
    · exact ⟨k1, rfl, by omega⟩
  refine ⟨p, _, k2, _, rfl, rfl, .of (b5.get np upd_same), hv, b, n, rfl, hn, (b4'.trans b5).box, fun x H6 hx b6 => ?_⟩
  replace b6 := (b4'.trans b5).trans b6
  clear b5 b4' b4 b3 hp np hv hvm hk1 hk2
  -- the makers
  refine ⟨_, rfl, b, 4, rfl, by decide, by decide, b6.box, fun k1 H7 hk1 b7 => ⟨_, rfl, by omega, by omega, fun D hD => lc_it walk_range (fun i H' => (∃ ds : List Str, H' D = some (.lst (ds.map V.str)) ∧ ds.length = i ∧ ∀ x ∈ ds, OkMaker x) ∧ BS b H7 H') ?_ (fun _ _ _ _ => True.intro) ?_ ?_⟩⟩
  · replace b7 := b6.trans b7
    exact ⟨⟨[], upd_same, rfl, fun d hd => absurd hd List.not_mem_nil⟩, (BS.refl b7.box).at_ hD (box_some b7.box hD) _⟩
  · rintro i x H4 H5 hi ⟨⟨ds, hd, hl, ho⟩, bs⟩ ⟨rfl, rfl⟩
    have nD := box_some b7.box hD
    refine ⟨rfl, ?_⟩
    dsimp only [tYes]
    refine iteT ⟨_, rfl, b, rfl, bs.box, fun y H6 hy _ b6 => ?_⟩
    refine ⟨ds.map V.str, b6.get nD hd, by rw [List.length_map]; omega, ⟨ds ++ [y], ?_, ?_, ?_⟩, (bs.trans b6).at_ hD nD _⟩
    · rw [upd_same, List.map_append] <;> rfl
    · rw [List.length_append, hl] <;> rfl
    · intro d hd'
      rcases List.mem_append.mp hd' with z | z
      · exact ho d z
      · obtain rfl := List.mem_singleton.mp z
        exact hy
  · rintro H8 ⟨⟨ds, hd, hl, ho⟩, b8⟩
    have nD := box_some b7.box hD
    replace b8 := (b6.trans b7).trans b8
    have hl3 : ds.length ≤ 3 := by omega
    clear b6 b7 hD hk1 hl
    -- the year
    refine ⟨_, rfl, b, 2000, rfl, by decide, by decide, b8.box, fun k1 H9 hk1 b9 => ⟨_, _, rfl, rfl, (by decide : 3 ≤ sizeLine), fun p hp => ?_⟩⟩
    have hd9 := b9.get nD hd
    replace b9 := b8.trans b9
    have np := box_some b9.box hp
    have b9' := b9.new hp (.lst [.non, V.int (1000 + (k1 : Nat)), V.int 1998])
    refine ⟨_, rfl, b, 3, rfl, by decide, by decide, b9'.box, fun k2 H10 hk2 b10 => ?_⟩
    have hd10 := b10.get nD (same_new hp _ _ hd9)
    obtain ⟨v, hv, hvm⟩ := at_mem (xs := [.non, V.int (1000 + (k1 : Nat)), V.int 1998]) (k := k2) hk2
    obtain ⟨yr, rfl, hyr⟩ : ∃ y : Option Int, v = hiV y ∧ OkYear y := by
      simp only [List.mem_cons, List.not_mem_nil, or_false] at hvm
      rcases hvm with rfl | rfl | rfl
      · exact ⟨none, rfl, fun n e => by cases e⟩
      · exact ⟨some _, rfl, fun n e => by obtain rfl := Option.some.inj e; omega⟩
      · exact ⟨some _, rfl, fun n e => by obtain rfl := Option.some.inj e; omega⟩
    refine ⟨p, _, k2, _, rfl, rfl, .of (b10.get np upd_same), hv, ?_⟩
    replace b10 := b9'.trans b10
    clear b9' b9 b8 hp np hv hvm hk1 hk2 hd hd9
    -- the copy
    refine ⟨_, rfl, b, 120, rfl, by decide, by decide, b10.box, fun k1 H11 hk1 b11 => ⟨_, _, rfl, rfl, _, rfl, 10, 7, rfl, rfl, ⟨by decide, by decide, by decide⟩, b, _, rfl, by decide, by decide, b11.box, fun k3 H12 hk3 b12 => ⟨_, _, rfl, rfl, (by decide : 3 ≤ sizeLine), fun p hp => ?_⟩⟩⟩
    have hd12 := b12.get nD (b11.get nD hd10)
    replace b12 := (b10.trans b11).trans b12
    have np := box_some b12.box hp
    have b12' := b12.new hp (.lst [.non, V.int (2 + (k1 : Nat)), V.int (2 + (k3 : Nat))])
    refine ⟨_, rfl, b, 3, rfl, by decide, by decide, b12'.box, fun k2 H13 hk2 b13 => ?_⟩
    have hd13 := b13.get nD (same_new hp _ _ hd12)
    have e7 : (10 : Int) ^ (7 : Int).toNat = 10000000 := by decide +kernel
    rw [e7] at hk3
    have e40 : (10 : Int) ^ 40 = 10000000000000000000000000000000000000000 := by decide +kernel
    obtain ⟨v, hv, hvm⟩ := at_mem (xs := [.non, V.int (2 + (k1 : Nat)), V.int (2 + (k3 : Nat))]) (k := k2) hk2
    obtain ⟨cp, rfl, hcp⟩ : ∃ y : Option Int, v = hiV y ∧ OkCopy y := by
      simp only [List.mem_cons, List.not_mem_nil, or_false] at hvm
      rcases hvm with rfl | rfl | rfl
      · exact ⟨none, rfl, fun n e => by cases e⟩
      · exact ⟨some _, rfl, fun n e => by obtain rfl := Option.some.inj e; omega⟩
      · exact ⟨some _, rfl, fun n e => by obtain rfl := Option.some.inj e; omega⟩
    refine ⟨p, _, k2, _, rfl, rfl, .of (b13.get np upd_same), hv, ?_⟩
    replace b13 := b12'.trans b13
    refine ⟨_, rfl, b, rfl, b13.box, fun ls H14 hls b14 => ?_⟩
    have hd14 := b14.get nD hd13
    replace b14 := b13.trans b14
    refine ⟨_, rfl, _, rfl, _, rfl, _, rfl, _, rfl, (by decide : 6 ≤ sizeLine), fun a ha => ?_⟩
    have na := box_some b14.box ha
    refine q a ⟨ls, num, x, ds, yr, cp⟩ _ (okm_of hls ⟨hn1, hn2⟩ (tens_points hx hn) ⟨hl3, ho⟩ hyr hcp) ⟨D, ?_, ?_⟩ (b14.fresh hb ha) (b14.new ha _)
    · rw [del_ne na]; exact upd_same
    · rw [del_ne nD]; exact same_new ha _ _ hd14
theorem law_parts_ (D : DefT K mg "_law_parts" sLParts []) (T : Free mg) (G : C8.Cal P w K mg base 1 "_law_take" spTake []) (G2 : C8.Cal P w K mg base 2 "_law_figures" spLFigs []) (G3 : C8.Cal P w K mg base 2 "_law_letters" spLLetters []) (G4 : C8.Cal P w K mg base 3 "_law_maker" spLMaker []) : C8.Cal P w K mg base 4 "_law_parts" spLParts [] :=
  cal_of D scLParts (fun _ _ _ _ _ _ us hl => match us, hl with | [_], _ => rfl) (fun vs H Q E h => by
    obtain ⟨_, rfl, _⟩ := h
    rfl) (b_lparts T G G2 G3 G4)
end
end S
end

section
set_option maxRecDepth 100000
set_option maxHeartbeats 4000000
/-! Defs: the law's mark, small parts. -/
namespace S
open PySem PySem.Spec PyProof.Rows L2 SM
section
variable {P : Program} {w : World} {K : PySem.W.Frag} {mg : Str → Option Value} {base : Heap} {CM CR PK : Addr}
def spLMark (K : PySem.W.Frag) (CM : Addr) : Sp := fun vs H Q _ => ∃ (a : Addr) (m : Mk), vs = [.ref a] ∧ OkM m ∧ PartsAt H a m ∧ ∀ (x : Addr) H', Same H H' → MarkAt K CM H' x m → Q (.ref x) H'
abbrev sLMark : Stmt := top 96
theorem scLMark : FnScope ["_law_parts_here"] ["_law_parts_here"] (defScope sLMark) := ⟨rfl, rfl, rfl, by decide +kernel, rfl, by decide +kernel, by decide +kernel⟩
theorem b_lmark (T : Free mg) (G_Mark : C8.Mak P w K mg base 4 "Mark" CM (spMark K CM) []) : Body P w K mg base 5 ["_law_parts_here"] "_law_mark" sLMark (spLMark K CM) := by
  intro f cdv A outer s H vs Q E hr h
  obtain ⟨a, m, rfl, ok, ⟨t, ha, ht⟩, q⟩ := h
  have nd := scLMark.nd
  refine ⟨_, (pss_one (ps_ret (C8.pe_mk G_Mark hr (by decide) rfl (pa_cons (pe_ix ix_list (pv 0) pe_int (fun _ _ => rfl)) (pa_cons (pe_ix ix_list (pv 0) pe_int (fun _ _ => rfl)) (pa_cons (pe_ix ix_list (pv 0) pe_int (fun _ _ => rfl)) (pa_cons (pe_callTy call_list_of (by rfl) T.list boot_list (pa_cons (pe_ix ix_list (pv 0) pe_int (fun _ _ => rfl)) pa_nil)) (pa_cons (pe_ix ix_list (pv 0) pe_int (fun _ _ => rfl)) (pa_cons (pe_ix ix_list (pv 0) pe_int (fun _ _ => rfl)) pa_nil))))))))), ?_⟩
  refine ⟨_, rfl, a, _, 0, _, rfl, rfl, .of ha, rfl, _, rfl, a, _, 1, _, rfl, rfl, .of ha, rfl, _, rfl, a, _, 2, _, rfl, rfl, .of ha, rfl, _, rfl, a, _, 3, _, rfl, rfl, .of ha, rfl, t, _, rfl, .inl (.of ht), fun l hl => ?_⟩
  have s1 := same_new (u := HO.lst (m.makers.map V.str)) hl
  refine ⟨_, rfl, a, _, 4, _, rfl, rfl, .of (s1 _ _ ha), rfl, _, rfl, a, _, 5, _, rfl, rfl, .of (s1 _ _ ha), rfl, fun x dx hx hdx ne => ?_⟩
  have s0 : Same (upd H l (.lst (m.makers.map V.str))) (upd (upd (upd H l (.lst (m.makers.map V.str))) dx (.own x)) x (.ins CM dx [])) := Same.made hx hdx fun b o e _ => e
  exact ⟨x, dx, l, m, rfl, ok, upd_same, .inl (s0 _ _ upd_same), fun H2 kp hM => ⟨rfl, q x H2 (s1.trans (Same.made hx hdx fun b o e ne => kp b o ne e)) hM⟩⟩
theorem law_mark_ (D : DefT K mg "_law_mark" sLMark []) (T : Free mg) (G : C8.Mak P w K mg base 4 "Mark" CM (spMark K CM) []) : C8.Cal P w K mg base 6 "_law_mark" (spLMark K CM) [] :=
  cal_of D scLMark (fun _ _ _ _ _ _ us hl => match us, hl with | [_], _ => rfl) (fun vs H Q E h => by
    obtain ⟨_, _, rfl, _⟩ := h
    rfl) (b_lmark T G)

theorem none_of_upd {H : Hp} {a p : Addr} {u : HO} (h : upd H a u p = none) : H p = none := by
  by_cases e : p = a
  · rw [e, upd_same] at h; cases h
  · rwa [upd_ne e] at h
/-! ### small parts -/
def smallL : List Str := ["b", "aa", "ab", "ba", "c", "aaa"]
def smallN : List Int := [2, 9, 10, 11, 19, 20, 100]
def smallP : List Str := ["1", "2", "9", "11", "19", "01", "02", "001"]
def smallM : List Str := ["a1", "b1", "a2", "a11", "a01", "b19"]
theorem low_b {x : Str} (h : ((cs x).all fun c => decide (97 ≤ c ∧ c ≤ 122)) = true) : ∀ c ∈ cs x, Low c := fun c hc => (show 97 ≤ c ∧ c ≤ 122 from of_decide_eq_true (List.all_eq_true.mp h c hc))
theorem dig_b {l : List Nat} (h : (l.all fun c => decide (48 ≤ c ∧ c ≤ 57)) = true) : NumText.AllDigits l := fun c hc => of_decide_eq_true (List.all_eq_true.mp h c hc)
theorem figs_b {l : List Nat} (h : (decide (l ≠ [] ∧ l.getLast? ≠ some 48 ∧ l.length ≤ 40) && l.all fun c => decide (48 ≤ c ∧ c ≤ 57)) = true) : OkFigs l := by
  rw [Bool.and_eq_true] at h
  have h1 := of_decide_eq_true h.1
  exact ⟨h1.1, dig_b h.2, h1.2.1, h1.2.2⟩
def makB (x : Str) : Bool := match cs x with
  | [] => false
  | a :: l => decide (97 ≤ a ∧ a ≤ 122) && (decide (l ≠ [] ∧ l.getLast? ≠ some 48 ∧ l.length ≤ 40) && l.all fun c => decide (48 ≤ c ∧ c ≤ 57))
theorem mak_b {x : Str} (h : makB x = true) : OkMaker x := by
  unfold makB at h
  cases e : cs x with
  | nil => rw [e] at h; cases h
  | cons a l =>
    rw [e] at h
    have h := Bool.and_eq_true_iff.mp h
    exact ⟨a, l, e, (show 97 ≤ a ∧ a ≤ 122 from of_decide_eq_true h.1), figs_b h.2⟩
theorem small_l : ∀ x ∈ smallL, OkLetters x := by
  have z : (smallL.all fun x => decide (1 ≤ x.length ∧ x.length ≤ 3) && (cs x).all fun c => decide (97 ≤ c ∧ c ≤ 122)) = true := by decide +kernel
  intro x hx
  have h := Bool.and_eq_true_iff.mp (List.all_eq_true.mp z x hx)
  exact ⟨(of_decide_eq_true h.1).1, (of_decide_eq_true h.1).2, low_b h.2⟩
theorem small_n : ∀ n ∈ smallN, 1 ≤ n ∧ n ≤ 9999 := by decide +kernel
theorem small_p : ∀ x ∈ smallP, OkPoints x := by
  have z : (smallP.all fun x => (decide (cs x ≠ [] ∧ (cs x).getLast? ≠ some 48 ∧ (cs x).length ≤ 40) && (cs x).all fun c => decide (48 ≤ c ∧ c ≤ 57))) = true := by decide +kernel
  exact fun x hx => .inr (figs_b (List.all_eq_true.mp z x hx))
theorem small_m : ∀ x ∈ smallM, OkMaker x := by
  have z : smallM.all makB = true := by decide +kernel
  exact fun x hx => mak_b (List.all_eq_true.mp z x hx)
def lateY : List Int := [1000, 1001, 1998, 2999]
def lateC : List Int := [2, 3, 10, 19]
theorem late_y : ∀ n ∈ lateY, OkYear (some n) := by
  have z : ∀ n ∈ lateY, 1000 ≤ n ∧ n ≤ 2999 := by decide +kernel
  intro n hn k e
  obtain rfl := Option.some.inj e
  exact z n hn
theorem late_c : ∀ n ∈ lateC, OkCopy (some n) := by
  have z : ∀ n ∈ lateC, 2 ≤ n ∧ n < 10 ^ 40 := by decide +kernel
  intro n hn k e
  obtain rfl := Option.some.inj e
  exact z n hn
theorem pick_str {l : List Str} {k : Nat} (h : (k : Int) < l.length) : ∃ x, atI (l.map V.str) (k : Int) = some (.str x) ∧ x ∈ l := by
  obtain ⟨v, h1, h2⟩ := at_mem (xs := l.map V.str) (k := k) (by rw [List.length_map]; exact h)
  obtain ⟨x, hx, rfl⟩ := List.mem_map.mp h2
  exact ⟨x, h1, hx⟩
theorem pick_int {l : List Int} {k : Nat} (h : (k : Int) < l.length) : ∃ x, atI (l.map V.int) (k : Int) = some (.int x) ∧ x ∈ l := by
  obtain ⟨v, h1, h2⟩ := at_mem (xs := l.map V.int) (k := k) (by rw [List.length_map]; exact h)
  obtain ⟨x, hx, rfl⟩ := List.mem_map.mp h2
  exact ⟨x, h1, hx⟩
/-- a list of six that is being changed -/
structure Hold (b F : Addr) (H H' : Hp) (m : Mk) (t : Addr) : Prop where
  bs : BS b H H'
  nt : t ≠ b
  ntF : t ≠ F
  six : H' F = some (.lst (sixV m t))
  mak : H' t = some (.lst (m.makers.map V.str))
theorem Hold.step {b F : Addr} {H H' H2 : Hp} {m : Mk} {t : Addr} (nF : F ≠ b) (h : Hold b F H H' m t) (s : BS b H' H2) : Hold b F H H2 m t :=
  ⟨h.bs.trans s, h.nt, h.ntF, s.get nF h.six, s.get h.nt h.mak⟩
theorem Hold.new {b F : Addr} {H H' : Hp} {m : Mk} {t : Addr} (nF : F ≠ b) (h : Hold b F H H' m t) {p : Addr} (hp : H' p = none) (u : HO) : Hold b F H (upd H' p u) m t :=
  h.step nF (.of h.bs.box (same_new hp))
theorem Hold.set {b F : Addr} {H H' : Hp} {m' : Mk} {t' : Addr} (nF : F ≠ b) (fF : H F = none) (h : BS b H H') (h1 : t' ≠ b) (h2 : t' ≠ F) (h3 : H' t' = some (.lst (m'.makers.map V.str))) {l : List V} (e : l = sixV m' t') : Hold b F H (upd H' F (.lst l)) m' t' :=
  ⟨h.at_ fF nF _, h1, h2, by rw [upd_same, e], by rw [upd_ne h2]; exact h3⟩
theorem Hold.parts {b F : Addr} {H H' : Hp} {m : Mk} {t : Addr} (nF : F ≠ b) (h : Hold b F H H' m t) : PartsAt (del b H') F m :=
  ⟨t, by rw [del_ne nF]; exact h.six, by rw [del_ne h.nt]; exact h.mak⟩
abbrev spLSmall : Sp := spLParts
abbrev sLSmall : Stmt := top 97
theorem scLSmall : FnScope ["_law_box_here", "_law_parts_here", "_law_turn", "_law_at", "_law_some", "_law_k"] ["_law_box_here"] (defScope sLSmall) := ⟨rfl, rfl, rfl, by decide +kernel, rfl, by decide +kernel, by decide +kernel⟩
theorem okm_least : OkM leastM := okm_of ⟨by decide +kernel, by decide +kernel, low_b (by decide +kernel)⟩ ⟨by decide, by decide⟩ (.inl rfl) ⟨by decide, fun x h => absurd h List.not_mem_nil⟩ (fun n e => by cases e) (fun n e => by cases e)
theorem b_lsmall (T : Free mg) (G_take : C8.Cal P w K mg base 1 "_law_take" spTake []) : Body P w K mg base 1 ["_law_box_here", "_law_parts_here", "_law_turn", "_law_at", "_law_some", "_law_k"] "_law_small" sLSmall spLSmall := by
  intro f cdv A outer s H vs Q E hr h
  obtain ⟨b, rfl, hb, q⟩ := h
  have nd := scLSmall.nd
  have sz := sizeLine_eq
  refine ⟨_, (pss_cons (ps_set (i := 1) nd rfl (Or.inl rfl) (pe_lst (pa_cons pe_str (pa_cons pe_int (pa_cons pe_str (pa_cons (pe_lst pa_nil) (pa_cons pe_non (pa_cons pe_non pa_nil))))))))
      (pss_cons (ps_for PassesOwn.never rfl (pi_range1 rfl T.range (pa_cons (C8.pe_c G_take hr (by decide) rfl (pa_cons (pv 0) (pa_cons pe_int pa_nil))) pa_nil)) (pg_name (i := 2) nd rfl (Or.inl rfl))
        (pss_cons (ps_set (i := 3) nd rfl (Or.inl rfl) (C8.pe_c G_take hr (by decide) rfl (pa_cons (pv 0) (pa_cons pe_int pa_nil))))
        (pss_one (ps_if (pt_cmpR op_eq (pv 3) pe_int (nomark _))
          (pss_one (ps_asg (pe_ix (show IxR _ (rIxL K) from ix_list) (pe_lst (pa_cons pe_str (pa_cons pe_str (pa_cons pe_str (pa_cons pe_str (pa_cons pe_str (pa_cons pe_str pa_nil))))))) (C8.pe_c G_take hr (by decide) rfl (pa_cons (pv 0) (pa_cons pe_int pa_nil))) (fun _ _ => rfl)) (pg_sub (pv 1) pe_int set_list)))
          (pss_one (ps_if (pt_cmpR op_eq (pv 3) pe_int (nomark _))
            (pss_one (ps_asg (pe_ix (show IxR _ (rIxL K) from ix_list) (pe_lst (pa_cons pe_int (pa_cons pe_int (pa_cons pe_int (pa_cons pe_int (pa_cons pe_int (pa_cons pe_int (pa_cons pe_int pa_nil)))))))) (C8.pe_c G_take hr (by decide) rfl (pa_cons (pv 0) (pa_cons pe_int pa_nil))) (fun _ _ => rfl)) (pg_sub (pv 1) pe_int set_list)))
            (pss_one (ps_if (pt_cmpR op_eq (pv 3) pe_int (nomark _))
              (pss_one (ps_asg (pe_ix (show IxR _ (rIxL K) from ix_list) (pe_lst (pa_cons pe_str (pa_cons pe_str (pa_cons pe_str (pa_cons pe_str (pa_cons pe_str (pa_cons pe_str (pa_cons pe_str (pa_cons pe_str pa_nil))))))))) (C8.pe_c G_take hr (by decide) rfl (pa_cons (pv 0) (pa_cons pe_int pa_nil))) (fun _ _ => rfl)) (pg_sub (pv 1) pe_int set_list)))
              (pss_one (ps_if (pt_cmpR op_eq (pv 3) pe_int (nomark _))
                (pss_cons (ps_set (i := 4) nd rfl (Or.inr rfl) (pe_lst (pa_cons pe_str (pa_cons pe_str (pa_cons pe_str (pa_cons pe_str (pa_cons pe_str (pa_cons pe_str pa_nil))))))))
                (pss_one (ps_asg (pe_lc (own := [("_law_k", 5)]) (g := gName 5) (tt := tYes) (by rfl) nd (pi_range1 rfl T.range (pa_cons (pe_op op_add pe_int (C8.pe_c G_take hr (by decide) rfl (pa_cons (pv 0) (pa_cons pe_int pa_nil)))) pa_nil)) (blkOk_by (own := [("_law_k", 5)]) (N := ["_law_box_here", "_law_parts_here", "_law_turn", "_law_at", "_law_some", "_law_k"]) (sc := defScope sLSmall) (by decide +kernel)) (fun _ _ _ _ _ => (pg_name (i := 5) nd rfl (Or.inl rfl))) (fun _ _ _ _ _ => pts_nil) (fun _ _ _ _ _ => (pe_ix (show IxR _ (rIxL K) from ix_list) (pv 4) (C8.pe_c G_take hr (by decide) rfl (pa_cons (pv 0) (pa_cons pe_int pa_nil))) (fun _ _ => rfl)))) (pg_sub (pv 1) pe_int set_list))))
                (pss_cons (ps_set (i := 4) nd rfl (Or.inr rfl) (pe_ix (show IxR _ (rIxL K) from ix_list) (pe_lst (pa_cons (pe_lst (pa_cons pe_int (pa_cons pe_int (pa_cons pe_int (pa_cons pe_int pa_nil))))) (pa_cons (pe_lst (pa_cons pe_int (pa_cons pe_int (pa_cons pe_int (pa_cons pe_int pa_nil))))) pa_nil))) (pe_op op_sub (pv 3) pe_int) (fun _ _ => rfl)))
                (pss_one (ps_asg (pe_ix (show IxR _ (rIxL K) from ix_list) (pv 4) (C8.pe_c G_take hr (by decide) rfl (pa_cons (pv 0) (pa_cons pe_int pa_nil))) (fun _ _ => rfl)) (pg_sub (pv 1) (pv 3) set_list))))))))))))))
      (pss_one (ps_ret (pv 1))))), ?_⟩
  refine ⟨(by decide : 0 ≤ sizeLine), fun t ht => ⟨(by decide : 6 ≤ sizeLine), fun F hF => ?_⟩⟩
  have nt := box_some hb ht
  have fF : H F = none := none_of_upd hF
  have nF := box_some hb fF
  have ntF : t ≠ F := fun e => by rw [← e, upd_same] at hF; cases hF
  have H0 : Hold b F H (upd (upd H t (.lst [])) F (.lst [.str "a", .int 1, .str "", .ref t, .non, .non])) leastM t :=
    .set (m' := leastM) (t' := t) nF fF (BS.new (.refl hb) ht _) nt ntF upd_same rfl
  refine ⟨_, rfl, b, 4, rfl, by decide, by decide, H0.bs.box, fun k0 H1 hk0 b1 => ⟨_, rfl, by omega, by omega, for_it walk_range (fun i σ' H' => (∃ x y z, σ' = [some (.ref b), some (.ref F), x, y, z, none]) ∧ ∃ m t, OkM m ∧ Hold b F H H' m t) ?_ (fun _ _ _ _ _ => True.intro) ?_ ?_⟩⟩
  · exact ⟨⟨_, _, _, rfl⟩, _, _, okm_least, H0.step nF b1⟩
  · rintro i x σ2 H2 H3 hi ⟨⟨x1, x2, x3, rfl⟩, m, t, ok, hh⟩ ⟨rfl, rfl⟩
    refine ⟨_, rfl, b, 6, rfl, by decide, by decide, hh.bs.box, fun k H4 hk b4 => ?_⟩
    replace hh := hh.step nF b4
    have e : k = 0 ∨ k = 1 ∨ k = 2 ∨ k = 3 ∨ k = 4 ∨ k = 5 := by omega
    rcases e with rfl | rfl | rfl | rfl | rfl | rfl
    · refine ⟨_, rfl, rfl, _, rfl, iteT ⟨(by decide : 6 ≤ sizeLine), fun p hp => ?_⟩⟩
      have np := box_some hh.bs.box hp
      have h5 := hh.new nF hp (.lst (smallL.map V.str))
      refine ⟨_, rfl, b, 6, rfl, by decide, by decide, h5.bs.box, fun j H5 hj b5 => ?_⟩
      obtain ⟨x, hx, hm⟩ := pick_str (l := smallL) hj
      have h6 := h5.step nF b5
      exact ⟨p, _, j, _, rfl, rfl, .of (b5.get np upd_same), hx, _, rfl, F, _, 0, 0, rfl, rfl, h6.six, rfl, ⟨_, _, _, rfl⟩, { m with letters := x }, t, okm_of (small_l x hm) (ok 1 (by decide)) (ok 2 (by decide)) (ok 3 (by decide)) (ok 4 (by decide)) (ok 5 (by decide)), .set (m' := { m with letters := x }) nF fF h6.bs h6.nt h6.ntF h6.mak rfl⟩
    · refine ⟨_, rfl, rfl, _, rfl, iteF ⟨_, rfl, rfl, _, rfl, iteT ⟨(by decide : 7 ≤ sizeLine), fun p hp => ?_⟩⟩⟩
      have np := box_some hh.bs.box hp
      have h5 := hh.new nF hp (.lst (smallN.map V.int))
      refine ⟨_, rfl, b, 7, rfl, by decide, by decide, h5.bs.box, fun j H5 hj b5 => ?_⟩
      obtain ⟨x, hx, hm⟩ := pick_int (l := smallN) hj
      have h6 := h5.step nF b5
      exact ⟨p, _, j, _, rfl, rfl, .of (b5.get np upd_same), hx, _, rfl, F, _, 1, 1, rfl, rfl, h6.six, rfl, ⟨_, _, _, rfl⟩, { m with number := x }, t, okm_of (ok 0 (by decide)) (small_n x hm) (ok 2 (by decide)) (ok 3 (by decide)) (ok 4 (by decide)) (ok 5 (by decide)), .set (m' := { m with number := x }) nF fF h6.bs h6.nt h6.ntF h6.mak rfl⟩
    · refine ⟨_, rfl, rfl, _, rfl, iteF ⟨_, rfl, rfl, _, rfl, iteF ⟨_, rfl, rfl, _, rfl, iteT ⟨(by decide : 8 ≤ sizeLine), fun p hp => ?_⟩⟩⟩⟩
      have np := box_some hh.bs.box hp
      have h5 := hh.new nF hp (.lst (smallP.map V.str))
      refine ⟨_, rfl, b, 8, rfl, by decide, by decide, h5.bs.box, fun j H5 hj b5 => ?_⟩
      obtain ⟨x, hx, hm⟩ := pick_str (l := smallP) hj
      have h6 := h5.step nF b5
      exact ⟨p, _, j, _, rfl, rfl, .of (b5.get np upd_same), hx, _, rfl, F, _, 2, 2, rfl, rfl, h6.six, rfl, ⟨_, _, _, rfl⟩, { m with points := x }, t, okm_of (ok 0 (by decide)) (ok 1 (by decide)) (small_p x hm) (ok 3 (by decide)) (ok 4 (by decide)) (ok 5 (by decide)), .set (m' := { m with points := x }) nF fF h6.bs h6.nt h6.ntF h6.mak rfl⟩
    · refine ⟨_, rfl, rfl, _, rfl, iteF ⟨_, rfl, rfl, _, rfl, iteF ⟨_, rfl, rfl, _, rfl, iteF ⟨_, rfl, rfl, _, rfl, iteT ⟨(by decide : 6 ≤ sizeLine), fun p hp => ?_⟩⟩⟩⟩⟩
      have np := box_some hh.bs.box hp
      have h5 := hh.new nF hp (.lst (smallM.map V.str))
      refine ⟨_, rfl, b, 2, rfl, by decide, by decide, h5.bs.box, fun j H5 hj b5 => ⟨_, _, rfl, rfl, _, rfl, by omega, by omega, fun D hD => lc_it walk_range (fun i H' => (∃ ds : List Str, H' D = some (.lst (ds.map V.str)) ∧ ds.length = i ∧ ∀ x ∈ ds, OkMaker x) ∧ BS b H5 H') ?_ (fun _ _ _ _ => True.intro) ?_ ?_⟩⟩
      · exact ⟨⟨[], upd_same, rfl, fun d hd => absurd hd List.not_mem_nil⟩, (BS.refl b5.box).at_ hD (box_some b5.box hD) _⟩
      · rintro i x H6 H7 hi ⟨⟨ds, hd, hl, ho⟩, bs⟩ ⟨rfl, rfl⟩
        have nD := box_some b5.box hD
        refine ⟨rfl, ?_⟩
        dsimp only [tYes]
        refine iteT ⟨_, rfl, _, rfl, b, 6, rfl, by decide, by decide, bs.box, fun k H8 hk b8 => ?_⟩
        obtain ⟨y, hy, hm⟩ := pick_str (l := smallM) hk
        refine ⟨p, _, k, _, rfl, rfl, .of (b8.get np (bs.get np (b5.get np upd_same))), hy, ds.map V.str, b8.get nD hd, by rw [List.length_map]; omega, ⟨ds ++ [y], ?_, ?_, ?_⟩, (bs.trans b8).at_ hD nD _⟩
        · rw [upd_same, List.map_append] <;> rfl
        · rw [List.length_append, hl] <;> rfl
        · intro d hd'
          rcases List.mem_append.mp hd' with z | z
          · exact ho d z
          · obtain rfl := List.mem_singleton.mp z
            exact small_m _ hm
      · rintro H8 ⟨⟨ds, hd, hl, ho⟩, b8⟩
        have nD := box_some b5.box hD
        have h8 := (h5.step nF b5).step nF b8
        have nDF : D ≠ F := fun e => by rw [e, b5.get nF h5.six] at hD; cases hD
        exact ⟨_, rfl, F, _, 3, 3, rfl, rfl, h8.six, rfl, ⟨_, _, _, rfl⟩, { m with makers := ds }, D, okm_of (ok 0 (by decide)) (ok 1 (by decide)) (ok 2 (by decide)) ⟨by show ds.length ≤ 3; omega, ho⟩ (ok 4 (by decide)) (ok 5 (by decide)), .set (m' := { m with makers := ds }) nF fF h8.bs nD nDF hd rfl⟩
    · refine ⟨_, rfl, rfl, _, rfl, iteF ⟨_, rfl, rfl, _, rfl, iteF ⟨_, rfl, rfl, _, rfl, iteF ⟨_, rfl, rfl, _, rfl, iteF ⟨(by decide : 4 ≤ sizeLine), fun p1 hp1 => ⟨(by decide : 4 ≤ sizeLine), fun p2 hp2 => ⟨(by decide : 2 ≤ sizeLine), fun p3 hp3 => ?_⟩⟩⟩⟩⟩⟩⟩
      have h5 := hh.new nF hp1 (.lst (lateY.map V.int))
      have h6 := h5.new nF hp2 (.lst (lateC.map V.int))
      have h7 := h6.new nF hp3 (.lst [.ref p1, .ref p2])
      have n1 := box_some hh.bs.box hp1
      have s1 := (same_new hp3 (u := .lst [.ref p1, .ref p2])) _ _ ((same_new hp2 (u := .lst (lateC.map V.int))) _ _ (upd_same (H := H4) (a := p1) (o := .lst (lateY.map V.int))))
      refine ⟨_, rfl, _, _, rfl, rfl, p3, _, _, _, rfl, rfl, .of upd_same, rfl, _, rfl, _, rfl, b, 4, rfl, by decide, by decide, h7.bs.box, fun j H5 hj b5 => ?_⟩
      obtain ⟨x, hx, hm⟩ := pick_int (l := lateY) hj
      have h8 := h7.step nF b5
      exact ⟨p1, _, j, _, rfl, rfl, .of (b5.get n1 s1), hx, _, rfl, _, rfl, F, _, 4, 4, rfl, rfl, h8.six, rfl, ⟨_, _, _, rfl⟩, { m with year := some x }, t, okm_of (ok 0 (by decide)) (ok 1 (by decide)) (ok 2 (by decide)) (ok 3 (by decide)) (late_y x hm) (ok 5 (by decide)), .set (m' := { m with year := some x }) nF fF h8.bs h8.nt h8.ntF h8.mak rfl⟩
    · refine ⟨_, rfl, rfl, _, rfl, iteF ⟨_, rfl, rfl, _, rfl, iteF ⟨_, rfl, rfl, _, rfl, iteF ⟨_, rfl, rfl, _, rfl, iteF ⟨(by decide : 4 ≤ sizeLine), fun p1 hp1 => ⟨(by decide : 4 ≤ sizeLine), fun p2 hp2 => ⟨(by decide : 2 ≤ sizeLine), fun p3 hp3 => ?_⟩⟩⟩⟩⟩⟩⟩
      have h5 := hh.new nF hp1 (.lst (lateY.map V.int))
      have h6 := h5.new nF hp2 (.lst (lateC.map V.int))
      have h7 := h6.new nF hp3 (.lst [.ref p1, .ref p2])
      have n2 := box_some h5.bs.box hp2
      have s2 := (same_new hp3 (u := .lst [.ref p1, .ref p2])) _ _ (upd_same (H := upd H4 p1 (.lst (lateY.map V.int))) (a := p2) (o := .lst (lateC.map V.int)))
      refine ⟨_, rfl, _, _, rfl, rfl, p3, _, _, _, rfl, rfl, .of upd_same, rfl, _, rfl, _, rfl, b, 4, rfl, by decide, by decide, h7.bs.box, fun j H5 hj b5 => ?_⟩
      obtain ⟨x, hx, hm⟩ := pick_int (l := lateC) hj
      have h8 := h7.step nF b5
      exact ⟨p2, _, j, _, rfl, rfl, .of (b5.get n2 s2), hx, _, rfl, _, rfl, F, _, 5, 5, rfl, rfl, h8.six, rfl, ⟨_, _, _, rfl⟩, { m with copy := some x }, t, okm_of (ok 0 (by decide)) (ok 1 (by decide)) (ok 2 (by decide)) (ok 3 (by decide)) (ok 4 (by decide)) (late_c x hm), .set (m' := { m with copy := some x }) nF fF h8.bs h8.nt h8.ntF h8.mak rfl⟩
  · rintro σ2 H2 ⟨⟨x1, x2, x3, rfl⟩, m, t, ok, hh⟩
    exact ⟨_, rfl, q F m _ ok (hh.parts nF) fF hh.bs⟩
theorem law_small_ (D : DefT K mg "_law_small" sLSmall []) (T : Free mg) (G : C8.Cal P w K mg base 1 "_law_take" spTake []) : C8.Cal P w K mg base 2 "_law_small" spLSmall [] :=
  cal_of D scLSmall (fun _ _ _ _ _ _ us hl => match us, hl with | [_], _ => rfl) (fun vs H Q E h => by
    obtain ⟨_, rfl, _⟩ := h
    rfl) (b_lsmall T G)
end
end S
end

section
set_option maxRecDepth 100000
set_option maxHeartbeats 4000000
/-! A short text, some times. -/
namespace S
open PySem PySem.Spec PyProof.Rows L2 SM
section
variable {X : Cx}
def rRepS : R2 := fun x y H Q => ∃ (z : Str) (n : Int), x = .str z ∧ y = .int n ∧ z.length ≤ 16 ∧ 0 ≤ n ∧ n ≤ 1048576 ∧ Q (.str (Txt.mul z n)) H
theorem op_rep_str : OpR X (binaryOp .Mult) rRepS := by
  intro pins s σ H x y v u Q I rx ry h
  obtain ⟨z, n, rfl, rfl, hz, h0, h1, q⟩ := h
  obtain ⟨t, rfl⟩ := rx
  obtain ⟨t', rfl⟩ := ry
  exact PySem.W.KXi.mul (n := z.length) rfl hz (by omega) (by omega) fun t' k _ _ => ⟨.str _, H, I.tok _, ⟨_, rfl⟩, q⟩
theorem mul_zeros (n : Nat) : cs (Txt.mul (Str.ofString "0") (n : Int)) = List.replicate n 48 := by
  have e : Str.ofString "0" = ⟨#[48]⟩ := by decide +kernel
  rw [e]
  have := PyProof.Rows.mul_one_list 48 (n : Int)
  rw [Int.toNat_natCast] at this
  exact this
end
end S
end

section
set_option maxRecDepth 100000
set_option maxHeartbeats 4000000
/-! Texts of near parts. -/
namespace S
open PySem PySem.Spec PyProof.Rows L2 SM
theorem cs_cut (z : Str) (lo hi : Option Int) : cs (cutS z lo hi) = ((cs z).drop (HT.sIx z.length 0 lo)).take (HT.sIx z.length z.length hi - HT.sIx z.length 0 lo) := by
  unfold cutS cs
  rfl
theorem cut_mem {z : Str} {lo hi : Option Int} {c : Nat} (h : c ∈ cs (cutS z lo hi)) : c ∈ cs z := by
  rw [cs_cut] at h
  exact List.mem_of_mem_drop (List.mem_of_mem_take h)
theorem cut_rest {x : Str} {a : Nat} {l : List Nat} (e : cs x = a :: l) : cs (cutS x (some 1) none) = l := by
  have hl : x.length = l.length + 1 := by rw [cs_len, e]; rfl
  rw [cs_cut, e, hl]
  have e1 : HT.sIx (l.length + 1) 0 (some 1) = 1 := by
    rw [show (1 : Int) = ((1 : Nat) : Int) from rfl, HT.sIx_nat]
    omega
  rw [e1, HT.sIx_none, List.drop_succ_cons, List.drop_zero]
  exact List.take_of_length_le (by omega)
theorem cut_one {x : Str} {a : Nat} {l : List Nat} (e : cs x = a :: l) : cs (cutS x none (some 1)) = [a] := by
  have hl : x.length = l.length + 1 := by rw [cs_len, e]; rfl
  rw [cs_cut, e, hl]
  have e1 : HT.sIx (l.length + 1) (l.length + 1) (some 1) = 1 := by
    rw [show (1 : Int) = ((1 : Nat) : Int) from rfl, HT.sIx_nat]
    omega
  rw [e1, HT.sIx_none, List.drop_zero]
  rfl
theorem cut_38 (x : Str) : cs (cutS x (some (-38)) none) = (cs x).drop (x.length - 38) := by
  rw [cs_cut]
  have e1 : HT.sIx x.length 0 (some (-38)) = x.length - 38 := by
    show (if (-38 : Int) < 0 then ((-38 : Int) + (x.length : Nat)).toNat else min ((-38 : Int)).toNat x.length) = _
    rw [if_pos (by decide)]
    omega
  rw [e1, HT.sIx_none]
  refine List.take_of_length_le ?_
  rw [List.length_drop, ← cs_len]
  exact Nat.le_refl _
theorem drop_last {l : List Nat} {n : Nat} (h : n < l.length) : (l.drop n).getLast? = l.getLast? := by
  rw [List.getLast?_drop, if_neg (by omega)]
theorem last_ix {x : Str} {c : Nat} (h : (cs x).getLast? = some c) : atI x.cps.toList (-1) = some c := by
  have ne : cs x ≠ [] := fun e => by rw [e] at h; cases h
  have hl : 0 < (cs x).length := List.length_pos_iff.mpr ne
  unfold atI ixN
  rw [if_neg (by decide), if_pos (by show -(((cs x).length : Nat) : Int) ≤ -1; omega)]
  rw [List.getLast?_eq_getElem?] at h
  show (cs x)[((-1 : Int) + ((cs x).length : Nat)).toNat]? = some c
  rw [← h]
  congr 1
  omega
/-! ### looser marks -/
def LooseM (n : Nat) (x : Str) : Prop := ∃ a l, cs x = a :: l ∧ Low a ∧ l ≠ [] ∧ NumText.AllDigits l ∧ l.getLast? ≠ some 48 ∧ l.length ≤ n
structure Loose (n : Nat) (m : Mk) : Prop where
  l : OkLetters m.letters
  nu : 1 ≤ m.number ∧ m.number ≤ 9999
  pd : NumText.AllDigits (cs m.points)
  pl : m.points.length ≤ n
  ml : m.makers.length ≤ 3
  ms : ∀ x ∈ m.makers, LooseM n x
  y : OkYear m.year
  c : OkCopy m.copy
theorem loose_m {x : Str} (h : OkMaker x) : LooseM 40 x := by
  obtain ⟨a, l, e, h1, h2, h3, h4, h5⟩ := h
  exact ⟨a, l, e, h1, h2, h3, h4, h5⟩
theorem pts_digits {x : Str} (h : OkPoints x) : NumText.AllDigits (cs x) ∧ x.length ≤ 40 := by
  rcases h with rfl | ⟨_, h2, _, h4⟩
  · exact ⟨by rw [emp_cs]; exact fun c hc => absurd hc List.not_mem_nil, by rw [emp_len]; decide⟩
  · exact ⟨h2, by rw [cs_len]; exact h4⟩
theorem loose_of {m : Mk} (ok : OkM m) : Loose 40 m :=
  have h2 := pts_digits (ok 2 (by decide))
  ⟨ok 0 (by decide), ok 1 (by decide), h2.1, h2.2, (ok 3 (by decide)).1, fun x hx => loose_m ((ok 3 (by decide)).2 x hx), ok 4 (by decide), ok 5 (by decide)⟩
theorem LooseM.mono {n k : Nat} (h : n ≤ k) {x : Str} (L : LooseM n x) : LooseM k x := by
  obtain ⟨a, l, e, h1, h2, h3, h4, h5⟩ := L
  exact ⟨a, l, e, h1, h2, h3, h4, Nat.le_trans h5 h⟩
theorem Loose.mono {n k : Nat} (h : n ≤ k) {m : Mk} (L : Loose n m) : Loose k m :=
  ⟨L.l, L.nu, L.pd, Nat.le_trans L.pl h, L.ml, fun x hx => (L.ms x hx).mono h, L.y, L.c⟩
theorem dig_app {a b : List Nat} (h1 : NumText.AllDigits a) (h2 : NumText.AllDigits b) : NumText.AllDigits (a ++ b) := fun c hc => (List.mem_append.mp hc).elim (h1 c) (h2 c)
theorem dig_one {c : Nat} (h : 48 ≤ c ∧ c ≤ 57) : NumText.AllDigits [c] := fun x hx => by obtain rfl := List.mem_singleton.mp hx; exact h
theorem pt_zeros {x : Str} {k : Nat} (h : NumText.AllDigits (cs x)) : NumText.AllDigits (cs (Txt.mul (Str.ofString "0") (k : Int) ++ x)) ∧ (Txt.mul (Str.ofString "0") (k : Int) ++ x).length = k + x.length := by
  refine ⟨?_, ?_⟩
  · rw [cs_app, mul_zeros]
    refine dig_app (fun c hc => ?_) h
    obtain rfl := List.eq_of_mem_replicate hc
    decide
  · rw [cs_len, cs_app, mul_zeros, List.length_append, List.length_replicate, ← cs_len]
theorem mul_len (k : Nat) : (Txt.mul (Str.ofString "0") (k : Int)).length = k := by
  rw [cs_len, mul_zeros, List.length_replicate]
theorem pt_end {x y : Str} {c : Nat} (hy : cs y = [c]) (hc : 48 ≤ c ∧ c ≤ 57) (h : NumText.AllDigits (cs x)) : NumText.AllDigits (cs (x ++ y)) ∧ (x ++ y).length = x.length + 1 := by
  refine ⟨?_, ?_⟩
  · rw [cs_app, hy]
    exact dig_app h (dig_one hc)
  · rw [cs_len, cs_app, hy, List.length_append, ← cs_len]; rfl
theorem pt_cut {x : Str} {lo hi : Option Int} (h : NumText.AllDigits (cs x)) : NumText.AllDigits (cs (cutS x lo hi)) := fun c hc => h c (cut_mem hc)
/-- the maker's three neighbours -/
theorem mk_zero {n : Nat} {x z y w : Str} {a : Nat} {l : List Nat} (e : cs x = a :: l) (ha : Low a) (hl : l ≠ []) (hd : NumText.AllDigits l) (h48 : l.getLast? ≠ some 48) (hn : l.length ≤ n) (ez : cs z = [a]) (ey : cs y = [48]) (ew : cs w = l) : LooseM (n + 1) (z ++ y ++ w) := by
  refine ⟨a, 48 :: l, by rw [cs_app, cs_app, ez, ey, ew]; rfl, ha, List.cons_ne_nil _ _, dig_app (a := [48]) (dig_one ⟨by decide, by decide⟩) hd, ?_, by rw [List.length_cons]; omega⟩
  rw [List.getLast?_cons]
  cases l with
  | nil => exact absurd rfl hl
  | cons b l =>
    rw [List.getLast?_cons] at h48 ⊢
    exact h48
theorem mk_end {n : Nat} {x y : Str} {a c : Nat} {l : List Nat} (e : cs x = a :: l) (ha : Low a) (hd : NumText.AllDigits l) (hn : l.length ≤ n) (ey : cs y = [c]) (hc : 49 ≤ c ∧ c ≤ 57) : LooseM (n + 1) (x ++ y) := by
  refine ⟨a, l ++ [c], by rw [cs_app, e, ey]; rfl, ha, by simp, dig_app hd (dig_one ⟨by omega, hc.2⟩), ?_, by rw [List.length_append]; exact Nat.succ_le_succ hn⟩
  rw [List.getLast?_append, List.getLast?_singleton]
  intro q
  have := Option.some.inj q
  omega
theorem mk_fin {n : Nat} {x z w : Str} {a : Nat} {l : List Nat} (e : cs x = a :: l) (ha : Low a) (hl : l ≠ []) (hd : NumText.AllDigits l) (h48 : l.getLast? ≠ some 48) (ez : cs z = [a]) (ew : cs w = l.drop (l.length - 38)) : OkMaker (z ++ w) := by
  have h0 : 0 < l.length := List.length_pos_iff.mpr hl
  have h1 : l.length - 38 < l.length := by omega
  refine ⟨a, l.drop (l.length - 38), by rw [cs_app, ez, ew]; rfl, ha, ?_, fun c hc => hd c (List.mem_of_mem_drop hc), by rw [drop_last h1]; exact h48, by rw [List.length_drop]; omega⟩
  intro q
  have : (l.drop (l.length - 38)).length = 0 := by rw [q]; rfl
  rw [List.length_drop] at this
  omega
theorem pt_fin {x : Str} (hd : NumText.AllDigits (cs x)) (h : x = emp ∨ (cs x).getLast? ≠ some 48) : OkPoints (cutS x (some (-38)) none) := by
  by_cases e : cs x = []
  · refine .inl (cs_emp.mp ?_)
    rw [cut_38, e, List.drop_nil]
  · have h48 : (cs x).getLast? ≠ some 48 := h.elim (fun z => absurd (cs_emp.mpr z) e) id
    have h0 : 0 < (cs x).length := List.length_pos_iff.mpr e
    have h1 : x.length - 38 < (cs x).length := by rw [← cs_len] at h0 ⊢; omega
    refine .inr ⟨?_, pt_cut hd, ?_, ?_⟩
    · intro q
      rw [cut_38] at q
      have : ((cs x).drop (x.length - 38)).length = 0 := by rw [q]; rfl
      rw [List.length_drop] at this
      omega
    · rw [cut_38, drop_last h1]
      exact h48
    · rw [cut_38, List.length_drop, ← cs_len]
      omega
/-! ### lists of texts -/
theorem cutV_to {xs : List V} {k : Nat} (h : k ≤ xs.length) : cutV xs none (some (k : Int)) = xs.take k := by
  unfold cutV
  rw [HT.sIx_none, HT.sIx_nat, List.drop_zero, Nat.min_eq_left h, Nat.sub_zero]
theorem cutV_fr {xs : List V} {k : Nat} (h : k ≤ xs.length) : cutV xs (some (k : Int)) none = xs.drop k := by
  unfold cutV
  rw [HT.sIx_nat, HT.sIx_none, Nat.min_eq_left h]
  exact List.take_of_length_le (by rw [List.length_drop]; exact Nat.le_refl _)
theorem low_asc {x : Str} (h : ∀ c ∈ cs x, c < 1114112) : PySem.PyData.strOk x = true := by
  unfold PySem.PyData.strOk
  rw [Array.all_eq_true_iff_forall_mem]
  exact fun c hc => decide_eq_true (h c (Array.mem_toList_iff.mpr hc))
theorem strs_can : ∀ l : List Str, (∀ x ∈ l, Asc x) → PyData.canLayAll0 (l.map PyData.str) = true ∧ PyData.depthAll (l.map PyData.str) = 0
  | [], _ => ⟨rfl, rfl⟩
  | x :: l, h => by
    obtain ⟨a, b⟩ := strs_can l fun y hy => h y (List.mem_cons_of_mem _ hy)
    refine ⟨?_, ?_⟩
    · show (PySem.PyData.strOk x && PyData.canLayAll0 _) = true
      rw [low_asc (h x List.mem_cons_self), a] <;> rfl
    · show max 0 (PyData.depthAll _) = 0
      rw [b] <;> rfl
theorem strs_shaped {l : List Str} (h : ∀ x ∈ l, Asc x) : SeqAt.shaped (.list (l.map PyData.str)) = true := by
  obtain ⟨a, b⟩ := strs_can l h
  unfold SeqAt.shaped
  have e1 : PyData.canLay0 (.list (l.map PyData.str)) = true := a
  have e2 : PyData.depth (.list (l.map PyData.str)) = 1 := by
    show PyData.depthAll _ + 1 = 1
    rw [b]
  rw [e1, e2] <;> rfl
theorem strs_nil (l : List Str) : PyData.eqv (.list (l.map PyData.str)) (.list []) = decide (l = []) := by
  cases l with
  | nil => rfl
  | cons a r =>
    simp [PyData.eqv]
    rfl
theorem loose_asc {n : Nat} {x : Str} (h : LooseM n x) : Asc x := by
  obtain ⟨a, l, e, h1, _, h3, _, _⟩ := h
  intro c hc
  rw [e] at hc
  rcases List.mem_cons.mp hc with rfl | hc
  · have := h1.2; omega
  · have := (h3 c hc).2; omega
end S
end

section
set_option maxRecDepth 100000
set_option maxHeartbeats 4000000
/-! Defs: the law's near parts. -/
namespace S
open PySem PySem.Spec PyProof.Rows L2 SM
section
variable {P : Program} {w : World} {K : PySem.W.Frag} {mg : Str → Option Value} {base : Heap} {CM CR PK : Addr}
/-- the other list of six, beside the box and the list that is being changed -/
structure Keep (b F O : Addr) (H' : Hp) (mo : Mk) (t : Addr) : Prop where
  nO : O ≠ b
  nOF : O ≠ F
  nt : t ≠ b
  ntF : t ≠ F
  six : H' O = some (.lst (sixV mo t))
  mak : H' t = some (.lst (mo.makers.map V.str))
theorem Keep.step {b F O : Addr} {H' H2 : Hp} {m : Mk} {t : Addr} (h : Keep b F O H' m t) (s : BS b H' H2) : Keep b F O H2 m t :=
  ⟨h.nO, h.nOF, h.nt, h.ntF, s.get h.nO h.six, s.get h.nt h.mak⟩
theorem Keep.new {b F O : Addr} {H' : Hp} {m : Mk} {t : Addr} (h : Keep b F O H' m t) {p : Addr} (hp : H' p = none) (u : HO) : Keep b F O (upd H' p u) m t :=
  ⟨h.nO, h.nOF, h.nt, h.ntF, same_new hp _ _ h.six, same_new hp _ _ h.mak⟩
theorem Keep.set {b F O : Addr} {H' : Hp} {m : Mk} {t : Addr} (h : Keep b F O H' m t) (u : HO) : Keep b F O (upd H' F u) m t :=
  ⟨h.nO, h.nOF, h.nt, h.ntF, by rw [upd_ne h.nOF]; exact h.six, by rw [upd_ne h.ntF]; exact h.mak⟩
def Near (b F O : Addr) (H H' : Hp) (mo : Mk) (n : Nat) : Prop := ∃ m t to, Loose n m ∧ Hold b F H H' m t ∧ Keep b F O H' mo to
theorem near_mks {b F O : Addr} {H H' : Hp} {m mo : Mk} {n k : Nat} {t to D : Addr} {ys : List Str} (nF : F ≠ b) (fF : H F = none) (L : Loose n m) (h : Hold b F H H' m t) (kp : Keep b F O H' mo to) (hnk : n ≤ k)
    (n1 : D ≠ b) (n2 : D ≠ F) (hD : H' D = some (.lst (ys.map V.str))) (hl : ys.length ≤ 3) (hy : ∀ x ∈ ys, LooseM k x) : Near b F O H (upd H' F (.lst ((sixV m t).set 3 (.ref D)))) mo k :=
  have L' := L.mono hnk
  ⟨{ m with makers := ys }, D, to, ⟨L'.l, L'.nu, L'.pd, L'.pl, hl, hy, L'.y, L'.c⟩, Hold.set (m' := { m with makers := ys }) nF fF h.bs n1 n2 hD rfl, kp.set _⟩
theorem near_pts {b F O : Addr} {H H' : Hp} {m mo : Mk} {n k : Nat} {t to : Addr} {x : Str} (nF : F ≠ b) (fF : H F = none) (L : Loose n m) (h : Hold b F H H' m t) (kp : Keep b F O H' mo to) (hnk : n ≤ k)
    (h1 : NumText.AllDigits (cs x)) (h2 : x.length ≤ k) : Near b F O H (upd H' F (.lst ((sixV m t).set 2 (.str x)))) mo k :=
  have L' := L.mono hnk
  ⟨{ m with points := x }, t, to, ⟨L'.l, L'.nu, h1, h2, L'.ml, L'.ms, L'.y, L'.c⟩, Hold.set (m' := { m with points := x }) nF fF h.bs h.nt h.ntF h.mak rfl, kp.set _⟩
theorem Near.mono {b F O : Addr} {H H' : Hp} {mo : Mk} {n k : Nat} (h : n ≤ k) (N : Near b F O H H' mo n) : Near b F O H H' mo k := by
  obtain ⟨m, t, to, L, r⟩ := N
  exact ⟨m, t, to, L.mono h, r⟩
theorem cutV_1 (xs : List V) : cutV xs (some 1) none = xs.drop 1 := by
  cases xs with
  | nil => rfl
  | cons a l => exact cutV_fr (k := 1) (by simp)
theorem near_put {b F O : Addr} {H H' : Hp} {m mo : Mk} {n : Nat} {t to : Addr} (nF : F ≠ b) (fF : H F = none) (L : Loose n m) (h : Hold b F H H' m t) (kp : Keep b F O H' mo to) (hn : 40 ≤ n) (ok : OkM mo) {k : Nat} (hk : k < 6) :
    ∃ v, (sixV mo to)[k]? = some v ∧ Near b F O H (upd H' F (.lst ((sixV m t).set k v))) mo n := by
  have M := (loose_of ok).mono hn
  have e : k = 0 ∨ k = 1 ∨ k = 2 ∨ k = 3 ∨ k = 4 ∨ k = 5 := by omega
  rcases e with rfl | rfl | rfl | rfl | rfl | rfl
  · exact ⟨_, rfl, { m with letters := mo.letters }, t, to, ⟨M.l, L.nu, L.pd, L.pl, L.ml, L.ms, L.y, L.c⟩, Hold.set (m' := { m with letters := mo.letters }) nF fF h.bs h.nt h.ntF h.mak rfl, kp.set _⟩
  · exact ⟨_, rfl, { m with number := mo.number }, t, to, ⟨L.l, M.nu, L.pd, L.pl, L.ml, L.ms, L.y, L.c⟩, Hold.set (m' := { m with number := mo.number }) nF fF h.bs h.nt h.ntF h.mak rfl, kp.set _⟩
  · exact ⟨_, rfl, { m with points := mo.points }, t, to, ⟨L.l, L.nu, M.pd, M.pl, L.ml, L.ms, L.y, L.c⟩, Hold.set (m' := { m with points := mo.points }) nF fF h.bs h.nt h.ntF h.mak rfl, kp.set _⟩
  · exact ⟨_, rfl, { m with makers := mo.makers }, to, to, ⟨L.l, L.nu, L.pd, L.pl, M.ml, M.ms, L.y, L.c⟩, Hold.set (m' := { m with makers := mo.makers }) nF fF h.bs kp.nt kp.ntF kp.mak rfl, kp.set _⟩
  · exact ⟨_, rfl, { m with year := mo.year }, t, to, ⟨L.l, L.nu, L.pd, L.pl, L.ml, L.ms, M.y, L.c⟩, Hold.set (m' := { m with year := mo.year }) nF fF h.bs h.nt h.ntF h.mak rfl, kp.set _⟩
  · exact ⟨_, rfl, { m with copy := mo.copy }, t, to, ⟨L.l, L.nu, L.pd, L.pl, L.ml, L.ms, L.y, M.c⟩, Hold.set (m' := { m with copy := mo.copy }) nF fF h.bs h.nt h.ntF h.mak rfl, kp.set _⟩
def spLNear : Sp := fun vs H Q _ => ∃ (b a : Addr) (m : Mk), vs = [.ref b, .ref a] ∧ BoxAt H b ∧ OkM m ∧ PartsAt (del b H) a m ∧ ∀ (a : Addr) (m : Mk) H', OkM m → PartsAt (del b H') a m → H a = none → BS b H H' → Q (.ref a) H'
abbrev sLNear : Stmt := top 95
abbrev nLNear : List Str := ["_law_box_here", "_law_parts_here", "_law_found", "_law_other_here", "_law_turn", "_law_at", "_law_way", "_law_k", "_law_hand", "_law_put"]
theorem scLNear : FnScope nLNear ["_law_box_here", "_law_parts_here"] (defScope sLNear) := ⟨rfl, rfl, rfl, by decide +kernel, rfl, by decide +kernel, by decide +kernel⟩
theorem b_lnear (T : Free mg) (G_take : C8.Cal P w K mg base 1 "_law_take" spTake []) (G_parts : C8.Cal P w K mg base 4 "_law_parts" spLParts []) : Body P w K mg base 4 nLNear "_law_near" sLNear spLNear := by
  intro f cdv A outer s H vs Q E hr h
  obtain ⟨b, a, m0, rfl, hb, ok0, ⟨t0, ha, ht0⟩, q⟩ := h
  have nd := scLNear.nd
  have hu := hu_of hr
  have sz := sizeLine_eq
  refine ⟨_, (pss_cons (ps_set (i := 2) nd rfl (Or.inl rfl) (pe_callTy call_list_of (by rfl) T.list boot_list (pa_cons (pv 1) pa_nil)))
      (pss_cons (ps_set (i := 3) nd rfl (Or.inl rfl) (C8.pe_c G_parts hr (by decide) rfl (pa_cons (pv 0) pa_nil)))
      (pss_cons (ps_for PassesOwn.never rfl (pi_range1 rfl T.range (pa_cons (pe_op op_add pe_int (C8.pe_c G_take hr (by decide) rfl (pa_cons (pv 0) (pa_cons pe_int pa_nil)))) pa_nil)) (pg_name (i := 4) nd rfl (Or.inl rfl))
        (pss_cons (ps_set (i := 5) nd rfl (Or.inl rfl) (C8.pe_c G_take hr (by decide) rfl (pa_cons (pv 0) (pa_cons pe_int pa_nil))))
        (pss_cons (ps_set (i := 6) nd rfl (Or.inl rfl) (C8.pe_c G_take hr (by decide) rfl (pa_cons (pv 0) (pa_cons pe_int pa_nil))))
        (pss_one (ps_if (PW.pt (pw_and (pt_cmpR op_eq (pv 5) pe_int (nomark _)) (pw_and1 (pt_cmpR op_gt (pv 6) pe_int (nomark _)))))
          (pss_one (ps_asg (pe_ix ix_list (pe_lst (pa_cons (pe_op op_add_str (pe_op op_rep_str pe_str (C8.pe_c G_take hr (by decide) rfl (pa_cons (pv 0) (pa_cons pe_int pa_nil)))) (pe_ix ix_list (pv 2) pe_int (fun _ _ => rfl))) (pa_cons (pe_op op_add_str (pe_ix ix_list (pv 2) pe_int (fun _ _ => rfl)) pe_str) (pa_cons (pe_op op_add_str (pe_slice sl_str (pe_ix ix_list (pv 2) pe_int (fun _ _ => rfl)) po_none (po_some (pe_un un_neg pe_int))) pe_str) pa_nil)))) (pe_op op_sub (pv 6) pe_int) (fun _ _ => rfl)) (pg_sub (pv 2) pe_int set_list)))
          (pss_one (ps_if (PW.pt (pw_and (pt_cmpR op_eq (pv 5) pe_int (nomark _)) (pw_and (pt_cmpR op_gt (pv 6) pe_int (nomark _)) (pw_and1 (pt_cmpR (op_neD hr.units) (pe_ix ix_list (pv 2) pe_int (fun _ _ => rfl)) (pe_lst pa_nil) (nomark _))))))
            (pss_cons (ps_set (i := 7) nd rfl (Or.inl rfl) (C8.pe_c G_take hr (by decide) rfl (pa_cons (pv 0) (pa_cons (pe_callB call_len_seq (by rfl) T.len boot_len (pa_cons (pe_ix ix_list (pv 2) pe_int (fun _ _ => rfl)) pa_nil)) pa_nil))))
            (pss_cons (ps_set (i := 8) nd rfl (Or.inl rfl) (pe_ix ix_list (pe_ix ix_list (pv 2) pe_int (fun _ _ => rfl)) (pv 7) (fun _ _ => rfl)))
            (pss_cons (ps_set (i := 9) nd rfl (Or.inl rfl) (pe_ix ix_list (pe_lst (pa_cons (pe_op op_add_str (pe_op op_add_str (pe_ix ix_str (pv 8) pe_int (fun _ _ => rfl)) pe_str) (pe_slice sl_str (pv 8) (po_some pe_int) po_none)) (pa_cons (pe_op op_add_str (pv 8) pe_str) (pa_cons (pe_op op_add_str (pe_slice sl_str (pv 8) po_none (po_some pe_int)) pe_str) pa_nil)))) (pe_op op_sub (pv 6) pe_int) (fun _ _ => rfl)))
            (pss_one (ps_asg (pe_op op_cat (pe_op op_cat (pe_slice sl_list (pe_ix ix_list (pv 2) pe_int (fun _ _ => rfl)) po_none (po_some (pv 7))) (pe_lst (pa_cons (pv 9) pa_nil))) (pe_slice sl_list (pe_ix ix_list (pv 2) pe_int (fun _ _ => rfl)) (po_some (pe_op op_add (pv 7) pe_int)) po_none)) (pg_sub (pv 2) pe_int set_list))))))
            (pss_one (ps_if (PW.pt (pw_and (pt_cmpR op_eq (pv 5) pe_int (nomark _)) (pw_and1 (pt_cmpR op_eq (pv 6) pe_int (nomark _)))))
              (pss_one (ps_asg (pe_slice sl_list (pe_ix ix_list (pv 2) pe_int (fun _ _ => rfl)) (po_some pe_int) po_none) (pg_sub (pv 2) pe_int set_list)))
              (pss_one (ps_asg (pe_ix ix_list (pv 3) (pv 5) (fun _ _ => rfl)) (pg_sub (pv 2) (pv 5) set_list))))))))))))
      (C8.pss_cut (ps_if (PW.pt (pw_and (pt_cmpR op_ne (pe_ix ix_list (pv 2) pe_int (fun _ _ => rfl)) pe_str (nomark _)) (pw_and1 (pt_cmpR op_eq (pe_ix ix_str (pe_ix ix_list (pv 2) pe_int (fun _ _ => rfl)) (pe_un un_neg pe_int) (fun _ _ => rfl)) pe_str (nomark _)))))
        (pss_one (ps_asg (pe_op op_add_str (pe_ix ix_list (pv 2) pe_int (fun _ _ => rfl)) pe_str) (pg_sub (pv 2) pe_int set_list)))
        pss_nil)
      (pss_cons (ps_asg (pe_slice sl_str (pe_ix ix_list (pv 2) pe_int (fun _ _ => rfl)) (po_some (pe_un un_neg pe_int)) po_none) (pg_sub (pv 2) pe_int set_list))
      (pss_cons (ps_asg (pe_lc (own := [("_law_hand", 8)]) (g := gName 8) (tt := tYes) (by rfl) nd (pi_list (pe_ix ix_list (pv 2) pe_int (fun _ _ => rfl))) (blkOk_by (own := [("_law_hand", 8)]) (N := nLNear) (sc := defScope sLNear) (by decide +kernel)) (fun _ _ _ _ _ => (pg_name (i := 8) nd rfl (Or.inl rfl))) (fun _ _ _ _ _ => pts_nil) (fun _ _ _ _ _ => (pe_op op_add_str (pe_ix (show IxR _ rIxS from ix_str) (pv 8) pe_int (fun _ _ => rfl)) (pe_slice (show SlR _ rSlS from sl_str) (pe_slice (show SlR _ rSlS from sl_str) (pv 8) (po_some pe_int) po_none) (po_some (pe_un un_neg pe_int)) po_none)))) (pg_sub (pv 2) pe_int set_list))
      (pss_one (ps_ret (pv 2))))))))), ?_⟩
  have nab : a ≠ b := fun e => by rw [e, del_at] at ha; cases ha
  have ha' := del_sub b H _ _ ha
  have nt0 : t0 ≠ b := fun e => by rw [e, del_at] at ht0; cases ht0
  have ht0' := del_sub b H _ _ ht0
  refine ⟨_, rfl, a, _, rfl, .inl (.of ha'), fun F fF => ?_⟩
  have nF := box_some hb fF
  have H0 : Hold b F H (upd H F (.lst (sixV m0 t0))) m0 t0 := .set nF fF (.refl hb) nt0 (ne_of_none ht0' fF) ht0' rfl
  refine ⟨_, rfl, b, rfl, H0.bs.box, fun O mo H1 oko hPO fO b1 => ?_⟩
  obtain ⟨to, hO, hto⟩ := hPO
  have K1 : Keep b F O H1 mo to := by
    refine ⟨box_some H0.bs.box fO, (fun e => by rw [e, upd_same] at fO; cases fO), (fun e => by rw [e, del_at] at hto; cases hto), (fun e => ?_), del_sub b H1 _ _ hO, del_sub b H1 _ _ hto⟩
    have z := del_sub b H1 _ _ hto
    rw [e, b1.get nF H0.six] at z
    injection z with z
    injection z with z
    have z2 := congrArg List.length z
    rw [List.length_map] at z2
    have : mo.makers.length ≤ 3 := (oko 3 (by decide)).1
    have : (sixV m0 t0).length = 6 := rfl
    omega
  have N1 : Near b F O H H1 mo 40 := ⟨m0, t0, to, loose_of ok0, H0.step nF b1, K1⟩
  refine ⟨_, rfl, b, 3, rfl, by decide, by decide, b1.box, fun k0 H2 hk0 b2 => ⟨_, _, rfl, rfl, _, rfl, by omega, by omega, for_it walk_range (fun i σ' H' => (∃ x4 x5 x6 x7 x8 x9, σ' = [some (.ref b), some (.ref a), some (.ref F), some (.ref O), x4, x5, x6, x7, x8, x9]) ∧ Near b F O H H' mo (40 + 3 * i)) ?_ (fun _ _ _ _ _ => True.intro) ?_ ?_⟩⟩
  · obtain ⟨m, t, to, L, hh, kp⟩ := N1
    exact ⟨⟨_, _, _, _, _, _, rfl⟩, m, t, to, L, hh.step nF b2, kp.step b2⟩
  · rintro i x σ2 H3 H4 hi ⟨⟨x4, x5, x6, x7, x8, x9, rfl⟩, m, t, to, L, hh, kp⟩ ⟨rfl, rfl⟩
    refine ⟨_, rfl, b, 6, rfl, by decide, by decide, hh.bs.box, fun k H5 hk b5 => ?_⟩
    refine ⟨_, rfl, b, 4, rfl, by decide, by decide, b5.box, fun y H6 hy b6 => ?_⟩
    replace hh := (hh.step nF b5).step nF b6
    replace kp := (kp.step b5).step b6
    have up : 40 + 3 * i ≤ 40 + 3 * (i + 1) := by omega
    have ile : i ≤ 2 := by omega
    obtain ⟨v, hv, N⟩ := near_put (k := k) nF fF L hh kp (by omega) oko (by omega)
    replace N := N.mono up
    by_cases k2 : k = 2
    · subst k2
      by_cases y0 : y = 0
      · subst y0
        exact ⟨_, rfl, rfl, _, rfl, iteT ⟨_, rfl, _, _, rfl, rfl, _, rfl, iteF ⟨_, rfl, rfl, _, rfl, iteF (iteF ⟨_, rfl, rfl, _, rfl, iteF (iteF ⟨_, rfl, _, rfl, O, _, _, v, rfl, rfl, .of kp.six, atI_nat hv, _, rfl, _, rfl, F, _, _, _, rfl, rfl, hh.six, rfl, ⟨_, _, _, _, _, _, rfl⟩, N⟩)⟩)⟩⟩⟩
      · refine ⟨_, rfl, rfl, _, rfl, iteT ⟨_, rfl, _, _, rfl, rfl, _, rfl, ?_⟩⟩
        rw [decide_eq_true (show (0 : Int) < (y : Nat) by omega)]
        refine iteT ?_
        have l3 : (Str.ofString "3").length = 1 := by decide +kernel
        have l1 : (Str.ofString "1").length = 1 := by decide +kernel
        have c3 : cs (Str.ofString "3") = [51] := by decide +kernel
        have c1 : cs (Str.ofString "1") = [49] := by decide +kernel
        have pl := L.pl
        refine ⟨_, rfl, b, 3, rfl, by decide, by decide, hh.bs.box, fun j H7 hj b7 => ?_⟩
        replace hh := hh.step nF b7
        replace kp := kp.step b7
        have cl := cutS_length m.points none (some (-1))
        refine ⟨_, _, rfl, rfl, by decide +kernel, by omega, by omega, _, rfl, F, _, 2, _, rfl, rfl, .of hh.six, rfl, _, _, rfl, rfl, by rw [mul_len]; omega, _, rfl, F, _, 2, _, rfl, rfl, .of hh.six, rfl, _, _, rfl, rfl, by rw [l3]; omega, _, rfl, F, _, 2, _, rfl, rfl, .of hh.six, rfl, _, rfl, _, rfl, _, rfl, by omega, _, _, rfl, rfl, by rw [l1]; exact Nat.le_trans (Nat.succ_le_succ cl) (by omega), (by decide : 3 ≤ sizeLine), fun p hp => ?_⟩
        have hn := hh.new nF hp (.lst [.str (Txt.mul (Str.ofString "0") (j : Nat) ++ m.points), .str (m.points ++ Str.ofString "3"), .str (cutS m.points none (some (-1)) ++ Str.ofString "1")])
        have kn := kp.new hp (.lst [.str (Txt.mul (Str.ofString "0") (j : Nat) ++ m.points), .str (m.points ++ Str.ofString "3"), .str (cutS m.points none (some (-1)) ++ Str.ofString "1")])
        have ey : y = 1 ∨ y = 2 ∨ y = 3 := by omega
        rcases ey with rfl | rfl | rfl
        · obtain ⟨d1, d2⟩ := pt_zeros (k := j) L.pd
          exact ⟨_, rfl, _, _, rfl, rfl, p, _, _, _, rfl, rfl, .of upd_same, rfl, _, rfl, F, _, 2, 2, rfl, rfl, hn.six, rfl, ⟨_, _, _, _, _, _, rfl⟩, near_pts nF fF L hn kn up d1 (by omega)⟩
        · obtain ⟨d1, d2⟩ := pt_end (x := m.points) c3 ⟨by decide, by decide⟩ L.pd
          exact ⟨_, rfl, _, _, rfl, rfl, p, _, _, _, rfl, rfl, .of upd_same, rfl, _, rfl, F, _, 2, 2, rfl, rfl, hn.six, rfl, ⟨_, _, _, _, _, _, rfl⟩, near_pts nF fF L hn kn up d1 (by omega)⟩
        · obtain ⟨d1, d2⟩ := pt_end (x := cutS m.points none (some (-1))) c1 ⟨by decide, by decide⟩ (pt_cut L.pd)
          exact ⟨_, rfl, _, _, rfl, rfl, p, _, _, _, rfl, rfl, .of upd_same, rfl, _, rfl, F, _, 2, 2, rfl, rfl, hn.six, rfl, ⟨_, _, _, _, _, _, rfl⟩, near_pts nF fF L hn kn up d1 (by omega)⟩
    · by_cases k3 : k = 3
      · subst k3
        by_cases y0 : y = 0
        · subst y0
          refine ⟨_, rfl, rfl, _, rfl, iteF (iteF ⟨_, rfl, rfl, _, rfl, iteT ⟨_, rfl, _, _, rfl, rfl, _, rfl, iteF (iteF ⟨_, rfl, rfl, _, rfl, iteT ⟨_, rfl, rfl, _, rfl, iteT ⟨_, rfl, F, _, 3, _, rfl, rfl, .of hh.six, rfl, _, rfl, t, _, rfl, .of hh.mak, fun p hp => ?_⟩⟩⟩)⟩⟩)⟩
          have hn := hh.new nF hp (.lst (cutV (m.makers.map V.str) (some 1) none))
          have kn := kp.new hp (.lst (cutV (m.makers.map V.str) (some 1) none))
          have np := box_some hh.bs.box hp
          have npF : p ≠ F := fun e => by rw [e, hh.six] at hp; cases hp
          refine ⟨_, rfl, F, _, 3, 3, rfl, rfl, hn.six, rfl, ⟨_, _, _, _, _, _, rfl⟩, near_mks (ys := m.makers.drop 1) nF fF L hn kn up np npF ?_ ?_ fun x hx => (L.ms x (List.mem_of_mem_drop hx)).mono up⟩
          · rw [upd_same, cutV_1, List.map_drop]
          · have := L.ml
            rw [List.length_drop]; omega
        · have yt : decide ((0 : Int) < (y : Nat)) = true := decide_eq_true (by omega)
          refine ⟨_, rfl, rfl, _, rfl, iteF (iteF ⟨_, rfl, rfl, _, rfl, iteT ⟨_, rfl, _, _, rfl, rfl, _, rfl, ?_⟩⟩)⟩
          rw [yt]
          refine iteT ⟨_, rfl, F, _, 3, _, rfl, rfl, .of hh.six, rfl, Nat.zero_le _, fun e0 he0 => ⟨.list (m.makers.map PyData.str), .list [], .lst (.of (same_new he0 _ _ hh.mak)) (dpStrs _), .lst (.of upd_same) .nil, strs_shaped fun x hx => loose_asc (L.ms x hx), strs_shaped (l := []) (fun x hx => absurd hx List.not_mem_nil), _, rfl, ?_⟩⟩
          have h7 := hh.new nF he0 (.lst [])
          have k7 := kp.new he0 (.lst [])
          rw [strs_nil]
          by_cases em : m.makers = []
          · rw [decide_eq_true em]
            obtain ⟨v, hv, N⟩ := near_put (k := 3) nF fF L h7 k7 (by omega) oko (by omega)
            replace N := N.mono up
            have y1 : ¬ V.int (y : Nat) = V.int 0 := fun q => by injection q with q; omega
            refine iteF ⟨_, rfl, rfl, _, rfl, iteT ⟨_, rfl, rfl, _, rfl, ?_⟩⟩
            rw [decide_eq_false y1]
            exact iteF ⟨_, rfl, _, rfl, O, _, _, v, rfl, rfl, .of k7.six, atI_nat hv, _, rfl, _, rfl, F, _, _, _, rfl, rfl, h7.six, rfl, ⟨_, _, _, _, _, _, rfl⟩, N⟩
          · rw [decide_eq_false em]
            have lp : 0 < m.makers.length := List.length_pos_iff.mpr em
            have ml := L.ml
            refine iteT ?_
            refine ⟨_, rfl, _, rfl, F, _, 3, _, rfl, rfl, .of h7.six, rfl, t, _, rfl, .inl (.of h7.mak), b, _, rfl, by rw [List.length_map]; omega, by rw [List.length_map]; omega, h7.bs.box, fun j H8 hj b8 => ?_⟩
            rw [List.length_map] at hj
            have h8 := h7.step nF b8
            have k8 := k7.step b8
            obtain ⟨x, hx⟩ : ∃ x, m.makers[j]? = some x := ⟨_, List.getElem?_eq_getElem (by omega)⟩
            have xm := List.mem_of_getElem? hx
            obtain ⟨a0, l0, ex, ha0, hl0, hd0, h48, hn0⟩ := L.ms x xm
            have xl : x.length = l0.length + 1 := by rw [cs_len, ex]; rfl
            refine ⟨_, rfl, F, _, 3, _, rfl, rfl, .of h8.six, rfl, _, rfl, t, _, j, .str x, rfl, rfl, .of h8.mak, atI_nat (by rw [List.getElem?_map, hx] <;> rfl), ?_⟩
            have c0 : cs (Str.ofString "0") = [48] := by decide +kernel
            have c2 : cs (Str.ofString "2") = [50] := by decide +kernel
            have c7 : cs (Str.ofString "7") = [55] := by decide +kernel
            have l1 : (⟨#[a0]⟩ : Str).length = 1 := rfl
            have l2 : (Str.ofString "0").length = 1 := by decide +kernel
            have l3 : (Str.ofString "2").length = 1 := by decide +kernel
            have l4 : (Str.ofString "7").length = 1 := by decide +kernel
            have l5 := cutS_length x (some 1) none
            have l6 := cutS_length x none (some 1)
            refine ⟨_, rfl, x, 0, a0, rfl, rfl, by omega, atI_nat (j := 0) (show (cs x)[0]? = some a0 by rw [ex]; rfl), _, _, rfl, rfl, by rw [l1, l2]; decide, _, rfl, _, rfl, x, rfl, by omega, _, _, rfl, rfl, by rw [app_len, l1, l2]; omega, _, rfl, _, _, rfl, rfl, by rw [l3]; omega, _, rfl, _, rfl, x, rfl, by omega, _, _, rfl, rfl, by rw [l4]; omega, (by decide : 3 ≤ sizeLine), fun p hp => ?_⟩
            have h9 := h8.new nF hp (.lst [.str ((⟨#[a0]⟩ : Str) ++ Str.ofString "0" ++ cutS x (some 1) none), .str (x ++ Str.ofString "2"), .str (cutS x none (some 1) ++ Str.ofString "7")])
            have k9 := k8.new hp (.lst [.str ((⟨#[a0]⟩ : Str) ++ Str.ofString "0" ++ cutS x (some 1) none), .str (x ++ Str.ofString "2"), .str (cutS x none (some 1) ++ Str.ofString "7")])
            obtain ⟨put, hput, hLp⟩ : ∃ put : Str, atI [V.str ((⟨#[a0]⟩ : Str) ++ Str.ofString "0" ++ cutS x (some 1) none), .str (x ++ Str.ofString "2"), .str (cutS x none (some 1) ++ Str.ofString "7")] ((y : Nat) - 1 : Int) = some (.str put) ∧ LooseM (40 + 3 * (i + 1)) put := by
              have ey : y = 1 ∨ y = 2 ∨ y = 3 := by omega
              rcases ey with rfl | rfl | rfl
              · exact ⟨_, rfl, (mk_zero ex ha0 hl0 hd0 h48 hn0 rfl c0 (cut_rest ex)).mono (by omega)⟩
              · exact ⟨_, rfl, (mk_end ex ha0 hd0 hn0 c2 ⟨by decide, by decide⟩).mono (by omega)⟩
              · exact ⟨_, rfl, (mk_end (n := 0) (cut_one ex) ha0 (fun c hc => absurd hc List.not_mem_nil) (Nat.le_refl _) c7 ⟨by decide, by decide⟩).mono (by omega)⟩
            refine ⟨_, rfl, _, _, rfl, rfl, p, _, _, _, rfl, rfl, .of upd_same, hput, ?_⟩
            have cl1 := cutV_length (m.makers.map V.str) none (some (j : Nat))
            have cl2 := cutV_length (m.makers.map V.str) (some ((j : Nat) + 1)) none
            rw [List.length_map] at cl1 cl2
            refine ⟨_, rfl, F, _, 3, _, rfl, rfl, .of h9.six, rfl, _, rfl, _, rfl, t, _, rfl, .of h9.mak, fun p1 hp1 => ⟨_, rfl, (by decide : 1 ≤ sizeLine), fun p2 hp2 => ⟨p1, p2, _, _, rfl, rfl, same_new hp2 _ _ upd_same, upd_same, Nat.le_trans (Nat.add_le_add cl1 (Nat.le_refl 1)) (by omega), fun p3 hp3 => ?_⟩⟩⟩
            have h12 := ((h9.new nF hp1 (.lst (cutV (m.makers.map V.str) none (some (j : Nat))))).new nF hp2 (.lst [.str put])).new nF hp3 (.lst (cutV (m.makers.map V.str) none (some (j : Nat)) ++ [.str put]))
            have k12 := ((k9.new hp1 (.lst (cutV (m.makers.map V.str) none (some (j : Nat))))).new hp2 (.lst [.str put])).new hp3 (.lst (cutV (m.makers.map V.str) none (some (j : Nat)) ++ [.str put]))
            refine ⟨_, rfl, F, _, 3, _, rfl, rfl, .of h12.six, rfl, _, rfl, _, _, rfl, rfl, _, rfl, t, _, rfl, .of h12.mak, fun p4 hp4 => ⟨p3, p4, _, _, rfl, rfl, same_new hp4 _ _ upd_same, upd_same, ?_, fun p5 hp5 => ?_⟩⟩
            · rw [List.length_append]
              exact Nat.le_trans (Nat.add_le_add (Nat.add_le_add cl1 (Nat.le_refl 1)) cl2) (by omega)
            · have h13 := h12.new nF hp4 (.lst (cutV (m.makers.map V.str) (some ((j : Nat) + 1)) none))
              have k13 := k12.new hp4 (.lst (cutV (m.makers.map V.str) (some ((j : Nat) + 1)) none))
              have h14 := h13.new nF hp5 (.lst (cutV (m.makers.map V.str) none (some (j : Nat)) ++ [.str put] ++ cutV (m.makers.map V.str) (some ((j : Nat) + 1)) none))
              have k14 := k13.new hp5 (.lst (cutV (m.makers.map V.str) none (some (j : Nat)) ++ [.str put] ++ cutV (m.makers.map V.str) (some ((j : Nat) + 1)) none))
              have np := box_some h13.bs.box hp5
              have npF : p5 ≠ F := fun e => by rw [e, h13.six] at hp5; cases hp5
              have e1 : cutV (m.makers.map V.str) none (some (j : Nat)) = (m.makers.take j).map V.str := by rw [cutV_to (by rw [List.length_map]; omega), List.map_take]
              have e2 : cutV (m.makers.map V.str) (some ((j : Nat) + 1)) none = (m.makers.drop (j + 1)).map V.str := (cutV_fr (k := j + 1) (by rw [List.length_map]; omega)).trans (by rw [List.map_drop])
              refine ⟨_, rfl, F, _, 3, 3, rfl, rfl, h14.six, rfl, ⟨_, _, _, _, _, _, rfl⟩, near_mks (ys := m.makers.take j ++ [put] ++ m.makers.drop (j + 1)) nF fF L h14 k14 up np npF ?_ ?_ fun x hx => ?_⟩
              · rw [upd_same, List.map_append, List.map_append, e1, e2] <;> rfl
              · rw [List.length_append, List.length_append, List.length_take, List.length_drop, List.length_singleton]
                omega
              · rcases List.mem_append.mp hx with hx | hx
                · rcases List.mem_append.mp hx with hx | hx
                  · exact (L.ms x (List.mem_of_mem_take hx)).mono up
                  · obtain rfl := List.mem_singleton.mp hx
                    exact hLp
                · exact (L.ms x (List.mem_of_mem_drop hx)).mono up
      · have e : k = 0 ∨ k = 1 ∨ k = 4 ∨ k = 5 := by omega
        rcases e with rfl | rfl | rfl | rfl
        · exact ⟨_, rfl, rfl, _, rfl, iteF (iteF ⟨_, rfl, rfl, _, rfl, iteF (iteF ⟨_, rfl, rfl, _, rfl, iteF (iteF ⟨_, rfl, _, rfl, O, _, _, v, rfl, rfl, .of kp.six, atI_nat hv, _, rfl, _, rfl, F, _, _, _, rfl, rfl, hh.six, rfl, ⟨_, _, _, _, _, _, rfl⟩, N⟩)⟩)⟩)⟩
        · exact ⟨_, rfl, rfl, _, rfl, iteF (iteF ⟨_, rfl, rfl, _, rfl, iteF (iteF ⟨_, rfl, rfl, _, rfl, iteF (iteF ⟨_, rfl, _, rfl, O, _, _, v, rfl, rfl, .of kp.six, atI_nat hv, _, rfl, _, rfl, F, _, _, _, rfl, rfl, hh.six, rfl, ⟨_, _, _, _, _, _, rfl⟩, N⟩)⟩)⟩)⟩
        · exact ⟨_, rfl, rfl, _, rfl, iteF (iteF ⟨_, rfl, rfl, _, rfl, iteF (iteF ⟨_, rfl, rfl, _, rfl, iteF (iteF ⟨_, rfl, _, rfl, O, _, _, v, rfl, rfl, .of kp.six, atI_nat hv, _, rfl, _, rfl, F, _, _, _, rfl, rfl, hh.six, rfl, ⟨_, _, _, _, _, _, rfl⟩, N⟩)⟩)⟩)⟩
        · exact ⟨_, rfl, rfl, _, rfl, iteF (iteF ⟨_, rfl, rfl, _, rfl, iteF (iteF ⟨_, rfl, rfl, _, rfl, iteF (iteF ⟨_, rfl, _, rfl, O, _, _, v, rfl, rfl, .of kp.six, atI_nat hv, _, rfl, _, rfl, F, _, _, _, rfl, rfl, hh.six, rfl, ⟨_, _, _, _, _, _, rfl⟩, N⟩)⟩)⟩)⟩
  · rintro σ2 H3 ⟨⟨x4, x5, x6, x7, x8, x9, rfl⟩, m, t, to, L, hh, kp⟩
    have lk : 40 + 3 * ((1 : Int) + (k0 : Nat)).toNat ≤ 50 := by omega
    replace L := L.mono lk
    have pl := L.pl
    refine ⟨fun σ' H' => (∃ x4 x5 x6 x7 x8 x9, σ' = [some (.ref b), some (.ref a), some (.ref F), some (.ref O), x4, x5, x6, x7, x8, x9]) ∧ ∃ m, Loose 51 m ∧ (m.points = emp ∨ (cs m.points).getLast? ≠ some 48) ∧ Hold b F H H' m t, ?_, ?_⟩
    · refine ⟨_, rfl, F, _, 2, _, rfl, rfl, .of hh.six, rfl, rfl, _, rfl, ?_⟩
      by_cases e : m.points = emp
      · rw [decide_eq_true (show V.str m.points = V.str (Str.ofString "") by rw [e]; rfl)]
        exact iteF (iteF ⟨⟨_, _, _, _, _, _, rfl⟩, m, L.mono (by decide), .inl e, hh⟩)
      · rw [decide_eq_false (show ¬ V.str m.points = V.str (Str.ofString "") from fun q => e (by injection q))]
        have ne : cs m.points ≠ [] := fun z => e (cs_emp.mp z)
        obtain ⟨c, hc⟩ : ∃ c, (cs m.points).getLast? = some c := ⟨_, List.getLast?_eq_some_getLast ne⟩
        refine iteT ⟨_, rfl, F, _, 2, _, rfl, rfl, .of hh.six, rfl, _, rfl, m.points, _, c, rfl, rfl, by omega, last_ix hc, rfl, _, rfl, ?_⟩
        have c0 : Str.ofString "0" = ⟨#[48]⟩ := by decide +kernel
        by_cases e48 : c = 48
        · subst e48
          rw [decide_eq_true (show V.str ⟨#[48]⟩ = V.str (Str.ofString "0") by rw [c0])]
          have l6 : (Str.ofString "6").length = 1 := by decide +kernel
          have c6 : cs (Str.ofString "6") = [54] := by decide +kernel
          obtain ⟨d1, d2⟩ := pt_end (x := m.points) c6 ⟨by decide, by decide⟩ L.pd
          refine iteT ⟨_, rfl, F, _, 2, _, rfl, rfl, .of hh.six, rfl, _, _, rfl, rfl, by rw [l6]; omega, _, rfl, F, _, 2, 2, rfl, rfl, hh.six, rfl, ⟨_, _, _, _, _, _, rfl⟩, { m with points := m.points ++ Str.ofString "6" }, ⟨L.l, L.nu, d1, (by rw [show ({ m with points := m.points ++ Str.ofString "6" } : Mk).points = m.points ++ Str.ofString "6" from rfl, d2]; omega), L.ml, fun x hx => (L.ms x hx).mono (by decide), L.y, L.c⟩, .inr ?_, Hold.set (m' := { m with points := m.points ++ Str.ofString "6" }) nF fF hh.bs hh.nt hh.ntF hh.mak rfl⟩
          show (cs (m.points ++ Str.ofString "6")).getLast? ≠ some 48
          rw [cs_app, c6, List.getLast?_append, List.getLast?_singleton]
          intro q
          exact absurd (Option.some.inj q) (by decide)
        · rw [decide_eq_false (show ¬ V.str ⟨#[c]⟩ = V.str (Str.ofString "0") from fun q => by
            injection q with q
            have z := congrArg cs q
            rw [c0] at z
            exact e48 (List.head_eq_of_cons_eq z))]
          exact iteF ⟨⟨_, _, _, _, _, _, rfl⟩, m, L.mono (by decide), .inr (fun z => e48 (by rw [hc] at z; exact Option.some.inj z)), hh⟩
    · clear L pl hh kp
      rintro _ H4 ⟨⟨x4, x5, x6, x7, x8, x9, rfl⟩, m, L, hp48, hh⟩
      have pl := L.pl
      refine ⟨_, rfl, F, _, 2, _, rfl, rfl, .of hh.six, rfl, _, rfl, _, rfl, m.points, rfl, by omega, _, rfl, F, _, 2, 2, rfl, rfl, hh.six, rfl, ?_⟩
      have okp := pt_fin L.pd hp48
      have h5 : Hold b F H (upd H4 F (.lst ((sixV m t).set 2 (.str (cutS m.points (some (-38)) none))))) { m with points := cutS m.points (some (-38)) none } t := Hold.set (m' := { m with points := cutS m.points (some (-38)) none }) nF fF hh.bs hh.nt hh.ntF hh.mak rfl
      generalize upd H4 F (.lst ((sixV m t).set 2 (.str (cutS m.points (some (-38)) none)))) = H5 at *
      refine ⟨_, rfl, F, _, 3, _, rfl, rfl, .of h5.six, rfl, t, rfl, ⟨_, .of h5.mak⟩, fun D hD => lc_it (walk_list (xs := m.makers.map V.str)) (fun i H' => (∃ ds : List Str, H' D = some (.lst (ds.map V.str)) ∧ ds.length = i ∧ ∀ x ∈ ds, OkMaker x) ∧ Same H5 (del D H')) ⟨⟨[], upd_same, rfl, fun x hx => absurd hx List.not_mem_nil⟩, del_in hD (same_new hD)⟩ (fun i H' _ z => .of (del_sub D H' _ _ (z.2 _ _ h5.mak))) ?_ ?_⟩
      · rintro i v H6 H7 hi ⟨⟨ds, hd, hl, ho⟩, sm⟩ ⟨rfl, hx⟩
        obtain ⟨x, hx2, rfl⟩ := at_map hx
        obtain ⟨a0, l0, ex, ha0, hl0, hd0, h48, hn0⟩ := L.ms x (List.mem_of_getElem? hx2)
        have xl : x.length = l0.length + 1 := by rw [cs_len, ex]; rfl
        have ml := L.ml
        rw [List.length_map] at hi
        refine ⟨rfl, ?_⟩
        dsimp only [tYes]
        have c1 := cutS_length x (some 1) none
        have c2 := cutS_length (cutS x (some 1) none) (some (-38)) none
        have l1 : (⟨#[a0]⟩ : Str).length = 1 := rfl
        refine iteT ⟨_, rfl, x, 0, a0, rfl, rfl, by omega, atI_nat (j := 0) (show (cs x)[0]? = some a0 by rw [ex]; rfl), _, rfl, _, rfl, x, rfl, by omega, _, rfl, _, rfl, _, rfl, by omega, _, _, rfl, rfl, by rw [l1]; exact Nat.le_trans (Nat.add_le_add_left c2 1) (by omega), ds.map V.str, hd, by rw [List.length_map]; omega, ⟨ds ++ [⟨#[a0]⟩ ++ cutS (cutS x (some 1) none) (some (-38)) none], ?_, ?_, ?_⟩, ?_⟩
        · rw [upd_same, List.map_append] <;> rfl
        · rw [List.length_append, hl] <;> rfl
        · intro d hd'
          rcases List.mem_append.mp hd' with z | z
          · exact ho d z
          · obtain rfl := List.mem_singleton.mp z
            refine mk_fin (n := 51) ex ha0 hl0 hd0 h48 rfl ?_
            rw [cut_38, cut_rest ex, cs_len, cut_rest ex]
        · rw [del_upd]
          exact sm
      · rintro H6 ⟨⟨ds, hd, hl, ho⟩, sm⟩
        have s6 := sm.trans (del_sub D H6)
        have h6 := h5.step nF (.of h5.bs.box s6)
        have nD := box_some h5.bs.box hD
        have nDF : D ≠ F := fun e => by rw [e, h5.six] at hD; cases hD
        have ml := L.ml
        rw [List.length_map] at hl
        have h7 : Hold b F H (upd H6 F (.lst ((sixV { m with points := cutS m.points (some (-38)) none } t).set 3 (.ref D)))) { m with points := cutS m.points (some (-38)) none, makers := ds } D := Hold.set (m' := { m with points := cutS m.points (some (-38)) none, makers := ds }) nF fF h6.bs nD nDF hd rfl
        exact ⟨_, rfl, F, _, 3, 3, rfl, rfl, h6.six, rfl, _, rfl, q F { m with points := cutS m.points (some (-38)) none, makers := ds } _ (okm_of L.l L.nu okp ⟨by show ds.length ≤ 3; omega, ho⟩ L.y L.c) (h7.parts nF) fF h7.bs⟩
theorem law_near_ (D : DefT K mg "_law_near" sLNear []) (T : Free mg) (G : C8.Cal P w K mg base 1 "_law_take" spTake []) (G2 : C8.Cal P w K mg base 4 "_law_parts" spLParts []) : C8.Cal P w K mg base 5 "_law_near" spLNear [] :=
  cal_of D scLNear (fun _ _ _ _ _ _ us hl => match us, hl with | [_, _], _ => rfl) (fun vs H Q E h => by
    obtain ⟨_, _, _, rfl, _⟩ := h
    rfl) (b_lnear T G G2)
end
end S
end

section
set_option maxRecDepth 100000
set_option maxHeartbeats 4000000
/-! Defs: the law's ways, steps. -/
namespace S
open PySem PySem.Spec PyProof.Rows L2 SM
section
variable {P : Program} {w : World} {K : PySem.W.Frag} {mg : Str → Option Value} {base : Heap} {CM CR PK : Addr}
def wordsV (p : Nat) : List V := (waysOf p).map fun j => .str (WW j)
def spLWays : Sp := fun vs H Q _ => ∃ p : Nat, vs = [.int p] ∧ p < 6 ∧ ∀ (a : Addr) H', Same H H' → H' a = some (.lst (wordsV p)) → Q (.ref a) H'
abbrev sLWays : Stmt := top 93
theorem scLWays : FnScope ["_law_at", "_law_rows"] ["_law_at"] (defScope sLWays) := ⟨rfl, rfl, rfl, by decide +kernel, rfl, by decide +kernel, by decide +kernel⟩
theorem b_lways (T : Free mg) : Body P w K mg base 0 ["_law_at", "_law_rows"] "_law_ways" sLWays spLWays := by
  intro f cdv A outer s H vs Q E hr h
  obtain ⟨p, rfl, hp, q⟩ := h
  have nd := scLWays.nd
  refine ⟨_, (pss_cons (ps_set (i := 1) nd rfl (Or.inl rfl) (pe_lst (pa_cons (pe_lst (pa_cons pe_str (pa_cons pe_str pa_nil))) (pa_cons (pe_lst (pa_cons pe_str (pa_cons pe_str pa_nil))) (pa_cons (pe_lst (pa_cons pe_str (pa_cons pe_str (pa_cons pe_str pa_nil)))) (pa_cons (pe_lst (pa_cons pe_str (pa_cons pe_str (pa_cons pe_str pa_nil)))) pa_nil))))))
      (pss_one (ps_ret (pe_ix ix_list (pe_op op_cat (pv 1) (pe_lst (pa_cons (pe_lst (pa_cons pe_str (pa_cons pe_str (pa_cons pe_str (pa_cons pe_str pa_nil))))) (pa_cons (pe_lst (pa_cons pe_str (pa_cons pe_str (pa_cons pe_str pa_nil)))) pa_nil)))) (pv 0) (fun _ _ => rfl))))), ?_⟩
  refine ⟨(by decide : 2 ≤ sizeLine), fun p0 h0 => ⟨(by decide : 2 ≤ sizeLine), fun p1 h1 => ⟨(by decide : 3 ≤ sizeLine), fun p2 h2 => ⟨(by decide : 3 ≤ sizeLine), fun p3 h3 => ⟨(by decide : 4 ≤ sizeLine), fun r hr => ?_⟩⟩⟩⟩⟩
  refine ⟨_, rfl, (by decide : 4 ≤ sizeLine), fun p4 h4 => ⟨(by decide : 3 ≤ sizeLine), fun p5 h5 => ⟨(by decide : 2 ≤ sizeLine), fun o ho => ⟨r, o, _, _, rfl, rfl, same_new ho _ _ (same_new h5 _ _ (same_new h4 _ _ upd_same)), upd_same, (by decide : 4 + 2 ≤ sizeLine), fun c hc => ?_⟩⟩⟩⟩
  have a8 := same_new hc (u := .lst ([.ref p0, .ref p1, .ref p2, .ref p3] ++ [.ref p4, .ref p5]))
  have a7 := (same_new ho (u := .lst [.ref p4, .ref p5])).trans a8
  have a6 := (same_new h5 (u := .lst [.str "rising", .str "falling", .str "figures"])).trans a7
  have a5 := (same_new h4 (u := .lst [.str "rising", .str "falling", .str "late", .str "figures"])).trans a6
  have a4 := (same_new hr (u := .lst [.ref p0, .ref p1, .ref p2, .ref p3])).trans a5
  have a3 := (same_new h3 (u := .lst [.str "decimal", .str "whole", .str "few"])).trans a4
  have a2 := (same_new h2 (u := .lst [.str "decimal", .str "whole", .str "late"])).trans a3
  have a1 := (same_new h1 (u := .lst [.str "whole", .str "figures"])).trans a2
  have a0 := (same_new h0 (u := .lst [.str "words", .str "short"])).trans a1
  have e : p = 0 ∨ p = 1 ∨ p = 2 ∨ p = 3 ∨ p = 4 ∨ p = 5 := by omega
  rcases e with rfl | rfl | rfl | rfl | rfl | rfl
  · exact ⟨_, rfl, c, _, _, .ref p0, rfl, rfl, .of upd_same, rfl, q p0 _ a0 (a1 _ _ upd_same)⟩
  · exact ⟨_, rfl, c, _, _, .ref p1, rfl, rfl, .of upd_same, rfl, q p1 _ a0 (a2 _ _ upd_same)⟩
  · exact ⟨_, rfl, c, _, _, .ref p2, rfl, rfl, .of upd_same, rfl, q p2 _ a0 (a3 _ _ upd_same)⟩
  · exact ⟨_, rfl, c, _, _, .ref p3, rfl, rfl, .of upd_same, rfl, q p3 _ a0 (a4 _ _ upd_same)⟩
  · exact ⟨_, rfl, c, _, _, .ref p4, rfl, rfl, .of upd_same, rfl, q p4 _ a0 (a6 _ _ upd_same)⟩
  · exact ⟨_, rfl, c, _, _, .ref p5, rfl, rfl, .of upd_same, rfl, q p5 _ a0 (a7 _ _ upd_same)⟩
theorem law_ways_ (D : DefT K mg "_law_ways" sLWays []) (T : Free mg) : C8.Cal P w K mg base 1 "_law_ways" spLWays [] :=
  cal_of D scLWays (fun _ _ _ _ _ _ us hl => match us, hl with | [_], _ => rfl) (fun vs H Q E h => by
    obtain ⟨_, rfl, _⟩ := h
    rfl) (b_lways T)

/-! ### steps beside some lists -/
def StepT (bad : List Addr) (H : Hp) (v : V) (j : Nat) : Prop := ∃ t, v = .ref t ∧ t ∉ bad ∧ H t = some (.tup [.str (PN (wp j)), .str (WW j)])
abbrev StepsT (bad : List Addr) (H : Hp) (vs : List V) (ws : List Nat) : Prop := Paired (StepT bad H) vs ws
theorem stepsT_v {bad : List Addr} {H : Hp} {vs : List V} {ws : List Nat} (h : StepsT bad H vs ws) : StepsV K H vs ws := Paired.mapP h fun v j ⟨t, a, _, b⟩ => ⟨t, a, .of b⟩
theorem stepsT_same {bad : List Addr} {H H' : Hp} (s : Same H H') {vs : List V} {ws : List Nat} (h : StepsT bad H vs ws) : StepsT bad H' vs ws := Paired.mapP h fun v j ⟨t, a, n, b⟩ => ⟨t, a, n, s _ _ b⟩
theorem stepsT_upd {bad : List Addr} {H : Hp} {D : Addr} (hD : D ∈ bad) (u : HO) {vs : List V} {ws : List Nat} (h : StepsT bad H vs ws) : StepsT bad (upd H D u) vs ws :=
  Paired.mapP h fun v j ⟨t, a, n, b⟩ => ⟨t, a, n, by rw [upd_ne (fun e => n (by rw [e]; exact hD))]; exact b⟩
theorem stepsT_bs {bad : List Addr} {H H' : Hp} {b : Addr} (hb : b ∈ bad) (s : BS b H H') {vs : List V} {ws : List Nat} (h : StepsT bad H vs ws) : StepsT bad H' vs ws :=
  Paired.mapP h fun v j ⟨t, a, n, e⟩ => ⟨t, a, n, s.get (fun z => n (by rw [z]; exact hb)) e⟩
theorem stepsT_less {bad bad' : List Addr} (h : ∀ x ∈ bad', x ∈ bad) {H : Hp} {vs : List V} {ws : List Nat} (hs : StepsT bad H vs ws) : StepsT bad' H vs ws :=
  Paired.mapP hs fun v j ⟨t, a, n, e⟩ => ⟨t, a, fun z => n (h _ z), e⟩
theorem paired_snoc {α β : Type} {F : α → β → Prop} : ∀ {l₁ : List α} {l₂ : List β} {a : α} {b : β}, Paired F l₁ l₂ → F a b → Paired F (l₁ ++ [a]) (l₂ ++ [b])
  | _, _, _, _, .nil, h => .cons h .nil
  | _, _, _, _, .cons h t, h2 => .cons h (paired_snoc t h2)
theorem ix_nat {n j : Nat} (hj : j < n) : ixN n (j : Int) = some j := by
  unfold ixN
  rw [if_pos (by omega), if_pos (by omega)]
  simp
theorem map_eraseIdx {α β : Type} (f : α → β) : ∀ (l : List α) (k : Nat), (l.map f).eraseIdx k = (l.eraseIdx k).map f
  | [], _ => rfl
  | _ :: _, 0 => rfl
  | a :: l, k + 1 => by
    rw [List.map_cons, List.eraseIdx_cons_succ, List.eraseIdx_cons_succ, List.map_cons, map_eraseIdx f l k]
theorem erase_idx_not : ∀ {l : List Nat}, l.Nodup → ∀ {k x : Nat}, l[k]? = some x → x ∉ l.eraseIdx k
  | [], _, k, x, h => by cases h
  | a :: l, nd, 0, x, h => by
    obtain rfl : a = x := Option.some.inj h
    exact (List.nodup_cons.mp nd).1
  | a :: l, nd, k + 1, x, h => by
    rw [List.getElem?_cons_succ] at h
    rw [List.eraseIdx_cons_succ]
    intro m
    rcases List.mem_cons.mp m with e | m
    · rw [e] at h
      exact (List.nodup_cons.mp nd).1 (List.mem_of_getElem? h)
    · exact erase_idx_not (List.nodup_cons.mp nd).2 h m
def spLSteps : Sp := fun vs H Q _ => ∃ b : Addr, vs = [.ref b] ∧ BoxAt H b ∧ ∀ (a : Addr) (vs : List V) (ws : List Nat) H', OkR ws → 1 ≤ ws.length → H' a = some (.lst vs) → StepsT [b] H' vs ws → H a = none → BS b H H' → Q (.ref a) H'
abbrev sLSteps : Stmt := top 94
abbrev nLSteps : List Str := ["_law_box_here", "_law_words", "_law_left", "_law_found", "_law_turn", "_law_at"]
theorem scLSteps : FnScope nLSteps ["_law_box_here"] (defScope sLSteps) := ⟨rfl, rfl, rfl, by decide +kernel, rfl, by decide +kernel, by decide +kernel⟩
theorem b_lsteps (T : Free mg) (G_take : C8.Cal P w K mg base 1 "_law_take" spTake []) (G_ways : C8.Cal P w K mg base 1 "_law_ways" spLWays []) : Body P w K mg base 1 nLSteps "_law_steps" sLSteps spLSteps := by
  intro f cdv A outer s H vs Q E hr h
  obtain ⟨b, rfl, hb, q⟩ := h
  have nd := scLSteps.nd
  have sz := sizeLine_eq
  refine ⟨_, (pss_cons (ps_set (i := 1) nd rfl (Or.inl rfl) (pe_lst (pa_cons pe_str (pa_cons pe_str (pa_cons pe_str (pa_cons pe_str (pa_cons pe_str (pa_cons pe_str pa_nil))))))))
      (pss_cons (ps_set (i := 2) nd rfl (Or.inl rfl) (pe_listRg (by rfl) (by rfl) T.list (prg_1 (by rfl) T.range pe_int)))
      (pss_cons (ps_set (i := 3) nd rfl (Or.inl rfl) (pe_lst pa_nil))
      (pss_cons (ps_for PassesOwn.never rfl (pi_range1 rfl T.range (pa_cons (pe_ix (show IxR _ (rIxL K) from ix_list) (pe_lst (pa_cons pe_int (pa_cons pe_int (pa_cons pe_int (pa_cons pe_int (pa_cons pe_int (pa_cons pe_int (pa_cons pe_int (pa_cons pe_int pa_nil))))))))) (C8.pe_c G_take hr (by decide) rfl (pa_cons (pv 0) (pa_cons pe_int pa_nil))) (fun _ _ => rfl)) pa_nil)) (pg_name (i := 4) nd rfl (Or.inl rfl))
        (pss_cons (ps_set (i := 5) nd rfl (Or.inl rfl) (pe_bm PySem.F.plainAttrs_list PySem.F.slot_list_pop PySem.F.type_list_pop mt_popAt (pv 2) (pa_cons (C8.pe_c G_take hr (by decide) rfl (pa_cons (pv 0) (pa_cons (pe_callB call_len_seq (by rfl) T.len boot_len (pa_cons (pv 2) pa_nil)) pa_nil))) pa_nil)))
        (pss_one (ps_expr (pe_bm PySem.F.plainAttrs_list PySem.F.slot_list_append PySem.F.type_list_append mt_append (pv 3) (pa_cons (pe_tup (pa_cons (pe_ix (show IxR _ (rIxL K) from ix_list) (pv 1) (pv 5) (fun _ _ => rfl)) (pa_cons (pe_ix (show IxR _ (rIxL K) from ix_list) (C8.pe_c G_ways hr (by decide) rfl (pa_cons (pv 5) pa_nil)) (C8.pe_c G_take hr (by decide) rfl (pa_cons (pv 0) (pa_cons (pe_callB call_len_seq (by rfl) T.len boot_len (pa_cons (C8.pe_c G_ways hr (by decide) rfl (pa_cons (pv 5) pa_nil)) pa_nil)) pa_nil))) (fun _ _ => rfl)) pa_nil))) pa_nil))))))
      (pss_one (ps_ret (pv 3))))))), ?_⟩
  refine ⟨(by decide : 6 ≤ sizeLine), fun W hW => ?_⟩
  refine ⟨6, rfl, ⟨by decide, by decide, by decide, by decide, by decide⟩, fun L hL => ?_⟩
  refine ⟨(by decide : 0 ≤ sizeLine), fun F hF => ?_⟩
  have b1 : BS b H (upd H W (.lst (PNs.map V.str))) := BS.new (.refl hb) hW _
  have nW := box_some hb hW
  have nL := box_some b1.box hL
  have fL := b1.fresh hb hL
  have b2 : BS b H (upd (upd H W (.lst (PNs.map V.str))) L (.lst (nats [0, 1, 2, 3, 4, 5]))) := b1.new hL _
  have nF := box_some b2.box hF
  have fF := b2.fresh hb hF
  have nWL : W ≠ L := ne_of_none upd_same hL
  have nLF : L ≠ F := ne_of_none (o := .lst (nats [0, 1, 2, 3, 4, 5])) upd_same hF
  have hW2 : upd (upd H W (.lst (PNs.map V.str))) L (.lst (nats [0, 1, 2, 3, 4, 5])) W = some (.lst (PNs.map V.str)) := same_new hL _ _ upd_same
  have nWF : W ≠ F := ne_of_none hW2 hF
  have b3 := b2.new hF (.lst [])
  have hW3 := same_new hF (u := .lst []) _ _ hW2
  have hL3 := same_new hF (u := .lst []) _ _ (upd_same (H := upd H W (.lst (PNs.map V.str))) (a := L) (o := .lst (nats [0, 1, 2, 3, 4, 5])))
  have hF3 := upd_same (H := upd (upd H W (.lst (PNs.map V.str))) L (.lst (nats [0, 1, 2, 3, 4, 5]))) (a := F) (o := .lst [])
  refine ⟨(by decide : 8 ≤ sizeLine), fun p hp => ?_⟩
  have np := box_some b3.box hp
  have b4 := b3.new hp (.lst (([1, 2, 3, 4, 5, 6, 6, 6] : List Int).map V.int))
  refine ⟨_, rfl, b, 8, rfl, by decide, by decide, b4.box, fun k H5 hk b5 => ?_⟩
  obtain ⟨n, hn, hm⟩ := pick_int (l := [1, 2, 3, 4, 5, 6, 6, 6]) (k := k) hk
  have hn6 : 1 ≤ n ∧ n ≤ 6 := by
    have z : ∀ n ∈ ([1, 2, 3, 4, 5, 6, 6, 6] : List Int), 1 ≤ n ∧ n ≤ 6 := by decide
    exact z n hm
  refine ⟨p, _, k, _, rfl, rfl, .of (b5.get np upd_same), hn, n, rfl, by omega, by omega, for_it walk_range (fun i σ' H' => ∃ x4 x5 vs ws ls, σ' = [some (.ref b), some (.ref W), some (.ref L), some (.ref F), x4, x5] ∧ BS b H H' ∧ H' W = some (.lst (PNs.map V.str)) ∧ H' L = some (.lst (nats ls)) ∧ H' F = some (.lst vs) ∧ StepsT [b, L, F] H' vs ws ∧ OkR ws ∧ ws.length = i ∧ ls.length + i = 6 ∧ ls.Nodup ∧ (∀ x ∈ ls, x < 6) ∧ ∀ j ∈ ws, wp j ∉ ls) ?_ (fun _ _ _ _ _ => True.intro) ?_ ?_⟩
  · exact ⟨_, _, [], [], [0, 1, 2, 3, 4, 5], rfl, b4.trans b5, b5.get nW (same_new hp _ _ hW3), b5.get nL (same_new hp _ _ hL3), b5.get nF (same_new hp _ _ hF3), .nil, ⟨fun j h => absurd h List.not_mem_nil, List.nodup_nil⟩, rfl, rfl, by decide, by decide, fun j h => absurd h List.not_mem_nil⟩
  · rintro i x σ2 H6 H7 hi ⟨x4, x5, vs, ws, ls, rfl, bs, hW6, hL6, hF6, hs, ok, wl, ll, lnd, l6, hdis⟩ ⟨rfl, rfl⟩
    have nlen : (nats ls).length = ls.length := by unfold nats; rw [List.length_map]
    refine ⟨_, rfl, .inl ⟨rfl, _, SqL.of hL6⟩, _, rfl, _, rfl, L, _, rfl, .inl (.of hL6), b, _, rfl, by rw [nlen]; omega, by rw [nlen]; omega, bs.box, fun k H8 hk b8 => ?_⟩
    rw [nlen] at hk
    have hk' : k < ls.length := by omega
    obtain ⟨p0, hp0⟩ : ∃ p0, ls[k]? = some p0 := ⟨_, List.getElem?_eq_getElem hk'⟩
    have pm := List.mem_of_getElem? hp0
    have hp6 := l6 p0 pm
    have hL8 := b8.get nL hL6
    have hW8 := b8.get nW hW6
    have hF8 := b8.get nF hF6
    replace bs := bs.trans b8
    replace hs := stepsT_bs (by simp) b8 hs
    refine ⟨L, _, _, k, .int (p0 : Nat), rfl, rfl, hL8, by omega, by omega, (ixN_seq (ix_nat (by rw [nlen]; exact hk'))).1, by unfold nats; rw [List.getElem?_map, hp0] <;> rfl, ?_⟩
    have eE : (nats ls).eraseIdx k = nats (ls.eraseIdx k) := by exact map_eraseIdx _ _ _
    rw [eE]
    have bs9 := bs.at_ fL nL (.lst (nats (ls.eraseIdx k)))
    have hW9 : upd H8 L (.lst (nats (ls.eraseIdx k))) W = _ := (upd_ne nWL).trans hW8
    have hF9 : upd H8 L (.lst (nats (ls.eraseIdx k))) F = _ := (upd_ne (Ne.symm nLF)).trans hF8
    have hL9 : upd H8 L (.lst (nats (ls.eraseIdx k))) L = _ := upd_same
    replace hs := stepsT_upd (D := L) (by simp) (.lst (nats (ls.eraseIdx k))) hs
    generalize upd H8 L (.lst (nats (ls.eraseIdx k))) = H9 at *
    have vl : vs.length = ws.length := Paired.length hs
    refine ⟨_, rfl, .inl ⟨rfl, _, SqL.of hF9⟩, _, rfl, _, rfl, W, _, p0, .str (PN p0), rfl, rfl, .of hW9, atI_nat (by rw [List.getElem?_map, pn_at _ hp6] <;> rfl), _, rfl, p0, rfl, hp6, fun a1 H10 s10 ha1 => ?_⟩
    refine ⟨_, rfl, _, rfl, p0, rfl, hp6, fun a2 H11 s11 ha2 => ?_⟩
    have s911 := s10.trans s11
    have b11 : BS b H9 H11 := .of bs9.box s911
    have wlen : 0 < (wordsV p0).length ∧ (wordsV p0).length < 18 := by
      have z : ∀ p : Fin 6, 0 < (wordsV p.val).length ∧ (wordsV p.val).length < 18 := by decide +kernel
      exact z ⟨p0, hp6⟩
    refine ⟨a2, _, rfl, .inl (.of ha2), b, _, rfl, by omega, by omega, b11.box, fun j H12 hj b12 => ?_⟩
    have na1 : a1 ≠ b := fun e => by
      obtain ⟨x, y, z, e2, _⟩ := (BS.of bs9.box s10).box
      rw [← e, ha1] at e2
      injection e2 with e2
      injection e2 with e2
      have z : ∀ p : Fin 6, wordsV p.val ≠ [] ∧ ∀ v ∈ wordsV p.val, ∃ t, v = V.str t := by
        intro p
        refine ⟨fun q => ?_, fun v hv => ?_⟩
        · have := (show ∀ p : Fin 6, wordsV p.val ≠ [] by decide +kernel) p
          exact this q
        · obtain ⟨j, _, rfl⟩ := List.mem_map.mp hv
          exact ⟨_, rfl⟩
      obtain ⟨t, ht⟩ := (z ⟨p0, hp6⟩).2 (.int x) (by show V.int x ∈ wordsV p0; rw [e2]; simp)
      cases ht
    have ha1' := b12.get na1 (s11 _ _ ha1)
    have hjl : j < (waysOf p0).length := by
      have : (wordsV p0).length = (waysOf p0).length := by unfold wordsV; rw [List.length_map]
      omega
    obtain ⟨jj, hjj⟩ : ∃ jj, (waysOf p0)[j]? = some jj := ⟨_, List.getElem?_eq_getElem hjl⟩
    obtain ⟨j17, jp⟩ := ways_mem (List.mem_of_getElem? hjj)
    refine ⟨a1, _, j, .str (WW jj), rfl, rfl, .of ha1', atI_nat (by unfold wordsV; rw [List.getElem?_map, hjj] <;> rfl), (by decide : 2 ≤ sizeLine), fun t ht => ?_⟩
    have b9' := b11.trans b12
    have b13 := b9'.new ht (.tup [.str (PN p0), .str (WW jj)])
    have hF13 := b13.get nF hF9
    have hL13 := b13.get nL hL9
    have hW13 := b13.get nW hW9
    have nt : t ∉ [b, L, F] := by
      simp only [List.mem_cons, List.not_mem_nil, or_false, not_or]
      refine ⟨box_some b9'.box ht, fun e => ?_, fun e => ?_⟩
      · rw [e, b9'.get nL hL9] at ht; cases ht
      · rw [e, b9'.get nF hF9] at ht; cases ht
    have hs13 := stepsT_bs (by simp) b13 hs
    have st : StepT [b, L, F] (upd H12 t (.tup [.str (PN p0), .str (WW jj)])) (.ref t) jj := ⟨t, rfl, nt, by rw [jp]; exact upd_same⟩
    generalize upd H12 t (.tup [.str (PN p0), .str (WW jj)]) = H13 at *
    have hs14 := stepsT_upd (D := F) (by simp) (.lst (vs ++ [.ref t])) (paired_snoc hs13 st)
    refine ⟨F, vs, _, rfl, rfl, hF13, by omega, ⟨_, _, vs ++ [.ref t], ws ++ [jj], ls.eraseIdx k, rfl, (bs9.trans b13).at_ fF nF _, (upd_ne nWF).trans hW13, (upd_ne nLF).trans hL13, upd_same, hs14, ⟨fun z hz => ?_, ?_⟩, ?_, ?_, ?_, fun z hz => l6 z (List.mem_of_mem_eraseIdx hz), fun z hz => ?_⟩⟩
    · rcases List.mem_append.mp hz with hz | hz
      · exact ok.ways z hz
      · obtain rfl := List.mem_singleton.mp hz
        exact j17
    · rw [List.map_append, List.nodup_append]
      refine ⟨ok.nd, List.nodup_cons.mpr ⟨List.not_mem_nil, List.nodup_nil⟩, fun a ha b hb' e => ?_⟩
      obtain ⟨z, hz, rfl⟩ := List.mem_map.mp ha
      obtain rfl := List.mem_singleton.mp hb'
      exact hdis z hz (by rw [e, jp]; exact pm)
    · rw [List.length_append, wl] <;> rfl
    · rw [List.length_eraseIdx_of_lt hk']
      omega
    · exact lnd.sublist (List.eraseIdx_sublist ls k)
    · rcases List.mem_append.mp hz with hz | hz
      · exact fun m => hdis z hz (List.mem_of_mem_eraseIdx m)
      · obtain rfl := List.mem_singleton.mp hz
        rw [jp]
        exact erase_idx_not lnd hp0
  · rintro σ2 H6 ⟨x4, x5, vs, ws, ls, rfl, bs, hW6, hL6, hF6, hs, ok, wl, ll, lnd, l6, hdis⟩
    exact ⟨_, rfl, q F vs ws _ ok (by omega) hF6 (stepsT_less (by simp) hs) fF bs⟩
theorem law_steps_ (D : DefT K mg "_law_steps" sLSteps []) (T : Free mg) (G : C8.Cal P w K mg base 1 "_law_take" spTake []) (G2 : C8.Cal P w K mg base 1 "_law_ways" spLWays []) : C8.Cal P w K mg base 2 "_law_steps" spLSteps [] :=
  cal_of D scLSteps (fun _ _ _ _ _ _ us hl => match us, hl with | [_], _ => rfl) (fun vs H Q E h => by
    obtain ⟨_, rfl, _⟩ := h
    rfl) (b_lsteps T G G2)
end
end S
end

section
set_option maxRecDepth 100000
set_option maxHeartbeats 4000000
/-! Defs: the law's other rule. -/
namespace S
open PySem PySem.Spec PyProof.Rows L2 SM
section
variable {α β : Type} {F : α → β → Prop}
theorem paired_app : ∀ {l₁ m₁ : List α} {l₂ m₂ : List β}, Paired F l₁ l₂ → Paired F m₁ m₂ → Paired F (l₁ ++ m₁) (l₂ ++ m₂)
  | _, _, _, _, .nil, h => h
  | _, _, _, _, .cons h t, h2 => .cons h (paired_app t h2)
theorem paired_rev : ∀ {l₁ : List α} {l₂ : List β}, Paired F l₁ l₂ → Paired F l₁.reverse l₂.reverse
  | _, _, .nil => .nil
  | _, _, .cons h t => by
    rw [List.reverse_cons, List.reverse_cons]
    exact paired_app (paired_rev t) (.cons h .nil)
theorem paired_dr : ∀ {l₁ : List α} {l₂ : List β}, Paired F l₁ l₂ → ∀ i, Paired F (l₁.drop i) (l₂.drop i)
  | _, _, h, 0 => h
  | _, _, .nil, i + 1 => .nil
  | _, _, .cons _ t, i + 1 => paired_dr t i
theorem paired_set : ∀ {l₁ : List α} {l₂ : List β} {a : α} {b : β}, Paired F l₁ l₂ → F a b → ∀ i, Paired F (l₁.set i a) (l₂.set i b)
  | _, _, _, _, .nil, _, _ => .nil
  | _, _, _, _, .cons _ t, h, 0 => .cons h t
  | _, _, _, _, .cons h0 t, h, i + 1 => .cons h0 (paired_set t h i)
end
section
variable {P : Program} {w : World} {K : PySem.W.Frag} {mg : Str → Option Value} {base : Heap} {CM CR PK : Addr}
theorem set_self {α : Type} : ∀ {l : List α} {i : Nat} {x : α}, l[i]? = some x → l.set i x = l
  | [], _, _, h => by cases h
  | a :: l, 0, x, h => by
    obtain rfl : a = x := Option.some.inj h
    rfl
  | a :: l, i + 1, x, h => by
    rw [List.set_cons_succ, set_self (l := l) h]
theorem words_ne {H : Hp} {a b : Addr} {p : Nat} (ha : H a = some (.lst (wordsV p))) (hb : BoxAt H b) : a ≠ b := fun e => by
  obtain ⟨x, y, z, e2, _⟩ := hb
  rw [← e, ha] at e2
  injection e2 with e2
  injection e2 with e2
  have m : V.int x ∈ wordsV p := by rw [e2]; simp
  obtain ⟨j, _, hj⟩ := List.mem_map.mp m
  cases hj
theorem okr_drop {ws : List Nat} (ok : OkR ws) : OkR ws.dropLast := by
  refine ⟨fun z hz => ok.ways z (List.dropLast_subset ws hz), ?_⟩
  rw [List.map_dropLast]
  exact ok.nd.sublist (List.dropLast_sublist _)
theorem okr_perm {ws ws' : List Nat} (h : List.Perm ws ws') (ok : OkR ws) : OkR ws' :=
  ⟨fun z hz => ok.ways z (h.mem_iff.mpr hz), (h.map wp).nodup_iff.mp ok.nd⟩
theorem okr_turn {ws : List Nat} (i : Nat) (ok : OkR ws) : OkR ((ws.take i).reverse ++ ws.drop i) :=
  okr_perm (by
    have h1 : List.Perm ((ws.take i).reverse ++ ws.drop i) (ws.take i ++ ws.drop i) := (List.reverse_perm _).append_right _
    rw [List.take_append_drop] at h1
    exact h1.symm) ok
theorem okr_set {ws : List Nat} {i j jj : Nat} (ok : OkR ws) (h : ws[i]? = some j) (hj : jj < 17) (e : wp jj = wp j) : OkR (ws.set i jj) := by
  refine ⟨fun z hz => ?_, ?_⟩
  · rcases List.mem_or_eq_of_mem_set hz with hz | rfl
    · exact ok.ways z hz
    · exact hj
  · rw [List.map_set, e]
    have : (ws.map wp)[i]? = some (wp j) := by rw [List.getElem?_map, h] <;> rfl
    rw [set_self this]
    exact ok.nd
def spLOther : Sp := fun vs0 H Q _ => ∃ (b a : Addr) (vs : List V) (ws : List Nat), vs0 = [.ref b, .ref a] ∧ BoxAt H b ∧ OkR ws ∧ 1 ≤ ws.length ∧ H a = some (.lst vs) ∧ StepsT [b] H vs ws ∧
  ∀ (a : Addr) (vs : List V) (ws : List Nat) H', OkR ws → 1 ≤ ws.length → H' a = some (.lst vs) → StepsT [b] H' vs ws → H a = none → BS b H H' → Q (.ref a) H'
abbrev sLOther : Stmt := top 98
abbrev nLOther : List Str := ["_law_box_here", "_law_steps_here", "_law_found", "_law_way", "_law_at", "_law_words", "_law_row"]
theorem scLOther : FnScope nLOther ["_law_box_here", "_law_steps_here"] (defScope sLOther) := ⟨rfl, rfl, rfl, by decide +kernel, rfl, by decide +kernel, by decide +kernel⟩
theorem b_lother (T : Free mg) (G_take : C8.Cal P w K mg base 1 "_law_take" spTake []) (G_ways : C8.Cal P w K mg base 1 "_law_ways" spLWays []) (G_steps : C8.Cal P w K mg base 2 "_law_steps" spLSteps []) : Body P w K mg base 2 nLOther "_law_other" sLOther spLOther := by
  intro f cdv A outer s H vs Q E hr h
  obtain ⟨b, a, vs, ws, rfl, hb, ok, lw, ha, hs, q⟩ := h
  have nd := scLOther.nd
  have sz := sizeLine_eq
  refine ⟨_, (pss_cons (ps_set (i := 2) nd rfl (Or.inl rfl) (pe_callTy call_list_of (by rfl) T.list boot_list (pa_cons (pv 1) pa_nil)))
      (pss_cons (ps_set (i := 3) nd rfl (Or.inl rfl) (C8.pe_c G_take hr (by decide) rfl (pa_cons (pv 0) (pa_cons pe_int pa_nil))))
      (pss_cons (ps_set (i := 4) nd rfl (Or.inl rfl) (C8.pe_c G_take hr (by decide) rfl (pa_cons (pv 0) (pa_cons (pe_callB call_len_seq (by rfl) T.len boot_len (pa_cons (pv 2) pa_nil)) pa_nil))))
      (pss_cons (ps_if (pt_cmpR op_eq (pv 3) pe_int (nomark _))
        (pss_one (ps_ret (C8.pe_c G_steps hr (by decide) rfl (pa_cons (pv 0) pa_nil))))
        pss_nil)
      (C8.pss_cut (ps_if (pt_cmpR op_eq (pv 3) pe_int (nomark _))
        (pss_cons (ps_set (i := 5) nd rfl (Or.inl rfl) (pe_lst (pa_cons pe_str (pa_cons pe_str (pa_cons pe_str (pa_cons pe_str (pa_cons pe_str (pa_cons pe_str pa_nil))))))))
        (pss_cons (ps_set (i := 6) nd rfl (Or.inl rfl) (C8.pe_c G_ways hr (by decide) rfl (pa_cons (pe_bm PySem.F.plainAttrs_list PySem.F.slot_list_index PySem.F.type_list_index mt_index (pv 5) (pa_cons (pe_ix ix_tup (pe_ix ix_list (pv 2) (pv 4) (fun _ _ => rfl)) pe_int (fun _ _ => rfl)) pa_nil)) pa_nil)))
        (pss_one (ps_asg (pe_tup (pa_cons (pe_ix ix_tup (pe_ix ix_list (pv 2) (pv 4) (fun _ _ => rfl)) pe_int (fun _ _ => rfl)) (pa_cons (pe_ix ix_list (pv 6) (C8.pe_c G_take hr (by decide) rfl (pa_cons (pv 0) (pa_cons (pe_callB call_len_seq (by rfl) T.len boot_len (pa_cons (pv 6) pa_nil)) pa_nil))) (fun _ _ => rfl)) pa_nil))) (pg_sub (pv 2) (pv 4) set_list)))))
        (pss_one (ps_if (PW.pt (pw_and (pt_cmpR op_eq (pv 3) pe_int (nomark _)) (pw_and1 (pt_cmpR op_gt (pe_callB call_len_seq (by rfl) T.len boot_len (pa_cons (pv 2) pa_nil)) pe_int (nomark _)))))
          (pss_one (ps_expr (pe_bm0 PySem.F.plainAttrs_list PySem.F.slot_list_pop PySem.F.type_list_pop mt_pop (pv 2))))
          (pss_one (ps_if (pt_cmpR op_eq (pv 3) pe_int (nomark _))
            (pss_one (ps_set (i := 2) nd rfl (Or.inl rfl) (pe_op op_cat (pe_revL (pe_slice sl_list (pv 2) po_none (po_some (pv 4)))) (pe_slice sl_list (pv 2) (po_some (pv 4)) po_none))))
            pss_nil)))))
      (pss_one (ps_ret (pv 2)))))))), ?_⟩
  have wl7 : ws.length < 7 := by
    have := okr_six ok
    omega
  have vl : vs.length = ws.length := Paired.length hs
  refine ⟨_, rfl, a, _, rfl, .inl (.of ha), fun F hF => ?_⟩
  have nF := box_some hb hF
  have b1 := BS.new (.refl hb) hF (.lst vs)
  have hs1 := stepsT_same (same_new hF (u := .lst vs)) hs
  refine ⟨_, rfl, b, 4, rfl, by decide, by decide, b1.box, fun y H2 hy b2 => ?_⟩
  have hF2 := b2.get nF upd_same
  have bs2 := b1.trans b2
  have hs2 := stepsT_bs (by simp) b2 hs1
  refine ⟨_, rfl, _, rfl, F, _, rfl, .inl (.of hF2), b, _, rfl, by omega, by omega, bs2.box, fun k H3 hk b3 => ?_⟩
  have hF3 := b3.get nF hF2
  have bs3 := bs2.trans b3
  have hs3 := stepsT_bs (by simp) b3 hs2
  have hk' : k < vs.length := by omega
  clear b1 b2 b3 hs1 hs2 bs2 hF2
  by_cases y0 : y = 0
  · subst y0
    refine ⟨_, rfl, rfl, _, rfl, iteT ⟨_, rfl, b, rfl, bs3.box, fun a' vs' ws' H4 ok' l' ha' hs' fa b4 => q a' vs' ws' _ ok' l' ha' hs' (bs3.fresh hb fa) (bs3.trans b4)⟩⟩
  · refine ⟨_, rfl, rfl, _, rfl, ?_⟩
    rw [decide_eq_false (show ¬ V.int (y : Nat) = V.int 0 from fun e => by injection e with e; omega)]
    refine iteF ⟨fun σ' H' => ∃ G vs' ws' x3 x4 x5 x6, σ' = [some (.ref b), some (.ref a), some (.ref G), x3, x4, x5, x6] ∧ OkR ws' ∧ 1 ≤ ws'.length ∧ H' G = some (.lst vs') ∧ StepsT [b] H' vs' ws' ∧ H G = none ∧ BS b H H', ?_, ?_⟩
    · have ey : y = 1 ∨ y = 2 ∨ y = 3 := by omega
      rcases ey with rfl | rfl | rfl
      · refine ⟨_, rfl, rfl, _, rfl, iteT ⟨(by decide : 6 ≤ sizeLine), fun W hW => ?_⟩⟩
        have s4 := same_new hW (u := .lst (PNs.map V.str))
        obtain ⟨j, hj⟩ : ∃ j, ws[k]? = some j := ⟨_, List.getElem?_eq_getElem (by omega)⟩
        obtain ⟨v, hv, t, rfl, nt, ht⟩ := paired_getL hs3 hj
        have j17 := ok.ways j (List.mem_of_getElem? hj)
        have p6 := wp_lt j j17
        refine ⟨_, rfl, .inl ⟨rfl, _, SqL.of upd_same⟩, _, rfl, _, rfl, F, _, k, _, rfl, rfl, .of (s4 _ _ hF3), atI_nat hv, t, _, 0, _, rfl, rfl, .of (s4 _ _ ht), atI_nat (j := 0) rfl, W, PNs.map V.str, _, wp j, .str (PN (wp j)), rfl, rfl, .of upd_same, rfl, rfl, by rw [List.getElem?_map, pn_at _ p6] <;> rfl, beq_self_eq_true (PN (wp j)), fun m z' hm hz => ?_, wp j, rfl, p6, fun a1 H5 s5 ha1 => ?_⟩
        · rw [List.getElem?_map, pn_at m (by omega)] at hz
          obtain rfl := Option.some.inj hz
          exact beq_eq_false_iff_ne.mpr fun e => by
            have := pn_inj (by omega) p6 e
            omega
        · have b5 : BS b H H5 := bs3.trans (.of bs3.box (s4.trans s5))
          have wlen : 0 < (wordsV (wp j)).length ∧ (wordsV (wp j)).length < 18 := by
            have z : ∀ p : Fin 6, 0 < (wordsV p.val).length ∧ (wordsV p.val).length < 18 := by decide +kernel
            exact z ⟨wp j, p6⟩
          have s45 := s4.trans s5
          refine ⟨_, rfl, _, rfl, F, _, k, _, rfl, rfl, .of (s45 _ _ hF3), atI_nat hv, t, _, 0, _, rfl, rfl, .of (s45 _ _ ht), atI_nat (j := 0) rfl, _, rfl, _, rfl, _, rfl, a1, _, rfl, .inl (.of ha1), b, _, rfl, by omega, by omega, b5.box, fun i H6 hi b6 => ?_⟩
          have na1 := words_ne ha1 b5.box
          have hjl : i < (waysOf (wp j)).length := by
            have : (wordsV (wp j)).length = (waysOf (wp j)).length := by unfold wordsV; rw [List.length_map]
            omega
          obtain ⟨jj, hjj⟩ : ∃ jj, (waysOf (wp j))[i]? = some jj := ⟨_, List.getElem?_eq_getElem hjl⟩
          obtain ⟨jj17, jp⟩ := ways_mem (List.mem_of_getElem? hjj)
          refine ⟨a1, _, i, .str (WW jj), rfl, rfl, .of (b6.get na1 ha1), atI_nat (by unfold wordsV; rw [List.getElem?_map, hjj] <;> rfl), (by decide : 2 ≤ sizeLine), fun t2 ht2 => ?_⟩
          have bb6 := b5.trans b6
          have b7 := bb6.new ht2 (.tup [.str (PN (wp j)), .str (WW jj)])
          have hs7 := stepsT_same (same_new ht2 (u := .tup [.str (PN (wp j)), .str (WW jj)])) (stepsT_bs (b := b) (by simp) b6 (stepsT_same s45 hs3))
          have hF6 := b6.get nF (s45 _ _ hF3)
          have hF7 := same_new ht2 (u := .tup [.str (PN (wp j)), .str (WW jj)]) _ _ hF6
          have n2F : t2 ≠ F := fun e => by rw [e, hF6] at ht2; cases ht2
          have st : StepT [b] (upd (upd H6 t2 (.tup [.str (PN (wp j)), .str (WW jj)])) F (.lst (vs.set k (.ref t2)))) (.ref t2) jj := ⟨t2, rfl, by simp only [List.mem_cons, List.not_mem_nil, or_false]; exact box_some bb6.box ht2, by rw [upd_ne n2F, jp]; exact upd_same⟩
          have hs8 : StepsT [b] (upd (upd H6 t2 (.tup [.str (PN (wp j)), .str (WW jj)])) F (.lst (vs.set k (.ref t2)))) vs ws := by
            refine Paired.mapP hs7 fun v j' ⟨t', e1, e2, e3⟩ => ⟨t', e1, e2, ?_⟩
            rw [upd_ne (fun e => by rw [e, hF7] at e3; cases e3)]
            exact e3
          exact ⟨_, rfl, _, rfl, F, _, k, k, rfl, rfl, hF7, ix_nat hk', F, _, ws.set k jj, _, _, _, _, rfl, okr_set ok hj jj17 jp, by rw [List.length_set]; exact lw, upd_same, paired_set hs8 st k, hF, b7.at_ hF nF _⟩
      · refine ⟨_, rfl, rfl, _, rfl, iteF ⟨_, rfl, rfl, _, rfl, iteT ⟨_, rfl, F, _, rfl, .inl (.of hF3), _, _, rfl, rfl, _, rfl, ?_⟩⟩⟩
        by_cases l1 : 1 < vs.length
        · rw [decide_eq_true (show (1 : Int) < (vs.length : Nat) by omega)]
          obtain ⟨v, hv⟩ : ∃ v, vs[vs.length - 1]? = some v := ⟨_, List.getElem?_eq_getElem (by omega)⟩
          refine iteT ⟨_, rfl, .inl ⟨rfl, _, SqL.of hF3⟩, F, vs, v, rfl, rfl, hF3, hv, F, _, ws.dropLast, _, _, _, _, rfl, okr_drop ok, by rw [List.length_dropLast]; omega, upd_same, ?_, hF, bs3.at_ hF nF _⟩
          have hs8 : StepsT [b] (upd H3 F (.lst vs.dropLast)) vs ws := by
            refine Paired.mapP hs3 fun v j' ⟨t', e1, e2, e3⟩ => ⟨t', e1, e2, ?_⟩
            rw [upd_ne (fun e => by rw [e, hF3] at e3; cases e3)]
            exact e3
          rw [List.dropLast_eq_take, List.dropLast_eq_take, ← vl]
          rw [List.dropLast_eq_take] at hs8
          exact paired_take hs8 _
        · rw [decide_eq_false (show ¬ (1 : Int) < (vs.length : Nat) by omega)]
          exact iteF ⟨_, rfl, rfl, _, rfl, iteF ⟨F, vs, ws, _, _, _, _, rfl, ok, lw, hF3, hs3, hF, bs3⟩⟩
      · refine ⟨_, rfl, rfl, _, rfl, iteF ⟨_, rfl, rfl, _, rfl, iteF (iteF ⟨_, rfl, rfl, _, rfl, iteT ⟨_, rfl, _, rfl, _, rfl, F, _, rfl, .of hF3, fun p1 hp1 => ⟨p1, _, rfl, .of upd_same, fun p2 hp2 => ?_⟩⟩⟩)⟩⟩
        have s1 := same_new hp1 (u := .lst (cutV vs none (some (k : Nat))))
        have s2 := s1.trans (same_new hp2 (u := .lst (cutV vs none (some (k : Nat))).reverse))
        have c1 := cutV_length vs none (some (k : Nat))
        have c2 := cutV_length vs (some (k : Nat)) none
        refine ⟨_, rfl, _, rfl, _, rfl, F, _, rfl, .of (s2 _ _ hF3), fun p3 hp3 => ⟨p2, p3, _, _, rfl, rfl, same_new hp3 _ _ upd_same, upd_same, ?_, fun p4 hp4 => ?_⟩⟩
        · rw [List.length_reverse]
          exact Nat.le_trans (Nat.add_le_add c1 c2) (by omega)
        · have s3 := s2.trans (same_new hp3 (u := .lst (cutV vs (some (k : Nat)) none)))
          have s4 := s3.trans (same_new hp4 (u := .lst ((cutV vs none (some (k : Nat))).reverse ++ cutV vs (some (k : Nat)) none)))
          have e1 : cutV vs none (some (k : Nat)) = vs.take k := cutV_to (by omega)
          have e2 : cutV vs (some (k : Nat)) none = vs.drop k := cutV_fr (by omega)
          refine ⟨p4, _, (ws.take k).reverse ++ ws.drop k, _, _, _, _, rfl, okr_turn k ok, by rw [List.length_append, List.length_reverse, List.length_take, List.length_drop]; omega, upd_same, ?_, bs3.fresh hb (by
            cases e : H3 p4 with
            | none => rfl
            | some o => rw [s3 _ _ e] at hp4; cases hp4), bs3.trans (.of bs3.box s4)⟩
          rw [e1, e2]
          rw [e1, e2] at s4
          have := stepsT_same s4 hs3
          exact paired_app (paired_rev (paired_take this k)) (paired_dr this k)
    · rintro _ H4 ⟨G, vs', ws', x3, x4, x5, x6, rfl, ok', l', hG, hs', fG, b4⟩
      exact ⟨_, rfl, q G vs' ws' _ ok' l' hG hs' fG b4⟩
theorem law_other_ (D : DefT K mg "_law_other" sLOther []) (T : Free mg) (G : C8.Cal P w K mg base 1 "_law_take" spTake []) (G2 : C8.Cal P w K mg base 1 "_law_ways" spLWays []) (G3 : C8.Cal P w K mg base 2 "_law_steps" spLSteps []) : C8.Cal P w K mg base 3 "_law_other" spLOther [] :=
  cal_of D scLOther (fun _ _ _ _ _ _ us hl => match us, hl with | [_, _], _ => rfl) (fun vs H Q E h => by
    obtain ⟨_, _, _, _, rfl, _⟩ := h
    rfl) (b_lother T G G2 G3)
end
end S
end

section
set_option maxRecDepth 100000
set_option maxHeartbeats 4000000
/-! Defs: the law's both. -/
namespace S
open PySem PySem.Spec PyProof.Rows L2 SM NdefX LamX
theorem tabs_upd {T : List NTab} {H : Hp} {D : Addr} {xs : List V} {u : HO} (hD : H D = some (.lst xs)) (h : TabsN T H) : TabsN T (upd H D u) := fun p hp => by
  obtain ⟨ps, h1, h2, h3⟩ := h p hp
  refine ⟨ps, by rw [upd_ne (fun e => by rw [e, hD] at h1; cases h1)]; exact h1, h2, fun pos cv hc => ?_⟩
  obtain ⟨c, e1, e2⟩ := h3 pos cv hc
  exact ⟨c, e1, by rw [upd_ne (fun e => by rw [e, hD] at e2; cases e2)]; exact e2⟩
theorem tabs_bs {T : List NTab} {H H' : Hp} {b : Addr} (hb : BoxAt H b) (s : BS b H H') (h : TabsN T H) : TabsN T H' := fun p hp => by
  obtain ⟨ps, h1, h2, h3⟩ := h p hp
  obtain ⟨x, y, z, hb, _⟩ := hb
  refine ⟨ps, s.get (fun e => by rw [e, hb] at h1; cases h1) h1, h2, fun pos cv hc => ?_⟩
  obtain ⟨c, e1, e2⟩ := h3 pos cv hc
  exact ⟨c, e1, s.get (fun e => by rw [e, hb] at e2; cases e2) e2⟩
theorem extn_at {H H' : Hp} {F : Addr} {u : HO} (h : ExtN H H') (hF : H F = none) : ExtN H (upd H' F u) := fun p o e n => by
  rw [upd_ne (ne_of_none e hF)]
  exact h p o e n
theorem extn_lst {H H' : Hp} (h : ExtN H H') {p : Addr} {xs : List V} (e : H p = some (.lst xs)) : H' p = some (.lst xs) := h p _ e fun ps z => by cases z
section
variable {P : Program} {w : World} {K : PySem.W.Frag} {mg : Str → Option Value} {base : Heap} {CM CR PK : Addr}
def txs (ws : List Nat) (ms : List Mk) : List Str := (sortR ws ms).map Mk.text
def fourT (one other : List Nat) (ms : List Mk) : List (List Str) := [txs one ms, txs one ms.reverse, txs other ms, txs other ms.reverse]
def TextsAt (bad : List Addr) (H : Hp) (l : Addr) (ts : List Str) : Prop := l ∉ bad ∧ H l = some (.lst (ts.map V.str))
def spBoth (K : PySem.W.Frag) (CM CR PK : Addr) : Sp := fun vs H Q _ => ∃ (ra rb a : Addr) (one other : List Nat) (us : List V) (ms : List Mk), vs = [.ref ra, .ref rb, .ref a] ∧ 1 ≤ one.length ∧ 1 ≤ other.length ∧ RuleAt K CR H ra one ∧ RuleAt K CR H rb other ∧ H a = some (.lst us) ∧ Paired (MarkV K CM H) us ms ∧ ms.length ≤ 100 ∧ TabsN (TabK PK) H ∧
  ∀ (F : Addr) (ls : List Addr) H', ExtN H H' → TabsN (TabK PK) H' → H' F = some (.lst (ls.map V.ref)) → Paired (TextsAt [F] H') ls (fourT one other ms) → Q (.ref F) H'
abbrev sBoth : Stmt := top 99
abbrev nBoth : List Str := ["_law_one", "_law_other_here", "_law_marks", "_law_found", "_law_rule", "_law_mark_here"]
theorem scBoth : FnScope nBoth ["_law_one", "_law_other_here", "_law_marks"] (defScope sBoth) := ⟨rfl, rfl, rfl, by decide +kernel, rfl, by decide +kernel, by decide +kernel⟩
theorem b_both (T : Free mg) (g_str : C8.Met P w K mg base 1 CM "__str__" (spTell K CM fun m => (.str m.text)) []) (G_in_order : C8.Met P w K mg base 7 CR "in_order" (spInOrder K CM CR PK) []) : Body P w K mg base 7 nBoth "_law_both" sBoth (spBoth K CM CR PK) := by
  intro f cdv A outer s H vs Q E hr h
  obtain ⟨ra, rb, a, one, other, us, ms, rfl, l1, l2, hR1, hR2, ha, hP, hml, hT, q⟩ := h
  have nd := scBoth.nd
  have sz := sizeLine_eq
  refine ⟨_, (pss_cons (ps_set (i := 3) nd rfl (Or.inl rfl) (pe_lst pa_nil))
      (pss_cons (ps_for PassesOwn.never rfl (pi_list (pe_lst (pa_cons (pv 0) (pa_cons (pv 1) pa_nil)))) (pg_name (i := 4) nd rfl (Or.inl rfl))
        (pss_cons (ps_expr (pe_bm PySem.F.plainAttrs_list PySem.F.slot_list_append PySem.F.type_list_append mt_append (pv 3) (pa_cons (pe_lc (own := [("_law_mark_here", 5)]) (g := gName 5) (tt := tYes) (by rfl) nd (pi_list (C8.pe_mt G_in_order hr (by decide) (pv 4) (pa_cons (pv 2) pa_nil))) (blkOk_by (own := [("_law_mark_here", 5)]) (N := nBoth) (sc := defScope sBoth) (by decide +kernel)) (fun _ _ _ _ _ => (pg_name (i := 5) nd rfl (Or.inl rfl))) (fun _ _ _ _ _ => pts_nil) (fun _ _ _ _ _ => (pe_callTy (show CallR _ (.type "str") (rStrO CM (spTell K CM fun m => (.str m.text))) from call_strO g_str (hr.mono (by decide))) (by rfl) T.str boot_str (pa_cons (pv 5) pa_nil)))) pa_nil)))
        (pss_one (ps_expr (pe_bm PySem.F.plainAttrs_list PySem.F.slot_list_append PySem.F.type_list_append mt_append (pv 3) (pa_cons (pe_lc (own := [("_law_mark_here", 5)]) (g := gName 5) (tt := tYes) (by rfl) nd (pi_list (C8.pe_mt G_in_order hr (by decide) (pv 4) (pa_cons (pe_revL (pv 2)) pa_nil))) (blkOk_by (own := [("_law_mark_here", 5)]) (N := nBoth) (sc := defScope sBoth) (by decide +kernel)) (fun _ _ _ _ _ => (pg_name (i := 5) nd rfl (Or.inl rfl))) (fun _ _ _ _ _ => pts_nil) (fun _ _ _ _ _ => (pe_callTy (show CallR _ (.type "str") (rStrO CM (spTell K CM fun m => (.str m.text))) from call_strO g_str (hr.mono (by decide))) (by rfl) T.str boot_str (pa_cons (pv 5) pa_nil)))) pa_nil))))))
      (pss_one (ps_ret (pv 3))))), ?_⟩
  refine ⟨(by decide : 0 ≤ sizeLine), fun F hF => ?_⟩
  have s1 := same_new hF (u := .lst [])
  refine ⟨_, rfl, _, rfl, (by decide : 2 ≤ sizeLine), fun z hz => ?_⟩
  have s2 := s1.trans (same_new hz (u := .lst [.ref ra, .ref rb]))
  have nzF : z ≠ F := fun e => by rw [e, upd_same] at hz; cases hz
  have F2 := same_new hz (u := .lst [.ref ra, .ref rb]) _ _ (upd_same (H := H) (a := F) (o := .lst []))
  refine ⟨z, rfl, ⟨_, .of upd_same⟩, for_it (walk_list (xs := [.ref ra, .ref rb])) (fun i σ' H' => (∃ x4, σ' = [some (.ref ra), some (.ref rb), some (.ref a), some (.ref F), x4, none]) ∧ ExtN H H' ∧ TabsN (TabK PK) H' ∧ H' z = some (.lst [.ref ra, .ref rb]) ∧ ∃ ls : List Addr, H' F = some (.lst (ls.map V.ref)) ∧ Paired (TextsAt [F] H') ls ((fourT one other ms).take (2 * i))) ?_ (fun _ _ _ _ y => .of y.2.2.2.1) ?_ ?_⟩
  · exact ⟨⟨_, rfl⟩, ExtN.of s2, hT.ext s2, upd_same, [], F2, .nil⟩
  · rintro i x σ2 H1 H1' hi ⟨⟨x4, rfl⟩, ex, hT1, hz1, ls, hF1, hls⟩ ⟨rfl, hx⟩
    obtain ⟨r, ws, rfl, lw, hR, e4⟩ : ∃ r ws, x = .ref r ∧ 1 ≤ ws.length ∧ RuleAt K CR H r ws ∧ (fourT one other ms).take (2 * (i + 1)) = (fourT one other ms).take (2 * i) ++ [txs ws ms] ++ [txs ws ms.reverse] := by
      have ei : i = 0 ∨ i = 1 := by
        have : ([.ref ra, .ref rb] : List V).length = 2 := rfl
        omega
      rcases ei with rfl | rfl
      · exact ⟨ra, one, (Option.some.inj hx).symm, l1, hR1, rfl⟩
      · exact ⟨rb, other, (Option.some.inj hx).symm, l2, hR2, rfl⟩
    have lls : ls.length ≤ 4 := by
      rw [Paired.length hls, List.length_take]
      have : (fourT one other ms).length = 4 := rfl
      omega
    have hR1' := rule_extn ex hR
    have ha1 := extn_lst ex ha
    have hP1 : Paired (MarkV K CM H1') us ms := Paired.mapP hP fun v m ⟨y, e1, e2⟩ => ⟨y, e1, mark_extn ex e2⟩
    obtain ⟨okr, dx, al, vst, hx1, _, _⟩ := id hR1'
    -- the marks as they stand
    refine ⟨_, rfl, .inl ⟨rfl, _, SqL.of hF1⟩, _, rfl, r, dx, _, rfl, hx1, rfl, _, rfl, r, a, ws, us, ms, rfl, lw, hR1', ha1, hP1, hT1, fun L H2 us' ex2 hT2 hL hPL => ⟨L, rfl, ⟨_, .of hL⟩, fun D hD => lc_it (walk_list (xs := us')) (fun i H' => H' = upd H2 D (.lst (((sortR ws ms).take i).map fun m => V.str m.text))) rfl (fun i H' _ e => by rw [e]; exact .of (same_new hD _ _ hL)) ?_ ?_⟩⟩
    · rintro k v H3 H4 hk rfl ⟨rfl, hv⟩
      obtain ⟨m, hm, r', rfl, hM⟩ := paired_get hPL hv
      have hM' : MarkAt K CM (upd H2 D (.lst (((sortR ws ms).take k).map fun m => V.str m.text))) r' m := mark_same (same_new hD) hM
      obtain ⟨okm', dx', t', hx', _⟩ := id hM'
      refine ⟨rfl, ?_⟩
      dsimp only [tYes]
      refine iteT ⟨_, rfl, r', dx', _, rfl, hx', r', m, rfl, hM', m.text, rfl, _, upd_same, ?_, ?_⟩
      · rw [List.length_map, List.length_take]
        have := Paired.length hPL
        have := sort_len ws ms
        omega
      · rw [upd_upd, List.take_add_one, hm, List.map_append] <;> rfl
    · rintro _ rfl
      have el : us'.length = (sortR ws ms).length := Paired.length hPL
      rw [el, List.take_length]
      have nDF : D ≠ F := fun e => by rw [e, extn_lst ex2 hF1] at hD; cases hD
      have s3 := same_new hD (u := .lst ((sortR ws ms).map fun m => V.str m.text))
      have hF3 := s3 _ _ (extn_lst ex2 hF1)
      have hz3 := s3 _ _ (extn_lst ex2 hz1)
      have exA : ExtN H (upd H2 D (.lst ((sortR ws ms).map fun m => V.str m.text))) := ex.trans (ex2.trans (ExtN.of s3))
      have hT3 := hT2.ext s3
      have hD3 : upd H2 D (.lst ((sortR ws ms).map fun m => V.str m.text)) D = some (.lst ((txs ws ms).map V.str)) := by
        rw [upd_same]
        unfold txs
        rw [List.map_map] <;> rfl
      have hls3 : Paired (TextsAt [F] (upd H2 D (.lst ((sortR ws ms).map fun m => V.str m.text)))) ls ((fourT one other ms).take (2 * i)) := Paired.mapP hls fun l ts ⟨n, e⟩ => ⟨n, s3 _ _ (extn_lst ex2 e)⟩
      have hR3 := rule_extn (ex2.trans (ExtN.of s3)) hR1'
      have ha3 := s3 _ _ (extn_lst ex2 ha1)
      have hP3 : Paired (MarkV K CM (upd H2 D (.lst ((sortR ws ms).map fun m => V.str m.text)))) us ms := Paired.mapP hP1 fun v m ⟨y, e1, e2⟩ => ⟨y, e1, mark_same s3 (mark_extn ex2 e2)⟩
      generalize upd H2 D (.lst ((sortR ws ms).map fun m => V.str m.text)) = H3 at *
      refine ⟨F, _, _, rfl, rfl, hF3, by rw [List.length_map]; omega, ?_⟩
      have hls4 : Paired (TextsAt [F] (upd H3 F (.lst (ls.map V.ref ++ [.ref D])))) (ls ++ [D]) ((fourT one other ms).take (2 * i) ++ [txs ws ms]) := by
        refine paired_snoc (Paired.mapP hls3 fun l ts ⟨n, e⟩ => ⟨n, ?_⟩) ⟨by simp only [List.mem_cons, List.not_mem_nil, or_false]; exact nDF, by rw [upd_ne nDF]; exact hD3⟩
        rw [upd_ne (fun z => n (by rw [z]; exact List.mem_cons_self))]
        exact e
      have exB := extn_at (u := .lst (ls.map V.ref ++ [.ref D])) exA hF
      have hT4 := tabs_upd (u := .lst (ls.map V.ref ++ [.ref D])) hF3 hT3
      have hF4 : upd H3 F (.lst (ls.map V.ref ++ [.ref D])) F = some (.lst ((ls ++ [D]).map V.ref)) := by rw [upd_same, List.map_append] <;> rfl
      have hz4 : upd H3 F (.lst (ls.map V.ref ++ [.ref D])) z = some (.lst [.ref ra, .ref rb]) := by rw [upd_ne nzF]; exact hz3
      have hR4 := rule_extn exB hR
      have ha4 := extn_lst exB ha
      have hP4 : Paired (MarkV K CM (upd H3 F (.lst (ls.map V.ref ++ [.ref D])))) us ms := Paired.mapP hP fun v m ⟨y, e1, e2⟩ => ⟨y, e1, mark_extn exB e2⟩
      generalize upd H3 F (.lst (ls.map V.ref ++ [.ref D])) = H4 at *
      clear hls3 hR3 ha3 hP3 hD3 hT3 exA hz3 hF3 s3 hD
      obtain ⟨_, dx4, al4, vst4, hx4, _, _⟩ := id hR4
      -- the other way round
      refine ⟨_, rfl, .inl ⟨rfl, _, SqL.of hF4⟩, _, rfl, r, dx4, _, rfl, hx4, rfl, _, rfl, a, _, rfl, .of ha4, fun v hv => ?_⟩
      have s5 := same_new hv (u := .lst us.reverse)
      have hP5 : Paired (MarkV K CM (upd H4 v (.lst us.reverse))) us.reverse ms.reverse := paired_rev (Paired.mapP hP4 fun v m ⟨y, e1, e2⟩ => ⟨y, e1, mark_same s5 e2⟩)
      refine ⟨r, v, ws, us.reverse, ms.reverse, rfl, lw, rule_same s5 hR4, upd_same, hP5, hT4.ext s5, fun L H6 us' ex6 hT6 hL hPL => ⟨L, rfl, ⟨_, .of hL⟩, fun D2 hD => lc_it (walk_list (xs := us')) (fun i H' => H' = upd H6 D2 (.lst (((sortR ws ms.reverse).take i).map fun m => V.str m.text))) rfl (fun i H' _ e => by rw [e]; exact .of (same_new hD _ _ hL)) ?_ ?_⟩⟩
      · rintro k v H3 H4 hk rfl ⟨rfl, hv⟩
        obtain ⟨m, hm, r', rfl, hM⟩ := paired_get hPL hv
        have hM' : MarkAt K CM (upd H6 D2 (.lst (((sortR ws ms.reverse).take k).map fun m => V.str m.text))) r' m := mark_same (same_new hD) hM
        obtain ⟨okm', dx', t', hx', _⟩ := id hM'
        refine ⟨rfl, ?_⟩
        dsimp only [tYes]
        refine iteT ⟨_, rfl, r', dx', _, rfl, hx', r', m, rfl, hM', m.text, rfl, _, upd_same, ?_, ?_⟩
        · rw [List.length_map, List.length_take]
          have := Paired.length hPL
          have := sort_len ws ms.reverse
          have := List.length_reverse (as := ms)
          omega
        · rw [upd_upd, List.take_add_one, hm, List.map_append] <;> rfl
      · rintro _ rfl
        have el : us'.length = (sortR ws ms.reverse).length := Paired.length hPL
        rw [el, List.take_length]
        have ex5 := (ExtN.of s5).trans ex6
        have nDF2 : D2 ≠ F := fun e => by rw [e, extn_lst ex5 hF4] at hD; cases hD
        have s7 := same_new hD (u := .lst ((sortR ws ms.reverse).map fun m => V.str m.text))
        have hF7 := s7 _ _ (extn_lst ex5 hF4)
        have hz7 := s7 _ _ (extn_lst ex5 hz4)
        have hD7 : upd H6 D2 (.lst ((sortR ws ms.reverse).map fun m => V.str m.text)) D2 = some (.lst ((txs ws ms.reverse).map V.str)) := by
          rw [upd_same]
          unfold txs
          rw [List.map_map] <;> rfl
        refine ⟨F, _, _, rfl, rfl, hF7, by rw [List.length_map, List.length_append]; exact Nat.lt_of_le_of_lt (Nat.add_le_add_right lls 1) (by omega), ⟨_, rfl⟩, extn_at (exB.trans (ex5.trans (ExtN.of s7))) hF, tabs_upd hF7 (hT6.ext s7), by rw [upd_ne nzF]; exact hz7, ls ++ [D] ++ [D2], by rw [upd_same, List.map_append (l₁ := ls ++ [D])] <;> rfl, ?_⟩
        rw [e4]
        refine paired_snoc (Paired.mapP hls4 fun l ts ⟨n, e⟩ => ⟨n, ?_⟩) ⟨by simp only [List.mem_cons, List.not_mem_nil, or_false]; exact nDF2, by rw [upd_ne nDF2]; exact hD7⟩
        rw [upd_ne (fun z => n (by rw [z]; exact List.mem_cons_self))]
        exact s7 _ _ (extn_lst ex5 e)
  · rintro σ2 H1 ⟨⟨x4, rfl⟩, ex, hT1, hz1, ls, hF1, hls⟩
    exact ⟨_, rfl, q F ls _ ex hT1 hF1 hls⟩
theorem both_ (D : DefT K mg "_law_both" sBoth []) (T : Free mg) (G1 : C8.Met P w K mg base 1 CM "__str__" (spTell K CM fun m => (.str m.text)) []) (G2 : C8.Met P w K mg base 7 CR "in_order" (spInOrder K CM CR PK) []) : C8.Cal P w K mg base 8 "_law_both" (spBoth K CM CR PK) [] :=
  cal_of D scBoth (fun _ _ _ _ _ _ us hl => match us, hl with | [_, _, _], _ => rfl) (fun vs H Q E h => by
    obtain ⟨_, _, _, _, _, _, _, rfl, _⟩ := h
    rfl) (b_both T G1 G2)
end
end S
end

section
set_option maxRecDepth 100000
set_option maxHeartbeats 4000000
/-! Data of lists of texts; texts are plain. -/
namespace S
open PySem PySem.Spec PyProof.Rows L2 SM NdefX LamX
theorem strs_eqv : ∀ xs ys : List Str, PyData.eqvAll (xs.map PyData.str) (ys.map PyData.str) = decide (xs = ys)
  | [], [] => by simp [PyData.eqvAll]
  | [], y :: ys => by simp [PyData.eqvAll]
  | x :: xs, [] => by simp [PyData.eqvAll]
  | x :: xs, y :: ys => by
    rw [List.map_cons, List.map_cons]
    simp only [PyData.eqvAll, PyData.eqv]
    rw [strs_eqv xs ys, beqd]
    by_cases e : x = y <;> by_cases e2 : xs = ys <;> simp [e, e2]
def tsD (ts : List Str) : PyData := .list (ts.map PyData.str)
theorem tss_eqvA : ∀ xs ys : List (List Str), PyData.eqvAll (xs.map tsD) (ys.map tsD) = decide (xs = ys)
  | [], [] => by simp [PyData.eqvAll]
  | [], y :: ys => by simp [PyData.eqvAll]
  | x :: xs, [] => by simp [PyData.eqvAll]
  | x :: xs, y :: ys => by
    rw [List.map_cons, List.map_cons]
    have h : PyData.eqv (tsD x) (tsD y) = decide (x = y) := by
      unfold tsD
      simp only [PyData.eqv]
      exact strs_eqv x y
    simp only [PyData.eqvAll]
    rw [tss_eqvA xs ys, h]
    by_cases e : x = y <;> by_cases e2 : xs = ys <;> simp [e, e2]
theorem tss_eqv (xs ys : List (List Str)) : PyData.eqv (.list (xs.map tsD)) (.list (ys.map tsD)) = decide (xs = ys) := by
  simp only [PyData.eqv]
  exact tss_eqvA xs ys
theorem tss_can : ∀ l : List (List Str), (∀ ts ∈ l, ∀ x ∈ ts, Asc x) → PyData.canLayAll0 (l.map tsD) = true ∧ PyData.depthAll (l.map tsD) ≤ 1
  | [], _ => ⟨rfl, Nat.zero_le _⟩
  | x :: l, h => by
    obtain ⟨a, b⟩ := tss_can l fun y hy => h y (List.mem_cons_of_mem _ hy)
    obtain ⟨c, d⟩ := strs_can x (h x List.mem_cons_self)
    refine ⟨?_, ?_⟩
    · show (PyData.canLayAll0 (x.map PyData.str) && PyData.canLayAll0 _) = true
      rw [c, a] <;> rfl
    · show max (PyData.depthAll (x.map PyData.str) + 1) (PyData.depthAll (l.map tsD)) ≤ 1
      rw [d]
      exact Nat.max_le.mpr ⟨Nat.le_refl _, b⟩
theorem tss_shaped {l : List (List Str)} (h : ∀ ts ∈ l, ∀ x ∈ ts, Asc x) : SeqAt.shaped (.list (l.map tsD)) = true := by
  obtain ⟨a, b⟩ := tss_can l h
  unfold SeqAt.shaped
  have e1 : PyData.canLay0 (.list (l.map tsD)) = true := a
  have e2 : PyData.depth (.list (l.map tsD)) ≤ 64 := by
    show PyData.depthAll _ + 1 ≤ 64
    omega
  rw [e1, decide_eq_true e2] <;> rfl
theorem dp_tss {K : PySem.W.Frag} {H : Hp} {bad : List Addr} : ∀ {ls : List Addr} {tss : List (List Str)}, Paired (TextsAt bad H) ls tss → DpAll K H (ls.map V.ref) (tss.map tsD)
  | _, _, .nil => .nil
  | _, _, .cons ⟨_, e⟩ t => .cons (.lst (.of e) (dpStrs _)) (dp_tss t)
/-! ### texts are plain -/
theorem asc_app {x y : Str} (h1 : Asc x) (h2 : Asc y) : Asc (x ++ y) := fun c hc => by
  rw [cs_app] at hc
  exact (List.mem_append.mp hc).elim (h1 c) (h2 c)
theorem asc_dig {x : Str} (h : NumText.AllDigits (cs x)) : Asc x := fun c hc => by have := (h c hc).2; omega
theorem asc_join {sep : Str} (hs : Asc sep) : ∀ {l : List Str}, (∀ x ∈ l, Asc x) → Asc (Txt.join sep l) := by
  intro l h
  rw [TL.join_eq]
  induction l with
  | nil => exact fun c hc => absurd hc (by simp [Str.join, Str.empty])
  | cons x r ih =>
    cases r with
    | nil => exact h x List.mem_cons_self
    | cons y r =>
      have := ih fun z hz => h z (List.mem_cons_of_mem _ hz)
      exact asc_app (asc_app (h x List.mem_cons_self) hs) this
theorem text_asc {m : Mk} (ok : OkM m) : Asc m.text := by
  have o0 : OkLetters m.letters := ok 0 (by decide)
  have o1 : 1 ≤ m.number ∧ m.number ≤ 9999 := ok 1 (by decide)
  have o2 : OkPoints m.points := ok 2 (by decide)
  have o3 : m.makers.length ≤ 3 ∧ ∀ x ∈ m.makers, OkMaker x := ok 3 (by decide)
  have o4 : OkYear m.year := ok 4 (by decide)
  have o5 : OkCopy m.copy := ok 5 (by decide)
  have sp : Asc (Str.ofString " ") := by
    have : cs (Str.ofString " ") = [32] := by decide +kernel
    intro c hc; rw [this] at hc; obtain rfl := List.mem_singleton.mp hc; decide
  have dt : Asc (Str.ofString ".") := by
    have : cs (Str.ofString ".") = [46] := by decide +kernel
    intro c hc; rw [this] at hc; obtain rfl := List.mem_singleton.mp hc; decide
  have cd : Asc (Str.ofString "c.") := by
    have : cs (Str.ofString "c.") = [99, 46] := by decide +kernel
    intro c hc; rw [this] at hc
    simp only [List.mem_cons, List.not_mem_nil, or_false] at hc
    rcases hc with rfl | rfl <;> decide
  unfold Mk.text Mk.words
  refine asc_join sp fun x hx => ?_
  rcases List.mem_cons.mp hx with rfl | hx
  · refine asc_app (asc_app (fun c hc => by have := (o0.2.2 c hc).2; omega) (asc_dig (figs_digits (by omega)))) ?_
    unfold pword
    split
    · exact fun c hc => by rw [emp_cs] at hc; cases hc
    · exact asc_app dt (asc_dig (pts_digits o2).1)
  · rcases List.mem_append.mp hx with hx | hx
    · rcases List.mem_append.mp hx with hx | hx
      · exact loose_asc (loose_m (o3.2 x hx))
      · unfold yword at hx
        cases e : m.year with
        | none => rw [e] at hx; cases hx
        | some n =>
          rw [e] at hx
          obtain rfl := List.mem_singleton.mp hx
          have := o4 n e
          exact asc_dig (figs_digits (by omega))
    · unfold cword at hx
      cases e : m.copy with
      | none => rw [e] at hx; cases hx
      | some n =>
        rw [e] at hx
        obtain rfl := List.mem_singleton.mp hx
        have := (o5 n e).1
        exact asc_app cd (asc_dig (figs_digits (by omega)))
theorem txs_asc {ws : List Nat} {ms : List Mk} (h : ∀ m ∈ ms, OkM m) : ∀ x ∈ txs ws ms, Asc x := fun x hx => by
  obtain ⟨m, hm, rfl⟩ := List.mem_map.mp hx
  exact text_asc (h m (sort_mem.mp hm))
theorem four_asc {one other : List Nat} {ms : List Mk} (h : ∀ m ∈ ms, OkM m) : ∀ ts ∈ fourT one other ms, ∀ x ∈ ts, Asc x := by
  have h' : ∀ m ∈ ms.reverse, OkM m := fun m hm => h m (List.mem_reverse.mp hm)
  intro ts hts
  unfold fourT at hts
  simp only [List.mem_cons, List.not_mem_nil, or_false] at hts
  rcases hts with rfl | rfl | rfl | rfl
  · exact txs_asc h
  · exact txs_asc h'
  · exact txs_asc h
  · exact txs_asc h'
theorem marks_ok {K : PySem.W.Frag} {CM : Addr} {H : Hp} : ∀ {us : List V} {ms : List Mk}, Paired (MarkV K CM H) us ms → ∀ m ∈ ms, OkM m
  | _, _, .nil, _, h => absurd h List.not_mem_nil
  | _, _, .cons ⟨_, _, hM⟩ t, m, h => (List.mem_cons.mp h).elim (fun e => by rw [e]; exact hM.1) fun h => marks_ok t m h
end S
end

section
set_option maxRecDepth 100000
set_option maxHeartbeats 4000000
/-! Defs: the law's houses. -/
namespace S
open PySem PySem.Spec PyProof.Rows L2 SM NdefX LamX
section
variable {P : Program} {w : World} {K : PySem.W.Frag} {mg : Str → Option Value} {base : Heap} {CM CR PK : Addr}
theorem texts_same {bad : List Addr} {H H' : Hp} (s : Same H H') {ls : List Addr} {tss : List (List Str)} (h : Paired (TextsAt bad H) ls tss) : Paired (TextsAt bad H') ls tss := Paired.mapP h fun l ts ⟨n, e⟩ => ⟨n, s _ _ e⟩
def spHouses (K : PySem.W.Frag) (CM CR PK : Addr) : Sp := fun vs H Q _ => ∃ (ra rb a : Addr) (one other : List Nat) (us : List V) (ms : List Mk), vs = [.ref ra, .ref rb, .ref a] ∧ 1 ≤ one.length ∧ 1 ≤ other.length ∧ RuleAt K CR H ra one ∧ RuleAt K CR H rb other ∧ H a = some (.lst us) ∧ Paired (MarkV K CM H) us ms ∧ ms.length ≤ 100 ∧ TabsN (TabK PK) H ∧
  ∀ H', ExtN H H' → TabsN (TabK PK) H' → Q (.bl true) H'
abbrev sHouses : Stmt := top 100
abbrev nHouses : List Str := ["_law_one", "_law_other_here", "_law_marks", "_law_found", "_law_kept", "_law_told", "_law_left", "_law_right"]
theorem scHouses : FnScope nHouses ["_law_one", "_law_other_here", "_law_marks"] (defScope sHouses) := ⟨rfl, rfl, rfl, by decide +kernel, rfl, by decide +kernel, by decide +kernel⟩
theorem b_houses (T : Free mg) (g_len : C8.Met P w K mg base 1 CM "__len__" (spTell K CM fun m => .int (m.len : Nat)) []) (G_order : C8.Met P w K mg base 5 CR "order" (spOrder K CM CR) []) (G_parted : C8.Cal P w K mg base 8 "parted" (spParted K CM CR) []) (G_alike : C8.Cal P w K mg base 9 "alike" (spAlike K CR) []) (G_both : C8.Cal P w K mg base 8 "_law_both" (spBoth K CM CR PK) []) :
    Body P w K mg base 9 nHouses "_law_houses" sHouses (spHouses K CM CR PK) := by
  intro f cdv A outer s H vs Q E hr h
  obtain ⟨ra, rb, a, one, other, us, ms, rfl, l1, l2, hR1, hR2, ha, hP, hml, hT, q⟩ := h
  have nd := scHouses.nd
  have sz := sizeLine_eq
  refine ⟨_, (pss_cons (ps_set (i := 3) nd rfl (Or.inl rfl) (C8.pe_c G_parted hr (by decide) rfl (pa_cons (pv 0) (pa_cons (pv 1) pa_nil))))
      (pss_cons (ps_set (i := 4) nd rfl (Or.inl rfl) (C8.pe_c G_both hr (by decide) rfl (pa_cons (pv 0) (pa_cons (pv 1) (pa_cons (pv 2) pa_nil)))))
      (pss_cons (ps_if (pt_val (C8.pe_c G_alike hr (by decide) rfl (pa_cons (pv 0) (pa_cons (pv 1) pa_nil))))
        (pss_one (ps_ret (pe_and (pe_cmpR op_isN (pv 3) pe_non (nomark _)) (pe_one (pe_cmpR (op_eqD hr.units) (pe_slice sl_list (pv 4) po_none (po_some pe_int)) (pe_slice sl_list (pv 4) (po_some pe_int) po_none) (nomark _))))))
        pss_nil)
      (pss_cons (ps_if (pt_cmpR op_isN (pv 3) pe_non (nomark _))
        (pss_one (ps_never))
        pss_nil)
      (pss_cons (ps_set (i := 5) nd rfl (Or.inl rfl) (C8.pe_c G_both hr (by decide) rfl (pa_cons (pv 0) (pa_cons (pv 1) (pa_cons (pe_callTy call_list_of (by rfl) T.list boot_list (pa_cons (pv 3) pa_nil)) pa_nil)))))
      (pss_cons (ps_if (PW.pt (pw_or (pt_cmpR (op_eqD hr.units) (pe_slice sl_list (pv 5) po_none (po_some pe_int)) (pe_slice sl_list (pv 5) (po_some pe_int) po_none) (nomark _)) (pw_or1 (pt_cmpR op_eq (C8.pe_mt G_order hr (by decide) (pv 0) (pa_cons (pe_ix ix_tup (pv 3) pe_int (fun _ _ => rfl)) (pa_cons (pe_ix ix_tup (pv 3) pe_int (fun _ _ => rfl)) pa_nil))) (C8.pe_mt G_order hr (by decide) (pv 1) (pa_cons (pe_ix ix_tup (pv 3) pe_int (fun _ _ => rfl)) (pa_cons (pe_ix ix_tup (pv 3) pe_int (fun _ _ => rfl)) pa_nil))) (nomark _)))))
        (pss_one (ps_never))
        pss_nil)
      (pss_cons (ps_for PassesOwn.never rfl (pi_list (pv 2)) (pg_name (i := 6) nd rfl (Or.inl rfl))
        (pss_one (ps_for PassesOwn.never rfl (pi_list (pv 2)) (pg_name (i := 7) nd rfl (Or.inl rfl))
          (pss_one (ps_if (pt_cmpR op_ne (C8.pe_mt G_order hr (by decide) (pv 0) (pa_cons (pv 6) (pa_cons (pv 7) pa_nil))) (C8.pe_mt G_order hr (by decide) (pv 1) (pa_cons (pv 6) (pa_cons (pv 7) pa_nil))) (nomark _))
            (pss_one (ps_if (pt_cmpR op_lt (pe_op op_add (pe_callB (call_lenO g_len (hr.mono (by decide))) (by rfl) T.len boot_len (pa_cons (pv 6) pa_nil)) (pe_callB (call_lenO g_len (hr.mono (by decide))) (by rfl) T.len boot_len (pa_cons (pv 7) pa_nil))) (pe_op op_add (pe_callB (call_lenO g_len (hr.mono (by decide))) (by rfl) T.len boot_len (pa_cons (pe_ix ix_tup (pv 3) pe_int (fun _ _ => rfl)) pa_nil)) (pe_callB (call_lenO g_len (hr.mono (by decide))) (by rfl) T.len boot_len (pa_cons (pe_ix ix_tup (pv 3) pe_int (fun _ _ => rfl)) pa_nil))) (nomark _))
              (pss_one (ps_never))
              pss_nil))
            pss_nil)))))
      (pss_one (ps_ret pe_bl))))))))), ?_⟩
  have okms := marks_ok hP
  refine ⟨_, rfl, _, rfl, ra, rb, one, other, rfl, hR1, hR2, fun v H1 s1 hv => ?_⟩
  have hP1 : Paired (MarkV K CM H1) us ms := Paired.mapP hP fun v m ⟨y, e1, e2⟩ => ⟨y, e1, mark_same s1 e2⟩
  refine ⟨_, rfl, _, rfl, _, rfl, ra, rb, a, one, other, us, ms, rfl, l1, l2, rule_same s1 hR1, rule_same s1 hR2, s1 _ _ ha, hP1, hml, hT.ext s1, fun F ls H2 ex2 hT2 hF hls => ?_⟩
  have e2 := (ExtN.of s1).trans ex2
  refine ⟨_, rfl, _, rfl, ra, rb, one, other, rfl, rule_extn e2 hR1, rule_extn e2 hR2, fun bb H3 s3 ht hf => ?_⟩
  have e3 := e2.trans (ExtN.of s3)
  have hT3 := hT2.ext s3
  refine ⟨_, rfl, ?_⟩
  cases bb with
  | true =>
    have hall := ht rfl
    refine iteT ?_
    obtain rfl : v = .non := by
      rcases hv with ⟨e, _⟩ | ⟨t, r1, r2, m1, m2, _, _, hM1, hM2, hne, _⟩
      · exact e
      · exact absurd (hall m1 m2 hM1.1 hM2.1) hne
    have hls3 : Paired (TextsAt [F] H3) ls (fourT one other ms) := Paired.mapP hls fun l ts ⟨n, e⟩ => ⟨n, s3 _ _ e⟩
    have lls : ls.length = 4 := Paired.length hls
    refine ⟨_, rfl, rfl, true, rfl, iteT ?_⟩
    refine ⟨_, rfl, _, rfl, F, _, rfl, .of (s3 _ _ hF), fun p hp => ?_⟩
    have s4 := same_new hp (u := .lst (cutV (ls.map V.ref) none (some 2)))
    refine ⟨_, rfl, _, rfl, F, _, rfl, .of (s4 _ _ (s3 _ _ hF)), fun p2 hp2 => ?_⟩
    have s5 := s4.trans (same_new hp2 (u := .lst (cutV (ls.map V.ref) (some 2) none)))
    have c1 : cutV (ls.map V.ref) none (some 2) = (ls.take 2).map V.ref := (cutV_to (k := 2) (by rw [List.length_map]; omega)).trans List.map_take.symm
    have c2 : cutV (ls.map V.ref) (some 2) none = (ls.drop 2).map V.ref := (cutV_fr (k := 2) (by rw [List.length_map]; omega)).trans List.map_drop.symm
    have hls5 := texts_same s5 hls3
    have d1 := dp_tss (K := K) (paired_take hls5 2)
    have d2 := dp_tss (K := K) (paired_dr hls5 2)
    rw [← c1] at d1
    rw [← c2] at d2
    have sF := four_asc (one := one) (other := other) okms
    refine ⟨.list (((fourT one other ms).take 2).map tsD), .list (((fourT one other ms).drop 2).map tsD), .lst (.of (same_new hp2 _ _ upd_same)) ?_, .lst (.of upd_same) ?_, tss_shaped fun ts h => sF ts (List.mem_of_mem_take h), tss_shaped fun ts h => sF ts (List.mem_of_mem_drop h), ?_⟩
    · exact d1
    · exact d2
    · rw [tss_eqv, decide_eq_true (show (fourT one other ms).take 2 = (fourT one other ms).drop 2 by
        show [txs one ms, txs one ms.reverse] = [txs other ms, txs other ms.reverse]
        unfold txs
        rw [sort_alike (fun a ha b hb => hall a b (okms a ha) (okms b hb)), sort_alike (l := ms.reverse) (fun a ha b hb => hall a b (okms a (List.mem_reverse.mp ha)) (okms b (List.mem_reverse.mp hb)))])]
      exact q _ (e3.trans (ExtN.of s5)) (hT3.ext s5)
  | false =>
    obtain ⟨fa, fb, oka, okb, fne⟩ := hf rfl
    refine iteF ?_
    rcases hv with ⟨_, hz⟩ | ⟨t, r1, r2, m1, m2, rfl, ht1, hM1, hM2, hne, hne2, hmin⟩
    · exact absurd (hz fa fb oka okb) fne
    · refine ⟨_, rfl, rfl, _, rfl, iteF ?_⟩
      have e13 : ExtN H1 H3 := ex2.trans (ExtN.of s3)
      have ht3 := sqt_extn e13 ht1
      have hM13 := mark_extn e13 hM1
      have hM23 := mark_extn e13 hM2
      refine ⟨_, rfl, _, rfl, _, rfl, t, _, rfl, .inr ht3, fun l hl => ?_⟩
      have s4 := same_new hl (u := .lst [.ref r1, .ref r2])
      refine ⟨ra, rb, l, one, other, [.ref r1, .ref r2], [m1, m2], rfl, l1, l2, rule_same s4 (rule_extn e3 hR1), rule_same s4 (rule_extn e3 hR2), upd_same, .cons ⟨r1, rfl, mark_same s4 hM13⟩ (.cons ⟨r2, rfl, mark_same s4 hM23⟩ .nil), (show 2 ≤ 100 by decide), hT3.ext s4, fun F2 ls2 H5 ex5 hT5 hF5 hls5 => ?_⟩
      have e35 := (ExtN.of s4).trans ex5
      have e5 := e3.trans e35
      have lls : ls2.length = 4 := Paired.length hls5
      have okm2 : ∀ m ∈ [m1, m2], OkM m := fun m hm => by
        simp only [List.mem_cons, List.not_mem_nil, or_false] at hm
        rcases hm with rfl | rfl
        · exact hM1.1
        · exact hM2.1
      refine ⟨_, rfl, _, rfl, F2, _, rfl, .of hF5, fun p hp => ?_⟩
      have s6 := same_new hp (u := .lst (cutV (ls2.map V.ref) none (some 2)))
      refine ⟨_, rfl, _, rfl, F2, _, rfl, .of (s6 _ _ hF5), fun p2 hp2 => ?_⟩
      have s7 := s6.trans (same_new hp2 (u := .lst (cutV (ls2.map V.ref) (some 2) none)))
      have c1 : cutV (ls2.map V.ref) none (some 2) = (ls2.take 2).map V.ref := (cutV_to (k := 2) (by rw [List.length_map]; omega)).trans List.map_take.symm
      have c2 : cutV (ls2.map V.ref) (some 2) none = (ls2.drop 2).map V.ref := (cutV_fr (k := 2) (by rw [List.length_map]; omega)).trans List.map_drop.symm
      have hls7 := texts_same s7 hls5
      have d1 := dp_tss (K := K) (paired_take hls7 2)
      have d2 := dp_tss (K := K) (paired_dr hls7 2)
      rw [← c1] at d1
      rw [← c2] at d2
      have sF := four_asc (one := one) (other := other) okm2
      refine ⟨.list (((fourT one other [m1, m2]).take 2).map tsD), .list (((fourT one other [m1, m2]).drop 2).map tsD), .lst (.of (same_new hp2 _ _ upd_same)) ?_, .lst (.of upd_same) ?_, tss_shaped fun ts h => sF ts (List.mem_of_mem_take h), tss_shaped fun ts h => sF ts (List.mem_of_mem_drop h), _, rfl, ?_⟩
      · exact d1
      · exact d2
      · rw [tss_eqv, decide_eq_false (show ¬ (fourT one other [m1, m2]).take 2 = (fourT one other [m1, m2]).drop 2 from fun e => by
          have e' : [txs one [m1, m2], txs one [m1, m2].reverse] = [txs other [m1, m2], txs other [m1, m2].reverse] := e
          injection e' with e1 e'
          injection e' with e2 _
          exact told_apart hR1.1 hR2.1 hM1.1 hM2.1 hne2 hne ⟨e1, e2⟩)]
        have e7 := e5.trans (ExtN.of s7)
        have e17 := e13.trans (e35.trans (ExtN.of s7))
        generalize upd (upd H5 p (.lst (cutV (ls2.map V.ref) none (some 2)))) p2 (.lst (cutV (ls2.map V.ref) (some 2) none)) = H7 at *
        have hT7 : TabsN (TabK PK) H7 := hT5.ext s7
        have hR17 := rule_extn e7 hR1
        have hR27 := rule_extn e7 hR2
        obtain ⟨_, dx1, al1, vst1, hx1, _, _⟩ := id hR17
        have ht7 := sqt_extn e17 ht1
        have hM17 := mark_extn e17 hM1
        have hM27 := mark_extn e17 hM2
        refine iteF ⟨_, rfl, ra, dx1, _, rfl, hx1, rfl, _, rfl, t, _, 0, _, rfl, rfl, ht7, rfl, _, rfl, t, _, 1, _, rfl, rfl, ht7, rfl, ra, r1, r2, one, m1, m2, rfl, hR17, hM17, hM27, fun H8 s8 => ?_⟩
        have hR28 := rule_same s8 hR27
        obtain ⟨_, dx2, al2, vst2, hx2, _, _⟩ := id hR28
        refine ⟨_, rfl, rb, dx2, _, rfl, hx2, rfl, _, rfl, t, _, 0, _, rfl, rfl, same_sqt s8 ht7, rfl, _, rfl, t, _, 1, _, rfl, rfl, same_sqt s8 ht7, rfl, rb, r1, r2, other, m1, m2, rfl, hR28, mark_same s8 hM17, mark_same s8 hM27, fun H9 s9 => ⟨rfl, _, rfl, ?_⟩⟩
        rw [decide_eq_false (show ¬ V.int (order one m1 m2) = V.int (order other m1 m2) from fun e => hne (by injection e))]
        refine iteF ?_
        have e9 := e7.trans (ExtN.of (s8.trans s9))
        have e19 := e17.trans (ExtN.of (s8.trans s9))
        have hT9 := hT7.ext (s8.trans s9)
        have ll : us.length = ms.length := Paired.length hP
        refine ⟨_, rfl, a, rfl, ⟨_, .of (extn_lst e9 ha)⟩, for_it (walk_list (xs := us)) (fun i σ' H' => (∃ x6 x7, σ' = [some (.ref ra), some (.ref rb), some (.ref a), some (.ref t), some (.ref F), some (.ref F2), x6, x7]) ∧ Same H9 H') ⟨⟨_, _, rfl⟩, Same.refl _⟩ (fun _ _ _ _ y => .of (y.2 _ _ (extn_lst e9 ha))) ?_ ?_⟩
        · rintro i x σ2 H10 H11 hi ⟨⟨x6, x7, rfl⟩, sm⟩ ⟨rfl, hx⟩
          obtain ⟨ma, hma, rx, rfl, hMx⟩ := paired_get hP hx
          refine ⟨_, rfl, a, rfl, ⟨_, .of (sm _ _ (extn_lst e9 ha))⟩, for_it (walk_list (xs := us)) (fun j σ' H' => (∃ x7, σ' = [some (.ref ra), some (.ref rb), some (.ref a), some (.ref t), some (.ref F), some (.ref F2), some (.ref rx), x7]) ∧ Same H9 H') ⟨⟨_, rfl⟩, sm⟩ (fun _ _ _ _ y => .of (y.2 _ _ (extn_lst e9 ha))) ?_ ?_⟩
          · rintro j y σ2 H12 H13 hj ⟨⟨x7, rfl⟩, sm⟩ ⟨rfl, hy⟩
            obtain ⟨mb, hmb, ry, rfl, hMy⟩ := paired_get hP hy
            have e13' := e9.trans (ExtN.of sm)
            have hRa := rule_extn e13' hR1
            have hMa := mark_extn e13' hMx
            have hMb := mark_extn e13' hMy
            obtain ⟨_, dx1', al1', vst1', hx1', _, _⟩ := id hRa
            refine ⟨_, rfl, ra, dx1', _, rfl, hx1', rfl, _, rfl, _, rfl, ra, rx, ry, one, ma, mb, rfl, hRa, hMa, hMb, fun H14 s14 => ?_⟩
            have hRb := rule_same s14 (rule_extn e13' hR2)
            obtain ⟨_, dx2', al2', vst2', hx2', _, _⟩ := id hRb
            refine ⟨_, rfl, rb, dx2', _, rfl, hx2', rfl, _, rfl, _, rfl, rb, rx, ry, other, ma, mb, rfl, hRb, mark_same s14 hMa, mark_same s14 hMb, fun H15 s15 => ⟨rfl, _, rfl, ?_⟩⟩
            have s1415 := s14.trans s15
            have smZ := sm.trans s1415
            by_cases z : order one ma mb = order other ma mb
            · rw [decide_eq_true (show V.int (order one ma mb) = V.int (order other ma mb) by rw [z])]
              exact iteF ⟨⟨_, rfl⟩, smZ⟩
            · rw [decide_eq_false (show ¬ V.int (order one ma mb) = V.int (order other ma mb) from fun e => z (by injection e))]
              refine iteT ?_
              have hMa5 := mark_same s1415 hMa
              have hMb5 := mark_same s1415 hMb
              have e19' := e19.trans (ExtN.of smZ)
              have hMt1 := mark_extn e19' hM1
              have hMt2 := mark_extn e19' hM2
              have htt := sqt_extn e19' ht1
              obtain ⟨_, da, ta, hia, _⟩ := id hMa5
              obtain ⟨_, db, tb, hib, _⟩ := id hMb5
              obtain ⟨_, d1, t1, hi1, _⟩ := id hMt1
              obtain ⟨_, d2, t2, hi2, _⟩ := id hMt2
              have bnd : ∀ {m : Mk}, OkM m → m.len < 2 ^ 62 := fun {m} ok => by
                have := small_text ok
                rw [text_len] at this
                omega
              refine ⟨_, rfl, rx, da, _, rfl, hia, rx, ma, rfl, hMa5, ma.len, rfl, bnd hMa.1, _, rfl, ry, db, _, rfl, hib, ry, mb, rfl, hMb5, mb.len, rfl, bnd hMb.1, _, _, rfl, rfl, ?_⟩
              refine ⟨_, rfl, t, _, 0, _, rfl, rfl, htt, rfl, r1, d1, _, rfl, hi1, r1, m1, rfl, hMt1, m1.len, rfl, bnd hM1.1, _, rfl, t, _, 1, _, rfl, rfl, htt, rfl, r2, d2, _, rfl, hi2, r2, m2, rfl, hMt2, m2.len, rfl, bnd hM2.1, _, _, rfl, rfl, _, _, rfl, rfl, _, rfl, ?_⟩
              have hm := hmin ma mb hMa.1 hMb.1 z
              rw [decide_eq_false (show ¬ ((ma.len : Nat) : Int) + (mb.len : Nat) < (m1.len : Nat) + (m2.len : Nat) by omega)]
              exact iteF ⟨⟨_, rfl⟩, smZ⟩
          · rintro σ2 H12 ⟨⟨x7, rfl⟩, sm⟩
            exact ⟨⟨_, _, rfl⟩, sm⟩
        · rintro σ2 H10 ⟨⟨x6, x7, rfl⟩, sm⟩
          exact q _ (e9.trans (ExtN.of sm)) (hT9.ext sm)
theorem houses_ (D : DefT K mg "_law_houses" sHouses []) (T : Free mg) (G1 : C8.Met P w K mg base 1 CM "__len__" (spTell K CM fun m => .int (m.len : Nat)) []) (G2 : C8.Met P w K mg base 5 CR "order" (spOrder K CM CR) []) (G3 : C8.Cal P w K mg base 8 "parted" (spParted K CM CR) []) (G4 : C8.Cal P w K mg base 9 "alike" (spAlike K CR) []) (G5 : C8.Cal P w K mg base 8 "_law_both" (spBoth K CM CR PK) []) : C8.Cal P w K mg base 10 "_law_houses" (spHouses K CM CR PK) [] :=
  cal_of D scHouses (fun _ _ _ _ _ _ us hl => match us, hl with | [_, _, _], _ => rfl) (fun vs H Q E h => by
    obtain ⟨_, _, _, _, _, _, _, rfl, _⟩ := h
    rfl) (b_houses T G1 G2 G3 G4 G5)
end
end S
end

section
set_option maxRecDepth 100000
set_option maxHeartbeats 4000000
/-! A list, compared with the empty list. -/
namespace S
open PySem PySem.Spec PyProof.Rows L2 SM
section
variable {X : Cx}
def rEqE (K : PySem.W.Frag) : R2 := fun x y H Q => ∃ (a b : Addr) (xs : List V), x = .ref a ∧ y = .ref b ∧ SqL K H a xs ∧ SqL K H b [] ∧ Q (.bl (decide (xs = []))) H
theorem op_eqE (hu : X.A.units + 64 < cLine) : OpR X (compareOp .Eq) (rEqE X.K) := by
  intro pins s σ H x y v u Q I rx ry h
  obtain ⟨a, b, xs, rfl, rfl, ha, hb, q⟩ := h
  cases (show v = Value.ref a from rx)
  cases (show u = Value.ref b from ry)
  obtain ⟨us, r1, p1, _⟩ := I.list ha
  obtain ⟨ws, r2, p2, _⟩ := I.list hb
  cases r2
  cases xs with
  | nil =>
    cases r1
    exact SeqAt.RcAt.lists (e := fun _ => true) p1.isList p2.isList rfl (by omega) (fun j h1 h2 => absurd h1 (Nat.not_lt_zero j)) _ _ _ _ ⟨.bl true, H, I, rfl, q⟩
  | cons x0 xs =>
    cases r1 with
    | cons h0 t0 =>
      exact SeqAt.RcAt.lists_lengths p1.isList p2.isList rfl (by omega) _ _ _ _ ⟨.bl false, H, I, rfl, q⟩
end
end S
end

section
set_option maxRecDepth 100000
set_option maxHeartbeats 4000000
/-! Defs: the law's stands. -/
namespace S
open PySem PySem.Spec PyProof.Rows L2 SM NdefX LamX
section
variable {P : Program} {w : World} {K : PySem.W.Frag} {mg : Str → Option Value} {base : Heap} {CM CR PK : Addr}
structure EX (b : Addr) (H H' : Hp) : Prop where
  ext : ExtN (del b H) (del b H')
  box : BoxAt H' b
theorem EX.trans {b : Addr} {H1 H2 H3 : Hp} (h1 : EX b H1 H2) (h2 : EX b H2 H3) : EX b H1 H3 := ⟨h1.ext.trans h2.ext, h2.box⟩
theorem EX.of_bs {b : Addr} {H H' : Hp} (h : BS b H H') : EX b H H' := ⟨ExtN.of h.same, h.box⟩
theorem EX.of_extn {b : Addr} {H H' : Hp} (hb : BoxAt H b) (h : ExtN H H') : EX b H H' := by
  refine ⟨fun p o e n => ?_, ?_⟩
  · by_cases hp : p = b
    · rw [hp, del_at] at e; cases e
    · rw [del_ne hp] at e ⊢
      exact h p o e n
  · obtain ⟨x, y, z, e, r⟩ := hb
    exact ⟨x, y, z, extn_lst h e, r⟩
theorem EX.get {b : Addr} {H H' : Hp} (h : EX b H H') {p : Addr} {o : HO} (e : del b H p = some o) (n : ∀ ps, o ≠ .tbl ps) : H' p = some o := del_sub b H' _ _ (h.ext p o e n)
theorem mark_delL {H : Hp} {D r : Addr} {l : List V} {m : Mk} (hD : H D = some (.lst l)) (h : MarkAt K CM H r m) : MarkAt K CM (del D H) r m := by
  obtain ⟨ok, dx, t, h1, h2⟩ := h
  exact ⟨ok, dx, t, by rw [del_ne (fun e => by rw [e, hD] at h1; cases h1)]; exact h1, sqt_del hD h2⟩
def Chain (r : List Nat) (row : List Mk) : Prop := ∀ k, k + 1 < row.length → ord r (pl row k) = -1
theorem chain_snoc {r : List Nat} {row : List Mk} {x m : Mk} (h : Chain r row) (hl : row.getLast? = some x) (ho : order r x m = -1) : Chain r (row ++ [m]) := by
  intro k hk
  rw [List.length_append, List.length_singleton] at hk
  by_cases z : k + 1 < row.length
  · have e : pl (row ++ [m]) k = pl row k := by
      funext j
      unfold pl
      rw [List.getElem?_append_left (by omega), List.getElem?_append_left z]
    rw [e]
    exact h k z
  · have e1 : (row ++ [m])[k]? = some x := by
      rw [List.getElem?_append_left (by omega), ← hl, List.getLast?_eq_getElem?]
      congr 1
      omega
    have e2 : (row ++ [m])[k + 1]? = some m := by
      rw [List.getElem?_append_right (by omega)]
      have : k + 1 - row.length = 0 := by omega
      rw [this] <;> rfl
    have e : pl (row ++ [m]) k = ans x m := pl_at e1 e2
    rw [e]
    exact ho
theorem atI_last {α : Type} {xs : List α} {c : α} (h : xs.getLast? = some c) : atI xs (-1) = some c := by
  have ne : xs ≠ [] := fun e => by rw [e] at h; cases h
  have hl : 0 < xs.length := List.length_pos_iff.mpr ne
  unfold atI ixN
  rw [if_neg (by decide), if_pos (by omega)]
  rw [List.getLast?_eq_getElem?] at h
  show xs[((-1 : Int) + (xs.length : Nat)).toNat]? = some c
  rw [← h]
  congr 1
  omega
theorem tabs_del {T : List NTab} {H H' : Hp} {W : Addr} {l : List V} (hW : H W = some (.lst l)) (s : Same (del W H) (del W H')) (h : TabsN T H) : TabsN T H' := fun p hp => by
  obtain ⟨ps, h1, h2, h3⟩ := h p hp
  have s' := s.trans (del_sub W H')
  refine ⟨ps, s' _ _ (by rw [del_ne (fun e => by rw [e, hW] at h1; cases h1)]; exact h1), h2, fun pos cv hc => ?_⟩
  obtain ⟨c, e1, e2⟩ := h3 pos cv hc
  exact ⟨c, e1, s' _ _ (by rw [del_ne (fun e => by rw [e, hW] at e2; cases e2)]; exact e2)⟩
theorem ext_del {H H' : Hp} {W : Addr} (hW : H W = none) (h : ExtN H H') : ExtN H (del W H') := fun p o e n => by
  rw [del_ne (ne_of_none e hW)]
  exact h p o e n
theorem rgv_nats (n : Nat) : rgV 0 (n : Int) = nats (List.range n) := by
  unfold rgV nats
  rw [Int.sub_zero, Int.toNat_natCast]
  exact List.map_congr_left fun i _ => by rw [Int.zero_add]
def spStands (K : PySem.W.Frag) (CM CR PK : Addr) : Sp := fun vs H Q _ => ∃ (b r a : Addr) (ws : List Nat) (us : List V) (ms : List Mk), vs = [.ref b, .ref r, .ref a] ∧ BoxAt H b ∧ 1 ≤ ws.length ∧ RuleAt K CR (del b H) r ws ∧ del b H a = some (.lst us) ∧ Paired (MarkV K CM (del b H)) us ms ∧ 1 ≤ ms.length ∧ ms.length ≤ 20 ∧ TabsN (TabK PK) H ∧
  ∀ H', EX b H H' → TabsN (TabK PK) H' → Q (.bl true) H'
abbrev sStands : Stmt := top 101
abbrev nStands : List Str := ["_law_box_here", "_law_rule", "_law_marks", "_law_row", "_law_mark_here", "_law_found", "_law_k", "_law_places"]
theorem scStands : FnScope nStands ["_law_box_here", "_law_rule", "_law_marks"] (defScope sStands) := ⟨rfl, rfl, rfl, by decide +kernel, rfl, by decide +kernel, by decide +kernel⟩
theorem b_stands (T : Free mg) (G_take : C8.Cal P w K mg base 1 "_law_take" spTake []) (G_in_order : C8.Met P w K mg base 7 CR "in_order" (spInOrder K CM CR PK) []) (G_order : C8.Met P w K mg base 5 CR "order" (spOrder K CM CR) []) (G_rule_for : C8.Cal P w K mg base 7 "rule_for" (spRuleFor K CM CR) []) (G_shows_none : C8.Cal P w K mg base 6 "shows_none" (spShowsNone K CM) []) :
    Body P w K mg base 7 nStands "_law_stands" sStands (spStands K CM CR PK) := by
  intro f cdv A outer s H vs Q E hr h
  obtain ⟨b, r, a, ws, us, ms, rfl, hb, lw, hR, ha, hP, hm1, hml, hT, q⟩ := h
  have nd := scStands.nd
  have sz := sizeLine_eq
  refine ⟨_, (pss_cons (ps_set (i := 3) nd rfl (Or.inl rfl) (pe_lst pa_nil))
      (pss_cons (ps_for PassesOwn.never rfl (pi_list (C8.pe_mt G_in_order hr (by decide) (pv 1) (pa_cons (pv 2) pa_nil))) (pg_name (i := 4) nd rfl (Or.inl rfl))
        (pss_one (ps_if (PW.pt (pw_or (pt_cmpR (op_eqE hr.units) (pv 3) (pe_lst pa_nil) (nomark _)) (pw_or1 (pt_cmpR op_eq (C8.pe_mt G_order hr (by decide) (pv 1) (pa_cons (pe_ix ix_list (pv 3) (pe_un un_neg pe_int) (fun _ _ => rfl)) (pa_cons (pv 4) pa_nil))) (pe_un un_neg pe_int) (nomark _)))))
          (pss_one (ps_expr (pe_bm PySem.F.plainAttrs_list PySem.F.slot_list_append PySem.F.type_list_append mt_append (pv 3) (pa_cons (pv 4) pa_nil))))
          pss_nil)))
      (pss_cons (ps_if (pt_cmpR op_lt (pe_callB (show CallR _ (.builtin "len") (fun xs H Q => ∃ p ys, xs = [.ref p] ∧ (SqL K H p ys ∨ SqT K H p ys) ∧ Q (.int ys.length) H) from call_len_seq) (by rfl) T.len boot_len (pa_cons (pv 3) pa_nil)) pe_int (nomark _))
        (pss_one (ps_ret pe_bl))
        pss_nil)
      (pss_cons (ps_set (i := 5) nd rfl (Or.inl rfl) (C8.pe_c G_rule_for hr (by decide) rfl (pa_cons (pv 3) pa_nil)))
      (pss_cons (ps_if (pt_cmpR op_ne (pe_ix ix_tup (pv 5) pe_int (fun _ _ => rfl)) pe_str (nomark _))
        (pss_one ps_never)
        pss_nil)
      (pss_cons (ps_for PassesOwn.never rfl (pi_range1 rfl T.range (pa_cons (pe_op op_sub (pe_callB (show CallR _ (.builtin "len") (fun xs H Q => ∃ p ys, xs = [.ref p] ∧ (SqL K H p ys ∨ SqT K H p ys) ∧ Q (.int ys.length) H) from call_len_seq) (by rfl) T.len boot_len (pa_cons (pv 3) pa_nil)) pe_int) pa_nil)) (pg_name (i := 6) nd rfl (Or.inl rfl))
        (pss_one (ps_if (pt_cmpR op_ne (C8.pe_mt G_order hr (by decide) (pe_ix ix_tup (pv 5) pe_int (fun _ _ => rfl)) (pa_cons (pe_ix ix_list (pv 3) (pv 6) (fun _ _ => rfl)) (pa_cons (pe_ix ix_list (pv 3) (pe_op op_add (pv 6) pe_int) (fun _ _ => rfl)) pa_nil))) (pe_un un_neg pe_int) (nomark _))
          (pss_one ps_never)
          pss_nil)))
      (pss_cons (ps_setLc (i := 7) (own := [("_law_k", 6)]) (g := gName 6) rfl nd rfl rfl (sw_true rfl rfl rfl (by decide +kernel)) (pi_range1 rfl T.range (pa_cons (pe_op op_sub (pe_callB (show CallR _ (.builtin "len") (fun xs H Q => ∃ p ys, xs = [.ref p] ∧ (SqL K H p ys ∨ SqT K H p ys) ∧ Q (.int ys.length) H) from call_len_seq) (by rfl) T.len boot_len (pa_cons (pv 3) pa_nil)) pe_int) pa_nil)) (blkOk_by (own := [("_law_k", 6)]) (N := nStands) (sc := defScope sStands) (by decide +kernel)) (fun _ _ _ _ _ => (pg_name (i := 6) nd rfl (Or.inl rfl))) (fun _ _ _ _ _ => (pts_one (pt_cmpR op_eq (C8.pe_c G_take hr (by decide) rfl (pa_cons (pv 0) (pa_cons pe_int pa_nil))) pe_int (nomark _)))) (fun _ _ _ _ _ => (pv 6)))
      (pss_one (ps_ret (pe_and (pe_not (C8.pe_c G_shows_none hr (by decide) rfl (pa_cons (pv 3) (pa_cons (pv 7) pa_nil)))) (pe_one (pe_not (C8.pe_c G_shows_none hr (by decide) rfl (pa_cons (pv 3) (pa_cons (pe_listRg (by rfl) (by rfl) T.list (prg_1 (by rfl) T.range (pe_op op_sub (pe_callB (show CallR _ (.builtin "len") (fun xs H Q => ∃ p ys, xs = [.ref p] ∧ (SqL K H p ys ∨ SqT K H p ys) ∧ Q (.int ys.length) H) from call_len_seq) (by rfl) T.len boot_len (pa_cons (pv 3) pa_nil)) pe_int))) pa_nil))))))))))))))), ?_⟩
  have sb := del_sub b H
  have hR0 := rule_same sb hR
  have ha0 := sb _ _ ha
  have hP0 : Paired (MarkV K CM H) us ms := Paired.mapP hP fun v m ⟨y, e1, e2⟩ => ⟨y, e1, mark_same sb e2⟩
  have okms := marks_ok hP0
  refine ⟨(by decide : 0 ≤ sizeLine), fun W hW => ?_⟩
  have s1 := same_new hW (u := .lst [])
  have nW := box_some hb hW
  have hR1 := rule_same s1 hR0
  obtain ⟨_, dx, al, vst, hx1, _, _⟩ := id hR1
  refine ⟨_, rfl, r, dx, _, rfl, hx1, rfl, _, rfl, r, a, ws, us, ms, rfl, lw, hR1, s1 _ _ ha0, Paired.mapP hP0 fun v m ⟨y, e1, e2⟩ => ⟨y, e1, mark_same s1 e2⟩, hT.ext s1, fun D H2 us' ex2 hT2 hD hPD => ?_⟩
  have lus : us'.length = ms.length := (Paired.length hPD).trans (sort_len ws ms)
  have hW2 : H2 W = some (.lst []) := extn_lst ex2 upd_same
  have nDW : D ≠ W := fun e => by
    rw [e, hW2] at hD
    injection hD with hD
    injection hD with hD
    rw [← hD] at lus
    simp at lus
    omega
  have e2 : ExtN H H2 := (ExtN.of s1).trans ex2
  have eD : ExtN H (del W H2) := ext_del hW e2
  have hPW : Paired (MarkV K CM (del W H2)) us' (sortR ws ms) := Paired.mapP hPD fun v m ⟨y, e1, e2⟩ => ⟨y, e1, mark_delL hW2 e2⟩
  have hDW : del W H2 D = some (.lst us') := by rw [del_ne nDW]; exact hD
  have hRW := rule_extn eD hR0
  refine ⟨D, rfl, ⟨_, .of hD⟩, for_it (walk_list (xs := us')) (fun i σ' H' => (∃ x4, σ' = [some (.ref b), some (.ref r), some (.ref a), some (.ref W), x4, none, none, none]) ∧ Same (del W H2) (del W H') ∧ ∃ vs row, H' W = some (.lst vs) ∧ Paired (MarkV K CM (del W H2)) vs row ∧ Chain ws row ∧ row.length ≤ i) ⟨⟨_, rfl⟩, Same.refl _, [], [], hW2, .nil, fun k hk => absurd hk (Nat.not_lt_zero _), Nat.le_refl _⟩ (fun i σ' H' _ z => .of (del_sub W H' _ _ (z.2.1 _ _ hDW))) ?_ ?_⟩
  · rintro i x σ2 H3' H3 hi ⟨⟨x4, rfl⟩, sm, vs, row, hvs, hPr, hC, hrl⟩ ⟨rfl, hx⟩
    obtain ⟨m, hm, rx, rfl, hMx⟩ := paired_get hPW hx
    have smU := sm.trans (del_sub W H3)
    have vl : vs.length = row.length := Paired.length hPr
    refine ⟨_, rfl, Nat.zero_le _, fun e0 he0 => ⟨W, e0, vs, rfl, rfl, .of (same_new he0 _ _ hvs), .of upd_same, _, rfl, ?_⟩⟩
    have s4 := same_new he0 (u := .lst [])
    have hvs4 := s4 _ _ hvs
    have smU4 := smU.trans s4
    have sm4 : Same (del W H2) (del W (upd H3 e0 (.lst []))) := sm.trans (del_same s4)
    generalize upd H3 e0 (.lst []) = H4 at *
    by_cases ev : vs = []
    · rw [decide_eq_true ev]
      subst ev
      cases hPr
      refine iteT (iteT ⟨_, rfl, .inl ⟨rfl, _, SqL.of hvs4⟩, _, rfl, W, _, _, rfl, rfl, hvs4, by decide, ⟨_, rfl⟩, by rw [del_upd]; exact sm4, [.ref rx], [m], upd_same, .cons ⟨rx, rfl, hMx⟩ .nil, fun k hk => absurd (show k + 1 < 1 from hk) (by omega), by show 1 ≤ i + 1; omega⟩)
    · rw [decide_eq_false ev]
      have lv : 0 < vs.length := List.length_pos_iff.mpr ev
      obtain ⟨xl, hxl⟩ : ∃ xl, row[row.length - 1]? = some xl := ⟨_, List.getElem?_eq_getElem (by omega)⟩
      obtain ⟨vl', hvl, rl, rfl, hMl⟩ := paired_getL hPr hxl
      have hlast : vs.getLast? = some (.ref rl) := by rw [List.getLast?_eq_getElem?, vl]; exact hvl
      have hR4 := rule_same smU4 hRW
      obtain ⟨_, dx4, al4, vst4, hx4, _, _⟩ := id hR4
      refine iteF ⟨_, rfl, r, dx4, _, rfl, hx4, rfl, _, rfl, _, rfl, W, _, _, .ref rl, rfl, rfl, .of hvs4, atI_last hlast, _, rfl, r, rl, rx, ws, xl, m, rfl, hR4, mark_same smU4 hMl, mark_same smU4 hMx, fun H5 s5 => ⟨_, rfl, rfl, _, rfl, ?_⟩⟩
      have hvs5 := s5 _ _ hvs4
      have sm5 := sm4.trans (del_same (D := W) s5)
      by_cases ho : order ws xl m = -1
      · rw [decide_eq_true (show V.int (order ws xl m) = V.int (-1) by rw [ho])]
        refine iteT ⟨_, rfl, .inl ⟨rfl, _, SqL.of hvs5⟩, _, rfl, W, _, _, rfl, rfl, hvs5, by omega, ⟨_, rfl⟩, by rw [del_upd]; exact sm5, vs ++ [.ref rx], row ++ [m], upd_same, paired_snoc hPr ⟨rx, rfl, hMx⟩, chain_snoc hC (by rw [List.getLast?_eq_getElem?]; exact hxl) ho, by rw [List.length_append, List.length_singleton]; omega⟩
      · rw [decide_eq_false (show ¬ V.int (order ws xl m) = V.int (-1) from fun e => ho (by injection e))]
        exact iteF ⟨⟨_, rfl⟩, sm5, vs, row, hvs5, hPr, hC, by omega⟩
  · rintro σ2 H3 ⟨⟨x4, rfl⟩, sm, vs, row, hvs, hPr, hC, hrl⟩
    have vl : vs.length = row.length := Paired.length hPr
    have smU := sm.trans (del_sub W H3)
    have e3 : ExtN H H3 := eD.trans (ExtN.of smU)
    have hT3 := tabs_del hW2 sm hT2
    have hP3 : Paired (MarkV K CM H3) vs row := Paired.mapP hPr fun v m ⟨y, e1, e2⟩ => ⟨y, e1, mark_same smU e2⟩
    have okrow := marks_ok hP3
    refine ⟨_, rfl, W, _, rfl, .inl (.of hvs), _, _, rfl, rfl, _, rfl, ?_⟩
    by_cases l2 : vs.length < 2
    · rw [decide_eq_true (show ((vs.length : Nat) : Int) < 2 by omega)]
      exact iteT (q _ (.of_extn hb e3) hT3)
    · rw [decide_eq_false (show ¬ ((vs.length : Nat) : Int) < 2 by omega)]
      refine iteF ⟨_, rfl, W, row, ws, rfl, ⟨vs, hvs, hP3⟩, okrow, by omega, by omega, hR.1, hC, fun t r' steps H4 s4 ht hR' hC' => ?_⟩
      refine ⟨_, rfl, t, _, 0, _, rfl, rfl, .of ht, rfl, rfl, _, rfl, ?_⟩
      rw [decide_eq_true rfl]
      refine iteF ?_
      have hvs4 := s4 _ _ hvs
      have hP4 : Paired (MarkV K CM H4) vs row := Paired.mapP hP3 fun v m ⟨y, e1, e2⟩ => ⟨y, e1, mark_same s4 e2⟩
      have e4 := e3.trans (ExtN.of s4)
      have hT4 := hT3.ext s4
      refine ⟨_, rfl, W, _, rfl, .inl (.of hvs4), _, _, rfl, rfl, _, rfl, by omega, by omega, for_it walk_range (fun i σ' H' => (∃ x4 x6, σ' = [some (.ref b), some (.ref r), some (.ref a), some (.ref W), x4, some (.ref t), x6, none]) ∧ Same H4 H') ⟨⟨_, _, rfl⟩, Same.refl _⟩ (fun _ _ _ _ _ => True.intro) ?_ ?_⟩
      · rintro k x σ2 H5 H6 hk ⟨⟨x4, x6, rfl⟩, s5⟩ ⟨rfl, hx⟩
        obtain rfl : x = .int (k : Nat) := by
          rw [hx]
          show V.int (0 + (k : Nat)) = _
          rw [Int.zero_add]
        have hk1 : k + 1 < row.length := by omega
        obtain ⟨us1, r1, u1, u2, u3⟩ := row_get (⟨vs, hvs4, hP4⟩ : RowAt K CM H4 W row) (k := k) (by omega)
        obtain ⟨us2, r2, w1, w2, w3⟩ := row_get (⟨vs, hvs4, hP4⟩ : RowAt K CM H4 W row) (k := k + 1) hk1
        have hR5 := rule_same s5 hR'
        obtain ⟨_, dx5, al5, vst5, hx5, _, _⟩ := id hR5
        refine ⟨_, rfl, t, _, 1, _, rfl, rfl, .of (s5 _ _ ht), rfl, r', dx5, _, rfl, hx5, rfl, _, rfl, _, rfl, W, us1, k, _, rfl, rfl, .of (s5 _ _ u1), atI_nat u2, _, rfl, _, rfl, _, _, rfl, rfl, W, us2, ((k + 1 : Nat) : Int), _, rfl, by rw [Int.natCast_add] <;> rfl, .of (s5 _ _ w1), atI_nat w2, r', r1, r2, steps, row[k], row[k + 1], rfl, hR5, mark_same s5 u3, mark_same s5 w3, fun H7 s7 => ⟨_, rfl, rfl, _, rfl, ?_⟩⟩
        have eo : order steps row[k] row[k + 1] = -1 := by
          have := hC' k hk1
          rw [show pl row k = ans row[k] row[k + 1] from funext fun j => pl_get hk1 j] at this
          exact this
        rw [decide_eq_true (show V.int (order steps row[k] row[k + 1]) = V.int (-1) by rw [eo])]
        exact iteF ⟨⟨_, _, rfl⟩, s5.trans s7⟩
      · rintro σ2 H5 ⟨⟨x4, x6, rfl⟩, s5⟩
        have hvs5 := s5 _ _ hvs4
        have hP5 : Paired (MarkV K CM H5) vs row := Paired.mapP hP4 fun v m ⟨y, e1, e2⟩ => ⟨y, e1, mark_same s5 e2⟩
        have e5 := e4.trans (ExtN.of s5)
        have hT5 := hT4.ext s5
        have ex5 := EX.of_extn hb e5
        obtain ⟨bx, by_, bz, hbx, _⟩ := id ex5.box
        have hP5b : Paired (MarkV K CM (del b H5)) vs row := Paired.mapP hP5 fun v m ⟨y, e1, e2⟩ => ⟨y, e1, mark_delL hbx e2⟩
        refine ⟨_, rfl, W, _, rfl, .inl (.of hvs5), _, _, rfl, rfl, _, rfl, by omega, by omega, fun Dp hDp => lc_it walk_range (fun i H' => ∃ places, H' Dp = some (.lst (nats places)) ∧ BS b H5 H' ∧ (∀ k ∈ places, k + 1 < row.length) ∧ places.length ≤ i) ?_ (fun _ _ _ _ => True.intro) ?_ ?_⟩
        · exact ⟨[], upd_same, (BS.refl ex5.box).at_ hDp (box_some ex5.box hDp) _, fun k h => absurd h List.not_mem_nil, Nat.le_refl _⟩
        · rintro k x H6 H7 hk ⟨places, hpl, bs, hin, hlen⟩ ⟨rfl, hx⟩
          obtain rfl : x = .int (k : Nat) := by
            rw [hx]
            show V.int (0 + (k : Nat)) = _
            rw [Int.zero_add]
          have nD := box_some ex5.box hDp
          refine ⟨rfl, ?_⟩
          refine ⟨_, rfl, b, 2, rfl, by decide, by decide, bs.box, fun j H8 hj b8 => ⟨rfl, _, rfl, ?_⟩⟩
          by_cases z : j = 0
          · rw [decide_eq_true (show V.int (j : Nat) = V.int 0 by rw [z] <;> rfl)]
            refine iteT ⟨_, rfl, nats places, b8.get nD hpl, ?_, places ++ [k], ?_, (bs.trans b8).at_ hDp nD _, fun i hi => ?_, ?_⟩
            · unfold nats
              rw [List.length_map]
              omega
            · rw [upd_same]
              unfold nats
              rw [List.map_append] <;> rfl
            · rcases List.mem_append.mp hi with hi | hi
              · exact hin i hi
              · obtain rfl := List.mem_singleton.mp hi
                omega
            · rw [List.length_append, List.length_singleton]
              omega
          · rw [decide_eq_false (show ¬ V.int (j : Nat) = V.int 0 from fun e => by injection e with e; omega)]
            exact iteF ⟨places, b8.get nD hpl, bs.trans b8, hin, by omega⟩
        · rintro H6 ⟨places, hpl, bs, hin, hlen⟩
          have hvs6 := bs.get nW hvs5
          have hP6 : Paired (MarkV K CM H6) vs row := Paired.mapP hP5b fun v m ⟨y, e1, e2⟩ => ⟨y, e1, mark_same bs.sub e2⟩
          refine ⟨_, rfl, _, rfl, W, Dp, row, places, ws, rfl, ⟨vs, hvs6, hP6⟩, by omega, by omega, hpl, hin, by omega, hR.1, hC, fun H7 s7 => ⟨_, rfl, _, rfl, iteT ?_⟩⟩
          have hvs7 := s7 _ _ hvs6
          refine ⟨_, rfl, _, rfl, W, _, rfl, .inl (.of hvs7), _, _, rfl, rfl, _, rfl, ⟨by omega, by omega, by omega, by omega, by omega⟩, fun R hRg => ?_⟩
          have s8 := same_new hRg (u := .lst (rgV 0 ((vs.length : Nat) - 1)))
          have s68 := s7.trans s8
          have eg : rgV 0 (((vs.length : Nat) : Int) - 1) = nats (List.range (row.length - 1)) := by
            rw [← rgv_nats]
            congr 1
            omega
          refine ⟨W, R, row, List.range (row.length - 1), ws, rfl, ⟨vs, s8 _ _ hvs7, Paired.mapP hP6 fun v m ⟨y, e1, e2⟩ => ⟨y, e1, mark_same s68 e2⟩⟩, by omega, by omega, by rw [upd_same]; exact congrArg (fun l => some (HO.lst l)) eg, fun k hk => by have := List.mem_range.mp hk; omega, by rw [List.length_range]; omega, hR.1, hC, fun H9 s9 => ⟨_, rfl, ?_⟩⟩
          have s69 := s68.trans s9
          exact q _ (ex5.trans ((EX.of_bs bs).trans (.of_extn bs.box (ExtN.of s69)))) ((tabs_bs ex5.box bs hT5).ext s69)
theorem stands_ (D : DefT K mg "_law_stands" sStands []) (T : Free mg) (G1 : C8.Cal P w K mg base 1 "_law_take" spTake []) (G2 : C8.Met P w K mg base 7 CR "in_order" (spInOrder K CM CR PK) []) (G3 : C8.Met P w K mg base 5 CR "order" (spOrder K CM CR) []) (G4 : C8.Cal P w K mg base 7 "rule_for" (spRuleFor K CM CR) []) (G5 : C8.Cal P w K mg base 6 "shows_none" (spShowsNone K CM) []) : C8.Cal P w K mg base 8 "_law_stands" (spStands K CM CR PK) [] :=
  cal_of D scStands (fun _ _ _ _ _ _ us hl => match us, hl with | [_, _, _], _ => rfl) (fun vs H Q E h => by
    obtain ⟨_, _, _, _, _, _, rfl, _⟩ := h
    rfl) (b_stands T G1 G2 G3 G4 G5)
end
end S
end

section
set_option maxRecDepth 100000
set_option maxHeartbeats 4000000
/-! Defs: the law. -/
namespace S
open PySem PySem.Spec PyProof.Rows L2 SM NdefX LamX
section
variable {P : Program} {w : World} {K : PySem.W.Frag} {mg : Str → Option Value} {base : Heap} {CM CR PK : Addr}
theorem sql_extn {H H' : Hp} {a : Addr} {xs : List V} (e : ExtN H H') (h : SqL K H a xs) : SqL K H' a xs := by
  rcases h with (h | ⟨o, h⟩) | h
  · exact .inl (.inl (e _ _ h fun ps z => by cases z))
  · exact .inl (.inr ⟨o, e _ _ h fun ps z => by cases z⟩)
  · exact .inr h
theorem EX.from {b : Addr} {H H' : Hp} {u : HO} (hb : H b = none) (h : EX b (upd H b u) H') : ExtN H H' := fun p o e n => by
  have ne := ne_of_none e hb
  exact h.get (by rw [del_ne ne, upd_ne ne]; exact e) n
theorem rule_delB {H : Hp} {b r : Addr} {ws : List Nat} (hb : BoxAt H b) (l : 1 ≤ ws.length) (h : RuleAt K CR H r ws) : RuleAt K CR (del b H) r ws := by
  obtain ⟨ok, dx, a, vs, h1, h2, h3⟩ := h
  obtain ⟨x, y, z, hb, _⟩ := hb
  refine ⟨ok, dx, a, vs, by rw [del_ne (fun e => by rw [e, hb] at h1; cases h1)]; exact h1, ?_, Paired.mapP h3 fun v j ⟨t, e1, e2⟩ => ⟨t, e1, sqt_del hb e2⟩⟩
  rw [del_ne]
  · exact h2
  · intro e
    rw [e, hb] at h2
    injection h2 with h2
    injection h2 with h2
    rw [← h2] at h3
    cases h3 with
    | cons q _ =>
      obtain ⟨t, q, _⟩ := q
      cases q
theorem mark_delB {H : Hp} {b r : Addr} {m : Mk} (hb : BoxAt H b) (h : MarkAt K CM H r m) : MarkAt K CM (del b H) r m := by
  obtain ⟨x, y, z, hb, _⟩ := hb
  exact mark_delL hb h
/-- a row of parts, beside the list of the rows -/
def RowP (H : Hp) (v : V) (m : Mk) : Prop := ∃ p, v = .ref p ∧ OkM m ∧ PartsAt H p m
theorem parts_delR {H : Hp} {R p : Addr} {m m0 : Mk} {us : List V} {ms : List Mk} {G : V → Mk → Prop} (hR : H R = some (.lst us)) (hne : Paired (fun v m => G v m ∧ ∃ q, v = .ref q) us (m0 :: ms)) (h : PartsAt H p m) : PartsAt (del R H) p m := by
  obtain ⟨t, h1, h2⟩ := h
  cases hne with
  | cons q _ =>
    obtain ⟨_, y, rfl⟩ := q
    have n1 : p ≠ R := fun e => by
      rw [e, hR] at h1
      injection h1 with h1
      injection h1 with h1
      injection h1 with h1 _
      cases h1
    have n2 : t ≠ R := fun e => by
      rw [e, hR] at h2
      injection h2 with h2
      injection h2 with h2
      cases hm : m.makers with
      | nil => rw [hm] at h2; cases h2
      | cons x l =>
        rw [hm, List.map_cons] at h2
        injection h2 with h2 _
        cases h2
    exact ⟨t, by rw [del_ne n1]; exact h1, by rw [del_ne n2]; exact h2⟩
theorem core_upd (R b : Addr) (H : Hp) (u : HO) : del R (del b (upd H R u)) = del R (del b H) := by
  funext p
  by_cases h1 : p = R
  · rw [h1, del_at, del_at]
  · rw [del_ne h1, del_ne h1]
    by_cases h2 : p = b
    · rw [h2, del_at, del_at]
    · rw [del_ne h2, del_ne h2, upd_ne h1]
def spLaw (K : PySem.W.Frag) (PK : Addr) : Sp := fun vs H Q _ => ∃ (a : Addr) (ns : List Int), vs = [.ref a] ∧ SqL K H a (ns.map V.int) ∧ ns.length ≤ sizeLine ∧ TabsN (TabK PK) H ∧ ∀ H', Q (.bl true) H'
abbrev sLaw : Stmt := top 102
abbrev nLaw : List Str := ["_law_script", "_law_k", "_law_box_here", "_law_steps_here", "_law_one", "_law_other_here", "_law_rows", "_law_turn", "_law_marks", "_law_row"]
theorem scLaw : FnScope nLaw ["_law_script"] (defScope sLaw) := ⟨rfl, rfl, rfl, by decide +kernel, rfl, by decide +kernel, by decide +kernel⟩
theorem b_law (T : Free mg) (G_cell : C8.Cal P w K mg base 1 "_law_cell" (spCell K) []) (G_box : C8.Cal P w K mg base 1 "_law_box" spBox []) (G_take : C8.Cal P w K mg base 1 "_law_take" spTake []) (G_steps : C8.Cal P w K mg base 2 "_law_steps" spLSteps []) (G_other : C8.Cal P w K mg base 3 "_law_other" spLOther []) (G_Rule : C8.Mak P w K mg base 3 "Rule" CR (spRule K CR) [])
    (G_small : C8.Cal P w K mg base 2 "_law_small" spLSmall []) (G_near : C8.Cal P w K mg base 5 "_law_near" spLNear []) (G_mark : C8.Cal P w K mg base 6 "_law_mark" (spLMark K CM) []) (G_houses : C8.Cal P w K mg base 10 "_law_houses" (spHouses K CM CR PK) []) (G_stands : C8.Cal P w K mg base 8 "_law_stands" (spStands K CM CR PK) []) :
    Body P w K mg base 10 nLaw "law" sLaw (spLaw K PK) := by
  intro f cdv A outer s H vs Q E hr h
  obtain ⟨a, ns, rfl, ha, hns, hT, q⟩ := h
  have nd := scLaw.nd
  have sz := sizeLine_eq
  refine ⟨_, (pss_cons (ps_for PassesOwn.never rfl (pi_range1 rfl T.range (pa_cons (pe_callB (call_max2 rfl) (by rfl) T.max boot_max (pa_cons pe_int (pa_cons (pe_callB (call_min2 rfl) (by rfl) T.min boot_min (pa_cons pe_int (pa_cons (pe_callB call_len_seq (by rfl) T.len boot_len (pa_cons (pv 0) pa_nil)) pa_nil))) pa_nil))) pa_nil)) (pg_name (i := 1) nd rfl (Or.inl rfl))
        (pss_cons (ps_set (i := 2) nd rfl (Or.inl rfl) (C8.pe_c G_box hr (by decide) rfl (pa_cons (C8.pe_c G_cell hr (by decide) rfl (pa_cons (pv 0) (pa_cons (pv 1) pa_nil))) pa_nil)))
        (pss_cons (ps_set (i := 3) nd rfl (Or.inl rfl) (C8.pe_c G_steps hr (by decide) rfl (pa_cons (pv 2) pa_nil)))
        (pss_cons (ps_set (i := 4) nd rfl (Or.inl rfl) (C8.pe_mk G_Rule hr (by decide) rfl (pa_cons (pv 3) pa_nil)))
        (pss_cons (ps_set (i := 5) nd rfl (Or.inl rfl) (C8.pe_mk G_Rule hr (by decide) rfl (pa_cons (C8.pe_c G_other hr (by decide) rfl (pa_cons (pv 2) (pa_cons (pv 3) pa_nil))) pa_nil)))
        (pss_cons (ps_set (i := 6) nd rfl (Or.inl rfl) (pe_lst (pa_cons (C8.pe_c G_small hr (by decide) rfl (pa_cons (pv 2) pa_nil)) pa_nil)))
        (pss_cons (ps_for PassesOwn.never rfl (pi_range1 rfl T.range (pa_cons (pe_op op_add pe_int (C8.pe_c G_take hr (by decide) rfl (pa_cons (pv 2) (pa_cons pe_int pa_nil)))) pa_nil)) (pg_name (i := 7) nd rfl (Or.inl rfl))
          (pss_one (ps_if (pt_cmpR op_eq (C8.pe_c G_take hr (by decide) rfl (pa_cons (pv 2) (pa_cons pe_int pa_nil))) pe_int (nomark _))
            (pss_one (ps_expr (pe_bm PySem.F.plainAttrs_list PySem.F.slot_list_append PySem.F.type_list_append mt_append (pv 6) (pa_cons (C8.pe_c G_small hr (by decide) rfl (pa_cons (pv 2) pa_nil)) pa_nil))))
            (pss_one (ps_expr (pe_bm PySem.F.plainAttrs_list PySem.F.slot_list_append PySem.F.type_list_append mt_append (pv 6) (pa_cons (C8.pe_c G_near hr (by decide) rfl (pa_cons (pv 2) (pa_cons (pe_ix ix_list (pv 6) (pe_un un_neg pe_int) (fun _ _ => rfl)) pa_nil))) pa_nil)))))))
        (pss_cons (ps_setLc (i := 8) (own := [("_law_row", 9)]) (g := gName 9) (tt := tYes) rfl nd rfl rfl (sw_true rfl rfl rfl (by decide +kernel)) (pi_list (pv 6)) (blkOk_by (own := [("_law_row", 9)]) (N := nLaw) (sc := defScope sLaw) (by decide +kernel)) (fun _ _ _ _ _ => (pg_name (i := 9) nd rfl (Or.inl rfl))) (fun _ _ _ _ _ => pts_nil) (fun _ _ _ _ _ => (C8.pe_c G_mark hr (by decide) rfl (pa_cons (pv 9) pa_nil))))
        (pss_one (ps_if (PW.pt (pw_or (pt_not (pt_val (C8.pe_c G_houses hr (by decide) rfl (pa_cons (pv 4) (pa_cons (pv 5) (pa_cons (pv 8) pa_nil)))))) (pw_or (pt_not (pt_val (C8.pe_c G_stands hr (by decide) rfl (pa_cons (pv 2) (pa_cons (pv 4) (pa_cons (pv 8) pa_nil)))))) (pw_or1 (pt_not (pt_val (C8.pe_c G_stands hr (by decide) rfl (pa_cons (pv 2) (pa_cons (pv 5) (pa_cons (pv 8) pa_nil))))))))))
          (pss_one ps_never)
          pss_nil))))))))))
      (pss_one (ps_ret pe_bl))), ?_⟩
  have rng : ∀ l : Nat, l ≤ sizeLine → -(2 ^ 62) ≤ (if (if ((l : Nat) : Int) < 4 then ((l : Nat) : Int) else 4) > 2 then (if ((l : Nat) : Int) < 4 then ((l : Nat) : Int) else 4) else 2) ∧ (if (if ((l : Nat) : Int) < 4 then ((l : Nat) : Int) else 4) > 2 then (if ((l : Nat) : Int) < 4 then ((l : Nat) : Int) else 4) else 2) < 2 ^ 62 := by
    intro l hl
    split <;> split <;> omega
  have lm : (ns.map V.int).length = ns.length := List.length_map ..
  refine ⟨_, rfl, a, _, rfl, .inl ha, _, _, rfl, _, _, rfl, _, rfl, (rng _ (by rw [lm]; exact hns)).1, (rng _ (by rw [lm]; exact hns)).2, for_it walk_range (fun i σ' H' => (∃ x1 x2 x3 x4 x5 x6 x7 x8, σ' = [some (.ref a), x1, x2, x3, x4, x5, x6, x7, x8, none]) ∧ ExtN H H' ∧ TabsN (TabK PK) H') ⟨⟨_, _, _, _, _, _, _, _, rfl⟩, ExtN.refl H, hT⟩ (fun _ _ _ _ _ => True.intro) ?_ ?_⟩
  · rintro k x σ2 H1' H1 hk ⟨⟨x1, x2, x3, x4, x5, x6, x7, x8, rfl⟩, e1, hT1⟩ ⟨rfl, hx⟩
    obtain rfl : x = .int (k : Nat) := by
      rw [hx]
      show V.int (0 + (k : Nat)) = _
      rw [Int.zero_add]
    refine ⟨_, rfl, _, rfl, a, ns, k, rfl, sql_extn e1 ha, hns, fun c => ⟨c, rfl, fun b u hb hbx => ?_⟩⟩
    have hT2 : TabsN (TabK PK) (upd H1 b u) := hT1.ext (same_new hb)
    have fin : ∀ {H'}, EX b (upd H1 b u) H' → ExtN H H' := fun e => e1.trans (e.from hb)
    generalize upd H1 b u = H2 at *
    refine ⟨_, rfl, b, rfl, hbx, fun sa vs ws H3 ok l1 hsa hst fsa b3 => ?_⟩
    have ex3 : EX b H2 H3 := .of_bs b3
    have hT3 := tabs_bs hbx b3 hT2
    refine ⟨_, rfl, fun x dx hx hdx ne => ?_⟩
    have kk : ∀ p o, H3 p = some o → upd (upd H3 dx (.own x)) x (.ins CR dx []) p = some o := fun p o e => by
      rw [upd_ne (ne_of_none e hx), upd_ne (ne_of_none e hdx)]
      exact e
    refine ⟨x, dx, sa, vs, ws, rfl, ok, l1, upd_same, kk _ _ hsa, stepsT_v (stepsT_same kk hst), fun H4 kp hR1 => ⟨rfl, ?_⟩⟩
    have s4 : Same H3 H4 := Same.made hx hdx fun b o e ne => kp b o ne e
    have bx4 := box_same s4 b3.box
    have ex4 := ex3.trans (.of_extn b3.box (ExtN.of s4))
    have hT4 := hT3.ext s4
    refine ⟨_, rfl, _, rfl, b, sa, vs, ws, rfl, bx4, ok, l1, s4 _ _ hsa, stepsT_same s4 hst, fun oa vs' ws' H5 ok' l1' hoa hst' foa b5 => ?_⟩
    have ex5 := ex4.trans (.of_bs b5)
    have hT5 := tabs_bs bx4 b5 hT4
    have hR15 : RuleAt K CR (del b H5) x ws := rule_same b5.same (rule_delB bx4 l1 hR1)
    intro y dy hy hdy ne'
    have kk2 : ∀ p o, H5 p = some o → upd (upd H5 dy (.own y)) y (.ins CR dy []) p = some o := fun p o e => by
      rw [upd_ne (ne_of_none e hy), upd_ne (ne_of_none e hdy)]
      exact e
    refine ⟨y, dy, oa, vs', ws', rfl, ok', l1', upd_same, kk2 _ _ hoa, stepsT_v (stepsT_same kk2 hst'), fun H6 kp2 hR2 => ⟨rfl, ?_⟩⟩
    have s6 : Same H5 H6 := Same.made hy hdy fun b o e ne => kp2 b o ne e
    have bx6 := box_same s6 b5.box
    have ex6 := ex5.trans (.of_extn b5.box (ExtN.of s6))
    have hT6 := hT5.ext s6
    have hR16 := rule_same (del_same (D := b) s6) hR15
    have hR26 := rule_delB bx6 l1' hR2
    refine ⟨_, rfl, b, rfl, bx6, fun p0 m0 H7 ok0 hp0 f0 b7 => ⟨(by decide : 1 ≤ sizeLine), fun R hRn => ?_⟩⟩
    have ex7 := ex6.trans (.of_bs b7)
    have hT7 := tabs_bs bx6 b7 hT6
    have hR17 := rule_same b7.same hR16
    have hR27 := rule_same b7.same hR26
    have nR := box_some b7.box hRn
    have bR : BS b H7 (upd H7 R (.lst [.ref p0])) := (BS.refl b7.box).at_ hRn nR _
    have hT8 : TabsN (TabK PK) (upd H7 R (.lst [.ref p0])) := hT7.ext (same_new hRn)
    have hRR : upd H7 R (.lst [.ref p0]) R = some (.lst [.ref p0]) := upd_same
    have hp0' : PartsAt (del R (del b (upd H7 R (.lst [.ref p0])))) p0 m0 := by
      refine parts_same (fun q o e => ?_) hp0
      have nq : q ≠ b := fun z => by rw [z, del_at] at e; cases e
      rw [del_ne nq] at e
      rw [del_ne (ne_of_none e hRn), del_ne nq, upd_ne (ne_of_none e hRn)]
      exact e
    generalize upd H7 R (.lst [.ref p0]) = H8 at *
    refine ⟨_, rfl, b, 5, rfl, by decide, by decide, bR.box, fun j H9 hj b9 => ⟨_, _, rfl, rfl, _, rfl, by omega, by omega, for_it walk_range (fun i σ' H' => (∃ x7, σ' = [some (.ref a), some (.int (k : Nat)), some (.ref b), some (.ref sa), some (.ref x), some (.ref y), some (.ref R), x7, x8, none]) ∧ BS b H7 H' ∧ TabsN (TabK PK) H' ∧ ∃ us ms, H' R = some (.lst us) ∧ Paired (RowP (del R (del b H'))) us ms ∧ ms.length = i + 1) ?_ (fun _ _ _ _ _ => True.intro) ?_ ?_⟩⟩
    · refine ⟨⟨_, rfl⟩, bR.trans b9, tabs_bs bR.box b9 hT8, [.ref p0], [m0], b9.get nR hRR, .cons ⟨p0, rfl, ok0, parts_same (del_same b9.same) hp0'⟩ .nil, rfl⟩
    · rintro i z σ2 H10' H10 hi ⟨⟨x7, rfl⟩, bs, hT10, us, ms, hRu, hP, lms⟩ ⟨rfl, _⟩
      refine ⟨_, rfl, b, 2, rfl, by decide, by decide, bs.box, fun t H11 ht b11 => ⟨rfl, _, rfl, ?_⟩⟩
      have hRu11 := b11.get nR hRu
      have bs11 := bs.trans b11
      have hT11 := tabs_bs bs.box b11 hT10
      have hP11 : Paired (RowP (del R (del b H11))) us ms := Paired.mapP hP fun v m ⟨p, e, ok, h⟩ => ⟨p, e, ok, parts_same (del_same b11.same) h⟩
      have lus : us.length = ms.length := Paired.length hP
      have post : ∀ (p : Addr) (m : Mk) (H12 : Hp), OkM m → PartsAt (del b H12) p m → BS b H11 H12 → H12 R = some (.lst us) ∧ us.length < sizeLine ∧ BS b H7 (upd H12 R (.lst (us ++ [.ref p]))) ∧ TabsN (TabK PK) (upd H12 R (.lst (us ++ [.ref p]))) ∧ ∃ us' ms', upd H12 R (.lst (us ++ [.ref p])) R = some (.lst us') ∧ Paired (RowP (del R (del b (upd H12 R (.lst (us ++ [.ref p])))))) us' ms' ∧ ms'.length = i + 1 + 1 := by
        intro p m H12 okm hp b12
        have hRu12 := b12.get nR hRu11
        refine ⟨hRu12, by omega, (bs11.trans b12).at_ hRn nR _, tabs_upd hRu12 (tabs_bs bs11.box b12 hT11), us ++ [.ref p], ms ++ [m], upd_same, ?_, by rw [List.length_append, lms] <;> rfl⟩
        rw [core_upd]
        refine paired_snoc (Paired.mapP hP11 fun v m ⟨p, e, ok, h⟩ => ⟨p, e, ok, parts_same (del_same b12.same) h⟩) ⟨p, rfl, okm, ?_⟩
        cases ms with
        | nil => simp at lms
        | cons mh mt =>
          exact parts_delR (G := fun _ _ => True) (by rw [del_ne nR]; exact hRu12) (Paired.mapP hP11 fun v m ⟨q, e, _⟩ => ⟨trivial, q, e⟩) hp
      by_cases z : t = 0
      · rw [decide_eq_true (show V.int (t : Nat) = V.int 0 by rw [z] <;> rfl)]
        refine iteT ⟨_, rfl, .inl ⟨rfl, _, SqL.of hRu11⟩, _, rfl, b, rfl, bs11.box, fun p m H12 okm hp _ b12 => ?_⟩
        obtain ⟨q1, q2, q3, q4, q5⟩ := post p m H12 okm hp b12
        exact ⟨R, us, _, rfl, rfl, q1, q2, ⟨_, rfl⟩, q3, q4, q5⟩
      · rw [decide_eq_false (show ¬ V.int (t : Nat) = V.int 0 from fun e => by injection e with e; omega)]
        obtain ⟨ml, hml⟩ : ∃ ml, ms[ms.length - 1]? = some ml := ⟨_, List.getElem?_eq_getElem (by omega)⟩
        obtain ⟨vl, hvl, pl, rfl, okl, hpl⟩ := paired_getL hP11 hml
        have hlast : us.getLast? = some (.ref pl) := by rw [List.getLast?_eq_getElem?, lus]; exact hvl
        refine iteF ⟨_, rfl, .inl ⟨rfl, _, SqL.of hRu11⟩, _, rfl, _, rfl, _, rfl, R, us, _, .ref pl, rfl, rfl, .of hRu11, atI_last hlast, b, pl, ml, rfl, bs11.box, okl, parts_same (del_sub R _) hpl, fun p m H12 okm hp _ b12 => ?_⟩
        obtain ⟨q1, q2, q3, q4, q5⟩ := post p m H12 okm hp b12
        exact ⟨R, us, _, rfl, rfl, q1, q2, ⟨_, rfl⟩, q3, q4, q5⟩
    · rintro σ2 H10 ⟨⟨x7, rfl⟩, bs, hT10, us, ms, hRu, hP, lms⟩
      have lus : us.length = ms.length := Paired.length hP
      refine ⟨_, rfl, R, rfl, ⟨_, .of hRu⟩, fun D hD => lc_it (walk_list (xs := us)) (fun i H' => ∃ vs, H' D = some (.lst vs) ∧ Paired (MarkV K CM (del D H')) vs (ms.take i) ∧ Same H10 (del D H')) ⟨[], upd_same, .nil, del_in hD (same_new hD)⟩ (fun i H' _ ⟨_, _, _, z⟩ => .of (del_sub D H' _ _ (z _ _ hRu))) ?_ ?_⟩
      · rintro i v H11' H11 hi ⟨vs, hvs, hPv, sm⟩ ⟨rfl, hx⟩
        obtain ⟨m, hm, p, rfl, okm, hp⟩ := paired_get hP hx
        have hp11 := parts_same (((del_sub R _).trans (del_sub b H10)).trans (sm.trans (del_sub D H11))) hp
        have lv := Paired.length hPv
        rw [List.length_take] at lv
        refine ⟨rfl, ?_⟩
        dsimp only [tYes]
        refine iteT ⟨_, rfl, p, m, rfl, okm, hp11, fun r H12 s12 hM => ⟨vs, s12 _ _ hvs, by omega, vs ++ [.ref r], upd_same, ?_, ?_⟩⟩
        · rw [del_upd, List.take_add_one, hm]
          exact paired_snoc (Paired.mapP hPv fun v m ⟨q, e, h⟩ => ⟨q, e, mark_same (del_same s12) h⟩) ⟨r, rfl, mark_delL (s12 _ _ hvs) hM⟩
        · rw [del_upd]
          exact sm.trans (del_same s12)
      · rintro H11 ⟨vs, hvs, hPv, sm⟩
        rw [lus, List.take_length] at hPv
        have s11 := sm.trans (del_sub D H11)
        have bx11 := box_same s11 bs.box
        have exA : EX b H2 H11 := ex7.trans ((EX.of_bs bs).trans (.of_extn bs.box (ExtN.of s11)))
        have hT11 := hT10.ext s11
        have hRa : RuleAt K CR (del b H11) x ws := rule_same (bs.same.trans (del_same s11)) hR17
        have hRb : RuleAt K CR (del b H11) y ws' := rule_same (bs.same.trans (del_same s11)) hR27
        have nD := box_some bs.box hD
        have hPm : Paired (MarkV K CM H11) vs ms := Paired.mapP hPv fun v m ⟨q, e, h⟩ => ⟨q, e, mark_same (del_sub D H11) h⟩
        have hPb : Paired (MarkV K CM (del b H11)) vs ms := Paired.mapP hPm fun v m ⟨q, e, h⟩ => ⟨q, e, mark_delB bx11 h⟩
        have hDb : del b H11 D = some (.lst vs) := by rw [del_ne nD]; exact hvs
        have lm6 : ms.length ≤ 6 := by omega
        refine ⟨_, rfl, _, rfl, _, rfl, x, y, D, ws, ws', vs, ms, rfl, l1, l1', rule_same (del_sub b _) hRa, rule_same (del_sub b _) hRb, hvs, hPm, by omega, hT11, fun H12 e12 hT12 => ⟨_, rfl, iteF ?_⟩⟩
        have x12 := EX.of_extn bx11 e12
        refine ⟨_, rfl, _, rfl, _, rfl, b, x, D, ws, vs, ms, rfl, x12.box, l1, rule_extn x12.ext hRa, extn_lst x12.ext hDb, Paired.mapP hPb fun v m ⟨q, e, h⟩ => ⟨q, e, mark_extn x12.ext h⟩, by omega, by omega, hT12, fun H13 x13 hT13 => ⟨_, rfl, iteF ?_⟩⟩
        have x123 := x12.trans x13
        refine ⟨_, rfl, _, rfl, _, rfl, b, y, D, ws', vs, ms, rfl, x13.box, l1', rule_extn x123.ext hRb, extn_lst x123.ext hDb, Paired.mapP hPb fun v m ⟨q, e, h⟩ => ⟨q, e, mark_extn x123.ext h⟩, by omega, by omega, hT13, fun H14 x14 hT14 => ⟨_, rfl, iteF ?_⟩⟩
        exact ⟨⟨_, _, _, _, _, _, _, _, rfl⟩, fin (exA.trans (x123.trans x14)), hT14⟩
  · rintro σ2 H1 _
    exact q _
theorem law_ (D : DefT K mg "law" sLaw []) (T : Free mg) (G_cell : C8.Cal P w K mg base 1 "_law_cell" (spCell K) []) (G_box : C8.Cal P w K mg base 1 "_law_box" spBox []) (G_take : C8.Cal P w K mg base 1 "_law_take" spTake []) (G_steps : C8.Cal P w K mg base 2 "_law_steps" spLSteps []) (G_other : C8.Cal P w K mg base 3 "_law_other" spLOther []) (G_Rule : C8.Mak P w K mg base 3 "Rule" CR (spRule K CR) [])
    (G_small : C8.Cal P w K mg base 2 "_law_small" spLSmall []) (G_near : C8.Cal P w K mg base 5 "_law_near" spLNear []) (G_mark : C8.Cal P w K mg base 6 "_law_mark" (spLMark K CM) []) (G_houses : C8.Cal P w K mg base 10 "_law_houses" (spHouses K CM CR PK) []) (G_stands : C8.Cal P w K mg base 8 "_law_stands" (spStands K CM CR PK) []) : C8.Cal P w K mg base 11 "law" (spLaw K PK) [] :=
  cal_of D scLaw (fun _ _ _ _ _ _ us hl => match us, hl with | [_], _ => rfl) (fun vs H Q E h => by
    obtain ⟨_, _, rfl, _⟩ := h
    rfl) (b_law T G_cell G_box G_take G_steps G_other G_Rule G_small G_near G_mark G_houses G_stands)
end
end S
end

section
set_option maxRecDepth 100000
set_option maxHeartbeats 4000000
/-! What the top leaves, and from it the law. -/
namespace S
open PySem PySem.Spec PyProof.Rows L2 SM NdefX LamX
def keyFns : List Str := ["letters_words", "letters_short", "number_whole", "number_figures", "points_decimal", "points_whole", "points_late", "makers_decimal", "makers_whole", "makers_few", "year_rising", "year_falling", "year_late", "year_figures", "copy_rising", "copy_falling", "copy_figures"]
def KF (j : Nat) : Str := keyFns.getD j emp
structure TopT (w : World) (K : PySem.W.Frag) (mg : Str → Option Value) (base : Heap) (CM CR PK kA pA sA fM fR fk cK : Addr) (dM dR dk : FuncData) (ka : Nat → Addr) : Prop where
  cM : ClM K CM
  cR : ClR K CR
  T : Free mg
  c_LETTERS : Con mg "LETTERS" (.str LET)
  c_FIGURES : Con mg "FIGURES" (.str FIG)
  c_LONGEST_signs : Con mg "LONGEST_signs" (.int 6)
  c_PART : Con mg "PART" (.int 60)
  c_FIRST_YEAR : Con mg "FIRST_YEAR" (.int 1000)
  c_LAST_YEAR : Con mg "LAST_YEAR" (.int 2999)
  c_MOST_MAKERS : Con mg "MOST_MAKERS" (.int 3)
  c_GREATEST : Con mg "GREATEST" (.int 9999)
  c_LATE : Con mg "LATE" (.int 10000)
  c_MOST : Con mg "MOST" (.int 6)
  c_LONGEST_houserule : Con mg "LONGEST_houserule" (.int 20)
  c_KEYS : Con mg "KEYS" (.ref kA)
  c_PARTS : Con mg "PARTS" (.ref pA)
  c_SOME : Con mg "SOME" (.ref sA)
  FK : KeysF K w kA ka
  FP : PartsF K pA
  FS : SomeF K w sA
  hka : ∀ j, j < 17 → mg (KF j) = some (.ref (ka j))
  mM : mg "Mark" = some (.ref CM)
  mR : mg "Rule" = some (.ref CR)
  kM : L2.Mk K CM fM
  kR : L2.Mk K CR fR
  iM : FunD K "__init__" "Mark.__init__" (defArgs sMark) (defBody sMark) (defScope sMark) [.str (Str.ofString ""), .non, .non, .non] [] fM dM
  iR : FunD K "__init__" "Rule.__init__" (defArgs sRule) (defBody sRule) (defScope sRule) [] [] fR dR
  ik : FunD K "key_of" "Rule.key_of" (defArgs sKeyOf) (defBody sKeyOf) (defScope sKeyOf) [] [] fk dk
  hk : Meth K CR "key_of" fk
  hc : dk.code = .ref cK
  TB : TabB base mg cK PK
  d_is_whole : DefT K mg "is_whole" sIsWhole [.non]
  d_is_name : DefT K mg "is_name" sIsName []
  d_is_figures : DefT K mg "is_figures" sIsFigures []
  d_is_points : DefT K mg "is_points" sIsPoints []
  d_is_maker : DefT K mg "is_maker" sIsMaker []
  d_is_letters : DefT K mg "is_letters" sIsLetters []
  d_whole_in : DefT K mg "whole_in" sWholeIn []
  d_figures_of : DefT K mg "figures_of" sFiguresOf []
  d_need_year : DefT K mg "need_year" sNeedYear []
  d_need_copy : DefT K mg "need_copy" sNeedCopy []
  d_makers_in : DefT K mg "makers_in" sMakersIn []
  d_whole_of : DefT K mg "whole_of" sWholeOf []
  d_rising : DefT K mg "rising" sRising []
  d_figures : DefT K mg "figures" sFigures []
  d_letters_words : DefT K mg "letters_words" s_letters_words []
  d_letters_short : DefT K mg "letters_short" s_letters_short []
  d_number_whole : DefT K mg "number_whole" s_number_whole []
  d_number_figures : DefT K mg "number_figures" s_number_figures []
  d_points_decimal : DefT K mg "points_decimal" s_points_decimal []
  d_points_whole : DefT K mg "points_whole" s_points_whole []
  d_points_late : DefT K mg "points_late" s_points_late []
  d_makers_decimal : DefT K mg "makers_decimal" s_makers_decimal []
  d_makers_few : DefT K mg "makers_few" s_makers_few []
  d_year_rising : DefT K mg "year_rising" s_year_rising []
  d_year_falling : DefT K mg "year_falling" s_year_falling []
  d_year_late : DefT K mg "year_late" s_year_late []
  d_year_figures : DefT K mg "year_figures" s_year_figures []
  d_copy_rising : DefT K mg "copy_rising" s_copy_rising []
  d_copy_falling : DefT K mg "copy_falling" s_copy_falling []
  d_copy_figures : DefT K mg "copy_figures" s_copy_figures []
  d_makers_whole : DefT K mg "makers_whole" s_makers_whole []
  d_key_by : DefT K mg "key_by" sKeyBy []
  d_sided : DefT K mg "sided" sSided []
  d_ways : DefT K mg "ways" sWays []
  d_need_step : DefT K mg "need_step" sNeedStep []
  d_mark_with : DefT K mg "mark_with" sMarkWith []
  d_side_by : DefT K mg "side_by" sSideBy []
  d_decided : DefT K mg "decided" sDecided []
  d_cheapest : DefT K mg "cheapest" sCheapest []
  d_parted : DefT K mg "parted" sParted []
  d_alike : DefT K mg "alike" sAlike []
  d_need_row : DefT K mg "need_row" sNeedRow []
  d_sides_of : DefT K mg "sides_of" sSidesOf []
  d_step_for : DefT K mg "step_for" sStepFor []
  d_rule_for : DefT K mg "rule_for" sRuleFor []
  d_shows_none : DefT K mg "shows_none" sShowsNone []
  d_fewest_in : DefT K mg "fewest_in" sFewest []
  d__law_cell : DefT K mg "_law_cell" sCell []
  d__law_box : DefT K mg "_law_box" sBox []
  d__law_take : DefT K mg "_law_take" sTake []
  d__law_figures : DefT K mg "_law_figures" sLFigs []
  d__law_letters : DefT K mg "_law_letters" sLLetters []
  d__law_maker : DefT K mg "_law_maker" sLMaker []
  d__law_parts : DefT K mg "_law_parts" sLParts []
  d__law_mark : DefT K mg "_law_mark" sLMark []
  d__law_small : DefT K mg "_law_small" sLSmall []
  d__law_near : DefT K mg "_law_near" sLNear []
  d__law_ways : DefT K mg "_law_ways" sLWays []
  d__law_steps : DefT K mg "_law_steps" sLSteps []
  d__law_other : DefT K mg "_law_other" sLOther []
  d__law_both : DefT K mg "_law_both" sBoth []
  d__law_houses : DefT K mg "_law_houses" sHouses []
  d__law_stands : DefT K mg "_law_stands" sStands []
  d_law : DefT K mg "law" sLaw []
  m_CM_text_of : MetT K CM "text_of" "Mark.text_of" sTextOf []
  m_CM_letters : MetT K CM "letters" "Mark.letters" sLetters []
  m_CM_number : MetT K CM "number" "Mark.number" sNumber []
  m_CM_points : MetT K CM "points" "Mark.points" sPoints []
  m_CM_year : MetT K CM "year" "Mark.year" sYear []
  m_CM_copy_number : MetT K CM "copy_number" "Mark.copy_number" sCopy []
  m_CM_str : MetT K CM "__str__" "Mark.__str__" sStr []
  m_CM_makers : MetT K CM "makers" "Mark.makers" sMakers []
  m_CM_len : MetT K CM "__len__" "Mark.__len__" sLen []
  m_CR_order : MetT K CR "order" "Rule.order" sOrder []
  m_CR_way_of : MetT K CR "way_of" "Rule.way_of" sWayOf []
  m_CR_in_order : MetT K CR "in_order" "Rule.in_order" sInOrder []
section
variable {P : Program} {w : World} {K : PySem.W.Frag} {mg : Str → Option Value} {base : Heap} {CM CR PK kA pA sA fM fR fk cK : Addr} {dM dR dk : FuncData} {ka : Nat → Addr}
theorem held_of {k : Nat} {x : Str} {sp : Sp} {a : Addr} (c : C8.Cal P w K mg base k x sp []) (h : mg x = some (.ref a)) : Held P w K mg base k a sp := by
  obtain ⟨f, fd, ps, ds, F, hm, kp, b, d⟩ := c.ex
  rw [h] at hm
  injection hm with hm
  injection hm with hm
  subst hm
  cases d
  exact ⟨fd, ps, F, kp, b⟩
theorem law_of (t : TopT w K mg base CM CR PK kA pA sA fM fR fk cK dM dR dk ka) : Body P w K mg base 10 nLaw "law" sLaw (spLaw K PK) := by
  have T := t.T
  have cM := t.cM
  have cR := t.cR
  have g_is3 : C8.Cal P w K mg base 1 "is_whole" spIsWhole [] := is_whole3 t.d_is_whole T
  have g_is2 : C8.Cal P w K mg base 1 "is_whole" spIsWhole [.non] := is_whole2 t.d_is_whole T
  have g_name : C8.Cal P w K mg base 1 "is_name" spIsName [] := is_name_ t.d_is_name T t.c_LETTERS t.c_LONGEST_signs
  have g_isfig : C8.Cal P w K mg base 1 "is_figures" spIsFigures [] := is_figures_ t.d_is_figures T t.c_FIGURES
  have g_ispts : C8.Cal P w K mg base 2 "is_points" spIsPoints [] := is_points_ t.d_is_points T g_isfig
  have g_ismak : C8.Cal P w K mg base 2 "is_maker" spIsMaker [] := is_maker_ t.d_is_maker T t.c_LETTERS g_isfig
  have g_islet : C8.Cal P w K mg base 2 "is_letters" spIsLetters [] := is_letters_ t.d_is_letters T g_name
  have g_whole_in : C8.Cal P w K mg base 1 "whole_in" spWholeIn [] := whole_in_ t.d_whole_in T t.c_PART
  have g_figof : C8.Cal P w K mg base 1 "figures_of" spFiguresOf [] := figures_of_ t.d_figures_of T
  have g_ny : C8.Cal P w K mg base 2 "need_year" spNeedYear [] := need_year_ t.d_need_year t.c_FIRST_YEAR t.c_LAST_YEAR g_is3
  have g_nc : C8.Cal P w K mg base 2 "need_copy" spNeedCopy [] := need_copy_ t.d_need_copy g_is2
  have g_mi : C8.Cal P w K mg base 3 "makers_in" (spMakersIn K) [] := makers_in_ t.d_makers_in T t.c_MOST_MAKERS g_ismak
  have g_to : C8.Met P w K mg base 2 CM "text_of" (spTextOf K CM) [] := text_of_ cM t.m_CM_text_of T g_figof
  have g_Mark : C8.Mak P w K mg base 4 "Mark" CM (spMark K CM) [] := mark_ cM t.kM t.mM t.iM t.c_GREATEST g_islet g_is3 g_ispts g_mi g_ny g_nc g_to
  have g_let : C8.Met P w K mg base 1 CM "letters" (spTell K CM fun m => (.str m.letters)) [] := letters_ cM t.m_CM_letters
  have g_num : C8.Met P w K mg base 1 CM "number" (spTell K CM fun m => (.int m.number)) [] := number_ cM t.m_CM_number
  have g_pts : C8.Met P w K mg base 1 CM "points" (spTell K CM fun m => (.str m.points)) [] := points_ cM t.m_CM_points
  have g_year : C8.Met P w K mg base 1 CM "year" (spTell K CM fun m => (hiV m.year)) [] := year_ cM t.m_CM_year
  have g_copy : C8.Met P w K mg base 1 CM "copy_number" (spTell K CM fun m => (hiV m.copy)) [] := copy_number_ cM t.m_CM_copy_number
  have g_str : C8.Met P w K mg base 1 CM "__str__" (spTell K CM fun m => (.str m.text)) [] := __str___ cM t.m_CM_str
  have g_mak : C8.Met P w K mg base 1 CM "makers" (spTellM K CM) [] := makers_ cM t.m_CM_makers
  have g_len : C8.Met P w K mg base 1 CM "__len__" (spTell K CM fun m => .int (m.len : Nat)) [] := len_ cM t.m_CM_len T
  have g_wo : C8.Cal P w K mg base 2 "whole_of" (spWholeOf K) [] := whole_of_ t.d_whole_of T g_whole_in
  have g_ris : C8.Cal P w K mg base 1 "rising" spRising [] := rising_ t.d_rising
  have g_fig : C8.Cal P w K mg base 2 "figures" spFigures [] := figures_ t.d_figures g_figof
  have way : ∀ j, j < 17 → C8.Cal P w K mg base 3 (KF j) (spWay K CM j) [] := by
    intro j hj
    have e : j = 0 ∨ j = 1 ∨ j = 2 ∨ j = 3 ∨ j = 4 ∨ j = 5 ∨ j = 6 ∨ j = 7 ∨ j = 8 ∨ j = 9 ∨ j = 10 ∨ j = 11 ∨ j = 12 ∨ j = 13 ∨ j = 14 ∨ j = 15 ∨ j = 16 := by omega
    rcases e with rfl | rfl | rfl | rfl | rfl | rfl | rfl | rfl | rfl | rfl | rfl | rfl | rfl | rfl | rfl | rfl | rfl
    · exact letters_words_ g_let t.d_letters_words
    · exact letters_short_ g_let t.d_letters_short T
    · exact number_whole_ g_num t.d_number_whole
    · exact number_figures_ g_num t.d_number_figures T
    · exact points_decimal_ g_pts t.d_points_decimal
    · exact points_whole_ g_pts t.d_points_whole g_wo
    · exact points_late_ g_pts t.d_points_late
    · exact makers_decimal_ g_mak t.d_makers_decimal
    · exact makers_whole_ t.d_makers_whole T g_mak g_wo
    · exact makers_few_ g_mak t.d_makers_few T
    · exact year_rising_ g_year t.d_year_rising g_ris
    · exact year_falling_ g_year t.d_year_falling g_ris
    · exact year_late_ g_year t.d_year_late t.c_LATE
    · exact year_figures_ g_year t.d_year_figures g_fig
    · exact copy_rising_ g_copy t.d_copy_rising g_ris
    · exact copy_falling_ g_copy t.d_copy_falling g_ris
    · exact copy_figures_ g_copy t.d_copy_figures g_fig
  have W : Ways P w K mg base CM ka := ⟨fun j hj => held_of (way j hj) (t.hka j hj)⟩
  have g_kb : C8.Cal P w K mg base 1 "key_by" (spKeyBy ka) [] := key_by_ t.d_key_by t.c_KEYS t.FK
  have g_sided : C8.Cal P w K mg base 4 "sided" (spSided K CM) [] := sided_ t.d_sided W g_kb
  have g_ways : C8.Cal P w K mg base 1 "ways" spWays [] := ways_ t.d_ways T t.c_KEYS t.c_PARTS t.FK t.FP
  have g_ns : C8.Cal P w K mg base 2 "need_step" (spNeedStep K) [] := need_step_ t.d_need_step T g_ways
  have g_Rule : C8.Mak P w K mg base 3 "Rule" CR (spRule K CR) [] := rule_ cR t.kR t.mR t.iR T t.c_MOST g_ns
  have g_order : C8.Met P w K mg base 5 CR "order" (spOrder K CM CR) [] := order_ cR t.m_CR_order g_sided
  have g_wayof : C8.Met P w K mg base 2 CR "way_of" (spWayOf K CR) [] := way_of_ cR t.m_CR_way_of T
  have g_mw : C8.Cal P w K mg base 6 "mark_with" (spMarkWith K CM) [] := mark_with_ t.d_mark_with t.c_PARTS t.FP t.c_SOME t.FS g_Mark
  have g_sb : C8.Cal P w K mg base 5 "side_by" (spSideBy K CM CR) [] := side_by_ t.d_side_by g_wayof g_sided
  have g_dec : C8.Cal P w K mg base 3 "decided" (spDecided K CR) [] := decided_ t.d_decided g_wayof
  have g_cheap : C8.Cal P w K mg base 7 "cheapest" (spCheapest K CR) [] := cheapest_ t.d_cheapest t.c_SOME t.FS T g_mw g_sb g_len
  have g_few : C8.Cal P w K mg base 4 "fewest_in" (spFewest K CR) [] := fewest_in_ t.d_fewest_in g_dec
  have g_parted : C8.Cal P w K mg base 8 "parted" (spParted K CM CR) [] := parted_ t.d_parted T t.c_PARTS t.FP g_cheap g_few g_mw
  have g_alike : C8.Cal P w K mg base 9 "alike" (spAlike K CR) [] := alike_ t.d_alike g_parted
  have g_io : C8.Met P w K mg base 7 CR "in_order" (spInOrder K CM CR PK) [] := in_order_ t.m_CR_in_order T W t.ik t.hk t.hc t.TB cR g_kb
  have g_nr : C8.Cal P w K mg base 1 "need_row" spNeedRow [] := need_row_ t.d_need_row T t.c_LONGEST_houserule
  have g_so : C8.Cal P w K mg base 5 "sides_of" (spSidesOf K CM) [] := sides_of_ t.d_sides_of g_sided
  have g_sf : C8.Cal P w K mg base 6 "step_for" (spStepFor K CM) [] := step_for_ t.d_step_for g_ways g_so
  have g_rf : C8.Cal P w K mg base 7 "rule_for" (spRuleFor K CM CR) [] := rule_for_ t.d_rule_for T t.c_PARTS t.FP g_nr g_sf g_sided g_Rule
  have g_sn : C8.Cal P w K mg base 6 "shows_none" (spShowsNone K CM) [] := shows_none_ t.d_shows_none T t.c_PARTS t.FP g_nr g_is3 g_ways g_so
  have g_take : C8.Cal P w K mg base 1 "_law_take" spTake [] := take_ t.d__law_take T
  have g_lf : C8.Cal P w K mg base 2 "_law_figures" spLFigs [] := law_figures_ t.d__law_figures T g_take
  have g_ll : C8.Cal P w K mg base 2 "_law_letters" spLLetters [] := law_letters_ t.d__law_letters T g_take
  have g_lm : C8.Cal P w K mg base 3 "_law_maker" spLMaker [] := law_maker_ t.d__law_maker T g_take g_lf
  have g_lp : C8.Cal P w K mg base 4 "_law_parts" spLParts [] := law_parts_ t.d__law_parts T g_take g_lf g_ll g_lm
  have g_lw : C8.Cal P w K mg base 1 "_law_ways" spLWays [] := law_ways_ t.d__law_ways T
  have g_ls : C8.Cal P w K mg base 2 "_law_steps" spLSteps [] := law_steps_ t.d__law_steps T g_take g_lw
  have g_both : C8.Cal P w K mg base 8 "_law_both" (spBoth K CM CR PK) [] := both_ t.d__law_both T g_str g_io
  exact b_law T (cell_ t.d__law_cell T) (box_ t.d__law_box T) g_take g_ls (law_other_ t.d__law_other T g_take g_lw g_ls) g_Rule (law_small_ t.d__law_small T g_take) (law_near_ t.d__law_near T g_take g_lp) (law_mark_ t.d__law_mark T g_Mark)
    (houses_ t.d__law_houses T g_len g_order g_parted g_alike g_both) (stands_ t.d__law_stands T g_take g_io g_order g_rf g_sn)
end
end S
end

section
set_option maxRecDepth 100000
set_option maxHeartbeats 4000000
/-! The head's facts. -/
namespace S
open PySem PySem.Spec PyProof.Rows L2 SM NdefX LamX
def dG (x : Str) (st : Stmt) (dfl : List He.Dv) : He.DefD := ⟨(x, none), x, x, defArgs st, defBody st, defScope st, dfl, []⟩
def dM (C m q : Str) (st : Stmt) (dfl : List He.Dv) : He.DefD := ⟨(C, some m), m, q, defArgs st, defBody st, defScope st, dfl, []⟩
def fn0 : List He.DefD := [dG "is_whole" sIsWhole [.non], dG "is_name" sIsName [], dG "is_figures" sIsFigures [], dG "is_points" sIsPoints [], dG "is_maker" sIsMaker [], dG "is_letters" sIsLetters [], dG "whole_in" sWholeIn [], dG "figures_of" sFiguresOf [], dG "need_year" sNeedYear [], dG "need_copy" sNeedCopy [], dG "makers_in" sMakersIn [], dG "whole_of" sWholeOf [], dG "rising" sRising [], dG "figures" sFigures [], dG "letters_words" s_letters_words [], dG "letters_short" s_letters_short [], dG "number_whole" s_number_whole [], dG "number_figures" s_number_figures [], dG "points_decimal" s_points_decimal [], dG "points_whole" s_points_whole []]
def fn1 : List He.DefD := [dG "points_late" s_points_late [], dG "makers_decimal" s_makers_decimal [], dG "makers_few" s_makers_few [], dG "year_rising" s_year_rising [], dG "year_falling" s_year_falling [], dG "year_late" s_year_late [], dG "year_figures" s_year_figures [], dG "copy_rising" s_copy_rising [], dG "copy_falling" s_copy_falling [], dG "copy_figures" s_copy_figures [], dG "makers_whole" s_makers_whole [], dG "key_by" sKeyBy [], dG "sided" sSided [], dG "ways" sWays [], dG "need_step" sNeedStep [], dG "mark_with" sMarkWith [], dG "side_by" sSideBy [], dG "decided" sDecided [], dG "cheapest" sCheapest [], dG "parted" sParted []]
def fn2 : List He.DefD := [dG "alike" sAlike [], dG "need_row" sNeedRow [], dG "sides_of" sSidesOf [], dG "step_for" sStepFor [], dG "rule_for" sRuleFor [], dG "shows_none" sShowsNone [], dG "fewest_in" sFewest [], dG "_law_cell" sCell [], dG "_law_box" sBox [], dG "_law_take" sTake [], dG "_law_figures" sLFigs [], dG "_law_letters" sLLetters [], dG "_law_maker" sLMaker [], dG "_law_parts" sLParts [], dG "_law_mark" sLMark [], dG "_law_small" sLSmall [], dG "_law_near" sLNear [], dG "_law_ways" sLWays [], dG "_law_steps" sLSteps [], dG "_law_other" sLOther []]
def fn3 : List He.DefD := [dG "_law_both" sBoth [], dG "_law_houses" sHouses [], dG "_law_stands" sStands [], dG "law" sLaw [], dM "Mark" "text_of" "Mark.text_of" sTextOf [], dM "Mark" "letters" "Mark.letters" sLetters [], dM "Mark" "number" "Mark.number" sNumber [], dM "Mark" "points" "Mark.points" sPoints [], dM "Mark" "year" "Mark.year" sYear [], dM "Mark" "copy_number" "Mark.copy_number" sCopy [], dM "Mark" "__str__" "Mark.__str__" sStr [], dM "Mark" "makers" "Mark.makers" sMakers [], dM "Mark" "__len__" "Mark.__len__" sLen [], dM "Rule" "order" "Rule.order" sOrder [], dM "Rule" "way_of" "Rule.way_of" sWayOf [], dM "Rule" "in_order" "Rule.in_order" sInOrder [], dM "Mark" "__init__" "Mark.__init__" sMark [.str (Str.ofString ""), .non, .non, .non], dM "Rule" "__init__" "Rule.__init__" sRule [], dM "Rule" "key_of" "Rule.key_of" sKeyOf []]
def fnL : List He.DefD := fn0 ++ fn1 ++ fn2 ++ fn3
def fa0 : List He.Fa := [.glo "is_whole", .glo "is_name", .glo "is_figures", .glo "is_points", .glo "is_maker", .glo "is_letters", .glo "whole_in", .glo "figures_of", .glo "need_year", .glo "need_copy", .glo "makers_in", .glo "whole_of", .glo "rising", .glo "figures", .glo "letters_words", .glo "letters_short", .glo "number_whole", .glo "number_figures", .glo "points_decimal", .glo "points_whole", .glo "points_late", .glo "makers_decimal", .glo "makers_few", .glo "year_rising", .glo "year_falling", .glo "year_late", .glo "year_figures", .glo "copy_rising", .glo "copy_falling", .glo "copy_figures"]
def fa1 : List He.Fa := [.glo "makers_whole", .glo "key_by", .glo "sided", .glo "ways", .glo "need_step", .glo "mark_with", .glo "side_by", .glo "decided", .glo "cheapest", .glo "parted", .glo "alike", .glo "need_row", .glo "sides_of", .glo "step_for", .glo "rule_for", .glo "shows_none", .glo "fewest_in", .glo "_law_cell", .glo "_law_box", .glo "_law_take", .glo "_law_figures", .glo "_law_letters", .glo "_law_maker", .glo "_law_parts", .glo "_law_mark", .glo "_law_small", .glo "_law_near", .glo "_law_ways", .glo "_law_steps", .glo "_law_other"]
def fa2 : List He.Fa := [.glo "_law_both", .glo "_law_houses", .glo "_law_stands", .glo "law", .glo "Mark", .glo "Rule", .glo "KEYS", .glo "PARTS", .glo "SOME", .free "isinstance", .free "int", .free "bool", .free "str", .free "list", .free "tuple", .free "len", .free "all", .free "divmod", .free "range", .free "max", .free "min", .free "sorted", .free "enumerate", .int "LONGEST_signs" 6, .int "PART" 60, .int "FIRST_YEAR" 1000, .int "LAST_YEAR" 2999, .int "MOST_MAKERS" 3, .int "GREATEST" 9999, .int "LATE" 10000]
def fa3 : List He.Fa := [.int "MOST" 6, .int "LONGEST_houserule" 20, .str "LETTERS" LET, .str "FIGURES" FIG, .cls "Mark", .cls "Rule", .noat "Mark" "kept_makers", .noat "Mark" "kept_letters", .noat "Mark" "kept_number", .noat "Mark" "kept_points", .noat "Mark" "kept_year", .noat "Mark" "kept_copy", .noat "Mark" "kept_text", .noat "Rule" "kept_steps", .meth "Mark" "text_of", .meth "Mark" "letters", .meth "Mark" "number", .meth "Mark" "points", .meth "Mark" "year", .meth "Mark" "copy_number", .meth "Mark" "__str__", .meth "Mark" "makers", .meth "Mark" "__len__", .meth "Rule" "order", .meth "Rule" "way_of", .meth "Rule" "in_order", .meth "Rule" "key_of", .mkr "Mark", .mkr "Rule"]
def faL : List He.Fa := fa0 ++ fa1 ++ fa2 ++ fa3
def tsL : List He.Tab := [(fun K => He.ga K "KEYS", WNs), (fun K => He.ga K "SOME", PNs)]
def tfL : List He.Defn := [("Rule", some "key_of")]
def keyKv : List (Str × He.Dv) := WNs.zip (keyFns.map He.Dv.glo)
/-- a tuple at an address -/
def tupA (K : PySem.W.Frag) (a : Addr) (vs : List V) : Bool := match K.lookup a with
  | some ⟨.type c, _, .seq its _, _⟩ => decide (c = "tuple") && (decide (its.size ≤ sizeLine) && He.relAll vs its.toList)
  | _ => false
def pvB (K : PySem.W.Frag) : PV → Value → Bool
  | .s x, .str y _ => decide (x = y)
  | .i n, .int m _ => decide (n = m)
  | .l xs, .ref a => tupA K a (xs.map V.str)
  | .o none, .none => true
  | .o (some n), .int m _ => decide (n = m)
  | _, _ => false
def pvAll (K : PySem.W.Frag) : List PV → List Value → Bool
  | [], [] => true
  | v :: vs, u :: us => pvB K v u && pvAll K vs us
  | _, _ => false
def rowB (K : PySem.W.Frag) (a : Addr) (us : List PV) : Bool := match K.lookup a with
  | some ⟨.type c, _, .seq its _, _⟩ => decide (c = "tuple") && (decide (its.size ≤ sizeLine) && pvAll K us its.toList)
  | _ => false
def someB (K : PySem.W.Frag) (p : Nat) : Bool := match PySem.W.nsIn K (He.ga K "SOME") (PN p) with
  | some (some (.ref a)) => rowB K a (SOME p)
  | _ => false
def exL (K : PySem.W.Frag) : Bool := tupA K (He.ga K "PARTS") (PNs.map V.str) && (He.valsB K (He.ga K "KEYS") keyKv && (List.range 6).all (someB K))
theorem tupA_ok {K : PySem.W.Frag} {a : Addr} {vs : List V} (h : tupA K a vs = true) (H : Hp) : SqT K H a vs := by
  unfold tupA at h
  cases q : K.lookup a with
  | none => rw [q] at h; cases h
  | some o =>
    obtain ⟨oc, od, dt, osl⟩ := o
    rw [q] at h
    cases oc with
    | type c =>
      cases dt with
      | seq its n =>
        obtain ⟨h1, h2⟩ := He.ba (show (decide (c = "tuple") && (decide (its.size ≤ sizeLine) && He.relAll vs its.toList)) = true from h)
        obtain ⟨h3, h4⟩ := He.ba h2
        exact .inr ⟨_, its, n, q, congrArg Value.type (of_decide_eq_true h1), rfl, of_decide_eq_true h3, He.relAll_ok h4⟩
      | _ => cases h
    | _ => cases dt <;> cases h
theorem pv_ok {K : PySem.W.Frag} {u : PV} {v : Value} (h : pvB K u v = true) : ∃ x : V, RelV x v ∧ ∀ H, PVat K H x u := by
  cases u with
  | s x =>
    cases v with
    | str y t => exact ⟨.str x, ⟨t, by rw [of_decide_eq_true (show decide (x = y) = true from h)]⟩, fun H => rfl⟩
    | _ => cases h
  | i n =>
    cases v with
    | int m t => exact ⟨.int n, ⟨t, by rw [of_decide_eq_true (show decide (n = m) = true from h)]⟩, fun H => rfl⟩
    | _ => cases h
  | l xs =>
    cases v with
    | ref a => exact ⟨.ref a, rfl, fun H => ⟨a, rfl, tupA_ok h H⟩⟩
    | _ => cases h
  | o y =>
    cases y with
    | none =>
      cases v with
      | none => exact ⟨.non, rfl, fun H => rfl⟩
      | _ => cases h
    | some n =>
      cases v with
      | int m t => exact ⟨.int n, ⟨t, by rw [of_decide_eq_true (show decide (n = m) = true from h)]⟩, fun H => rfl⟩
      | _ => cases h
theorem pvAll_ok {K : PySem.W.Frag} : ∀ {us : List PV} {vs : List Value}, pvAll K us vs = true → ∃ xs : List V, Vals xs vs ∧ ∀ H, Paired (PVat K H) xs us
  | [], [], _ => ⟨[], .nil, fun _ => .nil⟩
  | [], _ :: _, h => by cases h
  | _ :: _, [], h => by cases h
  | u :: us, v :: vs, h => by
    obtain ⟨h1, h2⟩ := He.ba (show (pvB K u v && pvAll K us vs) = true from h)
    obtain ⟨x, r1, p1⟩ := pv_ok h1
    obtain ⟨xs, r2, p2⟩ := pvAll_ok h2
    exact ⟨x :: xs, .cons r1 r2, fun H => .cons (p1 H) (p2 H)⟩
theorem rowB_ok {K : PySem.W.Frag} {a : Addr} {us : List PV} (h : rowB K a us = true) : ∃ vs : List V, ∀ H, SqT K H a vs ∧ Paired (PVat K H) vs us := by
  unfold rowB at h
  cases q : K.lookup a with
  | none => rw [q] at h; cases h
  | some o =>
    obtain ⟨oc, od, dt, osl⟩ := o
    rw [q] at h
    cases oc with
    | type c =>
      cases dt with
      | seq its n =>
        obtain ⟨h1, h2⟩ := He.ba (show (decide (c = "tuple") && (decide (its.size ≤ sizeLine) && pvAll K us its.toList)) = true from h)
        obtain ⟨h3, h4⟩ := He.ba h2
        obtain ⟨xs, r, p⟩ := pvAll_ok h4
        exact ⟨xs, fun H => ⟨.inr ⟨_, its, n, q, congrArg Value.type (of_decide_eq_true h1), rfl, of_decide_eq_true h3, r⟩, p H⟩⟩
      | _ => cases h
    | _ => cases dt <;> cases h
theorem names_ok {K : PySem.W.Frag} {w : World} {a : Addr} {ks : List Str} (h : He.dicW K a = some (He.keysIn w.params ks)) : KNames K a ks := by
  unfold He.dicW at h
  cases q : K.lookup a with
  | none => rw [q] at h; cases h
  | some o =>
    obtain ⟨oc, od, dt, osl⟩ := o
    rw [q] at h
    cases oc with
    | type c =>
      cases od with
      | none =>
        cases dt with
        | dict es n =>
          have h1 : (match decide (c = "dict") && (osl.isEmpty && !(a == sysModules)) with
            | true => some (es.toList.map He.keyOf)
            | false => none) = some (He.keysIn w.params ks) := h
          cases z : decide (c = "dict") && (osl.isEmpty && !(a == sysModules)) with
          | false => rw [z] at h1; cases h1
          | true =>
            rw [z] at h1
            obtain ⟨z1, z2⟩ := He.ba z
            obtain ⟨z3, z4⟩ := He.ba z2
            have e1 : c = "dict" := of_decide_eq_true z1
            have e2 : osl = #[] := Array.isEmpty_iff.mp z3
            have e3 : (a == sysModules) = false := by
              cases y : a == sysModules with
              | false => rfl
              | true => rw [y] at z4; cases z4
            subst e1 e2
            have e := Option.some.inj h1
            have el : es.size = ks.length := by
              have := congrArg List.length e
              unfold He.keysIn at this
              rw [List.length_map, List.length_map, Array.length_toList] at this
              exact this
            refine ⟨⟨es, n, q, el, fun i z hz => ?_⟩, e3⟩
            have hi := congrArg (fun l => l[i]?) e
            unfold He.keysIn at hi
            simp only [List.getElem?_map, hz] at hi
            cases he : es.toList[i]? with
            | none => rw [he] at hi; cases hi
            | some en =>
              rw [he] at hi
              have hk : He.keyOf en = some (z, PyData.keyHash w.params z) := Option.some.inj hi
              unfold He.keyOf at hk
              split at hk
              · rename_i x t qk
                obtain ⟨h5, _⟩ := Prod.mk.inj (Option.some.inj hk)
                refine ⟨en, t, ?_, by rw [qk, h5]⟩
                rw [← he, Array.getElem?_toList]
              · cases hk
        | _ => cases h
      | some b => cases dt <;> cases h
    | _ => cases od <;> cases dt <;> cases h
theorem dct_of {K : PySem.W.Frag} {w : World} {a : Addr} {x : Str} {v : V} {u : Value} (h : ∃ es n, KDict K w a es n) (e : PySem.W.nsIn K a x = some (some u)) (r : RelV v u) : KDct K w a x v := by
  obtain ⟨es, n, q, k, _⟩ := h
  exact ⟨es, n, u, q, k, e, r⟩
section
variable {w : World} {K : PySem.W.Frag} {h : Heap} {mg : Str → Option Value}
theorem con_int (X : K.In h) (G : h.Ns mainGlobals mg) {x : Str} {i : Int} (c : (He.Fa.int x i).ok K = true) : Con mg x (.int i) := by
  obtain ⟨t, e⟩ := He.int_ok X G c
  exact ⟨_, e, t, rfl⟩
theorem con_str (X : K.In h) (G : h.Ns mainGlobals mg) {x z : Str} (c : (He.Fa.str x z).ok K = true) : Con mg x (.str z) := by
  obtain ⟨t, e⟩ := He.str_ok X G c
  exact ⟨_, e, t, rfl⟩
theorem con_ref (X : K.In h) (G : h.Ns mainGlobals mg) {x : Str} (c : (He.Fa.glo x).ok K = true) : Con mg x (.ref (He.ga K x)) := ⟨_, He.glo_ok X G c, rfl⟩
theorem defT_of (X : K.In h) (G : h.Ns mainGlobals mg) {x : Str} {st : Stmt} {dfl : List He.Dv} (d : ∃ fd, FunD K (dG x st dfl).name (dG x st dfl).qual (dG x st dfl).params (dG x st dfl).body (dG x st dfl).scope ((dG x st dfl).dvs K) ((dG x st dfl).kws K) (He.fAd K (dG x st dfl).at_) fd) (g : (He.Fa.glo x).ok K = true) : DefT K mg x st (dfl.map (He.Dv.v K)) := by
  obtain ⟨fd, F⟩ := d
  exact ⟨_, fd, F, He.glo_ok X G g⟩
theorem metT_of {C m q : Str} {st : Stmt} {dfl : List He.Dv} (d : ∃ fd, FunD K (dM C m q st dfl).name (dM C m q st dfl).qual (dM C m q st dfl).params (dM C m q st dfl).body (dM C m q st dfl).scope ((dM C m q st dfl).dvs K) ((dM C m q st dfl).kws K) (He.fAd K (dM C m q st dfl).at_) fd) (g : (He.Fa.meth C m).ok K = true) : MetT K (He.ga K C) m q st (dfl.map (He.Dv.v K)) := by
  obtain ⟨fd, F⟩ := d
  exact ⟨_, fd, F, He.meth_ok g⟩
end
section
variable {w : World} {K : PySem.W.Frag} {h : Heap} {mg : Str → Option Value}
theorem top_of (X : K.In h) (G : h.Ns mainGlobals mg) (c : He.SaysX faL fnL tsL tfL exL w h K) :
    ∃ (fM fR fk : Addr) (dM' dR dk fdL : FuncData) (fL : Addr), FunD K "law" "law" (defArgs sLaw) (defBody sLaw) (defScope sLaw) [] [] fL fdL ∧ mg "law" = some (.ref fL) ∧
      ∀ base : Heap, TabB base mg (He.cT K ("Rule", some "key_of")).1 (He.cT K ("Rule", some "key_of")).2 → TopT w K mg base (He.ga K "Mark") (He.ga K "Rule") (He.cT K ("Rule", some "key_of")).2 (He.ga K "KEYS") (He.ga K "PARTS") (He.ga K "SOME") fM fR fk (He.cT K ("Rule", some "key_of")).1 dM' dR dk (fun j => He.ga K (KF j)) := by
  have cd := c.t.d
  obtain ⟨dM', iM⟩ := cd.def_ 76 (d := dM "Mark" "__init__" "Mark.__init__" sMark [.str (Str.ofString ""), .non, .non, .non]) rfl
  obtain ⟨dR, iR⟩ := cd.def_ 77 (d := dM "Rule" "__init__" "Rule.__init__" sRule []) rfl
  obtain ⟨dk, ik⟩ := cd.def_ 78 (d := dM "Rule" "key_of" "Rule.key_of" sKeyOf []) rfl
  obtain ⟨fdL, FL⟩ := cd.def_ 63 (d := dG "law" sLaw []) rfl
  obtain ⟨e1, e2⟩ := He.ba c.more
  obtain ⟨e3, e4⟩ := He.ba e2
  have et : tsL.map (fun t => He.dicW K (t.1 K)) = tsL.map fun t => some (He.keysIn w.params t.2) := congrArg (fun z : He.AlT => z.2) c.t
  have et0 : He.dicW K (He.ga K "KEYS") = some (He.keysIn w.params WNs) := congrArg (fun l => l.headD none) et
  have et1 : He.dicW K (He.ga K "SOME") = some (He.keysIn w.params PNs) := congrArg (fun l => l.getD 1 none) et
  have hkg : ∀ j, j < 17 → mg (KF j) = some (.ref (He.ga K (KF j))) := by
    intro j hj
    have e : j = 0 ∨ j = 1 ∨ j = 2 ∨ j = 3 ∨ j = 4 ∨ j = 5 ∨ j = 6 ∨ j = 7 ∨ j = 8 ∨ j = 9 ∨ j = 10 ∨ j = 11 ∨ j = 12 ∨ j = 13 ∨ j = 14 ∨ j = 15 ∨ j = 16 := by omega
    rcases e with rfl | rfl | rfl | rfl | rfl | rfl | rfl | rfl | rfl | rfl | rfl | rfl | rfl | rfl | rfl | rfl | rfl
    · exact He.glo_ok X G (cd.fact 14 (f := .glo "letters_words") rfl)
    · exact He.glo_ok X G (cd.fact 15 (f := .glo "letters_short") rfl)
    · exact He.glo_ok X G (cd.fact 16 (f := .glo "number_whole") rfl)
    · exact He.glo_ok X G (cd.fact 17 (f := .glo "number_figures") rfl)
    · exact He.glo_ok X G (cd.fact 18 (f := .glo "points_decimal") rfl)
    · exact He.glo_ok X G (cd.fact 19 (f := .glo "points_whole") rfl)
    · exact He.glo_ok X G (cd.fact 20 (f := .glo "points_late") rfl)
    · exact He.glo_ok X G (cd.fact 21 (f := .glo "makers_decimal") rfl)
    · exact He.glo_ok X G (cd.fact 30 (f := .glo "makers_whole") rfl)
    · exact He.glo_ok X G (cd.fact 22 (f := .glo "makers_few") rfl)
    · exact He.glo_ok X G (cd.fact 23 (f := .glo "year_rising") rfl)
    · exact He.glo_ok X G (cd.fact 24 (f := .glo "year_falling") rfl)
    · exact He.glo_ok X G (cd.fact 25 (f := .glo "year_late") rfl)
    · exact He.glo_ok X G (cd.fact 26 (f := .glo "year_figures") rfl)
    · exact He.glo_ok X G (cd.fact 27 (f := .glo "copy_rising") rfl)
    · exact He.glo_ok X G (cd.fact 28 (f := .glo "copy_falling") rfl)
    · exact He.glo_ok X G (cd.fact 29 (f := .glo "copy_figures") rfl)
  have FK : KeysF K w (He.ga K "KEYS") (fun j => He.ga K (KF j)) := by
    refine ⟨names_ok et0, fun j hj => ?_⟩
    have hm : (WN j, He.Dv.glo (KF j)) ∈ keyKv := by
      have z : ∀ j : Fin 17, keyKv[j.val]? = some (WN j.val, He.Dv.glo (KF j.val)) := by
        intro j
        have zj : WNs[j.val]? = some (WN j.val) ∧ keyFns[j.val]? = some (KF j.val) := (show ∀ j : Fin 17, WNs[j.val]? = some (WN j.val) ∧ keyFns[j.val]? = some (KF j.val) by decide +kernel) j
        unfold keyKv
        rw [List.getElem?_zip_eq_some]
        exact ⟨zj.1, by rw [List.getElem?_map, zj.2] <;> rfl⟩
      exact List.mem_of_getElem? (z ⟨j, hj⟩)
    obtain ⟨u, h1, h2⟩ := He.valsB_ok e3 hm
    exact dct_of (He.dicW_ok et0) h1 h2
  have FS : SomeF K w (He.ga K "SOME") := by
    refine ⟨fun p hp => ?_⟩
    have hs := List.all_eq_true.mp e4 p (List.mem_range.mpr hp)
    unfold someB at hs
    cases q : PySem.W.nsIn K (He.ga K "SOME") (PN p) with
    | none => rw [q] at hs; cases hs
    | some r =>
      rw [q] at hs
      cases r with
      | none => cases hs
      | some u =>
        cases u with
        | ref a =>
          obtain ⟨vs, hv⟩ := rowB_ok (show rowB K a (SOME p) = true from hs)
          exact ⟨a, vs, dct_of (He.dicW_ok et1) q rfl, hv⟩
        | _ => cases hs
  have hck : dk.code = .ref (He.cT K ("Rule", some "key_of")).1 := by
    obtain ⟨oc, od, dV, kV, doc, pm, an, cdv, ct, osl, e, lk, hcd, _, _⟩ := ik.ex
    obtain ⟨c0, hc0⟩ := He.codeIn_ref hcd
    have hcode : dk.code = .ref c0 := by rw [e]; exact hc0
    rw [hcode]
    exact congrArg Value.ref (He.codeOf_eq lk hcode).symm
  refine ⟨He.ma K (He.ga K "Mark") "__init__", He.ma K (He.ga K "Rule") "__init__", He.ma K (He.ga K "Rule") "key_of", dM', dR, dk, fdL, _, FL, He.glo_ok X G (cd.fact 63 (f := .glo "law") rfl), fun base TB => ?_⟩
  exact {
    cM := ⟨He.cls_ok (cd.fact 94 (f := .cls "Mark") rfl), He.noat_ok (cd.fact 96 (f := .noat "Mark" "kept_makers") rfl), He.noat_ok (cd.fact 97 (f := .noat "Mark" "kept_letters") rfl), He.noat_ok (cd.fact 98 (f := .noat "Mark" "kept_number") rfl), He.noat_ok (cd.fact 99 (f := .noat "Mark" "kept_points") rfl), He.noat_ok (cd.fact 100 (f := .noat "Mark" "kept_year") rfl), He.noat_ok (cd.fact 101 (f := .noat "Mark" "kept_copy") rfl), He.noat_ok (cd.fact 102 (f := .noat "Mark" "kept_text") rfl)⟩
    cR := ⟨He.cls_ok (cd.fact 95 (f := .cls "Rule") rfl), He.noat_ok (cd.fact 103 (f := .noat "Rule" "kept_steps") rfl)⟩
    T := ⟨He.free_ok X G (cd.fact 69 (f := .free "isinstance") rfl), He.free_ok X G (cd.fact 70 (f := .free "int") rfl), He.free_ok X G (cd.fact 71 (f := .free "bool") rfl), He.free_ok X G (cd.fact 72 (f := .free "str") rfl), He.free_ok X G (cd.fact 73 (f := .free "list") rfl), He.free_ok X G (cd.fact 74 (f := .free "tuple") rfl), He.free_ok X G (cd.fact 75 (f := .free "len") rfl), He.free_ok X G (cd.fact 76 (f := .free "all") rfl), He.free_ok X G (cd.fact 77 (f := .free "divmod") rfl), He.free_ok X G (cd.fact 78 (f := .free "range") rfl), He.free_ok X G (cd.fact 79 (f := .free "max") rfl), He.free_ok X G (cd.fact 80 (f := .free "min") rfl), He.free_ok X G (cd.fact 81 (f := .free "sorted") rfl), He.free_ok X G (cd.fact 82 (f := .free "enumerate") rfl)⟩
    c_LETTERS := con_str X G (cd.fact 92 (f := .str "LETTERS" LET) rfl)
    c_FIGURES := con_str X G (cd.fact 93 (f := .str "FIGURES" FIG) rfl)
    c_LONGEST_signs := con_int X G (cd.fact 83 (f := .int "LONGEST_signs" 6) rfl)
    c_PART := con_int X G (cd.fact 84 (f := .int "PART" 60) rfl)
    c_FIRST_YEAR := con_int X G (cd.fact 85 (f := .int "FIRST_YEAR" 1000) rfl)
    c_LAST_YEAR := con_int X G (cd.fact 86 (f := .int "LAST_YEAR" 2999) rfl)
    c_MOST_MAKERS := con_int X G (cd.fact 87 (f := .int "MOST_MAKERS" 3) rfl)
    c_GREATEST := con_int X G (cd.fact 88 (f := .int "GREATEST" 9999) rfl)
    c_LATE := con_int X G (cd.fact 89 (f := .int "LATE" 10000) rfl)
    c_MOST := con_int X G (cd.fact 90 (f := .int "MOST" 6) rfl)
    c_LONGEST_houserule := con_int X G (cd.fact 91 (f := .int "LONGEST_houserule" 20) rfl)
    c_KEYS := con_ref X G (cd.fact 66 (f := .glo "KEYS") rfl)
    c_PARTS := con_ref X G (cd.fact 67 (f := .glo "PARTS") rfl)
    c_SOME := con_ref X G (cd.fact 68 (f := .glo "SOME") rfl)
    FK := FK
    FP := ⟨fun H => tupA_ok e1 H⟩
    FS := FS
    hka := hkg
    mM := He.glo_ok X G (cd.fact 64 (f := .glo "Mark") rfl)
    mR := He.glo_ok X G (cd.fact 65 (f := .glo "Rule") rfl)
    kM := He.mkr_ok (cd.fact 117 (f := .mkr "Mark") rfl)
    kR := He.mkr_ok (cd.fact 118 (f := .mkr "Rule") rfl)
    iM := iM
    iR := iR
    ik := ik
    hk := He.meth_ok (cd.fact 116 (f := .meth "Rule" "key_of") rfl)
    hc := hck
    TB := TB
    d_is_whole := defT_of X G (cd.def_ 0 (d := dG "is_whole" sIsWhole [.non]) rfl) (cd.fact 0 (f := .glo "is_whole") rfl)
    d_is_name := defT_of X G (cd.def_ 1 (d := dG "is_name" sIsName []) rfl) (cd.fact 1 (f := .glo "is_name") rfl)
    d_is_figures := defT_of X G (cd.def_ 2 (d := dG "is_figures" sIsFigures []) rfl) (cd.fact 2 (f := .glo "is_figures") rfl)
    d_is_points := defT_of X G (cd.def_ 3 (d := dG "is_points" sIsPoints []) rfl) (cd.fact 3 (f := .glo "is_points") rfl)
    d_is_maker := defT_of X G (cd.def_ 4 (d := dG "is_maker" sIsMaker []) rfl) (cd.fact 4 (f := .glo "is_maker") rfl)
    d_is_letters := defT_of X G (cd.def_ 5 (d := dG "is_letters" sIsLetters []) rfl) (cd.fact 5 (f := .glo "is_letters") rfl)
    d_whole_in := defT_of X G (cd.def_ 6 (d := dG "whole_in" sWholeIn []) rfl) (cd.fact 6 (f := .glo "whole_in") rfl)
    d_figures_of := defT_of X G (cd.def_ 7 (d := dG "figures_of" sFiguresOf []) rfl) (cd.fact 7 (f := .glo "figures_of") rfl)
    d_need_year := defT_of X G (cd.def_ 8 (d := dG "need_year" sNeedYear []) rfl) (cd.fact 8 (f := .glo "need_year") rfl)
    d_need_copy := defT_of X G (cd.def_ 9 (d := dG "need_copy" sNeedCopy []) rfl) (cd.fact 9 (f := .glo "need_copy") rfl)
    d_makers_in := defT_of X G (cd.def_ 10 (d := dG "makers_in" sMakersIn []) rfl) (cd.fact 10 (f := .glo "makers_in") rfl)
    d_whole_of := defT_of X G (cd.def_ 11 (d := dG "whole_of" sWholeOf []) rfl) (cd.fact 11 (f := .glo "whole_of") rfl)
    d_rising := defT_of X G (cd.def_ 12 (d := dG "rising" sRising []) rfl) (cd.fact 12 (f := .glo "rising") rfl)
    d_figures := defT_of X G (cd.def_ 13 (d := dG "figures" sFigures []) rfl) (cd.fact 13 (f := .glo "figures") rfl)
    d_letters_words := defT_of X G (cd.def_ 14 (d := dG "letters_words" s_letters_words []) rfl) (cd.fact 14 (f := .glo "letters_words") rfl)
    d_letters_short := defT_of X G (cd.def_ 15 (d := dG "letters_short" s_letters_short []) rfl) (cd.fact 15 (f := .glo "letters_short") rfl)
    d_number_whole := defT_of X G (cd.def_ 16 (d := dG "number_whole" s_number_whole []) rfl) (cd.fact 16 (f := .glo "number_whole") rfl)
    d_number_figures := defT_of X G (cd.def_ 17 (d := dG "number_figures" s_number_figures []) rfl) (cd.fact 17 (f := .glo "number_figures") rfl)
    d_points_decimal := defT_of X G (cd.def_ 18 (d := dG "points_decimal" s_points_decimal []) rfl) (cd.fact 18 (f := .glo "points_decimal") rfl)
    d_points_whole := defT_of X G (cd.def_ 19 (d := dG "points_whole" s_points_whole []) rfl) (cd.fact 19 (f := .glo "points_whole") rfl)
    d_points_late := defT_of X G (cd.def_ 20 (d := dG "points_late" s_points_late []) rfl) (cd.fact 20 (f := .glo "points_late") rfl)
    d_makers_decimal := defT_of X G (cd.def_ 21 (d := dG "makers_decimal" s_makers_decimal []) rfl) (cd.fact 21 (f := .glo "makers_decimal") rfl)
    d_makers_few := defT_of X G (cd.def_ 22 (d := dG "makers_few" s_makers_few []) rfl) (cd.fact 22 (f := .glo "makers_few") rfl)
    d_year_rising := defT_of X G (cd.def_ 23 (d := dG "year_rising" s_year_rising []) rfl) (cd.fact 23 (f := .glo "year_rising") rfl)
    d_year_falling := defT_of X G (cd.def_ 24 (d := dG "year_falling" s_year_falling []) rfl) (cd.fact 24 (f := .glo "year_falling") rfl)
    d_year_late := defT_of X G (cd.def_ 25 (d := dG "year_late" s_year_late []) rfl) (cd.fact 25 (f := .glo "year_late") rfl)
    d_year_figures := defT_of X G (cd.def_ 26 (d := dG "year_figures" s_year_figures []) rfl) (cd.fact 26 (f := .glo "year_figures") rfl)
    d_copy_rising := defT_of X G (cd.def_ 27 (d := dG "copy_rising" s_copy_rising []) rfl) (cd.fact 27 (f := .glo "copy_rising") rfl)
    d_copy_falling := defT_of X G (cd.def_ 28 (d := dG "copy_falling" s_copy_falling []) rfl) (cd.fact 28 (f := .glo "copy_falling") rfl)
    d_copy_figures := defT_of X G (cd.def_ 29 (d := dG "copy_figures" s_copy_figures []) rfl) (cd.fact 29 (f := .glo "copy_figures") rfl)
    d_makers_whole := defT_of X G (cd.def_ 30 (d := dG "makers_whole" s_makers_whole []) rfl) (cd.fact 30 (f := .glo "makers_whole") rfl)
    d_key_by := defT_of X G (cd.def_ 31 (d := dG "key_by" sKeyBy []) rfl) (cd.fact 31 (f := .glo "key_by") rfl)
    d_sided := defT_of X G (cd.def_ 32 (d := dG "sided" sSided []) rfl) (cd.fact 32 (f := .glo "sided") rfl)
    d_ways := defT_of X G (cd.def_ 33 (d := dG "ways" sWays []) rfl) (cd.fact 33 (f := .glo "ways") rfl)
    d_need_step := defT_of X G (cd.def_ 34 (d := dG "need_step" sNeedStep []) rfl) (cd.fact 34 (f := .glo "need_step") rfl)
    d_mark_with := defT_of X G (cd.def_ 35 (d := dG "mark_with" sMarkWith []) rfl) (cd.fact 35 (f := .glo "mark_with") rfl)
    d_side_by := defT_of X G (cd.def_ 36 (d := dG "side_by" sSideBy []) rfl) (cd.fact 36 (f := .glo "side_by") rfl)
    d_decided := defT_of X G (cd.def_ 37 (d := dG "decided" sDecided []) rfl) (cd.fact 37 (f := .glo "decided") rfl)
    d_cheapest := defT_of X G (cd.def_ 38 (d := dG "cheapest" sCheapest []) rfl) (cd.fact 38 (f := .glo "cheapest") rfl)
    d_parted := defT_of X G (cd.def_ 39 (d := dG "parted" sParted []) rfl) (cd.fact 39 (f := .glo "parted") rfl)
    d_alike := defT_of X G (cd.def_ 40 (d := dG "alike" sAlike []) rfl) (cd.fact 40 (f := .glo "alike") rfl)
    d_need_row := defT_of X G (cd.def_ 41 (d := dG "need_row" sNeedRow []) rfl) (cd.fact 41 (f := .glo "need_row") rfl)
    d_sides_of := defT_of X G (cd.def_ 42 (d := dG "sides_of" sSidesOf []) rfl) (cd.fact 42 (f := .glo "sides_of") rfl)
    d_step_for := defT_of X G (cd.def_ 43 (d := dG "step_for" sStepFor []) rfl) (cd.fact 43 (f := .glo "step_for") rfl)
    d_rule_for := defT_of X G (cd.def_ 44 (d := dG "rule_for" sRuleFor []) rfl) (cd.fact 44 (f := .glo "rule_for") rfl)
    d_shows_none := defT_of X G (cd.def_ 45 (d := dG "shows_none" sShowsNone []) rfl) (cd.fact 45 (f := .glo "shows_none") rfl)
    d_fewest_in := defT_of X G (cd.def_ 46 (d := dG "fewest_in" sFewest []) rfl) (cd.fact 46 (f := .glo "fewest_in") rfl)
    d__law_cell := defT_of X G (cd.def_ 47 (d := dG "_law_cell" sCell []) rfl) (cd.fact 47 (f := .glo "_law_cell") rfl)
    d__law_box := defT_of X G (cd.def_ 48 (d := dG "_law_box" sBox []) rfl) (cd.fact 48 (f := .glo "_law_box") rfl)
    d__law_take := defT_of X G (cd.def_ 49 (d := dG "_law_take" sTake []) rfl) (cd.fact 49 (f := .glo "_law_take") rfl)
    d__law_figures := defT_of X G (cd.def_ 50 (d := dG "_law_figures" sLFigs []) rfl) (cd.fact 50 (f := .glo "_law_figures") rfl)
    d__law_letters := defT_of X G (cd.def_ 51 (d := dG "_law_letters" sLLetters []) rfl) (cd.fact 51 (f := .glo "_law_letters") rfl)
    d__law_maker := defT_of X G (cd.def_ 52 (d := dG "_law_maker" sLMaker []) rfl) (cd.fact 52 (f := .glo "_law_maker") rfl)
    d__law_parts := defT_of X G (cd.def_ 53 (d := dG "_law_parts" sLParts []) rfl) (cd.fact 53 (f := .glo "_law_parts") rfl)
    d__law_mark := defT_of X G (cd.def_ 54 (d := dG "_law_mark" sLMark []) rfl) (cd.fact 54 (f := .glo "_law_mark") rfl)
    d__law_small := defT_of X G (cd.def_ 55 (d := dG "_law_small" sLSmall []) rfl) (cd.fact 55 (f := .glo "_law_small") rfl)
    d__law_near := defT_of X G (cd.def_ 56 (d := dG "_law_near" sLNear []) rfl) (cd.fact 56 (f := .glo "_law_near") rfl)
    d__law_ways := defT_of X G (cd.def_ 57 (d := dG "_law_ways" sLWays []) rfl) (cd.fact 57 (f := .glo "_law_ways") rfl)
    d__law_steps := defT_of X G (cd.def_ 58 (d := dG "_law_steps" sLSteps []) rfl) (cd.fact 58 (f := .glo "_law_steps") rfl)
    d__law_other := defT_of X G (cd.def_ 59 (d := dG "_law_other" sLOther []) rfl) (cd.fact 59 (f := .glo "_law_other") rfl)
    d__law_both := defT_of X G (cd.def_ 60 (d := dG "_law_both" sBoth []) rfl) (cd.fact 60 (f := .glo "_law_both") rfl)
    d__law_houses := defT_of X G (cd.def_ 61 (d := dG "_law_houses" sHouses []) rfl) (cd.fact 61 (f := .glo "_law_houses") rfl)
    d__law_stands := defT_of X G (cd.def_ 62 (d := dG "_law_stands" sStands []) rfl) (cd.fact 62 (f := .glo "_law_stands") rfl)
    d_law := defT_of X G (cd.def_ 63 (d := dG "law" sLaw []) rfl) (cd.fact 63 (f := .glo "law") rfl)
    m_CM_text_of := metT_of (cd.def_ 64 (d := dM "Mark" "text_of" "Mark.text_of" sTextOf []) rfl) (cd.fact 104 (f := .meth "Mark" "text_of") rfl)
    m_CM_letters := metT_of (cd.def_ 65 (d := dM "Mark" "letters" "Mark.letters" sLetters []) rfl) (cd.fact 105 (f := .meth "Mark" "letters") rfl)
    m_CM_number := metT_of (cd.def_ 66 (d := dM "Mark" "number" "Mark.number" sNumber []) rfl) (cd.fact 106 (f := .meth "Mark" "number") rfl)
    m_CM_points := metT_of (cd.def_ 67 (d := dM "Mark" "points" "Mark.points" sPoints []) rfl) (cd.fact 107 (f := .meth "Mark" "points") rfl)
    m_CM_year := metT_of (cd.def_ 68 (d := dM "Mark" "year" "Mark.year" sYear []) rfl) (cd.fact 108 (f := .meth "Mark" "year") rfl)
    m_CM_copy_number := metT_of (cd.def_ 69 (d := dM "Mark" "copy_number" "Mark.copy_number" sCopy []) rfl) (cd.fact 109 (f := .meth "Mark" "copy_number") rfl)
    m_CM_str := metT_of (cd.def_ 70 (d := dM "Mark" "__str__" "Mark.__str__" sStr []) rfl) (cd.fact 110 (f := .meth "Mark" "__str__") rfl)
    m_CM_makers := metT_of (cd.def_ 71 (d := dM "Mark" "makers" "Mark.makers" sMakers []) rfl) (cd.fact 111 (f := .meth "Mark" "makers") rfl)
    m_CM_len := metT_of (cd.def_ 72 (d := dM "Mark" "__len__" "Mark.__len__" sLen []) rfl) (cd.fact 112 (f := .meth "Mark" "__len__") rfl)
    m_CR_order := metT_of (cd.def_ 73 (d := dM "Rule" "order" "Rule.order" sOrder []) rfl) (cd.fact 113 (f := .meth "Rule" "order") rfl)
    m_CR_way_of := metT_of (cd.def_ 74 (d := dM "Rule" "way_of" "Rule.way_of" sWayOf []) rfl) (cd.fact 114 (f := .meth "Rule" "way_of") rfl)
    m_CR_in_order := metT_of (cd.def_ 75 (d := dM "Rule" "in_order" "Rule.in_order" sInOrder []) rfl) (cd.fact 115 (f := .meth "Rule" "in_order") rfl)
  }
end
end S
end

section
set_option maxRecDepth 100000
set_option maxHeartbeats 0
/-! The run of the top, with a Hook that looks at what the names reach by functions, classes, tables alone. -/
namespace S
open PySem PySem.W PySem.Calls PyProof.Rows
/-- what an object leads to: a function's code and defaults, a class's names, a table's and a tuple's items -/
def leads (g : Addr → Option Obj) (a : Addr) : List Addr := match g a with
  | some ⟨_, _, .func fd, _⟩ => He.refV fd.code ++ He.refV fd.defaults
  | some ⟨_, _, .cls cd, _⟩ => [cd.ns]
  | some ⟨_, _, .dict es _, _⟩ => es.toList.flatMap fun e => He.refV e.val
  | some ⟨_, _, .seq its _, _⟩ => its.toList.flatMap He.refV
  | _ => []
def reach (g : Addr → Option Obj) : Nat → List Addr → List Addr
  | 0, l => l
  | n + 1, l => l ++ reach g n (l.flatMap (leads g))
def KY (g : Addr → Option Obj) : PySem.W.Frag := He.frT g (reach g 4 [mainGlobals])
def obsY (g : Addr → Option Obj) : He.AlX := (He.obsT faL fnL tsL (KY g), exL (KY g) && He.tabsB g tfL (KY g))
theorem saysY {w : World} {h : Heap} (e : obsY h.get? = He.valX fnL tsL w) : He.SaysX faL fnL tsL tfL exL w h (KY h.get?) := by
  obtain ⟨h1, h2⟩ := He.ba (show (exL (KY h.get?) && He.tabsB h.get? tfL (KY h.get?)) = true from congrArg Prod.snd e)
  have one : ∀ p ∈ tfL, PySem.W.codeHdIn (KY h.get?) (He.cT (KY h.get?) p).1 (He.cT (KY h.get?) p).2 = true ∧ ∃ o, h.get? (He.cT (KY h.get?) p).2 = some o ∧ He.emptyTab o = true := by
    intro p hp
    obtain ⟨h3, h4⟩ := He.ba (List.all_eq_true.mp h2 p hp)
    revert h4
    cases q : h.get? (He.cT (KY h.get?) p).2 with
    | none => exact fun z => by cases z
    | some o => exact fun z => ⟨h3, o, rfl, z⟩
  refine { t := congrArg Prod.fst e, more := h1, hd := fun p hp => (one p hp).1, out := fun p hp => ?_, empty := fun p hp => ?_ }
  · obtain ⟨_, o, q, z⟩ := one p hp
    exact He.frT_none q z
  · obtain ⟨_, o, q, z⟩ := one p hp
    exact q.trans (congrArg some (He.emptyTab_eq z))
def hkX : PySem.W.Hook where
  α := He.AlX
  obs := fun s => obsY s.heap.get?
  val := fun w => He.valX fnL tsL w
  says := fun w h => ∃ K : PySem.W.Frag, K.In h ∧ He.SaysX faL fnL tsL tfL exL w h K
  of := fun _ _ e => ⟨_, He.frT_in, saysY e⟩
  keeps := fun _ _ _ ⟨K, i, c⟩ k => ⟨K, i.keeps k, { t := c.t, more := c.more, hd := c.hd, out := c.out, empty := fun p hp => k _ _ (c.empty p hp) }⟩
abbrev RR : OpenRow := OpenLaw.row PySem.Challenge.rw_spinemarks_k96_whole_two_houses
abbrev qv : Program := view RR.prog [102]
def loose0 : List PySem.Str := ["_wall", "MarkError", "NoLetters", "NoNumber", "NoPoints", "NoMakers", "NoMaker", "NoYear", "NoCopy", "Twice", "NoSteps", "NoStep", "NoPart", "NoWay", "NoRow", "LETTERS", "FIGURES", "LONGEST_signs", "PART", "is_whole", "whole_in", "figures_of", "is_name", "is_figures", "is_points", "is_maker", "is_letters", "MOST_MAKERS", "FIRST_YEAR", "LAST_YEAR"]
def loose1 : List PySem.Str := ["GREATEST", "need_year", "need_copy", "makers_in", "Mark", "PARTS", "LATE", "letters_words", "letters_short", "number_whole", "number_figures", "points_decimal", "whole_of", "points_whole", "points_late", "makers_decimal", "makers_whole", "makers_few", "rising", "figures", "year_rising", "year_falling", "year_late", "year_figures", "copy_rising", "copy_falling", "copy_figures", "KEYS", "ways", "key_by"]
def loose2 : List PySem.Str := ["sided", "SOME", "mark_with", "side_by", "cheapest", "decided", "fewest_in", "parted", "alike", "MOST", "need_step", "Rule", "LONGEST_houserule", "need_row", "sides_of", "step_for", "rule_for", "shows_none", "_law_cell", "_law_box", "_law_take", "_law_figures", "_law_letters", "_law_maker", "_law_parts", "_law_ways", "_law_steps", "_law_near", "_law_mark", "_law_small"]
def loose3 : List PySem.Str := ["_law_other", "_law_both", "_law_houses", "_law_stands"]
def looseL : List PySem.Str := loose0 ++ loose1 ++ loose2 ++ loose3
def obX (s : PySem.W.SharedT) : He.AlX := obsY (HandSHeadRun.getT s)
theorem obX_eq (s : PySem.W.SharedT) : obX s = hkX.obs s.abs := by
  have e : HandSHeadRun.getT s = s.abs.heap.get? := funext (HandSHeadRun.getT_eq s)
  show obsY (HandSHeadRun.getT s) = obsY s.abs.heap.get?
  rw [e]
theorem runF (w : World) : HandSHeadRun.RunEq RR qv hkX obX 12000 looseL (w.withFollow "special-get-raises" false) := by
  intro os
  kernel_rfl
theorem runT (w : World) : HandSHeadRun.RunEq RR qv hkX obX 12000 looseL (w.withFollow "special-get-raises" true) := by
  intro os
  kernel_rfl
theorem runAll (w : World) : HandSHeadRun.RunEq RR qv hkX obX 12000 looseL w := byRow2 "special-get-raises" (P := fun w => HandSHeadRun.RunEq RR qv hkX obX 12000 looseL w) runF runT w
end S
end

section
set_option maxRecDepth 100000
set_option maxHeartbeats 0
namespace S
open PySem PySem.Spec PyProof.Rows L2 SM NdefX LamX
abbrev CXX : CXT := C8.CX0
theorem atS {w : World} {K : PySem.W.Frag} {h : Heap} {mg : Str → Option Value} {fa : Addr} (X : K.In h) (G : h.Ns mainGlobals mg) (c : He.SaysX faL fnL tsL tfL exL w h K) (hfa : mg "law" = some (.ref fa)) :
    LawAtS PySem.Challenge.rw_spinemarks_k96_whole_two_houses w K C8.CX0 11 63 "_law_script" mg fa h := by
  obtain ⟨fM, fR, fk, dM', dR, dk, fdL, fL, FL, hL, top⟩ := top_of X G c
  rw [hfa] at hL
  injection hL with hL
  injection hL with hL
  subst hL
  have hp : (("Rule", some "key_of") : He.Defn) ∈ tfL := List.mem_cons_self
  have b := FunD.bindsA (ps := ["_law_script"]) FL fun _ _ _ _ _ _ us hl => match us, hl with | [_], _ => rfl
  refine ⟨fdL, [He.cT K ("Rule", some "key_of")], spLaw K (He.cT K ("Rule", some "key_of")).2, ?_, ?_, ?_, fun s v => b s [v] rfl, ?_, ?_⟩
  · intro p h1
    obtain rfl := List.mem_singleton.mp h1
    exact c.empty _ hp
  · intro p h1
    obtain rfl := List.mem_singleton.mp h1
    exact c.out _ hp
  · intro p h1
    obtain rfl := List.mem_singleton.mp h1
    exact PySem.W.codeHd_of_K X (c.hd _ hp)
  · intro H a ns hl hbits hH hS
    have sz := sizeLine_eq
    refine ⟨a, ns, rfl, hS, by omega, fun p h1 => ?_, fun _ => rfl⟩
    unfold TabK at h1
    obtain rfl := List.mem_singleton.mp h1
    exact TabN.nil (hH _ List.mem_cons_self)
  · intro base X2 G2 hTB
    have t := top base (hTB _ List.mem_cons_self)
    have hb := law_of (P := PySem.Challenge.rw_spinemarks_k96_whole_two_houses.prog) t
    exact FL.ok scLaw (fun vs H Q E h => by
      obtain ⟨_, _, rfl, _⟩ := h
      rfl) fun cdv A outer s H vs Q E hr h => by
        obtain ⟨t, h1, h2⟩ := hb fa cdv A outer s H vs Q E hr h
        exact ⟨t, h1.nox, h2⟩
end S
open PySem PySem.W PySem.Calls PyProof.Rows
theorem PySem.Challenge.cw_spinemarks_k96_whole_two_houses_holds : PySem.Challenge.rw_spinemarks_k96_whole_two_houses.Holds := by
  w_on; o_law
  refine HandSHeadRun.head_any (r := OpenLaw.row PySem.Challenge.rw_spinemarks_k96_whole_two_houses) (q := view (OpenLaw.row PySem.Challenge.rw_spinemarks_k96_whole_two_houses).prog [102]) (H := S.hkX) (ob := S.obX) (M := 12000) (loose := S.looseL) (d := HandSHeadRun.topDef (OpenLaw.row PySem.Challenge.rw_spinemarks_k96_whole_two_houses).prog 102) (kwd := []) S.obX_eq
    (by kernel_rfl) (fun s => by kernel_rfl) S.runAll (by kernel_rfl) (by kernel_rfl) (by kernel_rfl) (by rfl) (by first | assumption | decide +kernel) (by decide +kernel) ⟨rfl, rfl, rfl, rfl, rfl, by decide +kernel⟩ ?hw ?hc
  case hw => w_witness2
  case hc =>
    refine LamX.walk_ofTsE (l := PySem.Challenge.rw_spinemarks_k96_whole_two_houses) (n := 63) (k := 11) (x := "_law_script") (CX := fun _ => S.CXX) rfl (by decide) (by kernel_rfl) ⟨rfl, by decide, by decide⟩ ?F (fun _ _ _ _ _ z => z)
    intro w mg fa h Y G hmg0
    obtain ⟨K, KX, c⟩ := Y
    have hmg : mg ("law" : PySem.Str) = some (.ref fa) := by
      have e : (HandSHeadRun.topDef (OpenLaw.row PySem.Challenge.rw_spinemarks_k96_whole_two_houses).prog 102).name = ("law" : PySem.Str) := by kernel_rfl
      rw [← e]
      exact hmg0
    exact ⟨K, KX, S.atS KX G c hmg⟩
end
