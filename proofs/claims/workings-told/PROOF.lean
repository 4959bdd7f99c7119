import PyProof.Rows.All
import Wide.All
import OpenK.AllK
import Wide.FinOn
import HandS.Codes
import HandS.Conv
import HandS.Defaults
import HandS.Ends
import HandS.ForMost
import HandS.IsInst
import HandS.More
import HandS.RevTup
import HandS.Text
import KE.DataFind
import KE.GoesEnum
import KE.KeyNested
import PyProof.CollectStr
import PyProof.DictRoadsH
import PySem.Challenge.RW_crosswright_k77_workings_told
set_option Elab.async false
set_option linter.all false
set_option maxRecDepth 100000
set_option maxHeartbeats 4000000
/-! CwMath: the workings as plain data; what they make, how long they are, how they are written. No program in sight. -/
namespace Cw
open PySem TL

/-- a plain working -/
inductive Wk where
  | word (w : Str)
  | back (x : Wk)
  | join (x y : Wk)
  | mix (w t : Str)
  | within (w : Str) (a b : Nat)
  | less (w : Str) (k : Nat)
  deriving DecidableEq

namespace Wk
/-- parts, itself and words counted -/
def size : Wk → Nat
  | .word _ => 1
  | .back x => 1 + size x
  | .join x y => 1 + size x + size y
  | .mix _ _ => 2
  | .within _ _ _ => 2
  | .less _ _ => 2
end Wk

/-- a text turned about; a part of it; without a sign -/
def rev (s : Str) : Str := ⟨(tl s).reverse.toArray⟩
def seg (s : Str) (a b : Nat) : Str := ⟨(((tl s).drop a).take (b - a)).toArray⟩
def wout (s : Str) (k : Nat) : Str := ⟨((tl s).take k ++ (tl s).drop (k + 1)).toArray⟩
theorem tl_rev (s : Str) : tl (rev s) = (tl s).reverse := rfl
theorem tl_seg (s : Str) (a b : Nat) : tl (seg s a b) = ((tl s).drop a).take (b - a) := rfl
theorem tl_wout (s : Str) (k : Nat) : tl (wout s k) = (tl s).take k ++ (tl s).drop (k + 1) := rfl
theorem len_tl (s : Str) : s.length = (tl s).length := rfl
theorem rev_rev (s : Str) : rev (rev s) = s := by
  refine ext_tl ?_
  rw [tl_rev, tl_rev, List.reverse_reverse]
theorem rev_len (s : Str) : (rev s).length = s.length := by
  rw [len_tl, len_tl, tl_rev, List.length_reverse]

/-- what a working makes -/
def Wk.out : Wk → Str
  | .word w => w
  | .back x => rev (out x)
  | .join x y => out x ++ out y
  | .mix _ t => t
  | .within w a b => seg w a b
  | .less w k => wout w k
/-- each step can be made -/
def Good (ws : List Str) : Wk → Prop
  | .word w => w ∈ ws
  | .back x => Good ws x
  | .join x y => Good ws x ∧ Good ws y
  | .mix w t => w ∈ ws ∧ (tl t).Perm (tl w) ∧ t ≠ w
  | .within w a b => w ∈ ws ∧ a < b ∧ b ≤ w.length ∧ b - a < w.length
  | .less w k => w ∈ ws ∧ k < w.length ∧ 2 ≤ w.length

/-- a text of small letters -/
def Low (s : Str) : Prop := ∀ c ∈ tl s, 97 ≤ c ∧ c ≤ 122
/-- the words of a book as the law makes them -/
def Words (ws : List Str) : Prop := ws.Nodup ∧ ∀ w ∈ ws, Low w ∧ 2 ≤ w.length ∧ w.length ≤ 4

theorem out_len {ws : List Str} (h : Words ws) : ∀ {k : Wk}, Good ws k → 0 < k.out.length
  | .word w, g => by
    have := (h.2 w g).2.1
    show 0 < w.length
    omega
  | .back x, g => by
    show 0 < (rev x.out).length
    rw [rev_len]
    exact out_len h (k := x) g
  | .join x y, g => by
    have := out_len h (k := x) g.1
    show 0 < (x.out ++ y.out).length
    rw [len_tl, tl_append, List.length_append, ← len_tl]
    omega
  | .mix w t, g => by
    have e := (h.2 w g.1).2.1
    have l := g.2.1.length_eq
    show 0 < t.length
    rw [len_tl] at e ⊢
    omega
  | .within w a b, g => by
    obtain ⟨_, g1, g2, _⟩ := g
    show 0 < (seg w a b).length
    rw [len_tl] at g2 ⊢
    rw [tl_seg, List.length_take, List.length_drop]
    omega
  | .less w k, g => by
    obtain ⟨_, g1, g2⟩ := g
    show 0 < (wout w k).length
    rw [len_tl] at g1 g2 ⊢
    rw [tl_wout, List.length_append, List.length_take, List.length_drop]
    omega

theorem size_pos : ∀ k : Wk, 1 ≤ k.size
  | .word _ => Nat.le_refl 1
  | .back x => Nat.le_add_right 1 _
  | .join x y => by show 1 ≤ 1 + x.size + y.size; omega
  | .mix _ _ => Nat.le_succ 1
  | .within _ _ _ => Nat.le_succ 1
  | .less _ _ => Nat.le_succ 1

/-! ### how a working is written -/
def dW (w : Str) : PyData := .tuple [.str "word", .str w]
def Wk.dat : Wk → PyData
  | .word w => dW w
  | .back x => .tuple [.str "back", dat x]
  | .join x y => .tuple [.str "join", dat x, dat y]
  | .mix w t => .tuple [.str "mix", dW w, .str t]
  | .within w a b => .tuple [.str "within", dW w, .int (a : Int), .int (b : Int)]
  | .less w k => .tuple [.str "less", dW w, .int (k : Int)]

/-- ('word', ' and so on, as signs -/
def txW (w : Str) : List Nat := [40, 39, 119, 111, 114, 100, 39, 44, 32, 39] ++ (tl w ++ [39, 41])
def Wk.txt : Wk → List Nat
  | .word w => txW w
  | .back x => [40, 39, 98, 97, 99, 107, 39, 44, 32] ++ (txt x ++ [41])
  | .join x y => [40, 39, 106, 111, 105, 110, 39, 44, 32] ++ (txt x ++ ([44, 32] ++ (txt y ++ [41])))
  | .mix w t => [40, 39, 109, 105, 120, 39, 44, 32] ++ (txW w ++ ([44, 32, 39] ++ (tl t ++ [39, 41])))
  | .within w a b => [40, 39, 119, 105, 116, 104, 105, 110, 39, 44, 32] ++ (txW w ++ ([44, 32] ++ (numL a ++ ([44, 32] ++ (numL b ++ [41])))))
  | .less w k => [40, 39, 108, 101, 115, 115, 39, 44, 32] ++ (txW w ++ ([44, 32] ++ (numL k ++ [41])))

theorem upto {c : Nat} : ∀ {a b r s : List Nat}, c ∉ a → c ∉ b → a ++ c :: r = b ++ c :: s → a = b ∧ r = s
  | [], [], r, s, _, _, h => ⟨rfl, (List.cons.inj h).2⟩
  | [], y :: b, r, s, _, hb, h => by
    have e := (List.cons.inj h).1
    exact absurd (by rw [e]; exact List.mem_cons_self) hb
  | x :: a, [], r, s, ha, _, h => by
    have e := (List.cons.inj h).1
    exact absurd (by rw [e]; exact List.mem_cons_self) ha
  | x :: a, y :: b, r, s, ha, hb, h => by
    obtain ⟨e1, e2⟩ := List.cons.inj h
    obtain ⟨e3, e4⟩ := upto (fun z => ha (List.mem_cons_of_mem _ z)) (fun z => hb (List.mem_cons_of_mem _ z)) e2
    exact ⟨by rw [e1, e3], e4⟩

/-- all its texts are of small letters -/
def LowW : Wk → Prop
  | .word w => Low w
  | .back x => LowW x
  | .join x y => LowW x ∧ LowW y
  | .mix w t => Low w ∧ Low t
  | .within w _ _ => Low w
  | .less w _ => Low w
theorem low_of {ws : List Str} (h : Words ws) : ∀ {k : Wk}, Good ws k → LowW k
  | .word w, g => (h.2 w g).1
  | .back x, g => low_of h (k := x) g
  | .join x y, g => ⟨low_of h (k := x) g.1, low_of h (k := y) g.2⟩
  | .mix w t, g => ⟨(h.2 w g.1).1, fun c hc => (h.2 w g.1).1 c (g.2.1.mem_iff.mp hc)⟩
  | .within w _ _, g => (h.2 w g.1).1
  | .less w _, g => (h.2 w g.1).1

theorem no39 {s : Str} (h : Low s) : 39 ∉ tl s := fun m => by
  have := h 39 m
  omega
theorem txW_inj {w v : Str} {r s : List Nat} (hw : Low w) (hv : Low v) (h : txW w ++ r = txW v ++ s) : w = v ∧ r = s := by
  unfold txW at h
  simp only [List.append_assoc] at h
  have h2 := List.append_cancel_left h
  obtain ⟨e1, e2⟩ := upto (no39 hw) (no39 hv) (h2 : tl w ++ 39 :: (41 :: r) = tl v ++ 39 :: (41 :: s))
  exact ⟨ext_tl e1, (List.cons.inj e2).2⟩
theorem num_upto {a b c : Nat} {r s : List Nat} (hc : c < 48 ∨ 57 < c) (h : numL a ++ c :: r = numL b ++ c :: s) : a = b ∧ r = s := by
  obtain ⟨e1, e2⟩ := upto (numL_free hc) (numL_free hc) h
  exact ⟨numL_inj e1, e2⟩
theorem txt_inj : ∀ {k j : Wk} {r s : List Nat}, LowW k → LowW j → k.txt ++ r = j.txt ++ s → k = j ∧ r = s := by
  intro k
  induction k with
  | word w =>
    intro j r s hk hj h
    cases j with
    | word v =>
      obtain ⟨e1, e2⟩ := txW_inj hk hj h
      exact ⟨by rw [e1], e2⟩
    | _ => simp [Wk.txt, txW] at h
  | back x ih =>
    intro j r s hk hj h
    cases j with
    | back y =>
      simp only [Wk.txt, List.append_assoc] at h
      have h2 := List.append_cancel_left h
      obtain ⟨e1, e2⟩ := ih (j := y) hk hj h2
      exact ⟨by rw [e1], (List.cons.inj e2).2⟩
    | _ => simp [Wk.txt, txW] at h
  | join x y ihx ihy =>
    intro j r s hk hj h
    cases j with
    | join u v =>
      simp only [Wk.txt, List.append_assoc] at h
      have h2 := List.append_cancel_left h
      obtain ⟨e1, e2⟩ := ihx hk.1 hj.1 h2
      obtain ⟨e3, e4⟩ := ihy hk.2 hj.2 (List.append_cancel_left e2)
      exact ⟨by rw [e1, e3], (List.cons.inj e4).2⟩
    | _ => simp [Wk.txt, txW] at h
  | mix w t =>
    intro j r s hk hj h
    cases j with
    | mix v u =>
      simp only [Wk.txt, List.append_assoc] at h
      have h2 := List.append_cancel_left h
      obtain ⟨e1, e2⟩ := txW_inj hk.1 hj.1 h2
      have e3 := List.append_cancel_left e2
      obtain ⟨e4, e5⟩ := upto (no39 hk.2) (no39 hj.2) (e3 : tl t ++ 39 :: (41 :: r) = tl u ++ 39 :: (41 :: s))
      exact ⟨by rw [e1, ext_tl e4], (List.cons.inj e5).2⟩
    | _ => simp [Wk.txt, txW] at h
  | within w a b =>
    intro j r s hk hj h
    cases j with
    | within v c d =>
      simp only [Wk.txt, List.append_assoc] at h
      have h2 := List.append_cancel_left h
      obtain ⟨e1, e2⟩ := txW_inj hk hj h2
      have e3 := List.append_cancel_left e2
      obtain ⟨e4, e5⟩ := num_upto (.inl (by decide)) (e3 : numL a ++ 44 :: (32 :: (numL b ++ 41 :: r)) = numL c ++ 44 :: (32 :: (numL d ++ 41 :: s)))
      obtain ⟨e6, e7⟩ := num_upto (.inl (by decide)) (List.cons.inj e5).2
      exact ⟨by rw [e1, e4, e6], e7⟩
    | _ => simp [Wk.txt, txW] at h
  | less w a =>
    intro j r s hk hj h
    cases j with
    | less v c =>
      simp only [Wk.txt, List.append_assoc] at h
      have h2 := List.append_cancel_left h
      obtain ⟨e1, e2⟩ := txW_inj hk hj h2
      have e3 := List.append_cancel_left e2
      obtain ⟨e4, e5⟩ := num_upto (.inl (by decide)) (e3 : numL a ++ 41 :: r = numL c ++ 41 :: s)
      exact ⟨by rw [e1, e4], e5⟩
    | _ => simp [Wk.txt, txW] at h

/-! ### repr's own text is that -/
theorem tl_repr {s : Str} (h : Low s) : tl (reprText s) = 39 :: (tl s ++ [39]) := by
  have hq : reprQuote s = 39 := by
    unfold reprQuote
    rw [if_neg]
    intro z
    have z1 := (Bool.and_eq_true _ _ ▸ z).1
    have z2 : 39 ∈ s.cps := by simpa using z1
    exact no39 h (by simpa [tl] using z2)
  have hc : ∀ c : Nat, c < 123 → 97 ≤ c → Builtin.Str.reprChar 39 c = [c] := by decide +kernel
  have step : ∀ (l : List Nat) (acc : Array Nat), (∀ c ∈ l, 97 ≤ c ∧ c ≤ 122) → (l.foldl (fun out c => out ++ (Builtin.Str.reprChar 39 c).toArray) acc).toList = acc.toList ++ l := by
    intro l
    induction l with
    | nil => intro acc _; simp
    | cons c r ih =>
      intro acc hl
      rw [List.foldl_cons, ih _ fun d hd => hl d (List.mem_cons_of_mem _ hd), hc c (by have := hl c List.mem_cons_self; omega) (hl c List.mem_cons_self).1]
      simp
  unfold reprText
  rw [hq]
  show ((s.cps.foldl (fun out c => out ++ (Builtin.Str.reprChar 39 c).toArray) #[39]).push 39).toList = _
  rw [Array.toList_push, ← Array.foldl_toList, step _ _ h]
  show [39] ++ tl s ++ [39] = _
  simp

theorem tl_tuple2 (a b : Str) : tl (tupleText [a, b]) = 40 :: (tl a ++ ([44, 32] ++ (tl b ++ [41]))) := by
  unfold tupleText
  show tl (("(" : Str) ++ (a ++ (", " : Str) ++ b) ++ (")" : Str)) = _
  rw [tl_append, tl_append, tl_append, tl_append, tl_ofString, tl_ofString, tl_ofString]
  simp [List.append_assoc]
theorem tl_tuple3 (a b c : Str) : tl (tupleText [a, b, c]) = 40 :: (tl a ++ ([44, 32] ++ (tl b ++ ([44, 32] ++ (tl c ++ [41]))))) := by
  unfold tupleText
  show tl (("(" : Str) ++ (a ++ (", " : Str) ++ (b ++ (", " : Str) ++ c)) ++ (")" : Str)) = _
  simp only [tl_append, tl_ofString]
  simp [List.append_assoc]
theorem tl_tuple4 (a b c d : Str) : tl (tupleText [a, b, c, d]) = 40 :: (tl a ++ ([44, 32] ++ (tl b ++ ([44, 32] ++ (tl c ++ ([44, 32] ++ (tl d ++ [41]))))))) := by
  unfold tupleText
  show tl (("(" : Str) ++ (a ++ (", " : Str) ++ (b ++ (", " : Str) ++ (c ++ (", " : Str) ++ d))) ++ (")" : Str)) = _
  simp only [tl_append, tl_ofString]
  simp [List.append_assoc]
theorem low_lit {s : Str} (h : ((tl s).all fun c => decide (97 ≤ c) && decide (c ≤ 122)) = true) : Low s := fun c hc => by
  have := List.all_eq_true.mp h c hc
  simpa using this
theorem tl_word : tl (reprText "word") = [39, 119, 111, 114, 100, 39] := by rw [tl_repr (low_lit (by decide +kernel)), tl_ofString]; decide +kernel
theorem tl_back : tl (reprText "back") = [39, 98, 97, 99, 107, 39] := by rw [tl_repr (low_lit (by decide +kernel)), tl_ofString]; decide +kernel
theorem tl_joinT : tl (reprText "join") = [39, 106, 111, 105, 110, 39] := by rw [tl_repr (low_lit (by decide +kernel)), tl_ofString]; decide +kernel
theorem tl_mix : tl (reprText "mix") = [39, 109, 105, 120, 39] := by rw [tl_repr (low_lit (by decide +kernel)), tl_ofString]; decide +kernel
theorem tl_within : tl (reprText "within") = [39, 119, 105, 116, 104, 105, 110, 39] := by rw [tl_repr (low_lit (by decide +kernel)), tl_ofString]; decide +kernel
theorem tl_less : tl (reprText "less") = [39, 108, 101, 115, 115, 39] := by rw [tl_repr (low_lit (by decide +kernel)), tl_ofString]; decide +kernel
theorem shown_dW {w : Str} (h : Low w) : tl (dW w).shown = txW w := by
  show tl (tupleText [reprText "word", reprText w]) = _
  rw [tl_tuple2, tl_word, tl_repr h]
  simp [txW, List.append_assoc]
theorem shown_int (n : Nat) : tl (PyData.int (n : Int)).shown = numL n := tl_num n
theorem shown_txt : ∀ {k : Wk}, LowW k → tl k.dat.shown = k.txt
  | .word w, h => shown_dW h
  | .back x, h => by
    show tl (tupleText [reprText "back", x.dat.shown]) = _
    rw [tl_tuple2, tl_back, shown_txt (k := x) h]
    simp [Wk.txt, List.append_assoc]
  | .join x y, h => by
    show tl (tupleText [reprText "join", x.dat.shown, y.dat.shown]) = _
    rw [tl_tuple3, tl_joinT, shown_txt (k := x) h.1, shown_txt (k := y) h.2]
    simp [Wk.txt, List.append_assoc]
  | .mix w t, h => by
    show tl (tupleText [reprText "mix", (dW w).shown, reprText t]) = _
    rw [tl_tuple3, tl_mix, shown_dW h.1, tl_repr h.2]
    simp [Wk.txt, List.append_assoc]
  | .within w a b, h => by
    show tl (tupleText [reprText "within", (dW w).shown, (PyData.int (a : Int)).shown, (PyData.int (b : Int)).shown]) = _
    rw [tl_tuple4, tl_within, shown_dW h, shown_int, shown_int]
    simp [Wk.txt, List.append_assoc]
  | .less w k, h => by
    show tl (tupleText [reprText "less", (dW w).shown, (PyData.int (k : Int)).shown]) = _
    rw [tl_tuple3, tl_less, shown_dW h, shown_int]
    simp [Wk.txt, List.append_assoc]
/-- what is written alike is alike -/
theorem shown_inj {k j : Wk} (hk : LowW k) (hj : LowW j) (h : k.dat.shown = j.dat.shown) : k = j := by
  have e := congrArg tl h
  rw [shown_txt hk, shown_txt hj] at e
  exact (txt_inj (r := []) (s := []) hk hj (by rw [e])).1

/-! ### sorted signs -/
def signs (z : Str) : List Str := (tl z).map fun c => ⟨#[c]⟩
theorem signs_len (z : Str) : (signs z).length = z.length := by
  unfold signs
  rw [List.length_map] <;> rfl
theorem signs_perm {a b : Str} (h : (signs a).Perm (signs b)) : (tl a).Perm (tl b) := by
  have h2 := h.map fun s : Str => (tl s).headD 0
  unfold signs at h2
  rw [List.map_map, List.map_map] at h2
  have e : ((fun s : Str => (tl s).headD 0) ∘ fun c : Nat => (⟨#[c]⟩ : Str)) = id := funext fun c => rfl
  rw [e, List.map_id, List.map_id] at h2
  exact h2
theorem perm_signs {a b : Str} (h : (tl a).Perm (tl b)) : (signs a).Perm (signs b) := h.map _
/-- the sign of a text of one sign -/
def codeOf (s : Str) : Nat := (tl s).headD 0
theorem codes_signs (z : Str) : (signs z).map codeOf = tl z := by
  unfold signs
  rw [List.map_map]
  have e : (codeOf ∘ fun c : Nat => (⟨#[c]⟩ : Str)) = id := funext fun c => rfl
  rw [e, List.map_id]
theorem one_of {ys : List Str} {z : Str} (h : ys.Perm (signs z)) : ∀ y ∈ ys, y = ⟨#[codeOf y]⟩ := fun y hy => by
  obtain ⟨c, _, rfl⟩ := List.mem_map.mp (h.mem_iff.mp hy)
  rfl
theorem rising_le : ∀ {ys : List Str} {p : Str}, PyProof.Rows.risingS p ys = true → p = ⟨#[codeOf p]⟩ → (∀ y ∈ ys, y = ⟨#[codeOf y]⟩) → ((p :: ys).map codeOf).Pairwise (· ≤ ·)
  | [], p, _, _, _ => by simp
  | x :: r, p, h, hp, ho => by
    have h' : (!PySem.Spec.ltCps x.cps.toList p.cps.toList) = true ∧ PyProof.Rows.risingS x r = true := by
      unfold PyProof.Rows.risingS at h
      exact Bool.and_eq_true _ _ ▸ h
    have hx := ho x List.mem_cons_self
    have ih := rising_le h'.2 hx fun y hy => ho y (List.mem_cons_of_mem _ hy)
    have le : codeOf p ≤ codeOf x := by
      have e := h'.1
      rw [hx, hp] at e
      simp [PySem.Spec.ltCps] at e
      exact e
    rw [List.map_cons, List.pairwise_cons]
    refine ⟨fun c hc => ?_, ih⟩
    rw [List.map_cons] at hc
    rcases List.mem_cons.mp hc with rfl | hc
    · exact le
    · rw [List.map_cons, List.pairwise_cons] at ih
      exact Nat.le_trans le (ih.1 c hc)
theorem sorted_le {ys : List Str} (h : PyProof.Rows.sortedS ys = true) (ho : ∀ y ∈ ys, y = ⟨#[codeOf y]⟩) : (ys.map codeOf).Pairwise (· ≤ ·) := by
  cases ys with
  | nil => exact List.Pairwise.nil
  | cons x r => exact rising_le h (ho x List.mem_cons_self) fun y hy => ho y (List.mem_cons_of_mem _ hy)
/-- two texts of the same signs, sorted -/
theorem sorted_same {a b : Str} {xs ys : List Str} (hx : xs.Perm (signs a)) (hy : ys.Perm (signs b)) (sx : PyProof.Rows.sortedS xs = true) (sy : PyProof.Rows.sortedS ys = true) (h : (tl a).Perm (tl b)) : xs = ys := by
  have ox := one_of hx
  have oy := one_of hy
  have e : xs.map codeOf = ys.map codeOf := by
    refine List.Perm.eq_of_pairwise (le := (· ≤ ·)) (fun x y _ _ h1 h2 => Nat.le_antisymm h1 h2) (sorted_le sx ox) (sorted_le sy oy) ?_
    have p1 := hx.map codeOf
    have p2 := hy.map codeOf
    rw [codes_signs] at p1 p2
    exact p1.trans (h.trans p2.symm)
  have back : ∀ {zs : List Str}, (∀ y ∈ zs, y = ⟨#[codeOf y]⟩) → (zs.map codeOf).map (fun c => (⟨#[c]⟩ : Str)) = zs := fun {zs} o => by
    rw [List.map_map]
    conv => rhs; rw [← List.map_id zs]
    exact List.map_congr_left fun y hy => (o y hy).symm
  rw [← back ox, ← back oy, e]
/-! ### data -/
theorem eqv_strs : ∀ xs ys : List Str, PyData.eqvAll (xs.map .str) (ys.map .str) = decide (xs = ys)
  | [], [] => rfl
  | [], _ :: _ => rfl
  | _ :: _, [] => rfl
  | x :: xs, y :: ys => by
    show ((x == y) && PyData.eqvAll (xs.map .str) (ys.map .str)) = _
    rw [eqv_strs xs ys]
    by_cases e : x = y
    · subst e; simp
    · simp [e]
theorem depth_strs : ∀ xs : List Str, PyData.depthAll (xs.map .str) = 0
  | [] => rfl
  | x :: xs => by
    show max 0 (PyData.depthAll (xs.map .str)) = 0
    rw [depth_strs xs]
    rfl
theorem lay_strs : ∀ xs : List Str, (∀ x ∈ xs, PyData.strOk x = true) → PyData.canLayAll0 (xs.map .str) = true
  | [], _ => rfl
  | x :: xs, h => by
    show (PyData.strOk x && PyData.canLayAll0 (xs.map .str)) = true
    rw [h x List.mem_cons_self, lay_strs xs fun y hy => h y (List.mem_cons_of_mem _ hy)]
    rfl
theorem shaped_strs {xs : List Str} (h : ∀ x ∈ xs, PyData.strOk x = true) : SeqAt.shaped (.list (xs.map .str)) = true := by
  unfold SeqAt.shaped
  rw [show PyData.canLay0 (.list (xs.map .str)) = PyData.canLayAll0 (xs.map .str) from rfl, lay_strs xs h, show PyData.depth (.list (xs.map .str)) = PyData.depthAll (xs.map .str) + 1 from rfl, depth_strs]
  rfl
theorem ok_low {s : Str} (h : Low s) : PyData.strOk s = true := by
  unfold PyData.strOk
  rw [← Array.all_toList, List.all_eq_true]
  intro c hc
  have := h c hc
  exact decide_eq_true (by omega)
theorem ok_signs {z : Str} (h : Low z) {ys : List Str} (hp : ys.Perm (signs z)) : ∀ y ∈ ys, PyData.strOk y = true := fun y hy => by
  obtain ⟨c, hc, rfl⟩ := List.mem_map.mp (hp.mem_iff.mp hy)
  have := h c hc
  show (#[c] : Array Nat).all (· < 0x110000) = true
  simp
  omega
end Cw
/-! CwMath2: joins of two lists of workings; workings as data. -/
namespace Cw
open PySem TL

/-! ### joins -/
def pj (xs ys : List Wk) : List Wk := xs.flatMap fun x => ys.map (Wk.join x)
theorem pj_nil (ys : List Wk) : pj [] ys = [] := rfl
theorem pj_snoc (xs ys : List Wk) (x : Wk) : pj (xs ++ [x]) ys = pj xs ys ++ ys.map (Wk.join x) := by
  unfold pj
  rw [List.flatMap_append]
  simp
theorem mem_pj {xs ys : List Wk} {k : Wk} : k ∈ pj xs ys ↔ ∃ x ∈ xs, ∃ y ∈ ys, k = .join x y := by
  unfold pj
  rw [List.mem_flatMap]
  constructor
  · rintro ⟨x, hx, h⟩
    obtain ⟨y, hy, rfl⟩ := List.mem_map.mp h
    exact ⟨x, hx, y, hy, rfl⟩
  · rintro ⟨x, hx, y, hy, rfl⟩
    exact ⟨x, hx, List.mem_map.mpr ⟨y, hy, rfl⟩⟩
theorem nodup_map {α β : Type} {f : α → β} (hf : ∀ a b, f a = f b → a = b) {l : List α} (h : l.Nodup) : (l.map f).Nodup := by
  induction l with
  | nil => exact List.nodup_nil
  | cons a r ih =>
    obtain ⟨h1, h2⟩ := List.nodup_cons.mp h
    rw [List.map_cons]
    refine List.nodup_cons.mpr ⟨fun m => ?_, ih h2⟩
    obtain ⟨b, hb, e⟩ := List.mem_map.mp m
    exact h1 (hf _ _ e ▸ hb)
theorem nodup_app {α : Type} {l m : List α} (h1 : l.Nodup) (h2 : m.Nodup) (h3 : ∀ a ∈ l, a ∉ m) : (l ++ m).Nodup :=
  List.nodup_append.mpr ⟨h1, h2, fun a ha b hb e => h3 a ha (e ▸ hb)⟩
theorem nodup_pj {xs ys : List Wk} (hx : xs.Nodup) (hy : ys.Nodup) : (pj xs ys).Nodup := by
  induction xs with
  | nil => exact List.nodup_nil
  | cons x r ih =>
    obtain ⟨h1, h2⟩ := List.nodup_cons.mp hx
    refine nodup_app (nodup_map (fun a b e => by injection e) hy) (ih h2) fun k hk m => ?_
    obtain ⟨y, _, rfl⟩ := List.mem_map.mp hk
    obtain ⟨x', hx', y', _, e⟩ := mem_pj.mp m
    injection e with e1 _
    exact h1 (e1 ▸ hx')
theorem len_pj (xs ys : List Wk) : (pj xs ys).length = xs.length * ys.length := by
  induction xs with
  | nil => simp [pj]
  | cons x r ih =>
    show (ys.map (Wk.join x) ++ pj r ys).length = _
    rw [List.length_append, List.length_map, ih, List.length_cons, Nat.succ_mul, Nat.add_comm]

/-! ### texts cut -/
theorem wout_cut (z : Str) (p : Nat) : seg z 0 p ++ seg z (p + 1) z.length = wout z p := by
  refine ext_tl ?_
  rw [tl_append, tl_seg, tl_seg, tl_wout]
  have e : ((tl z).drop (p + 1)).take (z.length - (p + 1)) = (tl z).drop (p + 1) := List.take_of_length_le (by rw [List.length_drop, ← len_tl]; omega)
  rw [e]
  simp
theorem seg_app (z : Str) (c : Nat) : seg z 0 c ++ seg z c z.length = z := by
  refine ext_tl ?_
  rw [tl_append, tl_seg, tl_seg]
  have e : ((tl z).drop c).take (z.length - c) = (tl z).drop c := List.take_of_length_le (by rw [List.length_drop, ← len_tl]; omega)
  rw [e]
  simp
theorem seg_len (z : Str) (a b : Nat) (h : b ≤ z.length) : (seg z a b).length = b - a := by
  rw [len_tl, tl_seg, List.length_take, List.length_drop, ← len_tl]
  omega
theorem app_len (x y : Str) : (x ++ y).length = x.length + y.length := by rw [len_tl, tl_append, List.length_append, ← len_tl, ← len_tl]

/-! ### workings as data -/
theorem low_of_lit (s : Str) (h : ((tl s).all fun c => decide (97 ≤ c) && decide (c ≤ 122)) = true) : PyData.strOk s = true := ok_low (low_lit h)
theorem okW : PyData.strOk "word" = true ∧ PyData.strOk "back" = true ∧ PyData.strOk "join" = true ∧ PyData.strOk "mix" = true ∧ PyData.strOk "within" = true ∧ PyData.strOk "less" = true := by
  refine ⟨?_, ?_, ?_, ?_, ?_, ?_⟩ <;> exact low_of_lit _ (by decide +kernel)
theorem dW_lay {w : Str} (h : Low w) : (dW w).canLay0 = true := by
  simp [dW, PyData.canLay0, PyData.canLayAll0, okW, ok_low h]
theorem dat_lay : ∀ {k : Wk}, LowW k → k.dat.canLay0 = true
  | .word w, h => dW_lay h
  | .back x, h => by simp [Wk.dat, PyData.canLay0, PyData.canLayAll0, okW, dat_lay (k := x) h]
  | .join x y, h => by simp [Wk.dat, PyData.canLay0, PyData.canLayAll0, okW, dat_lay (k := x) h.1, dat_lay (k := y) h.2]
  | .mix w t, h => by simp [Wk.dat, PyData.canLay0, PyData.canLayAll0, okW, dW_lay h.1, ok_low h.2]
  | .within w a b, h => by simp [Wk.dat, PyData.canLay0, PyData.canLayAll0, okW, dW_lay (show Low w from h)]
  | .less w k, h => by simp [Wk.dat, PyData.canLay0, PyData.canLayAll0, okW, dW_lay (show Low w from h)]
theorem dW_depth (w : Str) : (dW w).depth = 1 := by simp [dW, PyData.depth, PyData.depthAll]
theorem dat_depth : ∀ k : Wk, k.dat.depth ≤ k.size + 1
  | .word w => by show (dW w).depth ≤ 2; rw [dW_depth]; decide
  | .back x => by
    have := dat_depth x
    simp only [Wk.dat, PyData.depth, PyData.depthAll, Wk.size]
    omega
  | .join x y => by
    have := dat_depth x
    have := dat_depth y
    have := size_pos x
    have := size_pos y
    simp only [Wk.dat, PyData.depth, PyData.depthAll, Wk.size]
    omega
  | .mix w t => by simp [Wk.dat, PyData.depth, PyData.depthAll, Wk.size, dW_depth]
  | .within w a b => by simp [Wk.dat, PyData.depth, PyData.depthAll, Wk.size, dW_depth]
  | .less w k => by simp [Wk.dat, PyData.depth, PyData.depthAll, Wk.size, dW_depth]
theorem dat_shaped {k : Wk} (h : LowW k) (hs : k.size ≤ 20) : SeqAt.shaped k.dat = true := by
  unfold SeqAt.shaped
  rw [dat_lay h, Bool.true_and]
  have := dat_depth k
  exact decide_eq_true (by omega)
theorem dat_noDict {k : Wk} (h : LowW k) : k.dat.hasDict = false := PyData.hasDict_of_canLay _ (dat_lay h)
/-- its places are small -/
def SmallW : Wk → Prop
  | .word _ => True
  | .back x => SmallW x
  | .join x y => SmallW x ∧ SmallW y
  | .mix _ _ => True
  | .within _ a b => a ≤ 9 ∧ b ≤ 9
  | .less _ k => k ≤ 9
theorem small_of {ws : List Str} (h : Words ws) : ∀ {k : Wk}, Good ws k → SmallW k
  | .word _, _ => True.intro
  | .back x, g => small_of h (k := x) g
  | .join x y, g => ⟨small_of h (k := x) g.1, small_of h (k := y) g.2⟩
  | .mix _ _, _ => True.intro
  | .within w a b, g => by
    have := (h.2 w g.1).2.2
    obtain ⟨_, g1, g2, _⟩ := g
    exact ⟨by omega, by omega⟩
  | .less w k, g => by
    have := (h.2 w g.1).2.2
    obtain ⟨_, g1, _⟩ := g
    show k ≤ 9
    omega
theorem log_small {n : Nat} (h : n ≤ 9) : decide ((n : Int).natAbs.log2 < 1920) = true := by
  have : ∀ m : Nat, m ≤ 9 → decide ((m : Int).natAbs.log2 < 1920) = true := by decide
  exact this n h
theorem dat_showable : ∀ {k : Wk}, SmallW k → k.dat.showable = true
  | .word w, _ => rfl
  | .back x, h => by simp [Wk.dat, PyData.showable, PyData.showableAll, dat_showable (k := x) h]
  | .join x y, h => by simp [Wk.dat, PyData.showable, PyData.showableAll, dat_showable (k := x) h.1, dat_showable (k := y) h.2]
  | .mix w t, _ => rfl
  | .within w a b, h => by
    show (PyData.showable (dW w) && (decide ((a : Int).natAbs.log2 < 1920) && (decide ((b : Int).natAbs.log2 < 1920) && true))) = true
    rw [log_small h.1, log_small h.2]
    rfl
  | .less w k, h => by
    show (PyData.showable (dW w) && (decide ((k : Int).natAbs.log2 < 1920) && true)) = true
    rw [log_small h]
    rfl
theorem num_one {n : Nat} (h : n ≤ 9) : (numL n).length = 1 := by rw [numL_lt (by omega)]; rfl
theorem txW_len (w : Str) : (txW w).length = w.length + 12 := by
  unfold txW
  rw [List.length_append, List.length_append, ← len_tl]
  simp
  omega
theorem txt_len {ws : List Str} (h : Words ws) : ∀ {k : Wk}, Good ws k → k.txt.length ≤ 40 * k.size
  | .word w, g => by
    have := (h.2 w g).2.2
    show (txW w).length ≤ 40 * 1
    rw [txW_len]
    omega
  | .back x, g => by
    have := txt_len h (k := x) g
    simp only [Wk.txt, Wk.size, List.length_append, List.length_cons, List.length_nil]
    omega
  | .join x y, g => by
    have := txt_len h (k := x) g.1
    have := txt_len h (k := y) g.2
    simp only [Wk.txt, Wk.size, List.length_append, List.length_cons, List.length_nil]
    omega
  | .mix w t, g => by
    have := (h.2 w g.1).2.2
    have e := g.2.1.length_eq
    rw [← len_tl, ← len_tl] at e
    simp only [Wk.txt, Wk.size, List.length_append, List.length_cons, List.length_nil, txW_len, ← len_tl]
    omega
  | .within w a b, g => by
    have := (h.2 w g.1).2.2
    obtain ⟨s1, s2⟩ := small_of h (k := .within w a b) g
    simp only [Wk.txt, Wk.size, List.length_append, List.length_cons, List.length_nil, txW_len, num_one s1, num_one s2]
    omega
  | .less w k, g => by
    have := (h.2 w g.1).2.2
    have s1 := small_of h (k := .less w k) g
    simp only [Wk.txt, Wk.size, List.length_append, List.length_cons, List.length_nil, txW_len, num_one s1]
    omega
theorem shown_len {ws : List Str} (h : Words ws) {k : Wk} (g : Good ws k) (hs : k.size ≤ 20) : k.dat.shown.length ≤ 800 := by
  rw [len_tl, shown_txt (low_of h g)]
  have := txt_len h g
  omega
end Cw
/-! CwR1: sorted(text). -/
namespace Cw
open PySem PySem.Spec PyProof.Rows L2 TL
theorem strs_signs {z : Str} {acc : Array Value} (h : ItemsOf (SignAt z) acc z.cps.size) : StrsAre acc.toList (signs z) := by
  have hl : acc.toList.length = (signs z).length := by
    rw [Array.length_toList, h.1, signs_len] <;> rfl
  refine strs_at hl fun j v e => ?_
  obtain ⟨c, u, hc, hv⟩ := h.2 j v (by rw [← Array.getElem?_toList]; exact e)
  refine ⟨⟨#[c]⟩, u, ?_, hv⟩
  unfold signs
  rw [List.getElem?_map, show (tl z)[j]? = some c by rw [← hc]; exact Array.getElem?_toList]
  rfl
variable {X : Cx}
theorem call_sortedT (hcalm : X.calm = true) : CallR X (.builtin "sorted") (fun xs H Q => ∃ z : Str, xs = [.str z] ∧ z.length < 64 ∧
    ∀ ys p, ys.Perm (signs z) → sortedS ys = true → H p = none → Q (.ref p) (upd H p (.lst (ys.map V.str)))) := by
  intro pins s σ H xs us Q I r q
  obtain ⟨z, ex, h64, q⟩ := q
  subst ex
  obtain ⟨u, eu, rx⟩ := vals1 r
  subst eu
  obtain ⟨tz, rfl⟩ := rx
  refine Calls.call_function_entry PyProof.Rows.kind_sorted PyProof.Rows.plain_sorted PyProof.Rows.entry_sorted (PyProof.Rows.args_sorted1 _) ?_
  unfold Builtin.«sorted»
  refine wpAny_bind (m := checkCount "sorted" 1 1 _) (wpAny_pure ?_)
  refine wpAny_bind (wpAny_collect_str (A := X.A.in1) (I.ok.hd hcalm) z tz (fun s' acc hk hg hd ho hacc => ?_) (by rw [sizeLine_eq]; show z.length ≤ _; omega))
  obtain ⟨h', g', d', tk, os'⟩ := s'
  have hk : ∀ b o, s.heap.get? b = some o → h'.get? b = some o := hk
  have hg : g' = s.gens := hg
  have hd : d' = s.drawn := hd
  have ho : os' = s.os := ho
  subst hg hd ho
  have hS : StrsAre acc.toList (signs z) := strs_signs hacc
  have hal : acc.toList.length = z.length := by rw [Array.length_toList, hacc.1]; rfl
  have I1 : Inv X pins σ H { s with heap := h', toks := tk } := I.kept hk
  refine wpAny_bind (wpAny_newList ?_ (by rw [hal, sizeLine_eq]; omega))
  have atL : (h'.push (seqObj "list" acc.toList.toArray 0)).get? h'.objs.size = some (seqObj "list" acc.toList.toArray 0) := Heap.get?_push_size _ rfl
  show wpAny _ _ _ _ _ { s with heap := h'.push (seqObj "list" acc.toList.toArray 0), toks := tk }
  refine wpAny_bind (wpAny_holding (wpAny_call_entry PyProof.Rows.slot_list_sort ⟨_, atL, rfl⟩ PyProof.Rows.entry_list_sort
    (list_sort_treeK strKind_oneLt (s := { s with heap := h'.push (seqObj "list" acc.toList.toArray 0), toks := tk }) atL hS.keysOf (fun _ _ _ e => keyKind_strs (by rw [← e]; exact hS)) (by rw [hal]; exact h64)
      fun st' hp hs => ⟨_, rfl, ?_⟩) (PyProof.Rows.args_list_sort _)))
  obtain ⟨ys, g1, g2, g3⟩ := sorted_out_str hS hp hs
  obtain ⟨ep, at2⟩ := PyProof.Rows.sortedHeap_at (vs := acc.toList) (out := (arrOf st').map (·.2)) atL
  have lenY : (ys.map V.str).length ≤ sizeLine := by
    rw [List.length_map, g2.length_eq, signs_len, sizeLine_eq]
    omega
  have I2 := I1.laid (t' := tk) (a := h'.objs.size) (o := .lst (ys.map V.str)) (h' := sortedHeap (h'.push (seqObj "list" acc.toList.toArray 0)) h'.objs.size acc.toList ((arrOf st').map (·.2)))
    (fun b u e => by
      have lt : b < h'.objs.size := Heap.lt_size e
      rw [PyProof.Rows.sortedHeap_old (Nat.ne_of_lt lt) (by rw [size_push']; exact Nat.lt_succ_of_lt lt)]
      exact Heap.get?_push_of_some _ e)
    (Nat.le_refl _) ⟨lenY, ((arrOf st').map (·.2)).toList, ep, vals_of_strs g1, by rw [Array.toArray_toList]; exact at2⟩
  exact wpAny_pure ⟨_, rfl, .ref h'.objs.size, _, I2, rfl, q ys _ g2 g3 (I1.hok.fresh (Nat.le_refl _))⟩
end Cw
/-! CwR2: list(reversed(text)). -/
namespace Cw
open PySem PySem.Spec PyProof.Rows L2 TL

theorem norev_str : typeLookup (.type "str") "__reversed__" = pure none := by rw [typeLookup_type, builtinLookup_eq_fast]; kernel_rfl
theorem item_str : typeLookup (.type "str") "__getitem__" = pure (some (.builtin "str.__getitem__")) := by rw [typeLookup_type, builtinLookup_eq_fast]; kernel_rfl
theorem str_no_dict : isSubtype (.type "str") (.type "dict") = pure false := by rw [isSubtype_type]; kernel_rfl
theorem rv_nolen : typeLookup (.type "reversed") "__len__" = pure none := by rw [typeLookup_type, builtinLookup_eq_fast]; kernel_rfl
theorem rv_slot_hint : Slot "reversed" "__length_hint__" "reversed.__length_hint__" :=
  .of (owner := "reversed") (n := "__length_hint__") (by rw [typeLookup_type, builtinLookup_eq_fast]; kernel_rfl) (by decide +kernel) (by decide +kernel) (by decide +kernel)
    (by first | exact .inl (by decide +kernel) | exact .inr (by decide +kernel)) (by rw [isSubtype_type]; kernel_rfl)
theorem rv_entry_hint : entryFor table "reversed.__length_hint__" = some Builtin.«reversed.__length_hint__» := entryFor_of_tree (by kernel_rfl)
theorem rv_args_hint (a : Value) : argsOk "reversed.__length_hint__" ⟨[a], []⟩ := by
  unfold argsOk
  first | kernel_rfl | rfl

/-- a reversed(text) that has still to tell the places i, i - 1, .. -/
def rvObj (x : Str) (t : Tok) (i : Int) : Obj := { cls := .type "reversed", data := .fields #[.str x t, rawInt i] }
def IsRv (h : Heap) (a : Addr) (x : Str) (t : Tok) (i : Int) : Prop := ∃ o, h.get? a = some o ∧ o.cls = .type "reversed" ∧ o.data = .fields #[.str x t, rawInt i]
section
variable {prog : Program} {w : World} {A : Around} {E : Value → Shared → Prop} {s : Shared} {x : Str} {t : Tok} {it : Addr}
theorem IsRv.ty {i : Int} (r : IsRv s.heap it x t i) : s.TypeIs (.ref it) "reversed" := let ⟨o, ho, hc, _⟩ := r; ⟨o, ho, hc⟩

theorem rv_code_new {Q1 : Value → Shared → Prop} (hz : x.length ≤ sizeLine) (h : Q1 (.ref s.heap.objs.size) { s with heap := s.heap.push (rvObj x t ((x.length : Int) - 1)), toks := s.toks + 1 + 1 }) :
    codeAny (model prog w) A (.call (.builtin "reversed.__new__") ⟨[.type "reversed", .str x t], []⟩) (wants Q1 E) s := by
  have hT : s.TypeIs (.str x t) "str" := typeIs_str s x t
  rw [sizeLine_eq] at hz
  refine codeAny_of_tree ?_
  show wpAny _ A.in1 (do checkBuiltinCall "reversed.__new__" ⟨[.type "reversed", .str x t], []⟩; again (.builtin "reversed.__new__" ⟨[.type "reversed", .str x t], []⟩)) _ _ s
  refine wpAny_bind (wpAny_of_eq (F.newCall_reversed_1 _) (wpAny_pure ⟨plainId_quiet F.plain_reversed_new _, codeAny_builtin F.entry_reversed_new ?_⟩))
  rw [Around.under_plainId F.plain_reversed_new _]
  unfold Builtin.«reversed.__new__»
  refine wpAny_bind (wpAny_of_eq (newClass_reversed _) ?_)
  try dsimp only
  refine wpAny_bind (wpAny_of_eq (a := ()) (by first | rfl | kernel_rfl) ?_)
  try dsimp only
  refine wpAny_bind (wpAny_of_eq (a := ()) (by first | rfl | kernel_rfl) ?_)
  try dsimp only
  refine wpAny_bind (wpAny_specialOf hT norev_str ?_)
  try dsimp only
  refine wpAny_bind ?_
  wp_delta
  refine wpAny_bind (wpAny_isInstance (T := "str") (U := "dict") (b := false) hT str_no_dict ?_)
  try dsimp only
  try rw [if_neg Bool.false_ne_true]
  try dsimp only
  refine wpAny_bind (wpAny_specialOf hT item_str ?_)
  try dsimp only
  try rw [if_pos (by decide +kernel)]
  refine wpAny_pure ?_
  try dsimp only
  try rw [if_neg (by decide)]
  try dsimp only
  refine wpAny_bind (PyProof.Rows.len_str (by omega) ?_)
  refine wpAny_bind (wpAny_of_eq (a := some ((x.length : Nat) : Int)) rfl ?_)
  try dsimp only
  refine wpAny_bind ?_
  show wpAny _ _ (newObj (.type "reversed") (.fields #[.str x t, rawInt ((x.length : Int) - 1)])) _ _ _
  refine wpAny_newObj_type ?_
  exact wpAny_pure h
theorem rv_call {Q : Value → Shared → Prop} (hz : x.length ≤ sizeLine) (h : Q (.ref s.heap.objs.size) { s with heap := s.heap.push (rvObj x t ((x.length : Int) - 1)), toks := s.toks + 1 + 1 }) :
    wpAny (model prog w) A (call (.type "reversed") [.str x t]) Q E s := by
  refine callType_codes (Q₁ := fun obj s1 => s1.TypeIs obj "reversed" ∧ Q obj s1) RT.called_rt (F.typeCall_reversed_1 _) F.entry_object_init
    (rv_code_new (A := A.in1) hz ⟨⟨_, Heap.get?_push_size _ rfl, rfl⟩, h⟩) fun obj s1 h1 => ?_
  exact ⟨h1.1, F.args_object_init_2 obj _, object_init_meets RT.called_rt.init.lookup RT.called_rt.made (by decide) prog w A.in1 _ s1 ⟨h1.1, rfl, h1.2⟩⟩

/-- one more sign -/
theorem rv_next {i c : Nat} {Q : Option Value → Shared → Prop} (hit : IsRv s.heap it x t (i : Int)) (hc : x.cps[i]? = some c) (hz : x.length ≤ sizeLine)
    (hQ : ∀ h', IsRv h' it x t ((i : Int) - 1) → Heap.SameBut it s.heap h' → Q (some (.str ⟨#[c]⟩ (s.toks + 1))) { s with heap := h', toks := s.toks + 1 + 1 }) : wpAny (model prog w) A (pyNext (.ref it)) Q E s := by
  obtain ⟨o, ho, hcl, hd⟩ := id hit
  have hi : i < x.length := (Array.getElem?_eq_some_iff.mp hc).1
  have hT : s.TypeIs (.str x t) "str" := typeIs_str s x t
  rw [sizeLine_eq] at hz
  unfold pyNext
  refine wpAny_bind (wpAny_attempt (wpAny_callSpecial?_slot (name := Str.ofString "__next__") hit.ty RT.slot_rt_next
    (wpAny_call_entry RT.slot_rt_next hit.ty RT.entry_rt_next ?_ (RT.args_rt_next _))))
  unfold Builtin.«reversed.__next__»
  refine wpAny_bind (wpAny_of_eq (a := (Value.ref it, [])) rfl ?_)
  try dsimp only
  refine wpAny_bind (wpAny_field ho hd (x := .str x t) rfl ?_)
  try dsimp only
  refine wpAny_bind (wpAny_field ho hd (x := rawInt (i : Int)) rfl ?_)
  show wpAny _ _ (if (i : Int) < 0 then _ else _) _ _ s
  rw [if_neg (by omega)]
  try dsimp only
  refine wpAny_bind (wpAny_specialOf hT item_str ?_)
  try dsimp only
  try rw [if_neg (by decide)]
  try dsimp only
  refine wpAny_bind (wpAny_mkInt ?_)
  refine wpAny_bind (wpAny_attempt ?_)
  have sx : seqIndex? (i : Int) x.length = some i := seqIndex_of (by omega) (by omega)
  refine PyProof.Rows.getItem_str (s := { s with toks := s.toks + 1 }) (c := c) ?_ (by rw [sx]; exact hc) ?_
  · have e1 : decide ((i : Int) < -(2 ^ 63 : Int)) = false := decide_eq_false (by omega)
    have e2 : decide ((i : Int) ≥ 2 ^ 63) = false := decide_eq_false (by omega)
    rw [e1, e2]
    rfl
  try dsimp only
  refine wpAny_bind (wpAny_field (s := { s with toks := s.toks + 1 + 1 }) ho hd (x := rawInt (i : Int)) rfl ?_)
  try dsimp only
  refine wpAny_bind (wpAny_setField (s := { s with toks := s.toks + 1 + 1 }) ho hd (by simp) ?_)
  first
  | refine wpAny_pure ⟨_, rfl, wpAny_pure (hQ _ ?_ (Heap.SameBut.update ..))⟩
  | refine wpAny_bind (wpAny_pure (wpAny_pure ⟨_, rfl, wpAny_pure (hQ _ ?_ (Heap.SameBut.update ..))⟩))
  exact ⟨_, Heap.get?_update_self _ ho (Obj.isFreed_of_fields (Obj.data_mapFields hd _)), (Obj.cls_mapFields ..).trans hcl, by
    rw [Obj.data_mapFields hd]; simp⟩
/-- none is left -/
theorem rv_end {Q : Option Value → Shared → Prop} (hh : A.handled = none) (hit : IsRv s.heap it x t (-1))
    (hQ : ∀ h', Heap.ExtBut it s.heap h' → Q none { s with heap := h' }) : wpAny (model prog w) A (pyNext (.ref it)) Q E s := by
  obtain ⟨o, ho, hcl, hd⟩ := id hit
  unfold pyNext
  refine wpAny_bind (wpAny_attempt (wpAny_callSpecial?_slot (name := Str.ofString "__next__") hit.ty RT.slot_rt_next
    (wpAny_call_entry RT.slot_rt_next hit.ty RT.entry_rt_next ?_ (RT.args_rt_next _))))
  unfold Builtin.«reversed.__next__»
  refine wpAny_bind (wpAny_of_eq (a := (Value.ref it, [])) rfl ?_)
  try dsimp only
  refine wpAny_bind (wpAny_field ho hd (x := .str x t) rfl ?_)
  try dsimp only
  refine wpAny_bind (wpAny_field ho hd (x := rawInt (-1)) rfl ?_)
  show wpAny _ _ (if (-1 : Int) < 0 then _ else _) _ _ s
  rw [if_pos (by decide)]
  try dsimp only
  refine wpAny_bind (wpAny_rule ?_)
  refine wpAny_bind ?_
  wp_delta
  refine wpAny_bind (wpAny_setField ho hd (by simp) ?_)
  have ho2 := Heap.get?_update_self (Obj.mapFields (·.setIfInBounds 1 (rawInt (-1)))) ho (Obj.isFreed_of_fields (Obj.data_mapFields hd _))
  refine wpAny_setField (s := { s with heap := s.heap.update it (Obj.mapFields (·.setIfInBounds 1 (rawInt (-1)))) }) ho2 (Obj.data_mapFields hd _) (by simp) ?_
  try dsimp only
  first
  | show wpAny _ _ (newExc (.type "StopIteration") [] >>= _) _ _ _
  | (refine wpAny_bind ?_; show wpAny _ _ (newExc (.type "StopIteration") [] >>= _) _ _ _)
  | (refine wpAny_bind ?_; wp_delta; show wpAny _ _ (newExc (.type "StopIteration") [] >>= _) _ _ _)
  refine wpAny_bind ?_
  simp only [newExc, newTuple]
  refine wpAny_bind (wpAny_newObj_type ?_ (by size_fits))
  refine wpAny_bind (m := firstArgMember _ _) (wpAny_of_eq (a := Value.none) (by first | rfl | (simp only [firstArgMember]; rfl)) ?_)
  refine wpAny_newObj_type ?_ (by size_fits)
  simp only [raiseNew]
  refine wpAny_bind (wpAny_handled ?_)
  first | rw [show A.in1.handled = none from hh] | rw [hh]
  refine wpAny_bind (wpAny_pure (wpAny_throw ?_))
  refine wpAny_bind (wpAny_isInstance (T := "StopIteration") (b := true) ⟨_, Heap.get?_push_size _ rfl, rfl⟩ isSubtype_stop ?_)
  refine wpAny_pure (hQ _ ?_)
  refine ((?_ : Heap.ExtBut it s.heap _).push _).push _
  exact fun b ob hb e => (Heap.get?_update_other _ _ (Ne.symm hb)).trans ((Heap.get?_update_other _ _ (Ne.symm hb)).trans e)
theorem rv_iter {i : Int} {Q : Value → Shared → Prop} (hit : IsRv s.heap it x t i) (h : Q (.ref it) s) : wpAny (model prog w) A (pyIter (.ref it)) Q E s := by
  refine wpAny_pyIter_slot hit.ty RT.slot_rt_iter (wpAny_call_entry RT.slot_rt_iter hit.ty RT.entry_rt_iter ?_ (RT.args_rt_iter _))
  show wpAny _ _ (ret (.ref it)) _ _ s
  exact wpAny_pure ⟨_, rfl, "reversed", _, hit.ty, RT.slot_rt_next.lookup, h⟩
/-- the i-th sign that a reversed(text) tells -/
def RvAt (x : Str) (i : Nat) (v : Value) : Prop := ∃ c u, x.cps[x.length - 1 - i]? = some c ∧ v = .str ⟨#[c]⟩ u
theorem rv_walks (hh : A.handled = none) (hz : x.length ≤ sizeLine) : Walks prog w A it [it] [it] x.length (RvAt x) (fun i h => i ≤ x.length ∧ IsRv h it x t ((x.length : Int) - 1 - (i : Int))) where
  sub := fun b hb => hb
  frame := fun i h h' st hk => ⟨st.1, let ⟨o, ho, r⟩ := st.2; ⟨o, hk it (by simp) o ho, r⟩⟩
  item := fun i s Q E hi st hQ => by
    have e : ((x.length : Int) - 1 - (i : Int)) = ((x.length - 1 - i : Nat) : Int) := by omega
    have lt : x.length - 1 - i < x.cps.size := by show x.length - 1 - i < x.length; omega
    have st2 := st.2
    rw [e] at st2
    refine rv_next st2 (Array.getElem?_eq_getElem lt) hz fun h' r sb => ?_
    refine hQ _ h' _ ⟨_, _, Array.getElem?_eq_getElem lt, rfl⟩ ⟨hi, ?_⟩ fun b o hb e => (sb.2 b fun z => hb (by simp [z])).trans e
    have e2 : ((x.length : Int) - 1 - ((i + 1 : Nat) : Int)) = ((x.length - 1 - i : Nat) : Int) - 1 := by omega
    rw [e2]
    exact r
  done := fun s Q E st hQ => by
    have e : ((x.length : Int) - 1 - (x.length : Int)) = -1 := by omega
    have st2 := st.2
    rw [e] at st2
    exact rv_end hh st2 fun h' eb => hQ h' s.toks fun b o hb e => eb b o (fun z => hb (by simp [z])) e
  self := fun i s Q E st hQ => rv_iter st.2 hQ

theorem rv_hint_call {i : Int} {Q : Value → Shared → Prop} (hit : IsRv s.heap it x t i) (hi : i + 1 = (x.length : Int)) (hz : x.length ≤ sizeLine)
    (h : ∀ tk tk2, Q (.int (x.length : Int) tk) { s with toks := tk2 }) : wpAny (model prog w) A (call (.builtin "reversed.__length_hint__") [.ref it]) Q E s := by
  obtain ⟨o, ho, hcl, hd⟩ := id hit
  rw [sizeLine_eq] at hz
  refine wpAny_call_entry rv_slot_hint hit.ty rv_entry_hint ?_ (rv_args_hint _)
  unfold Builtin.«reversed.__length_hint__»
  refine wpAny_bind (wpAny_of_eq (a := Value.ref it) rfl ?_)
  try dsimp only
  refine wpAny_bind (wpAny_field ho hd (x := .str x t) rfl ?_)
  try dsimp only
  rw [if_neg (show ¬ ((Value.str x t == Value.none) = true) from fun z => nomatch (show false = true from z))]
  try dsimp only
  refine wpAny_bind (PyProof.Rows.len_str (by omega) ?_)
  refine wpAny_bind (wpAny_of_eq (a := some ((x.length : Nat) : Int)) rfl ?_)
  try dsimp only
  refine wpAny_bind (wpAny_field (s := { s with toks := s.toks + 1 + 1 }) ho hd (x := rawInt i) rfl ?_)
  show wpAny _ _ (if (x.length : Int) < i + 1 then _ else _) _ _ _
  rw [if_neg (by omega)]
  show wpAny _ _ (retInt (i + 1)) _ _ _
  rw [hi]
  exact wpAny_bind (wpAny_mkInt (wpAny_pure ⟨_, rfl, h _ _⟩))
theorem rv_hint {i : Int} {Q : Bool → Shared → Prop} (hit : IsRv s.heap it x t i) (hi : i + 1 = (x.length : Int)) (hz : x.length ≤ sizeLine)
    (h : ∀ b tk, Q b { s with toks := tk }) : wpAny (model prog w) A (Builtin.List.listLengthHint (.ref it)) Q E s := by
  have hz2 := hz
  rw [sizeLine_eq] at hz2
  unfold Builtin.List.listLengthHint
  refine wpAny_bind (wpAny_specialOf hit.ty rv_nolen ?_)
  show wpAny _ A (specialOf (Value.ref it) (Str.ofString "__length_hint__") >>= _) _ _ _
  refine wpAny_bind (wpAny_specialOf hit.ty rv_slot_hint.lookup ?_)
  generalize hid : ("reversed.__length_hint__" : String) = id0
  wp_delta
  rw [show splitId id0 = some ("reversed", "__length_hint__") from by subst hid; decide +kernel]
  subst hid
  refine wpAny_bind (wpAny_isInstance (b := true) hit.ty (by rw [isSubtype_type]; kernel_rfl) ?_)
  refine wpAny_ite_split (fun hab => absurd hab (by decide)) (fun _ => ?_)
  refine wpAny_ite_split (fun hab => absurd hab (by decide +kernel)) (fun _ => ?_)
  refine wpAny_bind (wpAny_rule ?_)
  rw [rv_slot_hint.bind]
  refine wpAny_bind (wpAny_pure ?_)
  refine wpAny_bind (wpAny_attempt (rv_hint_call hit hi hz fun tk tk2 => ?_))
  obtain ⟨n, hn⟩ : ∃ n : Int, n = ((x.length : Nat) : Int) := ⟨_, rfl⟩
  rw [← hn]
  have n0 : 0 ≤ n := by omega
  have n1 : n ≤ 16777216 := by omega
  clear hn hi hz hz2
  try dsimp only
  rw [show asInt? (Value.int n tk) = pure (some n) from rfl]
  refine wpAny_bind ?_
  refine wpAny_pure ?_
  try dsimp only
  have e1 : Builtin.List.listFitsIndex n = true := by
    unfold Builtin.List.listFitsIndex
    rw [decide_eq_true (show -(2 ^ 63 : Int) ≤ n by omega), decide_eq_true (show n < 2 ^ 63 by omega)]
    rfl
  have e2 : Builtin.List.listTooLong n.toNat = false := by
    unfold Builtin.List.listTooLong
    exact decide_eq_false (by rw [sizeLine_eq]; omega)
  rw [e1]
  refine wpAny_ite_split (fun hab => absurd hab (by decide)) (fun _ => ?_)
  refine wpAny_ite_split (fun hab => absurd hab (by omega)) (fun _ => ?_)
  rw [e2]
  refine wpAny_ite_split (fun hab => absurd hab (by decide)) (fun _ => ?_)
  exact wpAny_pure (h _ _)

theorem rv_extend {R : Result → Shared → Prop} (hh : A.handled = none) (hit : IsRv s.heap it x t ((x.length : Int) - 1)) (hz : x.length ≤ sizeLine) (S : Addr) (hne : S ≠ it) (res : Value) (c0 : Nat)
    (hS : s.heap.get? S = some { cls := .type "list", data := .seq #[] c0 })
    (hR : ∀ h' tk acc' c', (∀ b o, b ≠ S → b ≠ it → s.heap.get? b = some o → h'.get? b = some o) → h'.get? S = some { cls := .type "list", dict := none, data := .seq acc' c', slots := #[] } →
      ItemsOf (RvAt x) acc' x.length → R (.ok (.ret res)) { s with heap := h', toks := tk }) :
    wpAny (model prog w) A.in1 (Builtin.List.listExtendWith (.ref S) (.ref it) res)
      (fun fin s' => match fin with | .done f => R (.ok f) s' | .again c' => c'.quiet = true ∧ codeAny (model prog w) A c' R s') (fun e s' => R (.error e) s') s := by
  have W := (rv_walks (prog := prog) (w := w) (A := A.in1) (it := it) (x := x) (t := t) hh hz).toS
  have hSf : S ∉ [it] := fun z => hne (List.mem_singleton.mp z)
  have key : ∀ (h : Heap) (c1 tk : Nat), IsRv h it x t ((x.length : Int) - 1) → (∀ b o, b ≠ S → s.heap.get? b = some o → h.get? b = some o) →
      h.get? S = some { cls := .type "list", data := .seq #[] c1 } → codeAny (model prog w) A (.builtin "list.extend.loop" ⟨[.ref S, .ref it, res], []⟩) R { s with heap := h, toks := tk } := by
    intro h c1 tk st hk hS1
    have st0 : 0 ≤ x.length ∧ IsRv h it x t ((x.length : Int) - 1 - ((0 : Nat) : Int)) := ⟨Nat.zero_le _, by
      have e0 : (x.length : Int) - 1 - ((0 : Nat) : Int) = (x.length : Int) - 1 := by omega
      rw [e0]
      exact st⟩
    refine codeAny_extend_loopS W hz S hSf res x.length 0 _ #[] c1 rfl (Nat.zero_le _) st0 hS1 (ItemsOf.nil _) fun s' acc' c' hm hS' hacc => ?_
    rw [Moved.eq_with hm]
    refine hR s'.heap s'.toks acc' c' (fun b o hb hbi e => hm.heap b o (fun hmem => ?_) (hk b o hb e)) hS' hacc
    rcases List.mem_cons.mp hmem with e' | hmem
    · exact hb e'
    · exact hbi (List.mem_singleton.mp hmem)
  unfold Builtin.List.listExtendWith
  refine wpAny_bind (wpAny_typeOf hit.ty ?_)
  have h1 : Builtin.List.listSameRef (.ref S) (.ref it) = false := by simp [Builtin.List.listSameRef, hne]
  have h2 : (Value.type "reversed" == Value.type "list") = false := by decide
  have h3 : (Value.type "reversed" == Value.type "tuple") = false := by decide
  simp only [h1, h2, h3, Bool.or_false, Bool.false_eq_true, if_false]
  refine wpAny_bind (rv_iter hit ?_)
  refine wpAny_bind (wpAny_holding (rv_hint hit (by omega) hz fun b tk => ?_))
  refine wpAny_ite_split (fun _ => ?_) (fun _ => wpAny_pure ⟨plainId_quiet PySem.F.plain_extend_loop _, key _ c0 _ hit (fun b o _ e => e) hS⟩)
  refine wpAny_bind (wpAny_rule ?_)
  refine wpAny_bind ?_
  show wpAny _ _ (updateSeq S (·.push .none) >>= fun _ => updateSeq S (·.pop)) _ _ _
  refine wpAny_bind (wpAny_updateSeq (s := { s with toks := tk }) hS rfl ?_)
  have hS2 := Heap.get?_update_self (Obj.mapSeq (·.push Value.none)) hS rfl
  refine wpAny_updateSeq (hz := by seq_fits) hS2 rfl ?_
  have hS3 := Heap.get?_update_self (Obj.mapSeq (·.pop)) hS2 rfl
  have oth : ∀ b o, b ≠ S → s.heap.get? b = some o → ((s.heap.update S (Obj.mapSeq (·.push Value.none))).update S (Obj.mapSeq (·.pop))).get? b = some o :=
    fun b o hb e => (Heap.get?_update_other _ _ (Ne.symm hb)).trans ((Heap.get?_update_other _ _ (Ne.symm hb)).trans e)
  refine wpAny_pure ⟨plainId_quiet PySem.F.plain_extend_loop _, key _ _ _ ?_ oth hS3⟩
  obtain ⟨o, ho, r⟩ := hit
  exact ⟨o, oth it o (Ne.symm hne) ho, r⟩
theorem rv_list {Q : Value → Shared → Prop} (hh : A.handled = none) (hit : IsRv s.heap it x t ((x.length : Int) - 1)) (hz : x.length ≤ sizeLine)
    (hQ : ∀ h' tk acc' c', (∀ b o, b ≠ it → s.heap.get? b = some o → h'.get? b = some o) → h'.get? s.heap.objs.size = some { cls := .type "list", dict := none, data := .seq acc' c', slots := #[] } →
      ItemsOf (RvAt x) acc' x.length → Q (.ref s.heap.objs.size) { s with heap := h', toks := tk }) :
    wpAny (model prog w) A (call (.type "list") [.ref it]) Q E s := by
  have itlt : it < s.heap.objs.size := let ⟨_, ho, _⟩ := hit; Heap.lt_size ho
  refine callType_codes (Q₁ := fun obj s1 => obj = .ref s.heap.objs.size ∧ s1 = { s with heap := s.heap.push { cls := .type "list", data := .seq #[] } }) F.called_list (F.typeCall_list_1 _) F.entry_list_init
    (code_list_new _ ⟨rfl, rfl⟩) fun obj s1 h1 => ?_
  obtain ⟨rfl, rfl⟩ := h1
  have hS : (s.heap.push { cls := .type "list", data := .seq #[] }).get? s.heap.objs.size = some { cls := .type "list", data := .seq #[] } := Heap.get?_push_size _ rfl
  refine ⟨⟨_, hS, rfl⟩, F.args_list_init_2 _ _, ?_⟩
  show wpAny _ _ (do let old ← Builtin.List.listItems (.ref s.heap.objs.size); Builtin.List.listUpdate (.ref s.heap.objs.size) (fun _ => #[]); letGo old.toList.reverse; Builtin.List.listExtendWith (.ref s.heap.objs.size) (.ref it) .none) _ _ _
  refine wpAny_bind ?_
  unfold Builtin.List.listItems
  refine wpAny_bind (wpAny_seqItems hS rfl (wpAny_pure ?_))
  show wpAny _ _ (updateSeq s.heap.objs.size (fun _ => #[]) >>= fun _ => letGo (#[] : Array Value).toList.reverse >>= fun _ => Builtin.List.listExtendWith (.ref s.heap.objs.size) (.ref it) .none) _ _ _
  refine wpAny_bind (wpAny_updateSeq hS rfl ?_)
  have hS2 := Heap.get?_update_self (Obj.mapSeq (fun _ => (#[] : Array Value))) hS rfl
  have oth : ∀ b o, s.heap.get? b = some o → ((s.heap.push { cls := .type "list", data := .seq #[] }).update s.heap.objs.size (Obj.mapSeq (fun _ => (#[] : Array Value)))).get? b = some o :=
    fun b o e => (Heap.get?_update_other _ _ (Nat.ne_of_gt (Heap.lt_size e))).trans (Heap.get?_push_of_some _ e)
  refine wpAny_bind (wpAny_letGo ?_)
  have hit2 : IsRv ((s.heap.push { cls := .type "list", data := .seq #[] }).update s.heap.objs.size (Obj.mapSeq (fun _ => (#[] : Array Value)))) it x t ((x.length : Int) - 1) := let ⟨o, ho, r⟩ := hit; ⟨o, oth it o ho, r⟩
  refine rv_extend (A := A.in1) (s := { s with heap := (s.heap.push { cls := .type "list", data := .seq #[] }).update s.heap.objs.size (Obj.mapSeq (fun _ => (#[] : Array Value))) }) hh hit2 hz s.heap.objs.size (Nat.ne_of_gt itlt) .none _ hS2 fun h' tk acc' c' hk hS' hacc => ?_
  exact ⟨rfl, hQ h' tk acc' c' (fun b o hb e => hk b o (Nat.ne_of_lt (Heap.lt_size e)) hb (oth b o e)) hS' hacc⟩
end
/-- an object of ours that was not tracked is tracked from now on -/
theorem track {X : Cx} {pins : List (Addr × Obj)} {σ : L2.St} {H : Hp} {s : Shared} {a : Addr} {o : HO} (I : L2.Inv X pins σ H s) (f : FpOk X pins H a) (new : ObjOk X.prog X.w (upd H a o) s.heap a o) : L2.Inv X pins σ (upd H a o) s := by
  obtain ⟨f0, f1, f2, f3, f4, f5⟩ := f
  have ne : ∀ b u, H b = some u → b ≠ a := fun b u e z => by rw [z, f0] at e; cases e
  have nu : ∀ b u, H b = some u → upd H a o b = some u := fun b u e => by rw [upd_ne (ne b u e)]; exact e
  refine I.step (g' := s.gens) (d' := s.drawn) (t' := s.toks) (h' := s.heap) (ch := [a]) (fun b hb => ?_) (fun _ _ _ _ _ e _ => e) (fun b u _ _ _ e _ => ⟨u.slots, e⟩) (fun b u hc e n => ?_) (fun b u _ e => ⟨u, e⟩)
    (fun b xs e => nu _ _ e) (fun b u v e => nu _ _ e) (fun b ps e => ⟨#[], by rw [nu _ _ e]; simp⟩) (fun _ hm => hm) (fun b u e => ?_) I.bare
  · rw [List.mem_singleton.mp hb]
    exact ⟨f3, f1, f4, f5⟩
  · rw [upd_ne (fun z => hc (by simp [z]))]
    exact n
  · by_cases hb : b = a
    · subst hb
      rw [upd_same] at e
      cases e
      exact new
    · rw [upd_ne hb] at e
      exact (I.hok b u e).stay (fun _ _ _ q => q) (fun c q => nu _ _ q) fun c xs q => nu _ _ q
section
variable {X : Cx} {e : Expr} {te : TE} {p p2 pos pos2 : Pos}
/-- list(reversed(e)), e a text -/
def tRevT (te : TE) : TE := fun σ H Q => te σ H fun v H1 => ∃ x : Str, v = .str x ∧ x.length ≤ sizeLine ∧ ∀ q, H1 q = none → Q (.ref q) (upd H1 q (.lst ((signs x).reverse.map V.str)))
theorem rv_vals {x : Str} {acc : Array Value} (h : ItemsOf (RvAt x) acc x.length) : Vals ((signs x).reverse.map V.str) acc.toList := by
  have hl : acc.toList.length = x.length := by rw [Array.length_toList, h.1]
  refine vals_of_at (by rw [List.length_map, List.length_reverse, signs_len, hl]) fun j y u h1 h2 => ?_
  obtain ⟨c, t, hc, rfl⟩ := h.2 j u (by rw [← Array.getElem?_toList]; exact h2)
  have jl : j < x.length := by
    have := (List.getElem?_eq_some_iff.mp h2).1
    omega
  have e2 : (signs x).reverse[j]? = some ⟨#[c]⟩ := by
    rw [List.getElem?_reverse (by rw [signs_len]; exact jl), signs_len]
    unfold signs
    rw [List.getElem?_map, show (tl x)[x.length - 1 - j]? = some c by rw [← hc]; exact Array.getElem?_toList]
    rfl
  rw [List.getElem?_map, e2] at h1
  cases h1
  exact ⟨t, rfl⟩
theorem pe_listRev (hc : X.calm = true) (hg : Gl X "list") (hm : X.mg "list" = none) (hg2 : Gl X "reversed") (hm2 : X.mg "reversed" = none) (he : PE X e te)
    (hs : starEach [e] X.env = (false, eval e X.env) :: starEach [] X.env := by rfl)
    (hs2 : starEach [.Call (.Name "reversed" p2) [e] [] pos2] X.env = (false, eval (.Call (.Name "reversed" p2) [e] [] pos2) X.env) :: starEach [] X.env := by rfl) :
    PE X (.Call (.Name "list" p) [.Call (.Name "reversed" p2) [e] [] pos2] [] pos) (tRevT te) := by
  refine ⟨fun pins s σ H Q I h => ?_⟩
  refine Call_ (ld_blt I hg hm boot_list (callWith_type1 (args_cons (Call_ (ld_blt I hg2 hm2 boot_reversed (callWith_type1 (args_cons (thn (he.run pins s σ H _ I h) fun u s1 ⟨v, H1, I1, r1, q1⟩ => args_nil ?_) hs) hs rfl))) hs2) hs2 rfl))
  obtain ⟨x, ev, hz, q⟩ := q1
  subst ev
  obtain ⟨t, rfl⟩ := r1
  refine rv_call hz (args_nil ?_)
  have k0 : ∀ b o, s1.heap.get? b = some o → (s1.heap.push (rvObj x t ((x.length : Int) - 1))).get? b = some o := fun b o e => Heap.get?_push_of_some _ e
  have I2 : L2.Inv X pins σ H1 { s1 with heap := s1.heap.push (rvObj x t ((x.length : Int) - 1)), toks := s1.toks + 1 + 1 } := I1.kept k0
  obtain ⟨f0, f1, f2, f3, f4, f5⟩ := I1.fpOk (H' := H1) (b := s1.heap.objs.size) (Nat.le_refl _) (I1.hok.fresh (Nat.le_refl _))
  refine rv_list (s := { s1 with heap := s1.heap.push (rvObj x t ((x.length : Int) - 1)), toks := s1.toks + 1 + 1 }) (I1.ok.hd hc) ⟨_, Heap.get?_push_size _ rfl, rfl, rfl⟩ hz fun h' tk acc c' hk hS hi => ?_
  have I3 : L2.Inv X pins σ H1 { s1 with heap := h', toks := tk } := I2.turned (t' := tk) (fun b o hb e => hk b o hb e) f0 f1 f3 f4 f5
  have fS := I2.fpOk (H' := H1) (Nat.le_refl _) (I2.hok.fresh (Nat.le_refl _))
  have hlen : ((signs x).reverse.map V.str).length ≤ sizeLine := by
    rw [List.length_map, List.length_reverse, signs_len]
    exact hz
  exact ⟨.ref _, _, track (o := .lst ((signs x).reverse.map V.str)) I3 fS ⟨hlen, acc.toList, c', rv_vals hi, by rw [Array.toArray_toList]; exact hS⟩, rfl, q _ fS.1⟩
end
end Cw
/-! CwR3: enumerate(text); repr of data; list.remove of a text. -/
namespace Cw
open PySem PySem.Spec PyProof.Rows L2 TL

/-! ### for i, c in enumerate(text) -/
def Ites (z : Str) : It :=
  ⟨fun i _ => i < z.length, fun i H v H' => ∃ T c, v = .ref T ∧ H T = none ∧ H' = upd H T (.tup [.int (i : Nat), .str ⟨#[c]⟩]) ∧ (tl z)[i]? = some c, fun i _ => z.length ≤ i⟩
theorem turn_enumS {P : Program} {w : World} {K : PySem.W.Frag} {elts : List Expr} {kk : Nat} {tpos : Pos} (z : Str) (t : Tok) (e it : Addr) :
    Turn P w K (.Tuple elts kk tpos) (Ites z) [e, it] e (fun i h => (∃ old, IsEnum h e it ((i : Nat) : Int) old) ∧ h.IsStrIter it (strIterType z) z t i ∧ e ≠ it ∧ i ≤ z.length) where
  mem := by simp
  obj := fun i h st b hb => by
    obtain ⟨⟨old, he⟩, ⟨o, ho, hc, hd⟩, _⟩ := st
    have e' : b = e ∨ b = it := by simpa using hb
    rcases e' with q | q
    · rw [q]; exact ⟨_, he, fun v y => nomatch y⟩
    · rw [q]; exact ⟨o, ho, fun v y => by rw [hd] at y; cases y⟩
  keep := fun i h h' st k => by
    obtain ⟨⟨old, he⟩, ⟨o, ho, r⟩, hne⟩ := st
    exact ⟨⟨old, k e (by simp) _ he⟩, ⟨o, k it (by simp) o ho, r⟩, hne⟩
  item := by
    intro X hP hw hK hc i pins s σ H E I hf st hg
    subst hP hw hK
    obtain ⟨⟨old, he⟩, hit, hne, hle⟩ := st
    have hg : i < z.length := hg
    have hel : e < s.heap.objs.size := Heap.lt_size he
    have hil : it < s.heap.objs.size := by obtain ⟨_, q, _⟩ := hit; exact Heap.lt_size q
    have D := Draws.text (prog := X.prog) (w := X.w) (A := X.A.in1) (I.ok.hd hc) it z t
    refine wpAny_pyNext_enum_itemD D he hit hg hne (by simpa using hne) fun x h' tk hPx ho hit' hT hsz hk => ?_
    obtain ⟨c, u, hcz, rfl⟩ := hPx
    refine ⟨_, rfl, wpAny_letOwnedTupleGo_enum (s := { s with heap := h', toks := tk + 1 }) ho fun h'' he' sb => ?_⟩
    have hT2 : h''.get? s.heap.objs.size = some { cls := .type "tuple", data := .seq #[.int i tk, .str ⟨#[c]⟩ u] } := (sb.2 _ (Nat.ne_of_gt hel)).trans hT
    have new : ObjOk X.prog X.w (upd H s.heap.objs.size (.tup [.int (i : Nat), .str ⟨#[c]⟩])) h'' s.heap.objs.size (.tup [.int (i : Nat), .str ⟨#[c]⟩]) :=
      ⟨by show 2 ≤ sizeLine; decide, [.int i tk, .str ⟨#[c]⟩ u], .cons ⟨_, rfl⟩ (.cons ⟨_, rfl⟩ .nil), ⟨_, hT2, rfl, _, rfl⟩⟩
    have I1 : L2.Inv X pins σ (upd H s.heap.objs.size (.tup [.int (i : Nat), .str ⟨#[c]⟩])) { s with heap := h'', toks := tk + 1 } :=
      I.turnedNew (ch := [e, it]) (fun b ob hb q => (sb.2 b (fun y => hb (by simp [y]))).trans (hk b ob (fun y => hb (by simp [y])) (fun y => hb (by simp [y])) q)) hf (Nat.le_refl _) new
    have hit2 : h''.IsStrIter it (strIterType z) z t (i + 1) := let ⟨o, oo, r⟩ := hit'; ⟨o, (sb.2 it (Ne.symm hne)).trans oo, r⟩
    refine ⟨.ref s.heap.objs.size, _, I1, rfl, ⟨_, c, rfl, I.hok.fresh (Nat.le_refl _), rfl, by rw [← hcz]; exact Array.getElem?_toList⟩, ⟨⟨.str ⟨#[c]⟩ u, ?_⟩, hit2, hne, hg⟩, fun b hb => ?_⟩
    · have e1 : ((i + 1 : Nat) : Int) = (i : Int) + 1 := by omega
      rw [e1]; exact he'
    · have hb' : b < s.heap.objs.size := by
        have e' : b = e ∨ b = it := by simpa using hb
        rcases e' with y | y
        · rw [y]; exact hel
        · rw [y]; exact hil
      rw [upd_ne (Nat.ne_of_lt hb')]
      exact (hf b hb).1
  done := by
    intro X hP hw hK hc i pins s σ H E I hf st hg
    subst hP hw hK
    obtain ⟨⟨old, he⟩, hit, hne, hle⟩ := st
    have hg : z.length ≤ i := hg
    obtain ⟨f0, f1, f2, f3, f4, f5⟩ := hf it (by simp)
    have ei : i = z.length := by omega
    subst ei
    have D := Draws.text (prog := X.prog) (w := X.w) (A := X.A.in1) (I.ok.hd hc) it z t
    exact wpAny_pyNext_enum_endD D he hit fun h' eb => ⟨rfl, I.turned (t' := s.toks) (fun b o hb q => eb b o hb q) f0 f1 f3 f4 f5⟩
  self := fun A i s Q E st h => let ⟨⟨_, he⟩, _⟩ := st; wpAny_pyIter_enum he h
def iEnumS (ta : TA) : TI := fun σ H R => ta σ H fun vs H1 => ∃ z, vs = [.str z] ∧ R (Ites z) H1
theorem pi_enumS {X : Cx} {e : Expr} {ta : TA} {p pos tpos : Pos} {elts : List Expr} {kk : Nat} (hg : Gl X "enumerate") (hm : X.mg "enumerate" = none) (ha : PA X [e] ta) (hs : starEach [e] X.env = [(false, eval e X.env)] := by rfl) :
    PI X (.Tuple elts kk tpos) (.Call (.Name "enumerate" p) [e] [] pos) (iEnumS ta) := by
  refine ⟨fun pins s σ H R I h => ?_⟩
  refine Call_ (ld_blt I hg hm boot_enumerate (callWith_type1 (thn (ha.run pos pins s σ H _ I h) fun us s1 ⟨vs, H1, I1, r1, q1⟩ => ?_) hs rfl))
  obtain ⟨z, ex, q⟩ := q1
  subst ex
  cases r1 with
  | cons r rr =>
    cases rr
    obtain ⟨t, rfl⟩ := r
    refine call_enumerate_str fun h' he hit hsz hk => wpAny_pyIter_enum he ?_
    have I2 : L2.Inv X pins σ H1 { s1 with heap := h' } := I1.kept (t' := s1.toks) hk
    refine ⟨s1.heap.objs.size + 1, [s1.heap.objs.size + 1, s1.heap.objs.size], _, _, H1, rfl, I2, turn_enumS z t (s1.heap.objs.size + 1) s1.heap.objs.size, ⟨⟨.none, he⟩, hit, Nat.succ_ne_self _, Nat.zero_le _⟩, fun b hb => ?_, q⟩
    have e' : b = s1.heap.objs.size + 1 ∨ b = s1.heap.objs.size := by simpa using hb
    have hle : s1.heap.objs.size ≤ b := by
      rcases e' with y | y
      · rw [y]; exact Nat.le_add_right _ _
      · rw [y]; exact Nat.le_refl _
    exact I1.fpOk hle (I1.hok.fresh hle)
/-- the loop's reading by an invariant -/
theorem for_enumS {z : Str} {g : TG} {tb : TS} {D : Ends} {σ : L2.St} {H : Hp} (Pv : Nat → L2.St → Hp → Prop) (h0 : Pv 0 σ H)
    (hs : ∀ i c T σ H, (tl z)[i]? = some c → H T = none → Pv i σ H → g (.ref T) σ (upd H T (.tup [.int (i : Nat), .str ⟨#[c]⟩])) fun σ2 H2 => tb { D with nx := Pv (i + 1), ct := Pv (i + 1), bk := D.nx } σ2 H2)
    (hd : ∀ σ H, Pv z.length σ H → D.nx σ H) :
    ∃ W : Nat → Nat → L2.St → Hp → Prop, (∃ m, W 0 m σ H) ∧ ∀ i m σ H, W i m σ H →
      ((Ites z).stop i H ∧ D.nx σ H) ∨ ((Ites z).go i H ∧ ∃ N : L2.St → Hp → Prop, (∀ σ' H', N σ' H' → ∃ m', m' < m ∧ W (i + 1) m' σ' H') ∧ ∀ v H', (Ites z).yld i H v H' → g v σ H' fun σ2 H2 => tb { D with nx := N, ct := N, bk := D.nx } σ2 H2) := by
  refine ⟨fun i m σ H => m = z.length - i ∧ i ≤ z.length ∧ Pv i σ H, ⟨_, rfl, Nat.zero_le _, h0⟩, ?_⟩
  rintro i m σ H ⟨rfl, hi, p⟩
  by_cases hlt : i < z.length
  · refine .inr ⟨hlt, Pv (i + 1), fun σ' H' p' => ⟨z.length - (i + 1), by omega, rfl, hlt, p'⟩, fun v H' y => ?_⟩
    obtain ⟨T, c, rfl, nT, rfl, hc⟩ := y
    exact hs i c T σ H hc nT p
  · have e : i = z.length := by omega
    subst e
    exact .inl ⟨Nat.le_refl _, hd σ H p⟩

/-! ### repr(data) -/
section
variable {X : Cx}
theorem call_reprD (hg : X.A.guards = some []) (hu : X.A.units + 64 < cLine) : CallR X (.builtin "repr") (fun xs H Q => ∃ a d, xs = [.ref a] ∧ Dp X.K H (.ref a) d ∧ d.showable = true ∧ d.hasDict = false ∧ d.depth ≤ 60 ∧ d.shown.length ≤ sizeLine ∧ Q (.str d.shown) H) := by
  intro pins s σ H xs us Q I r h
  obtain ⟨a, d, rfl, hd, h1, h2, h3, h4, q⟩ := h
  obtain ⟨u, rfl, ru⟩ := vals1 r
  cases ru
  obtain ⟨as, rd⟩ := Dp.reads I d _ _ hd rfl
  refine repr_of_reads' rd h1 (PyData.noDict_hsm h2) hg (by omega) (fun _ _ e => e) (fun h' u tk hk => ?_) h4
  exact ⟨.str d.shown, H, I.kept hk, ⟨_, rfl⟩, q⟩

/-! ### list.remove of a text -/
theorem map_erase (f : Str → V) : ∀ (l : List Str) (j : Nat), (l.map f).eraseIdx j = (l.eraseIdx j).map f
  | [], j => by simp
  | a :: r, 0 => by simp
  | a :: r, j + 1 => by simp [map_erase f r j]
def rRemS : V → List V → Hp → VK → Prop := fun x xs H Q => ∃ (l : Addr) (zs : List Str) (z : Str) (j : Nat), x = .ref l ∧ xs = [.str z] ∧ H l = some (.lst (zs.map V.str)) ∧ zs[j]? = some z ∧ (∀ m : Nat, m < j → zs[m]? ≠ some z) ∧
  Q .non (upd H l (.lst ((zs.eraseIdx j).map V.str)))
theorem mt_removeS : MtM X "list.remove" rRemS := by
  intro pins s σ H x xs v us Q I rx rxs h
  obtain ⟨l, zs, z, j, rfl, rfl, hH, hj, hno, q⟩ := h
  cases rx
  obtain ⟨u, rfl, ru⟩ := rxs.one
  obtain ⟨t, rfl⟩ := ru
  obtain ⟨hz, its, n, r, hl, e⟩ := I.lstM hH
  rw [List.length_map] at hl hz
  have fl : (zs.map V.str).all flatV = true := List.all_eq_true.mpr fun y hy => by
    obtain ⟨w, _, rfl⟩ := List.mem_map.mp hy
    rfl
  have at_ : ∀ (m : Nat) (y : Str), zs[m]? = some y → ∃ tm, its[m]? = some (.str y tm) := fun m y hm => by
    obtain ⟨u2, hu2, ru2⟩ := r.get (i := m) (x := .str y) (by rw [List.getElem?_map, hm]; rfl)
    obtain ⟨tm, rfl⟩ := ru2
    exact ⟨tm, hu2⟩
  have hjn : j < zs.length := (List.getElem?_eq_some_iff.mp hj).1
  have hjl : j < its.toArray.size := by rw [List.size_toArray]; omega
  refine call_meets PySem.F.slot_list_remove ⟨_, e, rfl⟩ PySem.F.entry_list_remove (PySem.F.args_list_remove_2 _ _)
    (SeqAt.list_removeAt l its.toArray n none #[] (.str z t) (eqU (.str z)) j hjl ?_ ?_ (by rw [List.size_toArray]; omega)) ⟨e, ?_, ?_⟩
  · obtain ⟨tj, hjt⟩ := at_ j z hj
    obtain ⟨h1, h2⟩ := List.getElem?_eq_some_iff.mp hjt
    have e1 : its.toArray[j] = .str z tj := by simpa using h2
    rw [e1]
    exact beq_self_eq_true z
  · intro m hm hmj
    have hmn : m < zs.length := by omega
    obtain ⟨tm, hmt⟩ := at_ m _ (List.getElem?_eq_getElem hmn)
    obtain ⟨h1, h2⟩ := List.getElem?_eq_some_iff.mp hmt
    have e1 : its.toArray[m] = .str zs[m] tm := by simpa using h2
    rw [e1]
    refine beq_eq_false_iff_ne.mpr fun e2 => hno m hmj ?_
    rw [List.getElem?_eq_getElem hmn, e2]
  · exact fun y hy => mem_eqAt (x := .str z) ⟨t, rfl⟩ rfl r fl y (by simpa using hy)
  · have rr := r.eraseIdx j
    rw [map_erase] at rr
    refine ⟨.non, _, I.lset (its' := its.eraseIdx j) (t' := s.toks) hH e ?_ rr ?_, rfl, q⟩
    · show its.toArray.eraseIdxIfInBounds j = (its.eraseIdx j).toArray
      rw [List.eraseIdxIfInBounds_toArray]
    · rw [List.length_map]
      have := List.length_eraseIdx_le zs j
      omega
end
end Cw
/-! CwR4: a dict whose keys are whole numbers and tuples, side by side: get with a default, a store. -/
namespace Cw
open PySem PySem.Spec PyProof.Rows L2 TL

/-- an entry told: the key, the value that stands for it, the value -/
abbrev En := NestedKey × Value × Value
def entB (w : World) (x : En) : DictEntry := ⟨x.1.hash w, x.2.1, x.2.2⟩
/-- the table at d, without what its keys are -/
def BitsRaw (w : World) (h : Heap) (d : Addr) (xs : List En) : Prop :=
  ∃ o es ep, h.get? d = some o ∧ o.ExactDict ∧ o.data = .dict es ep ∧ es.toList = xs.map (entB w) ∧ (xs.map (·.1)).Nodup
/-- each key is what it is told to be -/
def KeysIn (h : Heap) (xs : List En) : Prop := ∀ x ∈ xs, NestedIs h x.1 x.2.1 ∧ x.1.depth ≤ 8

theorem mem_places {n i : Nat} {f : Nat → Option Int} {h : Int} : i ∈ placesWithHash n f h ↔ i < n ∧ f i = some h := by
  unfold placesWithHash
  rw [List.mem_filter, List.mem_range, beq_iff_eq]
theorem nodup_places (n : Nat) (f : Nat → Option Int) (h : Int) : (placesWithHash n f h).Nodup := by
  unfold placesWithHash
  exact List.nodup_range.filter _
theorem key_once {xs : List En} (hn : (xs.map (·.1)).Nodup) {i j : Nat} {x y : En} (hi : xs[i]? = some x) (hj : xs[j]? = some y) (e : x.1 = y.1) : i = j := by
  have hi' : (xs.map (·.1))[i]? = some x.1 := by rw [List.getElem?_map, hi]; rfl
  have hj' : (xs.map (·.1))[j]? = some x.1 := by rw [List.getElem?_map, hj, e]; rfl
  exact nd_ix hn hi' hj'

section
variable {prog : Program} {w : World} {A : Around} {E : Value → Shared → Prop} {s : Shared} {d : Addr} {o : Obj} {es : Array DictEntry} {ep : Nat} {xs : List En} {k : NestedKey} {kv : Value}
theorem es_at (he : es.toList = xs.map (entB w)) (j : Nat) : es[j]? = (xs[j]?).map (entB w) := by rw [← Array.getElem?_toList, he, List.getElem?_map]
theorem es_size (he : es.toList = xs.map (entB w)) : es.size = xs.length := by rw [← Array.length_toList, he, List.length_map]

theorem tell_quiet {stored : List Value} {Q : Bool → Shared → Prop} (hk : NestedIs s.heap k kv) (hkd : k.depth ≤ 8)
    (hst : ∀ v ∈ stored, ∃ k', NestedIs s.heap k' v ∧ k'.depth ≤ 8) (h : Q false s) : wpAny (model prog w) A (tableMayTell kv stored) Q E s := by
  unfold tableMayTell
  split
  · exact wpAny_pure h
  · refine wpAny_bind (quiet_key k kv 8 s hk hkd A E _ ?_)
    simp only [Bool.not_true, Bool.false_eq_true, if_false]
    refine wpAny_bind ?_
    refine wpAny_forIn_list _ (fun rest r s' => s' = s ∧ r = (none, ()) ∧ ∀ v ∈ rest, ∃ k', NestedIs s.heap k' v ∧ k'.depth ≤ 8) _ ?_ ?_ _ _ ⟨rfl, rfl, hst⟩
    · rintro x rest r s' ⟨rfl, rfl, hr⟩
      obtain ⟨k', hb, hd⟩ := hr x List.mem_cons_self
      refine wpAny_bind (quiet_key k' x 8 s' hb hd A E _ ?_)
      simp only [Bool.not_true, Bool.false_eq_true, if_false]
      exact wpAny_pure ⟨rfl, rfl, fun v hv => hr v (List.mem_cons_of_mem _ hv)⟩
    · rintro r s' ⟨rfl, rfl, _⟩
      exact wpAny_pure h

theorem find_bits {Q : Option Nat → Shared → Prop} (hu : A.units + 8 < cLine) (hk : NestedIs s.heap k kv) (hkd : k.depth ≤ 8) (hns : ∀ z t, kv ≠ .str z t)
    (ho : s.heap.get? d = some o) (hd : o.data = .dict es ep) (he : es.toList = xs.map (entB w)) (his : KeysIn s.heap xs) (hn : (xs.map (·.1)).Nodup)
    (hnone : (∀ (j : Nat) (x : En), xs[j]? = some x → x.1 ≠ k) → Q none s) (hsome : ∀ (j : Nat) (x : En), xs[j]? = some x → x.1 = k → Q (some j) s) :
    wpAny (model prog w) A (dictFind d kv (k.hash w)) Q E s := by
  have hsz := es_size he
  have key_eq : ∀ (j : Nat) (x : En), xs[j]? = some x → wpAny (model prog w) A (eqBool (entB w x).key kv) (fun b s' => s' = s ∧ b = decide (x.1 = k)) E s := fun j x hj => by
    obtain ⟨h1, h2⟩ := his x (List.mem_of_getElem? hj)
    exact eqAt_key x.1 k A s _ _ h1 hk (by omega) prog w E _ ⟨rfl, by rw [NestedKey.decide_eq]⟩
  have places : ∀ i, i ∈ placesWithHash es.size (fun i => es[i]?.map (·.hash)) (k.hash w) → ∃ x, xs[i]? = some x ∧ x.1.hash w = k.hash w := fun i hi => by
    obtain ⟨hlt, hh⟩ := mem_places.mp hi
    have hx : xs[i]? = some xs[i] := List.getElem?_eq_getElem (by omega)
    refine ⟨_, hx, ?_⟩
    rw [es_at he, hx] at hh
    exact Option.some.inj hh
  have inplaces : ∀ (j : Nat) (x : En), xs[j]? = some x → x.1 = k → j ∈ placesWithHash es.size (fun i => es[i]?.map (·.hash)) (k.hash w) := fun j x hj e => by
    refine mem_places.mpr ⟨?_, ?_⟩
    · rw [hsz]
      exact (List.getElem?_eq_some_iff.mp hj).1
    · rw [es_at he, hj, ← e]
      rfl
  have hst : ∀ v ∈ (placesWithHash es.size (fun i => es[i]?.map (·.hash)) (k.hash w)).filterMap (fun i => es[i]?.map (·.key)), ∃ k', NestedIs s.heap k' v ∧ k'.depth ≤ 8 := by
    intro v hv
    obtain ⟨i, hi, hv⟩ := List.mem_filterMap.mp hv
    obtain ⟨x, hx, _⟩ := places i hi
    rw [es_at he, hx] at hv
    have e : x.2.1 = v := Option.some.inj hv
    rw [← e]
    exact ⟨x.1, his x (List.mem_of_getElem? hx)⟩
  have hnd := nodup_places es.size (fun i => es[i]?.map (·.hash)) (k.hash w)
  unfold dictFind
  try with_reducible refine wpAny_holding ?_
  refine wpAny_bind (wpAny_dictEntries ho hd ?_)
  generalize hp : placesWithHash es.size (fun i => es[i]?.map (·.hash)) (k.hash w) = ps at *
  have stop : (∀ i ∈ ps, ∀ x, xs[i]? = some x → x.1 ≠ k) → Q none s := fun h => hnone fun j x hj e => h j (inplaces j x hj e) x hj e
  -- all keys that hash alike are carried by value
  have plain : wpAny (model prog w) A (dictWalkPlain d kv (k.hash w) es ps) Q E s := by
    refine wpAny_bind ?_
    refine wpAny_forIn_list _ (fun rest b s' => s' = s ∧ b = (none, ()) ∧ ∃ don, ps = don ++ rest ∧ ∀ i ∈ don, ∀ x, xs[i]? = some x → x.1 ≠ k) _ ?_ ?_ _ _ ⟨rfl, rfl, [], rfl, fun _ h => nomatch h⟩
    · rintro i rest b s' ⟨rfl, rfl, don, hr, hno⟩
      obtain ⟨x, hx, hh⟩ := places i (by rw [hr]; simp)
      have hex : es[i]? = some (entB w x) := by rw [es_at he, hx]; rfl
      rw [hex]
      dsimp only
      rw [if_pos (show ((entB w x).hash == k.hash w) = true from beq_iff_eq.mpr hh)]
      refine wpAny_bind (wpAny_dictEpoch ho hd (wpAny_bind (thn (key_eq i x hx) fun b s2 hb => ?_)))
      obtain ⟨rfl, rfl⟩ := hb
      refine wpAny_bind (wpAny_dictEpoch ho hd ?_)
      show wpAny _ _ (if (ep != ep) = true then _ else _) _ E _
      rw [if_neg (by simp)]
      by_cases hkk : x.1 = k
      · rw [decide_eq_true hkk]
        exact wpAny_bind (wpAny_rule (wpAny_pure (wpAny_pure (hsome i x hx hkk))))
      · rw [decide_eq_false hkk]
        refine wpAny_bind (wpAny_rule (wpAny_pure ⟨rfl, rfl, don ++ [i], by rw [hr]; simp, fun j hj y hy => ?_⟩))
        rcases List.mem_append.mp hj with hj | hj
        · exact hno j hj y hy
        · rw [List.mem_singleton.mp hj, hx] at hy
          cases hy
          exact hkk
    · rintro b s' ⟨rfl, rfl, don, hr, hno⟩
      rw [List.append_nil] at hr
      subst hr
      exact wpAny_pure (stop hno)
  have other : ∀ tells : Bool, tells = false → wpAny (model prog w) A (do
      let mut hit : Option Nat := none
      for i in ps do
        if let some e := es[i]? then
          if e.hash == k.hash w then
            let before ← dictEpoch d (keyPart kv)
            let same ← eqBool e.key kv
            if (← dictEpoch d (keyPart kv)) != before then unsupported "dict.changed-during-lookup"
            if same then
              if hit.isSome then unsupported "dict.find:order-among-keys-of-one-hash"
              rule "dict.find.hit"
              if (ps.filterMap fun i => es[i]?.map (·.key)).length < 2 then return some i
              hit := some i
            else
              rule "dict.find.same-hash-other-key"
              if tells && !(0 ≤ k.hash w && k.hash w < 32) then unsupported "dict.find:asked-again-or-not-hangs-on-the-table"
      return hit) Q E s := by
    intro tells ht
    subst ht
    refine wpAny_bind ?_
    refine wpAny_forIn_list _ (fun rest b s' => s' = s ∧ ∃ hit, b = (none, hit) ∧ ∃ don, ps = don ++ rest ∧
      ((hit = none ∧ ∀ i ∈ don, ∀ x, xs[i]? = some x → x.1 ≠ k) ∨ ∃ j x, hit = some j ∧ j ∈ don ∧ xs[j]? = some x ∧ x.1 = k)) _ ?_ ?_ _ _ ⟨rfl, none, rfl, [], rfl, .inl ⟨rfl, fun _ h => nomatch h⟩⟩
    · rintro i rest b s' ⟨rfl, hit, rfl, don, hr, hH⟩
      obtain ⟨x, hx, hh⟩ := places i (by rw [hr]; simp)
      have hex : es[i]? = some (entB w x) := by rw [es_at he, hx]; rfl
      rw [hex]
      dsimp only
      rw [if_pos (show ((entB w x).hash == k.hash w) = true from beq_iff_eq.mpr hh)]
      refine wpAny_bind (wpAny_dictEpoch ho hd (wpAny_bind (thn (key_eq i x hx) fun b s2 hb => ?_)))
      obtain ⟨rfl, rfl⟩ := hb
      refine wpAny_bind (wpAny_dictEpoch ho hd ?_)
      show wpAny _ _ (if (ep != ep) = true then _ else _) _ E _
      rw [if_neg (by simp)]
      by_cases hkk : x.1 = k
      · rw [decide_eq_true hkk]
        rcases hH with ⟨rfl, hno⟩ | ⟨j, y, _, hj, hy, hyk⟩
        · simp only [if_true, Option.isSome_none, Bool.false_eq_true, if_false]
          refine wpAny_bind (wpAny_rule ?_)
          refine wpAny_ite_split (fun _ => wpAny_pure (wpAny_pure (hsome i x hx hkk))) (fun _ => ?_)
          exact wpAny_pure ⟨rfl, some i, rfl, don ++ [i], by rw [hr]; simp, .inr ⟨i, x, rfl, by simp, hx, hkk⟩⟩
        · have ij : i = j := key_once hn hx hy (by rw [hkk, hyk])
          rw [hr] at hnd
          have := (List.nodup_append.mp hnd).2.2 j hj i (by simp)
          exact absurd ij.symm this
      · rw [decide_eq_false hkk]
        simp only [Bool.false_eq_true, if_false]
        refine wpAny_bind (wpAny_rule ?_)
        have nx : s2 = s2 ∧ ∃ hit', ((none : Option (Option Nat)), hit) = (none, hit') ∧ ∃ don', ps = don' ++ rest ∧
            ((hit' = none ∧ ∀ i ∈ don', ∀ x, xs[i]? = some x → x.1 ≠ k) ∨ ∃ j x, hit' = some j ∧ j ∈ don' ∧ xs[j]? = some x ∧ x.1 = k) := by
          refine ⟨rfl, hit, rfl, don ++ [i], by rw [hr]; simp, ?_⟩
          rcases hH with ⟨h0, hno⟩ | ⟨j, y, h1, hj, hy, hyk⟩
          · refine .inl ⟨h0, fun j hj y hy => ?_⟩
            rcases List.mem_append.mp hj with hj | hj
            · exact hno j hj y hy
            · rw [List.mem_singleton.mp hj, hx] at hy
              cases hy
              exact hkk
          · exact .inr ⟨j, y, h1, List.mem_append_left _ hj, hy, hyk⟩
        first
          | exact wpAny_pure nx
          | (rw [if_neg (by simp)]; exact wpAny_pure nx)
          | exact wpAny_bind (wpAny_pure (wpAny_pure nx))
    · rintro b s' ⟨rfl, hit, rfl, don, hr, hH⟩
      rw [List.append_nil] at hr
      subst hr
      rcases hH with ⟨rfl, hno⟩ | ⟨j, y, rfl, hj, hy, hyk⟩
      · exact wpAny_pure (stop hno)
      · exact wpAny_pure (hsome j y hy hyk)
  by_cases hall : ((kv :: ps.filterMap fun i => es[i]?.map (·.key)).all carriedByValue) = true
  · cases hk with
    | text z t => exact absurd rfl (hns z t)
    | none => dsimp only; rw [if_pos hall]; exact plain
    | bool e => dsimp only; rw [if_pos hall]; exact plain
    | int i t => dsimp only; rw [if_pos hall]; exact plain
    | tup h1 h2 h3 h4 => exact absurd hall (by simp [carriedByValue])
  · have hany : ∀ a, kv = .ref a → ¬ (es.any fun e => e.key == kv && e.hash != k.hash w) = true := by
      rintro a rfl
      rw [← Array.any_toList, List.any_eq_true]
      rintro ⟨e, hin, hc⟩
      rw [he] at hin
      obtain ⟨x, hx, rfl⟩ := List.mem_map.mp hin
      simp only [entB, Bool.and_eq_true, beq_iff_eq, bne_iff_ne, ne_eq] at hc
      have q := (his x hx).1
      rw [hc.1] at q
      exact hc.2 (by rw [NestedIs.inj _ _ _ q hk])
    cases hk' : hk with
    | text z t => exact absurd rfl (hns z t)
    | none =>
      dsimp only
      rw [if_neg hall]
      by_cases hone : ((ps.filterMap fun i => es[i]?.map (·.key)) == [Value.none]) = true
      · rw [if_pos hone]
        refine wpAny_bind (wpAny_pure ?_)
        rw [if_neg (by simp)]
        exact other false rfl
      · rw [if_neg hone]
        refine wpAny_bind (tell_quiet hk hkd hst ?_)
        rw [if_neg (by simp)]
        exact other false rfl
    | @bool b _ e =>
      dsimp only
      rw [if_neg hall]
      by_cases hone : ((ps.filterMap fun i => es[i]?.map (·.key)) == [Value.bool b]) = true
      · rw [if_pos hone]
        refine wpAny_bind (wpAny_pure ?_)
        rw [if_neg (by simp)]
        exact other false rfl
      · rw [if_neg hone]
        refine wpAny_bind (tell_quiet hk hkd hst ?_)
        rw [if_neg (by simp)]
        exact other false rfl
    | int i t =>
      dsimp only
      rw [if_neg hall]
      by_cases hone : ((ps.filterMap fun i => es[i]?.map (·.key)) == [Value.int i t]) = true
      · rw [if_pos hone]
        refine wpAny_bind (wpAny_pure ?_)
        rw [if_neg (by simp)]
        exact other false rfl
      · rw [if_neg hone]
        refine wpAny_bind (tell_quiet hk hkd hst ?_)
        rw [if_neg (by simp)]
        exact other false rfl
    | @tup a _ _ _ _ h1 h2 h3 h4 =>
      dsimp only
      rw [if_neg hall, if_neg (hany _ rfl)]
      by_cases hone : ((ps.filterMap fun i => es[i]?.map (·.key)) == [Value.ref a]) = true
      · rw [if_pos hone]
        refine wpAny_bind (wpAny_pure ?_)
        rw [if_neg (by simp)]
        exact other false rfl
      · rw [if_neg hone]
        refine wpAny_bind (tell_quiet hk hkd hst ?_)
        rw [if_neg (by simp)]
        exact other false rfl

theorem get_bits {Q : Option Value → Shared → Prop} (hu : A.units + 8 < cLine) (hk : NestedIs s.heap k kv) (hkd : k.depth ≤ 8) (hns : ∀ z t, kv ≠ .str z t)
    (hb : BitsRaw w s.heap d xs) (his : KeysIn s.heap xs) (h0 : (∀ x ∈ xs, x.1 ≠ k) → Q none { s with toks := s.toks + k.draws }) (h1 : ∀ x ∈ xs, x.1 = k → Q (some x.2.2) { s with toks := s.toks + k.draws }) :
    wpAny (model prog w) A (dictGet d kv) Q E s := by
  obtain ⟨o, es, ep, ho, _, hd, he, hn⟩ := hb
  unfold dictGet
  try with_reducible refine wpAny_holding ?_
  refine wpAny_bind (pyHash_key k kv A s _ hk (by omega) (wpAny_bind (find_bits (s := { s with toks := s.toks + k.draws }) hu hk hkd hns ho hd he his hn ?_ ?_)))
  · intro hno
    refine wpAny_pure (h0 fun x hx e => ?_)
    obtain ⟨j, hj⟩ := List.mem_iff_getElem?.mp hx
    exact hno j x hj e
  · intro j x hj e
    refine wpAny_bind (wpAny_dictEntries (s := { s with toks := s.toks + k.draws }) ho hd ?_)
    rw [es_at he, hj]
    exact wpAny_pure (h1 x (List.mem_of_getElem? hj) e)
/-- the table behind a store -/
theorem set_bits {v : Value} {Q : Unit → Shared → Prop} (hu : A.units + 8 < cLine) (hk : NestedIs s.heap k kv) (hkd : k.depth ≤ 8) (hns : ∀ z t, kv ≠ .str z t)
    (hb : BitsRaw w s.heap d xs) (his : KeysIn s.heap xs) (hsz : xs.length ≤ sizeLine)
    (hQ : ∀ h' xs', BitsRaw w h' d xs' → Heap.SameBut d s.heap h' → xs'.length ≤ xs.length + 1 → (∀ y ∈ xs', (∃ x ∈ xs, y.1 = x.1 ∧ y.2.1 = x.2.1 ∧ (y.2.2 = x.2.2 ∨ y.2.2 = v)) ∨ y = (k, kv, v)) →
      Q () { s with heap := h', toks := s.toks + k.draws }) :
    wpAny (model prog w) A (dictSet d kv v) Q E s := by
  obtain ⟨o, es, ep, ho, hc, hd, he, hn⟩ := hb
  unfold dictSet
  try with_reducible refine wpAny_holding ?_
  refine wpAny_bind (pyHash_key k kv A s _ hk (by omega) ?_)
  unfold dictSetHashed
  try with_reducible refine wpAny_holding ?_
  refine wpAny_bind (find_bits (s := { s with toks := s.toks + k.draws }) hu hk hkd hns ho hd he his hn ?_ ?_)
  · intro hno
    have hes := es_size he
    refine wpAny_bind (wpAny_rule (wpAny_updateDictKeys (hz := by omega) (s := { s with toks := s.toks + k.draws }) ho hd (hQ _ (xs ++ [(k, kv, v)]) ⟨_, _, ep + 1, Heap.get?_update_self _ ho (Obj.isFreed_of_dict (Obj.data_mapDictKeys hd _)),
      hc.mapDictKeys _, Obj.data_mapDictKeys hd _, ?_, ?_⟩ (Heap.SameBut.update ..) (by simp) fun y hy => ?_)))
    · simp [he, entB]
    · rw [List.map_append, List.nodup_append]
      refine ⟨hn, by simp, fun a ha b hb e => ?_⟩
      obtain ⟨x, hx, rfl⟩ := List.mem_map.mp ha
      obtain ⟨j, hj⟩ := List.mem_iff_getElem?.mp hx
      exact hno j x hj (e.trans (List.mem_singleton.mp hb))
    · rcases List.mem_append.mp hy with hy | hy
      · exact .inl ⟨y, hy, rfl, rfl, .inl rfl⟩
      · exact .inr (List.mem_singleton.mp hy)
  · intro j x hj e
    refine wpAny_bind (wpAny_rule (wpAny_bind (wpAny_updateDict (s := { s with toks := s.toks + k.draws }) ho hd (wpAny_point (hQ _ (xs.modify j fun y => (y.1, y.2.1, v)) ⟨_, _, ep, Heap.get?_update_self _ ho (Obj.isFreed_of_dict (Obj.data_mapDict hd _)),
      hc.mapDict _, Obj.data_mapDict hd _, ?_, ?_⟩ (Heap.SameBut.update ..) (by simp) fun y hy => ?_)))))
    · have e1 : (xs.modify j fun y => (y.1, y.2.1, v)).map (entB w) = (xs.map (entB w)).modify j fun e => { e with val := v } := by
        apply List.ext_getElem?
        intro i
        rw [List.getElem?_map, List.getElem?_modify, List.getElem?_modify, List.getElem?_map]
        cases xs[i]? with
        | none => rfl
        | some y => by_cases hji : j = i <;> simp [hji, entB]
      rw [e1, ← he]
      obtain ⟨l⟩ := es
      simp
    · have e1 : (xs.modify j fun y => (y.1, y.2.1, v)).map (·.1) = xs.map (·.1) := by
        apply List.ext_getElem?
        intro i
        rw [List.getElem?_map, List.getElem?_modify, List.getElem?_map]
        cases xs[i]? with
        | none => rfl
        | some y => by_cases hji : j = i <;> simp [hji]
      rw [e1]
      exact hn
    · obtain ⟨i, hi⟩ := List.mem_iff_getElem?.mp hy
      rw [List.getElem?_modify] at hi
      cases hx : xs[i]? with
      | none => rw [hx] at hi; cases hi
      | some x =>
        rw [hx] at hi
        refine .inl ⟨x, List.mem_of_getElem? hx, ?_⟩
        by_cases hji : j = i
        · simp [hji] at hi
          rw [← hi]
          exact ⟨rfl, rfl, .inr rfl⟩
        · simp [hji] at hi
          rw [← hi]
          exact ⟨rfl, rfl, .inl rfl⟩
end

/-! ### over the layer -/
def bitsO (w : World) (p : Addr) (xs : List En) : HO := .ext fun h => BitsRaw w h p xs
/-- a key of the two kinds, with the value that stands for it -/
def KeyV (H : Hp) (k : NestedKey) (kv : Value) : Prop :=
  (∃ i t, k = .num i ∧ kv = .int i t) ∨ ∃ (T : Addr) (a b : Int) (c : Str), k = .tup [.num a, .num b, .text c] ∧ kv = .ref T ∧ H T = some (.tup [.int a, .int b, .str c])
def BitsAt (w : World) (H : Hp) (d : Addr) (n : Nat) : Prop :=
  (d == sysModules) = false ∧ ∃ xs : List En, xs.length ≤ n ∧ H d = some (bitsO w d xs) ∧ ∀ x ∈ xs, KeyV H x.1 x.2.1 ∧ ∃ i t, x.2.2 = .int i t
/-- a value that may be a key -/
def KeyOk (H : Hp) (y : V) : Prop := (∃ i, y = .int i) ∨ ∃ (T : Addr) (a b : Int) (c : Str), y = .ref T ∧ H T = some (.tup [.int a, .int b, .str c])
theorem KeyV.keep {H H' : Hp} {k : NestedKey} {kv : Value} (h : KeyV H k kv) (ht : ∀ b xs, H b = some (.tup xs) → H' b = some (.tup xs)) : KeyV H' k kv := by
  rcases h with h | ⟨T, a, b, c, h1, h2, h3⟩
  · exact .inl h
  · exact .inr ⟨T, a, b, c, h1, h2, ht _ _ h3⟩
theorem BitsAt.keep {w : World} {H H' : Hp} {d : Addr} {n m : Nat} (h : BitsAt w H d n) (hd : H' d = H d) (ht : ∀ b xs, H b = some (.tup xs) → H' b = some (.tup xs)) (hm : n ≤ m := by omega) : BitsAt w H' d m := by
  obtain ⟨h0, xs, h1, h2, h3⟩ := h
  exact ⟨h0, xs, Nat.le_trans h1 hm, hd.trans h2, fun x hx => ⟨(h3 x hx).1.keep ht, (h3 x hx).2⟩⟩
theorem BitsAt.same {w : World} {H H' : Hp} {d : Addr} {n : Nat} (h : BitsAt w H d n) (s : Same H H') : BitsAt w H' d n := by
  obtain ⟨h0, xs, h1, h2, h3⟩ := h
  exact ⟨h0, xs, h1, s _ _ h2, fun x hx => ⟨(h3 x hx).1.keep fun _ _ e => s _ _ e, (h3 x hx).2⟩⟩
section
variable {X : Cx} {pins : List (Addr × Obj)} {σ : L2.St} {H : Hp} {s : Shared}
theorem KeyV.nested (I : L2.Inv X pins σ H s) {k : NestedKey} {kv : Value} (h : KeyV H k kv) : NestedIs s.heap k kv ∧ k.depth ≤ 8 ∧ ∀ z t, kv ≠ .str z t := by
  rcases h with ⟨i, t, rfl, rfl⟩ | ⟨T, a, b, c, rfl, rfl, hT⟩
  · exact ⟨.int i t, Nat.zero_le _, fun _ _ z => nomatch z⟩
  · obtain ⟨_, its, rv, o, h1, h2, n, h3⟩ := (show ObjOk X.prog X.w H s.heap T (.tup [.int a, .int b, .str c]) from I.hok T _ hT)
    refine ⟨.tup h1 h2 h3 ?_, by simp [NestedKey.depth, NestedKey.depthAll], fun _ _ z => nomatch z⟩
    cases rv with
    | cons r1 rv =>
      cases rv with
      | cons r2 rv =>
        cases rv with
        | cons r3 rv =>
          cases rv
          obtain ⟨t1, rfl⟩ := r1
          obtain ⟨t2, rfl⟩ := r2
          obtain ⟨t3, rfl⟩ := r3
          exact .cons (.int a t1) (.cons (.int b t2) (.cons (.text c t3) .nil))
theorem BitsAt.heap (I : L2.Inv X pins σ H s) {d : Addr} {n : Nat} (h : BitsAt X.w H d n) :
    ∃ xs, xs.length ≤ n ∧ H d = some (bitsO X.w d xs) ∧ BitsRaw X.w s.heap d xs ∧ KeysIn s.heap xs ∧ (∀ x ∈ xs, KeyV H x.1 x.2.1 ∧ ∃ i t, x.2.2 = .int i t) ∧ s.TypeIs (.ref d) "dict" ∧ ∀ b, Value.ref d = .ref b → ∃ ob, s.heap.get? b = some ob ∧ ob.dict = none := by
  obtain ⟨_, xs, h1, h2, h3⟩ := h
  have q : BitsRaw X.w s.heap d xs := (show ObjOk X.prog X.w H s.heap d (bitsO X.w d xs) from I.hok d _ h2).1
  obtain ⟨o, es, ep, ho, hc, hd, _⟩ := id q
  refine ⟨xs, h1, h2, q, fun x hx => ⟨((h3 x hx).1.nested I).1, ((h3 x hx).1.nested I).2.1⟩, h3, ⟨o, ho, hc.1⟩, fun b e => ?_⟩
  cases e
  exact ⟨o, ho, hc.2.1⟩
theorem KeyOk.val {y : V} {u : Value} (h : KeyOk H y) (r : RelV y u) : ∃ k, KeyV H k u := by
  rcases h with ⟨i, rfl⟩ | ⟨T, a, b, c, rfl, hT⟩
  · obtain ⟨t, rfl⟩ := r
    exact ⟨.num i, .inl ⟨i, t, rfl, rfl⟩⟩
  · obtain rfl : u = Value.ref T := r
    exact ⟨_, .inr ⟨T, a, b, c, rfl, rfl, hT⟩⟩

/-- {} that is to be such a dict -/
theorem pe_dnewB {pos : Pos} : PE X (.Dict [] [] pos) (fun _ H Q => ∀ p, H p = none → (p == sysModules) = false → Q (.ref p) (upd H p (bitsO X.w p []))) := ⟨fun pins s σ H Q I h => by
  refine wpAny_Dict_empty ⟨.ref s.heap.objs.size, _, I.laid (a := s.heap.objs.size) (o := bitsO X.w s.heap.objs.size []) (t' := s.toks) (fun _ _ q => Heap.get?_push_of_some _ q) (Nat.le_refl _) ?_, rfl, h _ (I.hok.fresh (Nat.le_refl _)) ?_⟩
  · have q : (s.heap.push { cls := .type "dict", data := .dict #[] }).get? s.heap.objs.size = some { cls := .type "dict", data := .dict #[] } := Heap.get?_push_size _ rfl
    exact ⟨⟨_, #[], 0, q, ⟨rfl, rfl, rfl⟩, rfl, rfl, List.nodup_nil⟩, ⟨_, q⟩, fun h1 h2 ⟨o, es, ep, e, r⟩ k => ⟨o, es, ep, k o e, r⟩⟩
  · exact beq_eq_false_iff_ne.mpr (Nat.ne_of_gt I.big)⟩
theorem bits_new {w : World} {H : Hp} {p : Addr} (h : (p == sysModules) = false) : BitsAt w (upd H p (bitsO w p [])) p 0 := ⟨h, [], Nat.le_refl _, upd_same, fun _ hx => nomatch hx⟩

variable {o e f : Expr} {to te tx : TE} {apos cpos : Pos}
/-- o.get(e, f), the dict's values whole numbers -/
def tGetB (w : World) (to te tx : TE) : TE := fun σ H Q => to σ H fun x H1 => ∃ d n, x = .ref d ∧ BitsAt w H1 d n ∧ te σ H1 fun y H2 => tx σ H2 fun z H3 => ∃ m, BitsAt w H3 d m ∧ KeyOk H3 y ∧ (∃ i, z = .int i) ∧ ∀ i, Q (.int i) H3
theorem pe_getB (hu : X.A.units + 64 < cLine) (ho : PE X o to) (he : PE X e te) (hf : PE X f tx) (m : M2 X o "get" apos e f cpos) : PE X (.Call (.Attribute o "get" apos) [e, f] [] cpos) (tGetB X.w to te tx) := by
  refine ⟨fun pins s σ H Q I h => ?_⟩
  refine wpAny_Call_method m.base m.few m.line PySem.F.plainAttrs_dict PySem.F.slot_dict_get PySem.F.type_dict_get (thn (ho.run pins s σ H _ I h) fun u s1 ⟨x, H1, I1, rx, d, n, ex, hb, q1⟩ => ?_)
  subst ex
  obtain rfl : u = Value.ref d := rx
  obtain ⟨_, _, _, _, _, _, t1, t2⟩ := hb.heap I1
  refine ⟨t1, t2, ?_⟩
  rw [m.trees]
  refine Calls.callWith_builtin rfl (Calls.evalArgs_plain (Calls.spliced_cons (thn (he.run pins s1 σ H1 _ I1 q1) fun iv s2 ⟨y, H2, I2, ry, q2⟩ =>
    Calls.spliced_cons (thn (hf.run pins s2 σ H2 _ I2 q2) fun fv s3 ⟨z, H3, I3, rz, n3, hb3, hk, ⟨i, ez⟩, q3⟩ => Calls.spliced_nil ?_))))
  subst ez
  obtain ⟨tz, rfl⟩ := rz
  obtain ⟨k, hkv⟩ := hk.val ry
  obtain ⟨k1, k2, k3⟩ := hkv.nested I3
  obtain ⟨xs, _, _, hr, hkeys, hx, t3, _⟩ := hb3.heap I3
  refine wpAny_call_entry PySem.F.slot_dict_get t3 PySem.F.entry_dict_get ?_ (PySem.F.args_dict_get_3 _ _ _)
  show wpAny _ _ (dictGet d iv >>= _) _ _ s3
  refine wpAny_bind (get_bits (A := X.A.in1) (by show X.A.units + 1 + 8 < cLine; omega) k1 k2 k3 hr hkeys (fun _ => ?_) fun x hx1 _ => ?_)
  · show wpAny _ _ (Builtin.Dict.missed d iv >>= _) _ _ _
    exact wpAny_bind (wpAny_missed_other hb3.1 (wpAny_pure ⟨_, rfl, .int i, H3, I3.tok _, ⟨tz, rfl⟩, q3 i⟩))
  · obtain ⟨_, j, tj, ej⟩ := hx x hx1
    exact wpAny_pure ⟨_, rfl, .int j, H3, I3.tok _, ⟨tj, ej⟩, q3 j⟩
/-- d[y] = a whole number -/
def setB (w : World) : TSet := fun o y v H Q => ∃ d n, o = .ref d ∧ BitsAt w H d n ∧ n < sizeLine ∧ KeyOk H y ∧ (∃ i, v = .int i) ∧ ∀ H', BitsAt w H' d (n + 1) → (∀ b, b ≠ d → H' b = H b) → Q H'
theorem set_B (hu : X.A.units + 64 < cLine) : PSet X (setB X.w) := by
  intro pins s σ H o i v ov iv u Q I ro ri rv h
  obtain ⟨d, n, rfl, hb, hn, hk, ⟨j, rfl⟩, q⟩ := h
  obtain rfl : ov = Value.ref d := ro
  obtain ⟨tj, rfl⟩ := rv
  obtain ⟨k, hkv⟩ := hk.val ri
  obtain ⟨k1, k2, k3⟩ := hkv.nested I
  obtain ⟨xs, hl, hat, hr, hkeys, hx, t3, _⟩ := hb.heap I
  unfold setItem
  try with_reducible refine wpAny_holding ?_
  refine wpAny_bind (wpAny_sequenceKey t3 (by decide) ?_)
  refine wpAny_bind (wpAny_callSpecial?_slot (name := Str.ofString "__setitem__") t3 slot_dict_setitem
    (wpAny_call_entry slot_dict_setitem t3 entry_dict_setitem ?_ (args_dict_setitem _ _ _)))
  show wpAny _ _ (Builtin.Dict.notOrdered "__setitem__" ⟨[.ref d, iv, .int j tj], []⟩ >>= _) _ _ s
  refine wpAny_bind (wpAny_notOrdered_dict t3 ?_)
  show wpAny _ _ (dictSet d iv (.int j tj) >>= _) _ _ s
  refine wpAny_bind (set_bits (A := X.A.in1) (by show X.A.units + 1 + 8 < cLine; omega) k1 k2 k3 hr hkeys (by omega) fun h' xs' hr' sb hl' hm => wpAny_pure ⟨.none, rfl, wpAny_pure ?_⟩)
  have I2 : L2.Inv X pins σ (upd H d (bitsO X.w d xs')) { s with heap := h', toks := s.toks + k.draws } := I.write (x := d) (e := d) (o := bitsO X.w d xs') (by rw [hat]; trivial) (.inl rfl) (fun b u hb e => (sb.2 b hb).trans e)
    (let ⟨o, _, _, e, _⟩ := hr'; ⟨o, e⟩) ⟨hr', let ⟨o, _, _, e, _⟩ := hr'; ⟨o, e⟩, fun h1 h2 ⟨o, es, ep, e, r⟩ k => ⟨o, es, ep, k o e, r⟩⟩
  refine ⟨_, I2, q _ ⟨hb.1, xs', by omega, upd_same, fun y hy => ?_⟩ fun b hb => upd_ne hb⟩
  have ht : ∀ b ys, H b = some (.tup ys) → upd H d (bitsO X.w d xs') b = some (.tup ys) := fun b ys e => by
    rw [upd_ne (fun z => by rw [z, hat] at e; cases e)]
    exact e
  rcases hm y hy with ⟨x, hx1, e1, e2, e3⟩ | rfl
  · refine ⟨?_, ?_⟩
    · rw [e1, e2]
      exact (hx x hx1).1.keep ht
    · rcases e3 with e3 | e3
      · rw [e3]; exact (hx x hx1).2
      · exact ⟨j, tj, e3⟩
  · exact ⟨hkv.keep ht, j, tj, rfl⟩
end
end Cw
/-! CwTop: the text by places. -/
namespace Cw
open PySem L2
def top (i : Nat) : Stmt := PySem.Challenge.pw_crosswright_k77_workings_told.main.body.getD i (.Pass ⟨0, 0, 0, 0⟩)
abbrev sWithout : Stmt := top 7
abbrev sOfWords : Stmt := top 9
abbrev sJoined : Stmt := top 10
abbrev sWork : Stmt := top 11
abbrev sAll : Stmt := top 12
abbrev sIsWord : Stmt := top 16
abbrev sInit : Stmt := inClass (top 17) 0
abbrev sTurn : Stmt := inClass (top 17) 1
abbrev sPut : Stmt := inClass (top 17) 2
abbrev sNeed : Stmt := inClass (top 17) 3
abbrev sDrop : Stmt := inClass (top 17) 4
abbrev sWords : Stmt := inClass (top 17) 5
abbrev sHas : Stmt := inClass (top 17) 6
abbrev sCell : Stmt := top 19
abbrev sLBook : Stmt := top 20
abbrev sLAns : Stmt := top 21
abbrev sLSize : Stmt := top 22
abbrev sLBack : Stmt := top 23
abbrev sLMakes : Stmt := top 24
abbrev sLaw : Stmt := top 25
theorem scWithout : FnScope ["text", "place"] ["text", "place"] (defScope sWithout) := ⟨rfl, rfl, rfl, by decide +kernel, rfl, by decide +kernel, by decide +kernel⟩
theorem scOfWords : FnScope ["book", "answer", "found", "size", "word", "told", "place"] ["book", "answer"] (defScope sOfWords) := ⟨rfl, rfl, rfl, by decide +kernel, rfl, by decide +kernel, by decide +kernel⟩
theorem scJoined : FnScope ["book", "answer", "many", "found", "cut", "size", "others", "one", "other"] ["book", "answer", "many"] (defScope sJoined) := ⟨rfl, rfl, rfl, by decide +kernel, rfl, by decide +kernel, by decide +kernel⟩
theorem scWork : FnScope ["book", "answer", "many", "back", "found", "working"] ["book", "answer", "many"] (defScope sWork) := ⟨rfl, rfl, rfl, by decide +kernel, rfl, by decide +kernel, by decide +kernel⟩
theorem scAll : FnScope ["book", "answer", "most", "found", "many"] ["book", "answer", "most"] (defScope sAll) := ⟨rfl, rfl, rfl, by decide +kernel, rfl, by decide +kernel, by decide +kernel⟩
theorem scIsWord : FnScope ["thing", "sign"] ["thing"] (defScope sIsWord) := ⟨rfl, rfl, rfl, by decide +kernel, rfl, by decide +kernel, by decide +kernel⟩
theorem scInit : FnScope ["self"] ["self"] (defScope sInit) := ⟨rfl, rfl, rfl, by decide +kernel, rfl, by decide +kernel, by decide +kernel⟩
theorem scTurn : FnScope ["self", "word", "at", "bit", "place", "letter", "spot"] ["self", "word", "at"] (defScope sTurn) := ⟨rfl, rfl, rfl, by decide +kernel, rfl, by decide +kernel, by decide +kernel⟩
theorem scPut : FnScope ["self", "word", "worth"] ["self", "word", "worth"] (defScope sPut) := ⟨rfl, rfl, rfl, by decide +kernel, rfl, by decide +kernel, by decide +kernel⟩
theorem scNeed : FnScope ["self", "word"] ["self", "word"] (defScope sNeed) := ⟨rfl, rfl, rfl, by decide +kernel, rfl, by decide +kernel, by decide +kernel⟩
theorem scDrop : FnScope ["self", "word", "at"] ["self", "word"] (defScope sDrop) := ⟨rfl, rfl, rfl, by decide +kernel, rfl, by decide +kernel, by decide +kernel⟩
theorem scWords : FnScope ["self"] ["self"] (defScope sWords) := ⟨rfl, rfl, rfl, by decide +kernel, rfl, by decide +kernel, by decide +kernel⟩
theorem scHas : FnScope ["self", "word"] ["self", "word"] (defScope sHas) := ⟨rfl, rfl, rfl, by decide +kernel, rfl, by decide +kernel, by decide +kernel⟩
theorem scCell : FnScope ["_law_script", "_law_k"] ["_law_script", "_law_k"] (defScope sCell) := ⟨rfl, rfl, rfl, by decide +kernel, rfl, by decide +kernel, by decide +kernel⟩
theorem scLBook : FnScope ["_law_cells", "_law_number", "_law_most", "_law_letters", "_law_k", "_law_some", "_law_book_here", "_law_words", "_law_cell", "_law_word", "_law_size_here"] ["_law_cells", "_law_number", "_law_most"] (defScope sLBook) := ⟨rfl, rfl, rfl, by decide +kernel, rfl, by decide +kernel, by decide +kernel⟩
theorem scLAns : FnScope ["_law_script", "_law_words", "_law_some", "_law_number", "_law_text", "_law_at", "_law_k"] ["_law_script", "_law_words", "_law_some"] (defScope sLAns) := ⟨rfl, rfl, rfl, by decide +kernel, rfl, by decide +kernel, by decide +kernel⟩
theorem scLSize : FnScope ["_law_working"] ["_law_working"] (defScope sLSize) := ⟨rfl, rfl, rfl, by decide +kernel, rfl, by decide +kernel, by decide +kernel⟩
theorem scLBack : FnScope ["_law_text", "_law_k"] ["_law_text"] (defScope sLBack) := ⟨rfl, rfl, rfl, by decide +kernel, rfl, by decide +kernel, by decide +kernel⟩
theorem scLMakes : FnScope ["_law_working", "_law_words", "_law_first", "_law_second"] ["_law_working", "_law_words"] (defScope sLMakes) := ⟨rfl, rfl, rfl, by decide +kernel, rfl, by decide +kernel, by decide +kernel⟩
theorem scLaw : FnScope ["_law_script", "_law_number", "_law_book_here", "_law_words", "_law_some", "_law_answer_here", "_law_most", "_law_got", "_law_met", "_law_working"] ["_law_script"] (defScope sLaw) := ⟨rfl, rfl, rfl, by decide +kernel, rfl, by decide +kernel, by decide +kernel⟩
end Cw
/-! CwBook: is_word and the methods of Book. -/
namespace Cw
open PySem L2 TL

theorem sz {n : Nat} (h : n ≤ 16777216) : n ≤ sizeLine := by rw [sizeLine_eq]; exact h
theorem szlt {n : Nat} (h : n < 16777216) : n < sizeLine := by rw [sizeLine_eq]; exact h
theorem same_new {H : Hp} {p : Addr} (h : H p = none) (o : HO) : Same H (upd H p o) := fun b u q => by rw [upd_ne (ne_of_none q h)]; exact q

/-- no test in a comprehension -/
theorem yes {σ : L2.St} {H : Hp} {A B : Hp → Prop} (h : A H) : tYes σ H fun b H3 => if b = true then A H3 else B H3 := by
  show if true = true then A H else B H
  rw [if_pos rfl]
  exact h
/-- a comprehension over a text's signs -/
theorem lc_txt {z : Str} {g : TG} {tt : TT} {te : TE} {vs : List Nat} {σ : L2.St} {H1 : Hp} {D : Addr} {Qd : Hp → Prop} (Pv : Nat → Hp → Prop) (h0 : Pv 0 (upd H1 D (.lst [])))
    (hs : ∀ i c H, (tl z)[i]? = some c → Pv i H → g (.str ⟨#[c]⟩) (wipe σ vs) H fun σ2 H2 => wipe σ2 vs = wipe σ vs ∧ tt σ2 H2 fun b H3 =>
      if b = true then te σ2 H3 fun y H4 => ∃ acc, H4 D = some (.lst acc) ∧ acc.length < sizeLine ∧ Pv (i + 1) (upd H4 D (.lst (acc ++ [y]))) else Pv (i + 1) H3) (hd : ∀ H, Pv z.length H → Qd H) :
    ∃ W : Nat → Nat → Hp → Prop, (∃ m, W 0 m (upd H1 D (.lst []))) ∧ ∀ i m H, W i m H →
      ((Its z).stop i H ∧ Qd H) ∨ ((Its z).go i H ∧ ∃ Nx : Hp → Prop, (∀ H', Nx H' → ∃ m', m' < m ∧ W (i + 1) m' H') ∧ ∀ x H', (Its z).yld i H x H' → g x (wipe σ vs) H' fun σ2 H2 => wipe σ2 vs = wipe σ vs ∧ tt σ2 H2 fun b H3 =>
        if b = true then te σ2 H3 fun y H4 => ∃ acc, H4 D = some (.lst acc) ∧ acc.length < sizeLine ∧ Nx (upd H4 D (.lst (acc ++ [y]))) else Nx H3) := by
  refine ⟨fun i m H => m = z.length - i ∧ i ≤ z.length ∧ Pv i H, ⟨_, rfl, Nat.zero_le _, h0⟩, ?_⟩
  rintro i m H ⟨rfl, hi, p⟩
  by_cases hlt : i < z.length
  · refine .inr ⟨hlt, Pv (i + 1), fun H' p' => ⟨z.length - (i + 1), by omega, rfl, hlt, p'⟩, fun x H' y => ?_⟩
    obtain ⟨rfl, c, hc, rfl⟩ := y
    exact hs i c _ (by rw [← hc]; exact Array.getElem?_toList) p
  · have e : i = z.length := by omega
    subst e
    exact .inl ⟨Nat.le_refl _, hd H p⟩

/-! ### what the top has written -/
def lowText : Str := "abcdefghijklmnopqrstuvwxyz"
theorem tl_low : tl lowText = [97, 98, 99, 100, 101, 102, 103, 104, 105, 106, 107, 108, 109, 110, 111, 112, 113, 114, 115, 116, 117, 118, 119, 120, 121, 122] := by
  unfold lowText
  rw [tl_ofString]
  decide +kernel
theorem mem_low {c : Nat} : c ∈ tl lowText ↔ 97 ≤ c ∧ c ≤ 122 := by
  rw [tl_low]
  constructor
  · intro h
    simp at h
    omega
  · rintro ⟨h1, h2⟩
    simp
    omega
structure Txt (K : PySem.W.Frag) (mg : Str → Option Value) (C : Addr) : Prop where
  cl : Cls K C
  nW : NoAttr K C "worths"
  nR : NoAttr K C "row"
  nB : NoAttr K C "bits"
  mgC : mg "Book" = some (.ref C)
  len : mg "len" = none
  isi : mg "isinstance" = none
  tstr : mg "str" = none
  tlist : mg "list" = none
  ttup : mg "tuple" = none
  all : mg "all" = none
  enm : mg "enumerate" = none
  srt : mg "sorted" = none
  rev : mg "reversed" = none
  rng : mg "range" = none
  rpr : mg "repr" = none
  letters : ∃ t, mg "LETTERS" = some (.str lowText t)
  longest : ∃ t, mg "LONGEST" = some (.int 9 t)

section
variable {P : Program} {w : World} {K : PySem.W.Frag} {mg : Str → Option Value} {base : Heap}
/-- a def with defaults, by its body -/
theorem dOk {x qual : Str} {st : Stmt} {dvs : List V} {f : Addr} {fd : FuncData} {N ps : List Str} {k : Nat} {sp : Sp} (F : FunD K x qual (defArgs st) (defBody st) (defScope st) dvs [] f fd) (S : FnScope N ps (defScope st)) (len : ∀ vs H Q E, sp vs H Q E → vs.length = ps.length)
    (body : ∀ (cdv : Value) (A : Around) (outer : List Env) (s : Shared) (H : Hp) (vs : List V) (Q : VK) (E : XK), Room k (A.deeper (PyProof.Rows.envOfC qual (defScope st) s.heap.objs.size f cdv)) → sp vs H Q E →
      ∃ t, PSs (cxOf CX0 P w K mg base N qual (defScope st) f cdv A outer s H E).nox (defBody st) t ∧ t { nx := fun _ H' => Q .non H', rt := Q } (start N vs) H) : FnOk P w K mg base CX0 (k + 1) f fd ps sp :=
  F.ok S len fun cdv A outer s H vs Q E hr h => by
    obtain ⟨t, h1, h2⟩ := body cdv A outer s H vs Q E hr h
    exact ⟨t, h1.nox, h2⟩
/-! ### is_word -/
def spIsWord : Sp := fun vs H Q _ => ∃ z : Str, vs = [.str z] ∧ Low z ∧ 2 ≤ z.length ∧ z.length ≤ 9 ∧ ∀ H', Same H H' → Q (.bl true) H'
theorem ok_isWord {f C : Addr} {fd : FuncData} (F : Fun K "is_word" "is_word" sIsWord f fd) (T : Txt K mg C) : FnOk P w K mg base CX0 1 f fd ["thing"] spIsWord := by
  refine F.ok scIsWord (fun vs H Q E h => ?_) (fun cdv A outer s H vs Q E hr h => ?_)
  · obtain ⟨z, rfl, _⟩ := h
    rfl
  · obtain ⟨z, rfl, low, h2, h9, k⟩ := h
    obtain ⟨t1, mL⟩ := T.letters
    obtain ⟨t2, mN⟩ := T.longest
    refine ⟨_, pss_cons (ps_if (PW.pt (pw_or (pt_not (pt_val (pe_callB call_isi rfl T.isi (by decide +kernel) (pa_cons (pv 0) (pa_cons (pe_bltn rfl T.tstr (by decide +kernel) (v := .ty "str") rfl) pa_nil)))))
        (pw_or1 (pt_not (pt_chain op_le op_le pe_int (pe_callB call_len_str rfl T.len PySem.boot_len (pa_cons (pv 0) pa_nil)) (pe_glob rfl mN (v := .int 9) ⟨_, rfl⟩))))))
        (pss_one (ps_ret pe_bl)) pss_nil)
      (pss_one (ps_ret (pe_callB (cr_all rfl) rfl T.all (by decide +kernel) (pa_cons (pe_lc (own := [("sign", 1)]) (g := gName 1) (tt := tYes) rfl scIsWord.nd (pi_str (pv 0)) (blkOk_by (own := [("sign", 1)]) (N := ["thing", "sign"]) (sc := defScope sIsWord) (by decide +kernel))
        (fun _ _ _ _ _ => pg_name (i := 1) scIsWord.nd rfl (Or.inl rfl)) (fun _ _ _ _ _ => pts_nil) (fun _ _ _ _ _ => pe_cmpR op_in_sign (pv 1) (pe_glob rfl mL (v := .str lowText) ⟨_, rfl⟩) rfl)) pa_nil)))), ?_⟩
    have hz : z.length ≤ sizeLine := sz (by omega)
    -- isinstance(thing, str); 2 <= len(thing) <= LONGEST
    refine ⟨_, rfl, _, _, .type "str", .type "str", true, rfl, .ty "str", .base (.str z), kit_ty (by decide +kernel), _, rfl, ?_⟩
    refine iteF ?_
    refine ⟨_, rfl, z, rfl, hz, _, _, rfl, rfl, _, rfl, ?_⟩
    have e1 : decide ((2 : Int) ≤ ((z.length : Nat) : Int)) = true := decide_eq_true (by omega)
    have e2 : decide (((z.length : Nat) : Int) ≤ (9 : Int)) = true := decide_eq_true (by omega)
    rw [e1]
    refine iteT ?_
    refine ⟨_, _, rfl, rfl, _, rfl, ?_⟩
    rw [e2]
    refine iteF ?_
    -- all([sign in LETTERS for sign in thing])
    refine ⟨_, rfl, z, rfl, fun D hD => ?_⟩
    refine lc_txt (fun i H' => Same H H' ∧ H' D = some (.lst (List.replicate i (.bl true)))) ⟨same_new hD _, upd_same⟩ ?_ ?_
    · rintro i c H1 hc ⟨s1, e3⟩
      have cl := low c (List.mem_of_getElem? hc)
      have il : i < z.length := (List.getElem?_eq_some_iff.mp hc).1
      refine ⟨rfl, ?_⟩
      refine yes ?_
      refine ⟨_, rfl, c, lowText, rfl, rfl, ?_⟩
      have e4 : decide (c ∈ lowText.cps.toList) = true := decide_eq_true (mem_low.mpr cl)
      rw [e4]
      refine ⟨_, e3, by rw [List.length_replicate]; exact szlt (by omega), ?_, ?_⟩
      · intro b o e
        have ne : b ≠ D := fun e' => by rw [e', hD] at e; cases e
        rw [upd_ne ne]
        exact s1 b o e
      · rw [upd_same, List.replicate_succ']
    · rintro H1 ⟨s1, e3⟩
      refine ⟨D, List.replicate z.length true, rfl, SqL.of (by rw [e3, List.map_replicate]), ?_⟩
      have e5 : (List.replicate z.length true).all id = true := List.all_eq_true.mpr fun b hb => by
        rw [(List.mem_replicate.mp hb).2]
        rfl
      rw [e5]
      exact k H1 s1

/-! ### a book between two calls -/
end
structure Bk where
  p : Addr
  dx : Addr
  dw : Addr
  dr : Addr
  db : Addr
def bfl (B : Bk) : List (Str × V) := [("worths", .ref B.dw), ("row", .ref B.dr), ("bits", .ref B.db)]
theorem n1 : (("row" : Str) == "worths") = false := by decide +kernel
theorem n2 : (("bits" : Str) == "worths") = false := by decide +kernel
theorem n3 : (("bits" : Str) == "row") = false := by decide +kernel
theorem m1 : ¬ (("worths" : Str) = "row") := by decide +kernel
theorem m2 : ¬ (("worths" : Str) = "bits") := by decide +kernel
theorem m3 : ¬ (("row" : Str) = "bits") := by decide +kernel
theorem lkW (B : Bk) : (bfl B).lookup ("worths" : Str) = some (.ref B.dw) := by simp [bfl, List.lookup]
theorem lkR (B : Bk) : (bfl B).lookup ("row" : Str) = some (.ref B.dr) := by simp [bfl, List.lookup, n1]
theorem lkB (B : Bk) : (bfl B).lookup ("bits" : Str) = some (.ref B.db) := by simp [bfl, List.lookup, n2, n3]
theorem lkNo (B : Bk) {m : Str} (h1 : (m == "worths") = false) (h2 : (m == "row") = false) (h3 : (m == "bits") = false) : (bfl B).lookup m = none := by simp [bfl, List.lookup, h1, h2, h3]
theorem bfl_put (B : Bk) : putF "bits" (.ref B.db) (putF "row" (.ref B.dr) (putF "worths" (.ref B.dw) [])) = bfl B := by
  simp [putF, m1, m2, m3, bfl]
structure BookAt (w : World) (C : Addr) (H : Hp) (B : Bk) (ws : List Str) (n : Nat) : Prop where
  ob : H B.p = some (.ins C B.dx (bfl B))
  dc : ∃ kvs : List (Key × V), H B.dw = some (.dK kvs) ∧ kvs.map (·.1) = ws.map Sum.inr
  row : ∃ rs : List Str, H B.dr = some (.lst (rs.map V.str)) ∧ (∀ z ∈ ws, z ∈ rs) ∧ rs.length ≤ n
  bt : BitsAt w H B.db (5 * n)
/-- all but the book's own three -/
def Keeps (B : Bk) (H H' : Hp) : Prop := ∀ b o, H b = some o → b ≠ B.dw → b ≠ B.dr → b ≠ B.db → H' b = some o
theorem BookAt.same {w : World} {C : Addr} {H H' : Hp} {B : Bk} {ws : List Str} {n : Nat} (h : BookAt w C H B ws n) (s : Same H H') : BookAt w C H' B ws n := by
  obtain ⟨h1, ⟨kvs, h2, h3⟩, ⟨rs, h4, h5⟩, h6⟩ := h
  exact ⟨s _ _ h1, ⟨kvs, s _ _ h2, h3⟩, ⟨rs, s _ _ h4, h5⟩, h6.same s⟩
section
variable {P : Program} {w : World} {K : PySem.W.Frag} {mg : Str → Option Value} {base : Heap}
/-! ### Book.__init__ -/
def spInit (w : World) (C : Addr) : Sp := fun vs H Q _ => ∃ (p dx : Addr), vs = [.ref p] ∧ H p = some (.ins C dx []) ∧
  ∀ (B : Bk) (H' : Hp), B.p = p → H B.dw = none → H B.dr = none → H B.db = none → BookAt w C H' B [] 0 → (∀ b o, H b = some o → b ≠ p → H' b = some o) → Q .non H'
theorem ok_init {f C : Addr} {fd : FuncData} (F : Fun K "__init__" "Book.__init__" sInit f fd) (T : Txt K mg C) : FnOk P w K mg base CX0 1 f fd ["self"] (spInit w C) := by
  refine F.ok scInit (fun vs H Q E h => ?_) (fun cdv A outer s H vs Q E hr h => ?_)
  · obtain ⟨p, dx, rfl, _⟩ := h
    rfl
  · obtain ⟨p, dx, rfl, hp, k⟩ := h
    refine ⟨_, pss_cons (ps_fld (pv 0) pe_dnewK rfl) (pss_cons (ps_fld (pv 0) (pe_lst pa_nil) rfl) (pss_one (ps_fld (pv 0) pe_dnewB rfl))), ?_⟩
    intro dw hdw
    have pw : p ≠ dw := ne_of_none hp hdw
    refine ⟨_, rfl, p, C, dx, [], rfl, (by rw [upd_ne pw]; exact hp), T.cl, T.nW, (by show 0 < 1000; decide), ?_⟩
    refine ⟨sz (by decide), fun dr hdr => ?_⟩
    have rp : dr ≠ p := fun e => by rw [e, upd_same] at hdr; cases hdr
    have rw' : dr ≠ dw := fun e => by rw [e, upd_ne pw.symm, upd_same] at hdr; cases hdr
    refine ⟨_, rfl, p, C, dx, _, rfl, (by rw [upd_ne rp.symm]; exact upd_same), T.cl, T.nR, (by show 1 < 1000; decide), ?_⟩
    intro db hdb hsys
    have bp : db ≠ p := fun e => by rw [e, upd_same] at hdb; cases hdb
    have br : db ≠ dr := fun e => by rw [e, upd_ne rp, upd_same] at hdb; cases hdb
    have bw : db ≠ dw := fun e => by rw [e, upd_ne pw.symm, upd_ne rw'.symm, upd_ne pw.symm, upd_same] at hdb; cases hdb
    refine ⟨_, rfl, p, C, dx, _, rfl, (by rw [upd_ne bp.symm]; exact upd_same), T.cl, T.nB, (by show 2 < 1000; decide), ?_⟩
    have hdr0 : H dr = none := by
      rw [upd_ne rp, upd_ne rw'] at hdr
      exact hdr
    have hdb0 : H db = none := by
      rw [upd_ne bp, upd_ne br, upd_ne bp, upd_ne bw] at hdb
      exact hdb
    refine k ⟨p, dx, dw, dr, db⟩ _ rfl hdw hdr0 hdb0 ⟨?_, ⟨[], ?_, rfl⟩, ⟨[], ?_, (fun _ hz => absurd hz List.not_mem_nil), Nat.le_refl _⟩, ?_⟩ fun b o e hb => ?_
    · rw [upd_same]
      exact congrArg (fun l => some (HO.ins C dx l)) (bfl_put ⟨p, dx, dw, dr, db⟩)
    · show _ = some (HO.dK [])
      rw [upd_ne pw.symm, upd_ne bw.symm, upd_ne pw.symm, upd_ne rw'.symm, upd_ne pw.symm, upd_same]
    · show _ = some (HO.lst [])
      rw [upd_ne rp, upd_ne br.symm, upd_ne rp, upd_same]
    · refine (bits_new (w := w) (H := upd (upd (upd (upd H dw (.dK [])) p (.ins C dx (putF "worths" (.ref dw) []))) dr (.lst [])) p (.ins C dx (putF "row" (.ref dr) (putF "worths" (.ref dw) [])))) hsys).keep (upd_ne bp) (fun b ys e => ?_) (Nat.zero_le _)
      rw [upd_ne (fun z => by rw [z, upd_ne bp.symm, upd_same] at e; cases e)]
      exact e
    · rw [upd_ne hb, upd_ne (ne_of_none e hdb0), upd_ne hb, upd_ne (ne_of_none e hdr0), upd_ne hb, upd_ne (ne_of_none e hdw)]
      exact e

/-! ### Book.turn_bits -/
def spTurn (w : World) (C : Addr) : Sp := fun vs H Q _ => ∃ (p dx db : Addr) (fs : List (Str × V)) (z : Str) (a : Nat) (m : Nat), vs = [.ref p, .str z, .int (a : Int)] ∧ H p = some (.ins C dx fs) ∧ fs.lookup ("bits" : Str) = some (.ref db) ∧ BitsAt w H db m ∧
  a ≤ 1000 ∧ z.length ≤ 4 ∧ m ≤ 10000 ∧ ∀ H', BitsAt w H' db (m + 5) → (∀ b o, H b = some o → b ≠ db → H' b = some o) → Q .non H'
theorem ok_turn {f C : Addr} {fd : FuncData} (F : Fun K "turn_bits" "Book.turn_bits" sTurn f fd) (T : Txt K mg C) : FnOk P w K mg base CX0 1 f fd ["self", "word", "at"] (spTurn w C) := by
  refine F.ok scTurn (fun vs H Q E h => ?_) (fun cdv A outer s H vs Q E hr h => ?_)
  · obtain ⟨p, dx, db, fs, z, a, m, rfl, _⟩ := h
    rfl
  · obtain ⟨p, dx, db, fs, z, a, m, rfl, hp, hl, hb, ha, hz, hm, k⟩ := h
    have hu := hr.units
    refine ⟨_, pss_cons (ps_set (i := 3) scTurn.nd rfl (Or.inl rfl) (pe_op op_shl pe_int (pv 2)))
      (pss_cons (ps_asg (pe_op op_xor (pe_getB hu (pe_fld (pv 0) rfl) (pe_callB call_len_str rfl T.len PySem.boot_len (pa_cons (pv 1) pa_nil)) pe_int ⟨rfl, rfl, rfl, rfl⟩) (pv 3))
        (pg_sub (pe_fld (pv 0) rfl) (pe_callB call_len_str rfl T.len PySem.boot_len (pa_cons (pv 1) pa_nil)) (set_B hu)))
      (pss_one (ps_for PassesOwn.never rfl (pi_enumS rfl T.enm (pa_cons (pv 1) pa_nil)) (pg_tup rfl (pgs_cons (pg_name (i := 4) scTurn.nd rfl (Or.inl rfl)) (pgs_cons (pg_name (i := 5) scTurn.nd rfl (Or.inl rfl)) pgs_nil)))
        (pss_cons (ps_set (i := 6) scTurn.nd rfl (Or.inl rfl) (pe_tup (pa_cons (pe_callB call_len_str rfl T.len PySem.boot_len (pa_cons (pv 1) pa_nil)) (pa_cons (pv 4) (pa_cons (pv 5) pa_nil)))))
        (pss_one (ps_asg (pe_op op_xor (pe_getB hu (pe_fld (pv 0) rfl) (pv 6) pe_int ⟨rfl, rfl, rfl, rfl⟩) (pv 3))
          (pg_sub (pe_fld (pv 0) rfl) (pv 6) (set_B hu)))))))), ?_⟩
    have hz' : z.length ≤ sizeLine := sz (by omega)
    have pb : p ≠ db := fun e => by
      obtain ⟨_, xs, _, h2, _⟩ := hb
      rw [e, h2] at hp
      cases hp
    -- bit = 1 << at
    refine ⟨_, rfl, 1, (a : Int), rfl, rfl, ⟨by omega, by omega, by decide⟩, ?_⟩
    -- self.bits[len(word)] = self.bits.get(len(word), 0) ^ bit
    refine ⟨_, rfl, p, C, dx, fs, _, rfl, hp, T.cl, T.nB, hl, db, m, rfl, hb, _, rfl, z, rfl, hz', m, hb, .inl ⟨_, rfl⟩, ⟨0, rfl⟩, fun j => ?_⟩
    refine ⟨_, rfl, j, _, rfl, rfl, _, rfl, p, C, dx, fs, _, rfl, hp, T.cl, T.nB, hl, _, rfl, z, rfl, hz', db, m, rfl, hb, szlt (by omega), .inl ⟨_, rfl⟩, ⟨_, rfl⟩, fun H1 hb1 k1 => ?_⟩
    -- for place, letter in enumerate(word)
    refine ⟨_, rfl, z, rfl, for_enumS (fun i σ H' => ∃ v4 v5 v6 : Option V, σ = [some (.ref p), some (.str z), some (.int (a : Int)), some (.int (1 * 2 ^ (a : Int).toNat)), v4, v5, v6] ∧ BitsAt w H' db (m + 1 + i) ∧
      ∀ b o, H b = some o → b ≠ db → H' b = some o) ⟨none, none, none, rfl, hb1, fun b o e n => by rw [k1 b n]; exact e⟩ ?_ ?_⟩
    · rintro i c Tp σ H2 hc nT ⟨v4, v5, v6, rfl, hb2, k2⟩
      have il : i < z.length := (List.getElem?_eq_some_iff.mp hc).1
      have k3 : Same H2 (upd H2 Tp (.tup [.int (i : Nat), .str ⟨#[c]⟩])) := same_new nT _
      refine ⟨Tp, _, rfl, SqT.of upd_same, rfl, _, _, rfl, _, _, rfl, rfl, ?_⟩
      -- spot = (len(word), place, letter)
      refine ⟨_, rfl, z, rfl, hz', _, rfl, _, rfl, (by show 3 ≤ sizeLine; exact sz (by decide)), fun S nS => ?_⟩
      have k4 := k3.trans (same_new nS (.tup [.int (z.length : Nat), .int (i : Nat), .str ⟨#[c]⟩]))
      have hb3 := hb2.same k4
      have hp3 := k4 _ _ (k2 _ _ hp pb)
      have key : KeyOk (upd (upd H2 Tp (.tup [.int (i : Nat), .str ⟨#[c]⟩])) S (.tup [.int (z.length : Nat), .int (i : Nat), .str ⟨#[c]⟩])) (.ref S) := .inr ⟨S, _, _, _, rfl, upd_same⟩
      refine ⟨_, rfl, p, C, dx, fs, _, rfl, hp3, T.cl, T.nB, hl, db, _, rfl, hb3, _, rfl, _, hb3, key, ⟨0, rfl⟩, fun j2 => ?_⟩
      refine ⟨_, rfl, j2, _, rfl, rfl, _, rfl, p, C, dx, fs, _, rfl, hp3, T.cl, T.nB, hl, _, rfl, db, _, rfl, hb3, szlt (by omega), key, ⟨_, rfl⟩, fun H4 hb4 k5 => ?_⟩
      refine ⟨_, _, _, rfl, hb4, fun b o e n => ?_⟩
      rw [k5 b n]
      exact k4 _ _ (k2 _ _ e n)
    · rintro σ H2 ⟨v4, v5, v6, rfl, hb2, k2⟩
      exact k H2 (hb2.keep rfl (fun _ _ e => e) (by omega)) k2

/-! ### a dict with text keys and the words it holds -/
theorem has_word {kvs : List (Key × V)} {ws : List Str} (e : kvs.map (·.1) = ws.map Sum.inr) (z : Str) : (valV kvs (Sum.inr z : Key)).isSome = decide (z ∈ ws) := by
  by_cases h : z ∈ ws
  · have m : (Sum.inr z : Key) ∈ kvs.map (·.1) := by rw [e]; exact List.mem_map.mpr ⟨z, h, rfl⟩
    cases q : valV kvs (Sum.inr z : Key) with
    | some v => simp [h]
    | none => exact absurd m (valV_not q)
  · cases q : valV kvs (Sum.inr z : Key) with
    | some v =>
      have m := valV_in q
      rw [e] at m
      obtain ⟨y, hy, ey⟩ := List.mem_map.mp m
      exact absurd (Sum.inr.inj ey ▸ hy) h
    | none => simp [h]
/-! ### Book.put -/
def spPut (w : World) (C : Addr) : Sp := fun vs H Q _ => ∃ (B : Bk) (ws : List Str) (n : Nat) (z : Str) (v : Int), vs = [.ref B.p, .str z, .int v] ∧ BookAt w C H B ws n ∧ Low z ∧ 2 ≤ z.length ∧ z.length ≤ 4 ∧ z ∉ ws ∧ ws.length ≤ 100 ∧ n ≤ 1000 ∧
  ∀ H', BookAt w C H' B (ws ++ [z]) (n + 1) → Keeps B H H' → Q .non H'
theorem bk_ne {w : World} {C : Addr} {H : Hp} {B : Bk} {ws : List Str} {n : Nat} (h : BookAt w C H B ws n) : B.p ≠ B.dw ∧ B.p ≠ B.dr ∧ B.p ≠ B.db ∧ B.dw ≠ B.dr ∧ B.dw ≠ B.db ∧ B.dr ≠ B.db := by
  obtain ⟨h1, ⟨kvs, h2, _⟩, ⟨rs, h4, _⟩, ⟨_, xs, _, h6, _⟩⟩ := h
  refine ⟨ne_of h1 h2 (fun z => nomatch z), ne_of h1 h4 (fun z => nomatch z), ne_of h1 h6 (fun z => nomatch z), ne_of h2 h4 (fun z => nomatch z), ne_of h2 h6 (fun z => nomatch z), ne_of h4 h6 (fun z => nomatch z)⟩
theorem ok_put {f fW fT C : Addr} {fd fdW fdT : FuncData} (F : FunD K "put" "Book.put" (defArgs sPut) (defBody sPut) (defScope sPut) [.int 0] [] f fd) (T : Txt K mg C) (GW : FnOk P w K mg base CX0 1 fW fdW ["thing"] spIsWord) (bW : Binds K fdW ["thing"] []) (kW : PySem.W.keepIn K (.ref fW) = true) (mW : mg "is_word" = some (.ref fW))
    (GT : FnOk P w K mg base CX0 1 fT fdT ["self", "word", "at"] (spTurn w C)) (bT : Binds K fdT ["self", "word", "at"] []) (mT : Meth K C "turn_bits" fT) : FnOk P w K mg base CX0 2 f fd ["self", "word", "worth"] (spPut w C) := by
  refine dOk F scPut (fun vs H Q E h => ?_) (fun cdv A outer s H vs Q E hr h => ?_)
  · obtain ⟨B, ws, n, z, v, rfl, _⟩ := h
    rfl
  · obtain ⟨B, ws, n, z, v, rfl, b, low, h2, h4, hno, hw, hn, k⟩ := h
    have hu := hu_of hr
    refine ⟨_, pss_cons (ps_if (pt_not (pt_val (pe_call GW hr rfl mW kW bW .nil pass0 (pa_cons (pv 1) pa_nil)))) (pss_one ps_never) pss_nil)
      (pss_cons (ps_if (pt_cmp (pc_din hu (pv 1) (pe_fld (pv 0) rfl))) (pss_one ps_never) pss_nil)
      (pss_cons (ps_dput hu (pe_fld (pv 0) rfl) (pv 1) (pv 2) rfl)
      (pss_cons (ps_expr (pe_meth (pv 0) T.cl mT GT hr bT .nil pass0 (pa_cons (pv 1) (pa_cons (pe_callB call_len_seq rfl T.len PySem.boot_len (pa_cons (pe_fld (pv 0) rfl) pa_nil)) pa_nil))))
      (pss_one (ps_expr (pe_bm PySem.F.plainAttrs_list PySem.F.slot_list_append PySem.F.type_list_append mt_append (pe_fld (pv 0) rfl) (pa_cons (pv 1) pa_nil))))))), ?_⟩
    -- is_word(word)
    refine ⟨_, rfl, z, rfl, low, h2, by omega, fun H1 s1 => ⟨true, rfl, iteF ?_⟩⟩
    have b1 := b.same s1
    obtain ⟨e1, e2, e3, e4, e5, e6⟩ := bk_ne b1
    obtain ⟨ob, ⟨kvs, hd, hk⟩, ⟨rs, hrw, hin, hrl⟩, bt⟩ := id b1
    -- word in self.worths
    refine ⟨_, rfl, _, rfl, B.p, C, B.dx, _, _, rfl, ob, T.cl, T.nW, lkW B, B.dw, _, rfl, DGet.k (k := Sum.inr z) hd, _, rfl, ?_⟩
    rw [has_word hk z, decide_eq_false hno]
    refine iteF ?_
    have kl : kvs.length = ws.length := by
      have e := congrArg List.length hk
      rw [List.length_map, List.length_map] at e
      exact e
    -- self.worths[word] = worth
    refine ⟨_, rfl, _, rfl, B.p, C, B.dx, _, _, rfl, ob, T.cl, T.nW, lkW B, _, rfl, B.dw, _, rfl, DPut.k (k := Sum.inr z) hd (szlt (by omega)), ?_⟩
    have d1 : ∀ b o, b ≠ B.dw → H1 b = some o → (upd H1 B.dw (.dK (putK kvs (Sum.inr z) (.int v)))) b = some o := fun b o n e => by rw [upd_ne n]; exact e
    have bt2 := bt.keep (H' := upd H1 B.dw (.dK (putK kvs (Sum.inr z) (.int v)))) (upd_ne e5.symm) (fun b ys e => d1 b _ (fun z => by rw [z, hd] at e; cases e) e) (Nat.le_refl _)
    -- self.turn_bits(word, len(self.row))
    refine ⟨_, rfl, B.p, B.dx, _, rfl, d1 _ _ e1 ob, lkNo B (by decide +kernel) (by decide +kernel) (by decide +kernel), _, rfl, _, rfl, B.p, C, B.dx, _, _, rfl, d1 _ _ e1 ob, T.cl, T.nR, lkR B, B.dr, _, rfl, .inl (SqL.of (d1 _ _ e4.symm hrw)), ?_⟩
    have rl : (rs.map V.str).length = rs.length := List.length_map _
    refine ⟨B.p, B.dx, B.db, _, z, (rs.map V.str).length, 5 * n, rfl, d1 _ _ e1 ob, lkB B, bt2, by omega, h4, by omega, fun H3 bt3 k3 => ?_⟩
    have ob3 := k3 _ _ (d1 _ _ e1 ob) e3
    have hrw3 := k3 _ _ (d1 _ _ e4.symm hrw) e6
    -- self.row.append(word)
    refine ⟨_, rfl, B.p, C, B.dx, _, _, rfl, ob3, T.cl, T.nR, lkR B, .inl ⟨rfl, _, SqL.of hrw3⟩, _, rfl, B.dr, _, _, rfl, rfl, hrw3, szlt (by omega), ?_⟩
    refine k _ ⟨?_, ⟨putK kvs (Sum.inr z) (.int v), ?_, ?_⟩, ⟨rs ++ [z], ?_, fun y hy => ?_, ?_⟩, ?_⟩ fun b o e w1 w2 w3 => ?_
    · rw [upd_ne e2]
      exact ob3
    · rw [upd_ne e4]
      exact k3 _ _ upd_same e5
    · have q : valV kvs (Sum.inr z : Key) = none := by
        have e := has_word hk z
        rw [decide_eq_false hno] at e
        cases q : valV kvs (Sum.inr z : Key) with
        | none => rfl
        | some _ => rw [q] at e; cases e
      rw [putK_new _ q, List.map_append, List.map_append, hk]
      rfl
    · rw [upd_same, List.map_append]
      rfl
    · rcases List.mem_append.mp hy with hy | hy
      · exact List.mem_append_left _ (hin y hy)
      · exact List.mem_append_right _ hy
    · rw [List.length_append]
      exact Nat.succ_le_succ hrl
    · refine bt3.keep (upd_ne e6.symm) (fun b ys e => ?_) (by omega)
      rw [upd_ne (fun z => by rw [z, hrw3] at e; cases e)]
      exact e
    · rw [upd_ne w2]
      exact k3 _ _ (d1 _ _ w1 (s1 _ _ e)) w3

/-! ### Book.need -/
def spNeed (w : World) (C : Addr) : Sp := fun vs H Q _ => ∃ (B : Bk) (ws : List Str) (n : Nat) (z : Str), vs = [.ref B.p, .str z] ∧ BookAt w C H B ws n ∧ Low z ∧ 2 ≤ z.length ∧ z.length ≤ 4 ∧ z ∈ ws ∧ ∀ H', Same H H' → Q .non H'
theorem ok_need {f fW C : Addr} {fd fdW : FuncData} (F : Fun K "need" "Book.need" sNeed f fd) (T : Txt K mg C) (GW : FnOk P w K mg base CX0 1 fW fdW ["thing"] spIsWord) (bW : Binds K fdW ["thing"] []) (kW : PySem.W.keepIn K (.ref fW) = true) (mW : mg "is_word" = some (.ref fW)) :
    FnOk P w K mg base CX0 2 f fd ["self", "word"] (spNeed w C) := by
  refine F.ok scNeed (fun vs H Q E h => ?_) (fun cdv A outer s H vs Q E hr h => ?_)
  · obtain ⟨B, ws, n, z, rfl, _⟩ := h
    rfl
  · obtain ⟨B, ws, n, z, rfl, b, low, h2, h4, hin, k⟩ := h
    have hu := hu_of hr
    refine ⟨_, pss_cons (ps_if (pt_not (pt_val (pe_call GW hr rfl mW kW bW .nil pass0 (pa_cons (pv 1) pa_nil)))) (pss_one ps_never) pss_nil)
      (pss_one (ps_if (pt_cmp (pc_dnotin hu (pv 1) (pe_fld (pv 0) rfl))) (pss_one ps_never) pss_nil)), ?_⟩
    refine ⟨_, rfl, z, rfl, low, h2, by omega, fun H1 s1 => ⟨true, rfl, iteF ?_⟩⟩
    obtain ⟨ob, ⟨kvs, hd, hk⟩, _, _⟩ := b.same s1
    refine ⟨_, rfl, _, rfl, B.p, C, B.dx, _, _, rfl, ob, T.cl, T.nW, lkW B, B.dw, _, rfl, DGet.k (k := Sum.inr z) hd, _, rfl, ?_⟩
    rw [has_word hk z, decide_eq_true hin]
    exact iteF (k _ s1)
/-! ### Book.drop -/
theorem first_str : ∀ {zs : List Str} {z : Str}, z ∈ zs → ∃ j, zs[j]? = some z ∧ (∀ m : Nat, m < j → zs[m]? ≠ some z) ∧ zs.eraseIdx j = zs.erase z
  | [], z, h => absurd h List.not_mem_nil
  | a :: r, z, h => by
    by_cases e : a = z
    · refine ⟨0, by rw [e]; rfl, fun m hm => absurd hm (Nat.not_lt_zero _), ?_⟩
      rw [e, List.erase_cons_head]
      rfl
    · have hr : z ∈ r := (List.mem_cons.mp h).resolve_left fun q => e q.symm
      obtain ⟨j, h1, h2, h3⟩ := first_str hr
      refine ⟨j + 1, h1, fun m hm => ?_, ?_⟩
      · cases m with
        | zero => exact fun q => e (Option.some.inj q)
        | succ m => exact h2 m (Nat.lt_of_succ_lt_succ hm)
      · rw [List.erase_cons_tail (by rw [beq_iff_eq]; exact e), ← h3]
        rfl
theorem drop_keys {kvs : List (Key × V)} {k : Key} : (dropK kvs k).map (·.1) = (kvs.map (·.1)).filter fun x => decide (x ≠ k) := by
  unfold dropK
  rw [List.filter_map]
  rfl
theorem filter_inr (z : Str) : ∀ ws : List Str, (ws.map (Sum.inr : Str → Key)).filter (fun x => decide (x ≠ Sum.inr z)) = (ws.filter fun x => x != z).map Sum.inr
  | [] => rfl
  | a :: r => by
    rw [List.map_cons, List.filter_cons, List.filter_cons, filter_inr z r]
    by_cases e : a = z
    · subst e
      simp
    · have e2 : ¬ (Sum.inr a : Key) = Sum.inr z := fun q => e (Sum.inr.inj q)
      simp [e, e2]
def spDrop (w : World) (C : Addr) : Sp := fun vs H Q _ => ∃ (B : Bk) (ws : List Str) (n : Nat) (z : Str), vs = [.ref B.p, .str z] ∧ BookAt w C H B ws n ∧ Low z ∧ 2 ≤ z.length ∧ z.length ≤ 4 ∧ z ∈ ws ∧ ws.Nodup ∧ n ≤ 1000 ∧
  ∀ H', BookAt w C H' B (ws.erase z) (n + 1) → Keeps B H H' → Q .non H'
theorem ok_drop {f fN fT C : Addr} {fd fdN fdT : FuncData} (F : Fun K "drop" "Book.drop" sDrop f fd) (T : Txt K mg C) (GN : FnOk P w K mg base CX0 2 fN fdN ["self", "word"] (spNeed w C)) (bN : Binds K fdN ["self", "word"] []) (mN : Meth K C "need" fN)
    (GT : FnOk P w K mg base CX0 1 fT fdT ["self", "word", "at"] (spTurn w C)) (bT : Binds K fdT ["self", "word", "at"] []) (mT : Meth K C "turn_bits" fT) : FnOk P w K mg base CX0 3 f fd ["self", "word"] (spDrop w C) := by
  refine F.ok scDrop (fun vs H Q E h => ?_) (fun cdv A outer s H vs Q E hr h => ?_)
  · obtain ⟨B, ws, n, z, rfl, _⟩ := h
    rfl
  · obtain ⟨B, ws, n, z, rfl, b, low, h2, h4, hin, hnd, hn, k⟩ := h
    have hu := hu_of hr
    refine ⟨_, pss_cons (ps_expr (pe_meth (pv 0) T.cl mN GN hr bN .nil pass0 (pa_cons (pv 1) pa_nil)))
      (pss_cons (ps_expr (pe_dpop1 (pe_fld (pv 0) rfl) (pv 1) ⟨rfl, rfl, rfl, rfl⟩))
      (pss_cons (ps_set (i := 2) scDrop.nd rfl (Or.inl rfl) (pe_bm PySem.F.plainAttrs_list PySem.F.slot_list_index PySem.F.type_list_index mt_index (pe_fld (pv 0) rfl) (pa_cons (pv 1) pa_nil)))
      (pss_cons (ps_expr (pe_meth (pv 0) T.cl mT GT (hr.mono (by decide)) bT .nil pass0 (pa_cons (pv 1) (pa_cons (pv 2) pa_nil))))
      (pss_one (ps_asg pe_str (pg_sub (pe_fld (pv 0) rfl) (pv 2) set_list)))))), ?_⟩
    obtain ⟨ob, _, _, _⟩ := id b
    -- self.need(word)
    refine ⟨_, rfl, B.p, B.dx, _, rfl, ob, lkNo B (by decide +kernel) (by decide +kernel) (by decide +kernel), _, rfl, B, ws, n, z, rfl, b, low, h2, h4, hin, fun H1 s1 => ?_⟩
    have b1 := b.same s1
    obtain ⟨e1, e2, e3, e4, e5, e6⟩ := bk_ne b1
    obtain ⟨ob, ⟨kvs, hd, hk⟩, ⟨rs, hrw, hall, hrl⟩, bt⟩ := id b1
    -- self.worths.pop(word)
    obtain ⟨v, hv⟩ : ∃ v, valV kvs (Sum.inr z : Key) = some v := by
      have e := has_word hk z
      rw [decide_eq_true hin] at e
      exact Option.isSome_iff_exists.mp e
    refine ⟨_, rfl, B.p, C, B.dx, _, _, rfl, ob, T.cl, T.nW, lkW B, B.dw, rfl, .inl ⟨kvs, .inl hd⟩, _, rfl, kvs, Sum.inr z, v, hd, rfl, hv, ?_⟩
    have d1 : ∀ b o, b ≠ B.dw → H1 b = some o → (upd H1 B.dw (.dK (dropK kvs (Sum.inr z)))) b = some o := fun b o n e => by rw [upd_ne n]; exact e
    have bt2 := bt.keep (H' := upd H1 B.dw (.dK (dropK kvs (Sum.inr z)))) (upd_ne e5.symm) (fun b ys e => d1 b _ (fun z => by rw [z, hd] at e; cases e) e) (Nat.le_refl _)
    have hrw2 := d1 _ _ e4.symm hrw
    have ob2 := d1 _ _ e1 ob
    -- at = self.row.index(word)
    obtain ⟨j, j1, j2, j3⟩ := first_str (hall z hin)
    have jl : j < rs.length := (List.getElem?_eq_some_iff.mp j1).1
    have fl : (rs.map V.str).all flatV = true := List.all_eq_true.mpr fun y hy => by
      obtain ⟨_, _, rfl⟩ := List.mem_map.mp hy
      rfl
    refine ⟨_, rfl, B.p, C, B.dx, _, _, rfl, ob2, T.cl, T.nR, lkR B, .inl ⟨rfl, _, SqL.of hrw2⟩, _, rfl, B.dr, rs.map V.str, .str z, j, .str z, rfl, rfl, SqL.of hrw2, rfl, fl, by rw [List.getElem?_map, j1]; rfl, beq_self_eq_true z, fun m y hm hy => ?_, ?_⟩
    · rw [List.getElem?_map] at hy
      cases q : rs[m]? with
      | none => rw [q] at hy; cases hy
      | some x =>
        rw [q] at hy
        cases hy
        exact beq_eq_false_iff_ne.mpr fun e => j2 m hm (by rw [q, e])
    -- self.turn_bits(word, at)
    refine ⟨_, rfl, B.p, B.dx, _, rfl, ob2, lkNo B (by decide +kernel) (by decide +kernel) (by decide +kernel), _, rfl, _, rfl, B.p, B.dx, B.db, _, z, j, 5 * n, rfl, ob2, lkB B, bt2, by omega, h4, by omega, fun H3 bt3 k3 => ?_⟩
    have ob3 := k3 _ _ ob2 e3
    have hrw3 := k3 _ _ hrw2 e6
    -- self.row[at] = ''
    refine ⟨_, rfl, B.p, C, B.dx, _, _, rfl, ob3, T.cl, T.nR, lkR B, _, rfl, ?_⟩
    have hix : ixN (rs.map V.str).length (j : Int) = some j := by
      unfold ixN
      rw [if_pos (by omega), if_pos (by rw [List.length_map]; omega), Int.toNat_natCast]
    refine ⟨B.dr, _, (j : Int), j, rfl, rfl, hrw3, hix, ?_⟩
    refine k _ ⟨?_, ⟨dropK kvs (Sum.inr z), ?_, ?_⟩, ⟨rs.set j "", ?_, fun y hy => ?_, ?_⟩, ?_⟩ fun b o e w1 w2 w3 => ?_
    · rw [upd_ne e2]
      exact ob3
    · rw [upd_ne e4]
      exact k3 _ _ upd_same e5
    · rw [drop_keys, hk, hnd.erase_eq_filter, filter_inr]
    · rw [upd_same, List.map_set]
    · have hy2 := (hnd.mem_erase_iff.mp hy)
      obtain ⟨i, hi⟩ := List.mem_iff_getElem?.mp (hall y hy2.2)
      have ij : j ≠ i := fun e => by
        rw [← e, j1] at hi
        exact hy2.1 (Option.some.inj hi).symm
      exact List.mem_iff_getElem?.mpr ⟨i, by rw [List.getElem?_set_ne ij]; exact hi⟩
    · rw [List.length_set]
      omega
    · refine bt3.keep (upd_ne e6.symm) (fun b ys e => ?_) (by omega)
      rw [upd_ne (fun z => by rw [z, hrw3] at e; cases e)]
      exact e
    · rw [upd_ne w2]
      exact k3 _ _ (d1 _ _ w1 (s1 _ _ e)) w3
/-! ### Book.words, Book.has -/
def spWords (w : World) (C : Addr) : Sp := fun vs H Q _ => ∃ (B : Bk) (ws : List Str) (n : Nat), vs = [.ref B.p] ∧ BookAt w C H B ws n ∧ ws.length < 64 ∧ ∀ (ys : List Str) (q : Addr), ys.Perm ws → H q = none → Q (.ref q) (upd H q (.lst (ys.map V.str)))
theorem ok_words {f C : Addr} {fd : FuncData} (F : Fun K "words" "Book.words" sWords f fd) (T : Txt K mg C) : FnOk P w K mg base CX0 1 f fd ["self"] (spWords w C) := by
  refine F.ok scWords (fun vs H Q E h => ?_) (fun cdv A outer s H vs Q E hr h => ?_)
  · obtain ⟨B, ws, n, rfl, _⟩ := h
    rfl
  · obtain ⟨B, ws, n, rfl, b, hl, k⟩ := h
    refine ⟨_, pss_one (ps_ret (pe_callB (call_sortedD rfl) rfl T.srt (by decide +kernel) (pa_cons (pe_fld (pv 0) rfl) pa_nil))), ?_⟩
    obtain ⟨ob, ⟨kvs, hd, hk⟩, _, _⟩ := id b
    exact ⟨_, rfl, B.p, C, B.dx, _, _, rfl, ob, T.cl, T.nW, lkW B, B.dw, kvs, ws, rfl, .inl hd, hk, hl, fun ys q hp _ hq => k ys q hp hq⟩
def spHas (w : World) (C : Addr) : Sp := fun vs H Q _ => ∃ (B : Bk) (ws : List Str) (n : Nat) (z : Str), vs = [.ref B.p, .str z] ∧ BookAt w C H B ws n ∧ Q (.bl (decide (z ∈ ws))) H
theorem ok_has {f C : Addr} {fd : FuncData} (F : Fun K "has" "Book.has" sHas f fd) (T : Txt K mg C) : FnOk P w K mg base CX0 1 f fd ["self", "word"] (spHas w C) := by
  refine F.ok scHas (fun vs H Q E h => ?_) (fun cdv A outer s H vs Q E hr h => ?_)
  · obtain ⟨B, ws, n, z, rfl, _⟩ := h
    rfl
  · obtain ⟨B, ws, n, z, rfl, b, k⟩ := h
    have hu := hu_of hr
    refine ⟨_, pss_one (ps_ret (pe_cmp (pc_din hu (pv 1) (pe_fld (pv 0) rfl)))), ?_⟩
    obtain ⟨ob, ⟨kvs, hd, hk⟩, _, _⟩ := id b
    refine ⟨_, rfl, _, rfl, B.p, C, B.dx, _, _, rfl, ob, T.cl, T.nW, lkW B, B.dw, _, rfl, DGet.k (k := Sum.inr z) hd, ?_⟩
    rw [has_word hk z]
    exact k
end
end Cw
/-! CwSearch: without, of_words. -/
namespace Cw
open PySem L2 TL

/-! ### workings in the heap -/
def WordAt (H : Hp) (w : Str) (a : Addr) : Prop := H a = some (.tup [.str "word", .str w])
def WkAt (H : Hp) : Wk → Addr → Prop
  | .word w, a => WordAt H w a
  | .back x, a => ∃ b, H a = some (.tup [.str "back", .ref b]) ∧ WkAt H x b
  | .join x y, a => ∃ b c, H a = some (.tup [.str "join", .ref b, .ref c]) ∧ WkAt H x b ∧ WkAt H y c
  | .mix w t, a => ∃ b, H a = some (.tup [.str "mix", .ref b, .str t]) ∧ WordAt H w b
  | .within w i j, a => ∃ b, H a = some (.tup [.str "within", .ref b, .int (i : Int), .int (j : Int)]) ∧ WordAt H w b
  | .less w k, a => ∃ b, H a = some (.tup [.str "less", .ref b, .int (k : Int)]) ∧ WordAt H w b
theorem WkAt.same {H H' : Hp} (s : Same H H') : ∀ {k : Wk} {a : Addr}, WkAt H k a → WkAt H' k a
  | .word w, a, h => s _ _ h
  | .back x, a, ⟨b, h1, h2⟩ => ⟨b, s _ _ h1, WkAt.same s (k := x) h2⟩
  | .join x y, a, ⟨b, c, h1, h2, h3⟩ => ⟨b, c, s _ _ h1, WkAt.same s (k := x) h2, WkAt.same s (k := y) h3⟩
  | .mix w t, a, ⟨b, h1, h2⟩ => ⟨b, s _ _ h1, s _ _ h2⟩
  | .within w i j, a, ⟨b, h1, h2⟩ => ⟨b, s _ _ h1, s _ _ h2⟩
  | .less w k, a, ⟨b, h1, h2⟩ => ⟨b, s _ _ h1, s _ _ h2⟩
/-- tuples are never changed: it is enough that they stay -/
theorem WkAt.tups {H H' : Hp} (s : ∀ b xs, H b = some (.tup xs) → H' b = some (.tup xs)) : ∀ {k : Wk} {a : Addr}, WkAt H k a → WkAt H' k a
  | .word w, a, h => s _ _ h
  | .back x, a, ⟨b, h1, h2⟩ => ⟨b, s _ _ h1, WkAt.tups s (k := x) h2⟩
  | .join x y, a, ⟨b, c, h1, h2, h3⟩ => ⟨b, c, s _ _ h1, WkAt.tups s (k := x) h2, WkAt.tups s (k := y) h3⟩
  | .mix w t, a, ⟨b, h1, h2⟩ => ⟨b, s _ _ h1, s _ _ h2⟩
  | .within w i j, a, ⟨b, h1, h2⟩ => ⟨b, s _ _ h1, s _ _ h2⟩
  | .less w k, a, ⟨b, h1, h2⟩ => ⟨b, s _ _ h1, s _ _ h2⟩
def AllAt (H : Hp) (ks : List Wk) (as : List Addr) : Prop := Paired (fun k a => WkAt H k a) ks as
theorem paired_same {H H' : Hp} (s : ∀ b xs, H b = some (.tup xs) → H' b = some (.tup xs)) {ks : List Wk} {as : List Addr} (h : AllAt H ks as) : AllAt H' ks as := by
  unfold AllAt at h ⊢
  induction h with
  | nil => exact .nil
  | cons h _ ih => exact .cons (h.tups s) ih
theorem AllAt.len {H : Hp} {ks : List Wk} {as : List Addr} (h : AllAt H ks as) : ks.length = as.length := Paired.length h
theorem AllAt.snoc {H : Hp} {ks : List Wk} {as : List Addr} {k : Wk} {a : Addr} (h : AllAt H ks as) (q : WkAt H k a) : AllAt H (ks ++ [k]) (as ++ [a]) := Paired.snoc h q
theorem AllAt.app {H : Hp} : ∀ {ks js : List Wk} {as bs : List Addr}, AllAt H ks as → AllAt H js bs → AllAt H (ks ++ js) (as ++ bs)
  | _, _, _, _, .nil, q => q
  | _, _, _, _, .cons h t, q => .cons h (AllAt.app t q)
theorem AllAt.get {H : Hp} : ∀ {ks : List Wk} {as : List Addr} {i : Nat} {k : Wk}, AllAt H ks as → ks[i]? = some k → ∃ a, as[i]? = some a ∧ WkAt H k a
  | _, _, _, _, .nil, e => by simp at e
  | _, _, 0, _, .cons h _, e => by simp at e; subst e; exact ⟨_, rfl, h⟩
  | _, _, i + 1, _, .cons _ t, e => by
    obtain ⟨a, h1, h2⟩ := AllAt.get (i := i) t (by simpa using e)
    exact ⟨a, by simpa using h1, h2⟩
theorem AllAt.at {H : Hp} : ∀ {ks : List Wk} {as : List Addr} {i : Nat} {a : Addr}, AllAt H ks as → as[i]? = some a → ∃ k, ks[i]? = some k ∧ WkAt H k a
  | _, _, _, _, .nil, e => by simp at e
  | _, _, 0, _, .cons h _, e => by simp at e; subst e; exact ⟨_, rfl, h⟩
  | _, _, i + 1, _, .cons _ t, e => by
    obtain ⟨a, h1, h2⟩ := AllAt.at (i := i) t (by simpa using e)
    exact ⟨a, by simpa using h1, h2⟩
theorem tups_of {H H' : Hp} (s : Same H H') : ∀ b xs, H b = some (.tup xs) → H' b = some (.tup xs) := fun b xs e => s _ _ e
/-- a list that is changed is no tuple -/
theorem tups_upd {H : Hp} {p : Addr} {xs : List V} (h : H p = some (.lst xs)) (o : HO) : ∀ b ys, H b = some (.tup ys) → upd H p o b = some (.tup ys) := fun b ys e => by
  rw [upd_ne (fun z => by rw [z, h] at e; cases e)]
  exact e

theorem cut_lo (z : Str) (p : Nat) (h : p ≤ z.length) : cutS z none (some (p : Int)) = seg z 0 p := by
  unfold cutS seg
  rw [HT.sIx_none, HT.sIx_nat, Nat.min_eq_left h]
theorem cut_hi (z : Str) (p : Nat) : cutS z (some (p : Int)) none = seg z p z.length := by
  unfold cutS seg
  rw [HT.sIx_none, HT.sIx_nat]
  by_cases h : p ≤ z.length
  · rw [Nat.min_eq_left h]
  · rw [Nat.min_eq_right (show z.length ≤ p by omega)]
    have e1 : (tl z).drop z.length = [] := List.drop_eq_nil_of_le (Nat.le_refl _)
    have e2 : (tl z).drop p = [] := List.drop_eq_nil_of_le (by rw [← len_tl]; omega)
    show (⟨(((tl z).drop z.length).take _).toArray⟩ : Str) = _
    rw [e1, e2]
    simp
theorem cut_mid (z : Str) (p q : Nat) : cutS z (some (p : Int)) (some (q : Int)) = seg z p (min q z.length) := by
  unfold cutS seg
  rw [HT.sIx_nat, HT.sIx_nat]
  by_cases h : p ≤ z.length
  · rw [Nat.min_eq_left h]
  · rw [Nat.min_eq_right (show z.length ≤ p by omega)]
    have e1 : (tl z).drop z.length = [] := List.drop_eq_nil_of_le (Nat.le_refl _)
    have e2 : (tl z).drop p = [] := List.drop_eq_nil_of_le (by rw [← len_tl]; omega)
    show (⟨(((tl z).drop z.length).take _).toArray⟩ : Str) = _
    rw [e1, e2]
    simp
section
variable {P : Program} {w : World} {K : PySem.W.Frag} {mg : Str → Option Value} {base : Heap}
/-! ### without -/
def spWithout : Sp := fun vs H Q _ => ∃ (z : Str) (p : Nat), vs = [.str z, .int (p : Int)] ∧ p ≤ z.length ∧ z.length ≤ 100 ∧ Q (.str (wout z p)) H
theorem ok_without {f : Addr} {fd : FuncData} (F : Fun K "without" "without" sWithout f fd) : FnOk P w K mg base CX0 1 f fd ["text", "place"] spWithout := by
  refine F.ok scWithout (fun vs H Q E h => ?_) (fun cdv A outer s H vs Q E hr h => ?_)
  · obtain ⟨z, p, rfl, _⟩ := h
    rfl
  · obtain ⟨z, p, rfl, hp, hz, k⟩ := h
    have hz' : z.length ≤ sizeLine := sz (by omega)
    refine ⟨_, pss_one (ps_ret (pe_op op_add_str (pe_slice sl_str (pv 0) po_none (po_some (pv 1))) (pe_slice sl_str (pv 0) (po_some (pe_op op_add (pv 1) pe_int)) po_none))), ?_⟩
    refine ⟨_, rfl, _, rfl, _, rfl, z, rfl, hz', _, rfl, _, rfl, _, _, rfl, rfl, _, rfl, z, rfl, hz', ?_⟩
    have e1 : ((p : Int) + 1) = ((p + 1 : Nat) : Int) := by omega
    rw [cut_lo z p hp, e1, cut_hi z (p + 1)]
    refine ⟨_, _, rfl, rfl, ?_, ?_⟩
    · have l1 := app_len (seg z 0 p) (seg z (p + 1) z.length)
      have l2 : (wout z p).length ≤ z.length := by
        rw [len_tl, tl_wout, List.length_append, List.length_take, List.length_drop, ← len_tl]
        omega
      rw [wout_cut] at l1
      exact sz (by omega)
    · rw [wout_cut]
      exact k

end
/-! ### of_words: the mathematics -/
def Wk.base : Wk → Str
  | .mix w _ => w
  | .within w _ _ => w
  | .less w _ => w
  | _ => Str.empty
def Wk.two : Wk → Bool
  | .mix _ _ => true
  | .within _ _ _ => true
  | .less _ _ => true
  | _ => false
def Wk.pl : Wk → Option Nat
  | .within _ a _ => some a
  | .less _ k => some k
  | _ => none
/-- workings of two steps that make z, of words ahead of the i-th (of it: with places below j) -/
structure Two (ws ys : List Str) (z : Str) (i : Nat) (ks : List Wk) : Prop where
  nd : ks.Nodup
  ok : ∀ k ∈ ks, Good ws k ∧ k.out = z ∧ k.size = 2 ∧ k.two = true
structure TwoO (ws ys : List Str) (z : Str) (i : Nat) (ks : List Wk) : Prop where
  two : Two ws ys z i ks
  at_ : ∀ k ∈ ks, k.base ∈ ys.take i
structure TwoI (ws ys : List Str) (z : Str) (i j : Nat) (y : Str) (ks : List Wk) : Prop where
  two : Two ws ys z i ks
  at_ : ∀ k ∈ ks, k.base ∈ ys.take i ∨ (k.base = y ∧ ∀ a, k.pl = some a → a < j)
theorem not_ahead {ys : List Str} (hn : ys.Nodup) {i : Nat} {y : Str} (h : ys[i]? = some y) : y ∉ ys.take i := fun m => by
  obtain ⟨j, hj⟩ := List.mem_iff_getElem?.mp m
  have jl : j < i := by
    have := (List.getElem?_eq_some_iff.mp hj).1
    rw [List.length_take] at this
    omega
  rw [List.getElem?_take_of_lt jl] at hj
  have e := nd_ix hn hj h
  omega
theorem TwoO.toI {ws ys : List Str} {z : Str} {i : Nat} {ks : List Wk} (h : TwoO ws ys z i ks) (y : Str) : TwoI ws ys z i 0 y ks := ⟨h.two, fun k hk => .inl (h.at_ k hk)⟩
theorem TwoI.toO {ws ys : List Str} {z : Str} {i j : Nat} {y : Str} {ks : List Wk} (h : TwoI ws ys z i j y ks) (hy : ys[i]? = some y) : TwoO ws ys z (i + 1) ks := by
  refine ⟨⟨h.two.nd, h.two.ok⟩, fun k hk => ?_⟩
  rw [List.take_add_one, hy]
  rcases h.at_ k hk with q | ⟨q, _⟩
  · exact List.mem_append_left _ q
  · rw [q]; simp
theorem TwoI.add {ws ys : List Str} {z : Str} {i j j' : Nat} {y : Str} {ks : List Wk} {k : Wk} (h : TwoI ws ys z i j y ks) (hj : j ≤ j') (g : Good ws k) (ho : k.out = z) (hs : k.size = 2 ∧ k.two = true) (hb : k.base = y) (hp : ∀ a, k.pl = some a → a < j') (hnew : k ∉ ks) : TwoI ws ys z i j' y (ks ++ [k]) := by
  refine ⟨⟨nodup_app h.two.nd (by simp) fun a ha m => hnew (List.mem_singleton.mp m ▸ ha), fun a ha => ?_⟩, fun a ha => ?_⟩
  · rcases List.mem_append.mp ha with ha | ha
    · exact h.two.ok a ha
    · rw [List.mem_singleton.mp ha]; exact ⟨g, ho, hs⟩
  · rcases List.mem_append.mp ha with ha | ha
    · rcases h.at_ a ha with q | ⟨q, r⟩
      · exact .inl q
      · exact .inr ⟨q, fun b hb => Nat.lt_of_lt_of_le (r b hb) hj⟩
    · rw [List.mem_singleton.mp ha]; exact .inr ⟨hb, hp⟩
theorem TwoI.mono {ws ys : List Str} {z : Str} {i j j' : Nat} {y : Str} {ks : List Wk} (h : TwoI ws ys z i j y ks) (hj : j ≤ j') : TwoI ws ys z i j' y ks :=
  ⟨h.two, fun k hk => (h.at_ k hk).imp_right fun q => ⟨q.1, fun a ha => Nat.lt_of_lt_of_le (q.2 a ha) hj⟩⟩
theorem new_place {ws ys : List Str} {z : Str} {i j : Nat} {y : Str} {ks : List Wk} {k : Wk} (h : TwoI ws ys z i j y ks) (hn : y ∉ ys.take i) (hb : k.base = y) (hp : k.pl = some j) : k ∉ ks := fun m => by
  rcases h.at_ k m with q | ⟨_, q⟩
  · exact hn (hb ▸ q)
  · exact Nat.lt_irrefl _ (q j hp)
theorem within_of {ws : List Str} {y z : Str} {j : Nat} (hy : y ∈ ws) (hz : 1 ≤ z.length) (hl : z.length < y.length) (e : cutS y (some (j : Int)) (some ((j + z.length : Nat) : Int)) = z) : Good ws (.within y j (j + z.length)) ∧ (Wk.within y j (j + z.length)).out = z := by
  rw [cut_mid] at e
  have l := seg_len y j (min (j + z.length) y.length) (Nat.min_le_right _ _)
  rw [e] at l
  have h : j + z.length ≤ y.length := by omega
  rw [Nat.min_eq_left h] at e
  exact ⟨⟨hy, by omega, h, by omega⟩, e⟩
theorem add_wk {H H3 : Hp} {D Tn : Addr} {o : List V} {ks : List Wk} {as : List Addr} {k : Wk} (s : Same H H3) (hD : H D = none) (e : H3 D = some (.lst (as.map V.ref))) (a : AllAt H3 ks as) (nT : H3 Tn = none) (g : WkAt (upd H3 Tn (.tup o)) k Tn) :
    Same H (upd (upd H3 Tn (.tup o)) D (.lst (as.map V.ref ++ [.ref Tn]))) ∧ (upd (upd H3 Tn (.tup o)) D (.lst (as.map V.ref ++ [.ref Tn]))) D = some (.lst ((as ++ [Tn]).map V.ref)) ∧
    AllAt (upd (upd H3 Tn (.tup o)) D (.lst (as.map V.ref ++ [.ref Tn]))) (ks ++ [k]) (as ++ [Tn]) ∧ ∀ b u, b ≠ D → H3 b = some u → (upd (upd H3 Tn (.tup o)) D (.lst (as.map V.ref ++ [.ref Tn]))) b = some u := by
  have n1 : D ≠ Tn := ne_of_none e nT
  have e1 : (upd H3 Tn (.tup o)) D = some (.lst (as.map V.ref)) := by rw [upd_ne n1]; exact e
  refine ⟨fun b u q => ?_, ?_, ?_, fun b u n q => ?_⟩
  · rw [upd_ne (ne_of_none q hD), upd_ne (ne_of_none (s _ _ q) nT)]
    exact s _ _ q
  · rw [upd_same, List.map_append]
    rfl
  · exact AllAt.snoc (paired_same (tups_upd e1 _) (paired_same (tups_of (same_new nT _)) a)) (g.tups (tups_upd e1 _))
  · rw [upd_ne n, upd_ne (ne_of_none q nT)]
    exact q
theorem dp_strs {K : PySem.W.Frag} {H : Hp} : ∀ xs : List Str, DpAll K H (xs.map V.str) (xs.map PyData.str)
  | [] => .nil
  | x :: xs => .cons (.str x) (dp_strs xs)
section
variable {P : Program} {w : World} {K : PySem.W.Frag} {mg : Str → Option Value} {base : Heap}
def spOfWords (w : World) (C : Addr) : Sp := fun vs H Q _ => ∃ (B : Bk) (ws : List Str) (n : Nat) (z : Str), vs = [.ref B.p, .str z] ∧ BookAt w C H B ws n ∧ Words ws ∧ ws.length ≤ 10 ∧ Low z ∧ 1 ≤ z.length ∧ z.length ≤ 6 ∧
  ∀ H' p ks as, Same H H' → H p = none → H' p = some (.lst ((as : List Addr).map V.ref)) → AllAt H' ks as → ks.Nodup → (∀ k ∈ ks, Good ws k ∧ k.out = z ∧ k.size = 2 ∧ k.two = true) → ks.length ≤ 90 → Q (.ref p) H'
theorem ok_ofWords {f fS fT C : Addr} {fd fdS fdT : FuncData} (F : Fun K "of_words" "of_words" sOfWords f fd) (T : Txt K mg C) (GS : FnOk P w K mg base CX0 1 fS fdS ["self"] (spWords w C)) (bS : Binds K fdS ["self"] []) (mS : Meth K C "words" fS)
    (GT : FnOk P w K mg base CX0 1 fT fdT ["text", "place"] spWithout) (bT : Binds K fdT ["text", "place"] []) (kT : PySem.W.keepIn K (.ref fT) = true) (mT : mg "without" = some (.ref fT)) : FnOk P w K mg base CX0 2 f fd ["book", "answer"] (spOfWords w C) := by
  refine F.ok scOfWords (fun vs H Q E h => ?_) (fun cdv A outer s H vs Q E hr h => ?_)
  · obtain ⟨B, ws, n, z, rfl, _⟩ := h
    rfl
  · obtain ⟨B, ws, n, z, rfl, b, hW, hwl, low, hz1, hz6, k⟩ := h
    have hu := hr.units
    have hz' : z.length ≤ sizeLine := sz (by omega)
    refine ⟨_, pss_cons (ps_set (i := 2) scOfWords.nd rfl (Or.inl rfl) (pe_lst pa_nil))
      (pss_cons (ps_set (i := 3) scOfWords.nd rfl (Or.inl rfl) (pe_callB call_len_str rfl T.len PySem.boot_len (pa_cons (pv 1) pa_nil)))
      (pss_cons (ps_for PassesOwn.never rfl (pi_list (pe_meth0 (pv 0) T.cl mS GS hr bS .nil pass0)) (pg_name (i := 4) scOfWords.nd rfl (Or.inl rfl))
        (pss_cons (ps_set (i := 5) scOfWords.nd rfl (Or.inl rfl) (pe_tup (pa_cons pe_str (pa_cons (pv 4) pa_nil))))
        (C8.pss_cut (ps_if (PW.pt (pw_and (pt_cmpR (op_eqD hu) (pe_callB (call_sortedT rfl) rfl T.srt (by decide +kernel) (pa_cons (pv 4) pa_nil)) (pe_callB (call_sortedT rfl) rfl T.srt (by decide +kernel) (pa_cons (pv 1) pa_nil)) (nomark _))
            (pw_and1 (pt_cmpR op_ne (pv 4) (pv 1) (nomark _)))))
          (pss_one (ps_expr (pe_bm PySem.F.plainAttrs_list PySem.F.slot_list_append PySem.F.type_list_append mt_append (pv 2) (pa_cons (pe_tup (pa_cons pe_str (pa_cons (pv 5) (pa_cons (pv 1) pa_nil)))) pa_nil)))) pss_nil)
        (pss_one (ps_for PassesOwn.never rfl (pi_range1 rfl T.rng (pa_cons (pe_callB call_len_str rfl T.len PySem.boot_len (pa_cons (pv 4) pa_nil)) pa_nil)) (pg_name (i := 6) scOfWords.nd rfl (Or.inl rfl))
          (C8.pss_cut (ps_if (PW.pt (pw_and (pt_cmpR op_gt (pe_callB call_len_str rfl T.len PySem.boot_len (pa_cons (pv 4) pa_nil)) (pv 3) (nomark _))
              (pw_and1 (pt_cmpR op_eq (pe_slice sl_str (pv 4) (po_some (pv 6)) (po_some (pe_op op_add (pv 6) (pv 3)))) (pv 1) (nomark _)))))
            (pss_one (ps_expr (pe_bm PySem.F.plainAttrs_list PySem.F.slot_list_append PySem.F.type_list_append mt_append (pv 2) (pa_cons (pe_tup (pa_cons pe_str (pa_cons (pv 5) (pa_cons (pv 6) (pa_cons (pe_op op_add (pv 6) (pv 3)) pa_nil))))) pa_nil)))) pss_nil)
          (pss_one (ps_if (pt_cmpR op_eq (pe_call GT hr rfl mT kT bT .nil pass0 (pa_cons (pv 4) (pa_cons (pv 6) pa_nil))) (pv 1) (nomark _))
            (pss_one (ps_expr (pe_bm PySem.F.plainAttrs_list PySem.F.slot_list_append PySem.F.type_list_append mt_append (pv 2) (pa_cons (pe_tup (pa_cons pe_str (pa_cons (pv 5) (pa_cons (pv 6) pa_nil)))) pa_nil)))) pss_nil))))))))
      (pss_one (ps_ret (pv 2))))), ?_⟩
    -- found = []
    refine ⟨sz (by decide), fun D hD => ?_⟩
    -- size = len(answer)
    refine ⟨_, rfl, z, rfl, hz', ?_⟩
    -- for word in book.words()
    have bD := b.same (same_new hD (.lst []))
    refine ⟨_, rfl, B.p, B.dx, _, rfl, bD.ob, lkNo B (by decide +kernel) (by decide +kernel) (by decide +kernel), B, ws, n, rfl, bD, by omega, fun ys q hp hq => ?_⟩
    have qD : q ≠ D := fun e => by rw [e, upd_same] at hq; cases hq
    have hq0 : H q = none := by rw [upd_ne qD] at hq; exact hq
    have yn : ys.Nodup := hp.symm.nodup hW.1
    have yl : ys.length = ws.length := hp.length_eq
    refine ⟨q, rfl, ⟨_, SqL.of upd_same⟩, for_list (fun i σ H' => ∃ (v4 v5 v6 : Option V) (ks : List Wk) (as : List Addr), σ = [some (.ref B.p), some (.str z), some (.ref D), some (.int (z.length : Nat)), v4, v5, v6] ∧
      Same H H' ∧ H' q = some (.lst (ys.map V.str)) ∧ H' D = some (.lst (as.map V.ref)) ∧ AllAt H' ks as ∧ TwoO ws ys z i ks ∧ ks.length ≤ 9 * i)
      ⟨none, none, none, [], [], rfl, (same_new hD _).trans (same_new hq _), upd_same, by rw [upd_ne qD.symm, upd_same]; rfl, .nil, ⟨⟨List.nodup_nil, fun k hk => absurd hk List.not_mem_nil⟩, fun k hk => absurd hk List.not_mem_nil⟩, Nat.zero_le _⟩
      (fun i σ H' _ ⟨_, _, _, _, _, _, _, hq', _⟩ => SqL.of hq') ?_ ?_⟩
    · rintro i x σ H2 hx ⟨v4, v5, v6, ks, as, rfl, s2, hq2, hD2, ha2, t2, l2⟩
      obtain ⟨y, hy, rfl⟩ : ∃ y, ys[i]? = some y ∧ x = .str y := by
        rw [List.getElem?_map] at hx
        cases e : ys[i]? with
        | none => rw [e] at hx; cases hx
        | some y => rw [e] at hx; cases hx; exact ⟨y, rfl, rfl⟩
      have ymem : y ∈ ys := List.mem_of_getElem? hy
      have yw : y ∈ ws := hp.mem_iff.mp ymem
      obtain ⟨ylow, y2, y4⟩ := hW.2 y yw
      have ynot := not_ahead yn hy
      have il : i < ws.length := by
        have := (List.getElem?_eq_some_iff.mp hy).1
        omega
      have yl' : y.length ≤ sizeLine := sz (by omega)
      -- told = ('word', word)
      refine ⟨_, rfl, (by show 2 ≤ sizeLine; exact sz (by decide)), fun Td nTd => ?_⟩
      have sT := same_new nTd (.tup [.str "word", .str y])
      have TdD : Td ≠ D := fun e => by rw [e, hD2] at nTd; cases nTd
      refine ⟨fun σ H' => ∃ (v6 : Option V) (ks : List Wk) (as : List Addr), σ = [some (.ref B.p), some (.str z), some (.ref D), some (.int (z.length : Nat)), some (.str y), some (.ref Td), v6] ∧
        Same H H' ∧ H' q = some (.lst (ys.map V.str)) ∧ WordAt H' y Td ∧ H' D = some (.lst (as.map V.ref)) ∧ AllAt H' ks as ∧ TwoI ws ys z i 0 y ks ∧ ks.length ≤ 9 * i + 1, ?_, ?_⟩
      · -- if sorted(word) == sorted(answer) and word != answer
        refine ⟨_, rfl, y, rfl, by omega, fun u1 p1 hp1 _ hn1 => ?_⟩
        have f1 := same_new hn1 (.lst (u1.map V.str))
        refine ⟨_, rfl, z, rfl, by omega, fun u2 p2 hp2 _ hn2 => ?_⟩
        have f2 := same_new hn2 (.lst (u2.map V.str))
        have f := sT.trans (f1.trans f2)
        refine ⟨.list (u1.map .str), .list (u2.map .str), .lst (SqL.of (f2 _ _ upd_same)) (dp_strs _), .lst (SqL.of upd_same) (dp_strs _), shaped_strs (ok_signs ylow hp1), shaped_strs (ok_signs low hp2), _, rfl, ?_⟩
        have hev : PyData.eqv (.list (u1.map .str)) (.list (u2.map .str)) = decide (u1 = u2) := eqv_strs u1 u2
        rw [hev]
        have hqf := f _ _ hq2
        have hDf := f _ _ hD2
        have haf := paired_same (tups_of f) ha2
        have wf : WordAt _ y Td := (f1.trans f2) _ _ upd_same
        refine ite2 (fun e => ?_) (fun e => ?_)
        · have eu : u1 = u2 := of_decide_eq_true e
          have pyz : (tl z).Perm (tl y) := signs_perm (hp2.symm.trans (eu ▸ hp1))
          refine ⟨_, rfl, _, rfl, rfl, _, rfl, ?_⟩
          refine ite2 (fun e2 => ?_) (fun e2 => ?_)
          · have ne : z ≠ y := fun e => by rw [e] at e2; simp at e2
            refine ⟨_, rfl, .inl ⟨rfl, _, SqL.of hDf⟩, _, rfl, _, rfl, (by show 3 ≤ sizeLine; exact sz (by decide)), fun Tn nTn => ?_⟩
            obtain ⟨g1, g2, g3, g4⟩ := add_wk (k := .mix y z) (s2.trans f) hD hDf haf nTn ⟨Td, upd_same, same_new nTn _ _ _ wf⟩
            refine ⟨D, as.map V.ref, _, rfl, rfl, ?_, ?_, ?_⟩
            · rw [upd_ne (ne_of_none hDf nTn)]
              exact hDf
            · rw [List.length_map, ← ha2.len]
              exact szlt (by omega)
            · refine ⟨v6, _, _, rfl, g1, g4 _ _ qD hqf, g4 _ _ TdD wf, g2, g3, (t2.toI y).add (Nat.le_refl _) ⟨yw, pyz, ne⟩ rfl ⟨rfl, rfl⟩ rfl (fun a h => nomatch h) (fun m => ?_), by rw [List.length_append]; exact Nat.succ_le_succ l2⟩
              exact ynot (t2.at_ _ m)
          · exact ⟨v6, _, _, rfl, s2.trans f, hqf, wf, hDf, haf, t2.toI y, by omega⟩
        · exact ⟨v6, _, _, rfl, s2.trans f, hqf, wf, hDf, haf, t2.toI y, by omega⟩
      · rintro σ H3 ⟨v6, ks, as, rfl, s3, hq3, w3, hD3, a3, t3, l3⟩
        -- for place in range(len(word))
        refine ⟨_, rfl, y, rfl, yl', ?_⟩
        refine ⟨_, rfl, by omega, by omega, for_range (fun j σ H' => ∃ (v6 : Option V) (ks : List Wk) (as : List Addr), σ = [some (.ref B.p), some (.str z), some (.ref D), some (.int (z.length : Nat)), some (.str y), some (.ref Td), v6] ∧
          Same H H' ∧ H' q = some (.lst (ys.map V.str)) ∧ WordAt H' y Td ∧ H' D = some (.lst (as.map V.ref)) ∧ AllAt H' ks as ∧ TwoI ws ys z i j y ks ∧ ks.length ≤ 9 * i + 1 + 2 * j)
          ⟨v6, ks, as, rfl, s3, hq3, w3, hD3, a3, t3, by omega⟩ ?_ ?_⟩
        · rintro j σ H4 hj ⟨v6, ks, as, rfl, s4, hq4, w4, hD4, a4, t4, l4⟩
          have jl : j < y.length := by rw [Int.toNat_natCast] at hj; exact hj
          have e0 : (0 : Int) + (j : Nat) = (j : Nat) := by omega
          rw [e0]
          -- if len(word) > size and word[place:place + size] == answer
          refine ⟨fun σ H' => ∃ (ks : List Wk) (as : List Addr), σ = [some (.ref B.p), some (.str z), some (.ref D), some (.int (z.length : Nat)), some (.str y), some (.ref Td), some (.int (j : Nat))] ∧
            Same H H' ∧ H' q = some (.lst (ys.map V.str)) ∧ WordAt H' y Td ∧ H' D = some (.lst (as.map V.ref)) ∧ AllAt H' ks as ∧ TwoI ws ys z i (j + 1) y ks ∧ Wk.less y j ∉ ks ∧ ks.length ≤ 9 * i + 1 + 2 * j + 1, ?_, ?_⟩
          · refine ⟨_, rfl, y, rfl, yl', _, rfl, _, _, rfl, rfl, _, rfl, ?_⟩
            have nl : Wk.less y j ∉ ks := new_place t4 ynot rfl rfl
            refine ite2 (fun e1 => ?_) (fun e1 => ?_)
            · have hl : z.length < y.length := by have := of_decide_eq_true e1; omega
              refine ⟨_, rfl, _, rfl, _, rfl, _, rfl, _, rfl, _, _, rfl, rfl, _, rfl, y, rfl, yl', _, rfl, rfl, _, rfl, ?_⟩
              have e3 : ((j : Nat) : Int) + ((z.length : Nat) : Int) = ((j + z.length : Nat) : Int) := by omega
              rw [e3]
              refine ite2 (fun e2 => ?_) (fun e2 => ?_)
              · have e2 := of_decide_eq_true e2
                have e2 : cutS y (some (j : Int)) (some ((j + z.length : Nat) : Int)) = z := V.str.inj e2
                obtain ⟨gg, go⟩ := within_of yw hz1 hl e2
                refine ⟨_, rfl, .inl ⟨rfl, _, SqL.of hD4⟩, _, rfl, _, rfl, _, rfl, _, rfl, _, _, rfl, rfl, (by show 4 ≤ sizeLine; exact sz (by decide)), fun Tn nTn => ?_⟩
                have gw : WkAt (upd H4 Tn (.tup [.str "within", .ref Td, .int (j : Nat), .int (((j : Nat) : Int) + ((z.length : Nat) : Int))])) (.within y j (j + z.length)) Tn := ⟨Td, by rw [upd_same, e3], same_new nTn _ _ _ w4⟩
                obtain ⟨g1, g2, g3, g4⟩ := add_wk s4 hD hD4 a4 nTn gw
                refine ⟨D, as.map V.ref, _, rfl, rfl, ?_, ?_, ?_⟩
                · rw [upd_ne (ne_of_none hD4 nTn)]
                  exact hD4
                · rw [List.length_map, ← a4.len]
                  exact szlt (by omega)
                · refine ⟨_, _, rfl, g1, g4 _ _ qD hq4, g4 _ _ TdD w4, g2, g3, t4.add (Nat.le_succ j) gg go ⟨rfl, rfl⟩ rfl (fun a h => by cases h; exact Nat.lt_succ_self j) (new_place t4 ynot rfl rfl), fun m => ?_, by rw [List.length_append]; exact Nat.succ_le_succ l4⟩
                  rcases List.mem_append.mp m with m | m
                  · exact nl m
                  · exact nomatch List.mem_singleton.mp m
              · exact ⟨_, _, rfl, s4, hq4, w4, hD4, a4, t4.mono (Nat.le_succ j), nl, by omega⟩
            · exact ⟨_, _, rfl, s4, hq4, w4, hD4, a4, t4.mono (Nat.le_succ j), nl, by omega⟩
          · rintro σ H5 ⟨ks, as, rfl, s5, hq5, w5, hD5, a5, t5, n5, l5⟩
            -- if without(word, place) == answer
            refine ⟨_, rfl, _, rfl, y, j, rfl, by omega, by omega, _, rfl, rfl, _, rfl, ?_⟩
            refine ite2 (fun e2 => ?_) (fun e2 => ?_)
            · have e2 := of_decide_eq_true e2
              have e2 : wout y j = z := V.str.inj e2
              refine ⟨_, rfl, .inl ⟨rfl, _, SqL.of hD5⟩, _, rfl, _, rfl, (by show 3 ≤ sizeLine; exact sz (by decide)), fun Tn nTn => ?_⟩
              obtain ⟨g1, g2, g3, g4⟩ := add_wk (k := .less y j) s5 hD hD5 a5 nTn ⟨Td, upd_same, same_new nTn _ _ _ w5⟩
              refine ⟨D, as.map V.ref, _, rfl, rfl, ?_, ?_, ?_⟩
              · rw [upd_ne (ne_of_none hD5 nTn)]
                exact hD5
              · rw [List.length_map, ← a5.len]
                exact szlt (by omega)
              · exact ⟨_, _, _, rfl, g1, g4 _ _ qD hq5, g4 _ _ TdD w5, g2, g3, t5.add (Nat.le_refl _) ⟨yw, jl, by omega⟩ e2 ⟨rfl, rfl⟩ rfl (fun a h => by cases h; exact Nat.lt_succ_self j) n5, by rw [List.length_append, List.length_singleton]; omega⟩
            · exact ⟨_, _, _, rfl, s5, hq5, w5, hD5, a5, t5, by omega⟩
        · rintro σ H4 ⟨v6, ks, as, rfl, s4, hq4, w4, hD4, a4, t4, l4⟩
          exact ⟨_, _, v6, ks, as, rfl, s4, hq4, hD4, a4, t4.toO hy, by rw [Int.toNat_natCast] at l4; omega⟩
    · rintro σ H2 ⟨v4, v5, v6, ks, as, rfl, s2, hq2, hD2, ha2, t2, l2⟩
      rw [List.length_map] at t2 l2
      exact ⟨_, rfl, k H2 D ks as s2 hD hD2 ha2 t2.two.nd t2.two.ok (by omega)⟩
end
end Cw
/-! CwWork: joined, workings_of, all_workings. -/
namespace Cw
open PySem L2 TL

/-! ### the mathematics -/
structure Joins (ws : List Str) (z : Str) (m : Nat) (Old : Wk → Prop) (ks : List Wk) : Prop where
  nd : ks.Nodup
  at_ : ∀ k ∈ ks, ∃ x y, k = .join x y ∧ Old x ∧ Good ws x ∧ Good ws y ∧ x.out ++ y.out = z ∧ 1 + x.size + y.size = m
theorem Joins.none {ws : List Str} {z : Str} {m : Nat} {Old : Wk → Prop} : Joins ws z m Old [] := ⟨List.nodup_nil, fun _ h => absurd h List.not_mem_nil⟩
theorem Joins.mono {ws : List Str} {z : Str} {m : Nat} {Old New : Wk → Prop} {ks : List Wk} (h : Joins ws z m Old ks) (f : ∀ x, Old x → New x) : Joins ws z m New ks :=
  ⟨h.nd, fun k hk => by
    obtain ⟨x, y, h1, h2, h3⟩ := h.at_ k hk
    exact ⟨x, y, h1, f x h2, h3⟩⟩
theorem Joins.add {ws : List Str} {z : Str} {m : Nat} {Old New : Wk → Prop} {ks ys : List Wk} {x : Wk} (h : Joins ws z m Old ks) (nx : ¬ Old x) (f : ∀ x, Old x → New x) (ox : New x) (gx : Good ws x) (hy : ys.Nodup)
    (gy : ∀ y ∈ ys, Good ws y ∧ x.out ++ y.out = z ∧ 1 + x.size + y.size = m) : Joins ws z m New (ks ++ ys.map (Wk.join x)) := by
  refine ⟨nodup_app h.nd (nodup_map (fun a b e => (Wk.join.inj e).2) hy) fun k hk hm => ?_, fun k hk => ?_⟩
  · obtain ⟨y, _, rfl⟩ := List.mem_map.mp hm
    obtain ⟨x2, y2, e, o, _⟩ := h.at_ _ hk
    exact nx ((Wk.join.inj e).1 ▸ o)
  · rcases List.mem_append.mp hk with hk | hk
    · exact (h.mono f).at_ k hk
    · obtain ⟨y, hy, rfl⟩ := List.mem_map.mp hk
      obtain ⟨g1, g2, g3⟩ := gy y hy
      exact ⟨x, y, rfl, ox, gx, g1, g2, g3⟩
/-- the first parts that were met: shorter ones, or as long and smaller, or the first j of those at hand -/
def OldAt (c s : Nat) (xs : List Wk) (j : Nat) (x : Wk) : Prop := x.out.length < c ∨ (x.out.length = c ∧ (x.size < s ∨ (x.size = s ∧ x ∈ xs.take j)))
theorem old_start {c s : Nat} {xs : List Wk} (x : Wk) (h : OldAt c s [] 0 x) : OldAt c s xs 0 x := by
  rcases h with h | ⟨h, h2 | ⟨_, h2⟩⟩
  · exact .inl h
  · exact .inr ⟨h, .inl h2⟩
  · cases h2
theorem old_next {c s j : Nat} {xs : List Wk} (x : Wk) (h : OldAt c s xs j x) : OldAt c s xs (j + 1) x := by
  rcases h with h | ⟨h, h2 | ⟨h2, h3⟩⟩
  · exact .inl h
  · exact .inr ⟨h, .inl h2⟩
  · refine .inr ⟨h, .inr ⟨h2, ?_⟩⟩
    rw [List.take_add_one]
    exact List.mem_append_left _ h3
theorem old_size {c s j : Nat} {xs : List Wk} (x : Wk) (h : OldAt c s xs j x) : OldAt c (s + 1) [] 0 x := by
  rcases h with h | ⟨h, h2 | ⟨h2, _⟩⟩
  · exact .inl h
  · exact .inr ⟨h, .inl (Nat.lt_succ_of_lt h2)⟩
  · exact .inr ⟨h, .inl (by omega)⟩
theorem old_cut {c s : Nat} (x : Wk) (h : OldAt c s [] 0 x) : OldAt (c + 1) 1 [] 0 x := by
  rcases h with h | ⟨h, _⟩
  · exact .inl (Nat.lt_succ_of_lt h)
  · exact .inl (by omega)
theorem old_here {c s j : Nat} {xs : List Wk} {x : Wk} (h : xs[j]? = some x) (h1 : x.out.length = c) (h2 : x.size = s) : OldAt c s xs (j + 1) x := by
  refine .inr ⟨h1, .inr ⟨h2, ?_⟩⟩
  rw [List.take_add_one, h]
  simp
theorem old_not {c s j : Nat} {xs : List Wk} {x : Wk} (hn : xs.Nodup) (h : xs[j]? = some x) (h1 : x.out.length = c) (h2 : x.size = s) : ¬ OldAt c s xs j x := by
  rintro (q | ⟨_, q | ⟨_, q⟩⟩)
  · omega
  · omega
  · obtain ⟨i, hi⟩ := List.mem_iff_getElem?.mp q
    have il : i < j := by
      have := (List.getElem?_eq_some_iff.mp hi).1
      rw [List.length_take] at this
      omega
    rw [List.getElem?_take_of_lt il] at hi
    have e := nd_ix hn hi h
    omega
theorem low_seg {z : Str} (h : Low z) (a b : Nat) : Low (seg z a b) := fun c hc => h c (List.drop_subset _ _ (List.take_subset _ _ hc))
theorem low_rev {z : Str} (h : Low z) : Low (rev z) := fun c hc => h c (List.mem_reverse.mp hc)
/-- how many workings of just m steps there can be -/
def bnd : Nat → Nat
  | 1 => 1
  | 2 => 91
  | 3 => 546
  | _ => 1456
theorem bnd_step {m : Nat} (h2 : 2 ≤ m) (h4 : m ≤ 4) : bnd (m - 1) + (if m = 2 then 90 else 0) + 455 * (m - 2) ≤ bnd m := by
  have : m = 2 ∨ m = 3 ∨ m = 4 := by omega
  rcases this with e | e | e <;> subst e <;> decide
theorem bnd_pair {m s : Nat} (h4 : m ≤ 4) (h1 : 1 ≤ s) (h2 : s + 1 < m) : bnd (m - 1 - s) * bnd s ≤ 91 := by
  have : (m = 3 ∧ s = 1) ∨ (m = 4 ∧ s = 1) ∨ (m = 4 ∧ s = 2) := by omega
  rcases this with ⟨e, f⟩ | ⟨e, f⟩ | ⟨e, f⟩ <;> subst e <;> subst f <;> decide

def spWork (w : World) (C : Addr) (M : Nat) : Sp := fun vs H Q _ => ∃ (B : Bk) (ws : List Str) (n : Nat) (z : Str) (m : Nat), vs = [.ref B.p, .str z, .int (m : Nat)] ∧ 1 ≤ m ∧ m ≤ M ∧ m ≤ 4 ∧ BookAt w C H B ws n ∧ Words ws ∧ ws.length ≤ 10 ∧ Low z ∧ 1 ≤ z.length ∧ z.length ≤ 6 ∧
  ∀ H' p ks as, Same H H' → H p = none → H' p = some (.lst ((as : List Addr).map V.ref)) → AllAt H' ks as → ks.Nodup → (∀ k ∈ ks, Good ws k ∧ k.out = z ∧ k.size = m) → ks.length ≤ bnd m → Q (.ref p) H'
def spJoin (w : World) (C : Addr) (M : Nat) : Sp := fun vs H Q _ => ∃ (B : Bk) (ws : List Str) (n : Nat) (z : Str) (m : Nat), vs = [.ref B.p, .str z, .int (m : Nat)] ∧ 2 ≤ m ∧ m ≤ M + 1 ∧ m ≤ 4 ∧ BookAt w C H B ws n ∧ Words ws ∧ ws.length ≤ 10 ∧ Low z ∧ 1 ≤ z.length ∧ z.length ≤ 6 ∧
  ∀ H' p ks as, Same H H' → H p = none → H' p = some (.lst ((as : List Addr).map V.ref)) → AllAt H' ks as → Joins ws z m (fun _ => True) ks → ks.length ≤ 455 * (m - 2) → Q (.ref p) H'
section
variable {P : Program} {w : World} {K : PySem.W.Frag} {mg : Str → Option Value} {base : Heap}
theorem ok_joined {L M : Nat} {f fW C : Addr} {fd fdW : FuncData} (F : Fun K "joined" "joined" sJoined f fd) (T : Txt K mg C) (GW : FnOk P w K mg base CX0 L fW fdW ["book", "answer", "many"] (spWork w C M)) (bW : Binds K fdW ["book", "answer", "many"] []) (kW : PySem.W.keepIn K (.ref fW) = true) (mW : mg "workings_of" = some (.ref fW)) :
    FnOk P w K mg base CX0 (L + 1) f fd ["book", "answer", "many"] (spJoin w C M) := by
  refine F.ok scJoined (fun vs H Q E h => ?_) (fun cdv A outer s H vs Q E hr h => ?_)
  · obtain ⟨B, ws, n, z, m, rfl, _⟩ := h
    rfl
  · obtain ⟨B, ws, n, z, m, rfl, h2, hM, h4, b, hW, hwl, low, hz1, hz6, k⟩ := h
    have hz' : z.length ≤ sizeLine := sz (by omega)
    refine ⟨_, pss_cons (ps_set (i := 3) scJoined.nd rfl (Or.inl rfl) (pe_lst pa_nil))
      (pss_cons (ps_for PassesOwn.never rfl (pi_range2 rfl T.rng (pa_cons pe_int (pa_cons (pe_callB call_len_str rfl T.len PySem.boot_len (pa_cons (pv 1) pa_nil)) pa_nil))) (pg_name (i := 4) scJoined.nd rfl (Or.inl rfl))
        (pss_one (ps_for PassesOwn.never rfl (pi_range2 rfl T.rng (pa_cons pe_int (pa_cons (pe_op op_sub (pv 2) pe_int) pa_nil))) (pg_name (i := 5) scJoined.nd rfl (Or.inl rfl))
          (pss_cons (ps_set (i := 6) scJoined.nd rfl (Or.inl rfl) (pe_call GW hr rfl mW kW bW .nil pass0 (pa_cons (pv 0) (pa_cons (pe_slice sl_str (pv 1) (po_some (pv 4)) po_none) (pa_cons (pe_op op_sub (pe_op op_sub (pv 2) pe_int) (pv 5)) pa_nil)))))
          (pss_one (ps_for PassesOwn.never rfl (pi_list (pe_call GW hr rfl mW kW bW .nil pass0 (pa_cons (pv 0) (pa_cons (pe_slice sl_str (pv 1) po_none (po_some (pv 4))) (pa_cons (pv 5) pa_nil))))) (pg_name (i := 7) scJoined.nd rfl (Or.inr rfl))
            (pss_one (ps_expr (pe_bm PySem.F.plainAttrs_list PySem.F.slot_list_extend PySem.F.type_list_extend mt_extend (pv 3) (pa_cons (pe_lc (own := [("other", 8)]) (g := gName 8) (tt := tYes) rfl scJoined.nd (pi_list (pv 6)) (blkOk_by (own := [("other", 8)]) (N := ["book", "answer", "many", "found", "cut", "size", "others", "one", "other"]) (sc := defScope sJoined) (by decide +kernel))
              (fun _ _ _ _ _ => pg_name (i := 8) scJoined.nd rfl (Or.inl rfl)) (fun _ _ _ _ _ => pts_nil) (fun _ _ _ _ _ => pe_tup (pa_cons pe_str (pa_cons (pv 7) (pa_cons (pv 8) pa_nil))))) pa_nil))))))))))
      (pss_one (ps_ret (pv 3)))), ?_⟩
    -- found = []
    refine ⟨sz (by decide), fun D hD => ?_⟩
    obtain ⟨per, hper⟩ : ∃ per, per = 91 * (m - 2) := ⟨_, rfl⟩
    -- for cut in range(1, len(answer))
    refine ⟨_, rfl, z, rfl, hz', 1, _, rfl, ⟨by decide, by decide, by omega, by omega⟩, for_range (fun i σ H' => ∃ (v4 v5 v6 v7 v8 : Option V) (ks : List Wk) (as : List Addr), σ = [some (.ref B.p), some (.str z), some (.int (m : Nat)), some (.ref D), v4, v5, v6, v7, v8] ∧
      Same H H' ∧ H' D = some (.lst (as.map V.ref)) ∧ AllAt H' ks as ∧ Joins ws z m (OldAt (1 + i) 1 [] 0) ks ∧ ks.length ≤ per * i)
      ⟨none, none, none, none, none, [], [], rfl, same_new hD _, upd_same, .nil, Joins.none, Nat.zero_le _⟩ ?_ ?_⟩
    · rintro i σ H1 hi ⟨v4, v5, v6, v7, v8, ks, as, rfl, s1, hD1, a1, t1, l1⟩
      have e1 : (1 : Int) + (i : Nat) = ((1 + i : Nat) : Int) := by omega
      rw [e1]
      have hi' : i + 1 < z.length := by omega
      -- for size in range(1, many - 1)
      refine ⟨_, rfl, _, _, rfl, rfl, 1, _, rfl, ⟨by decide, by decide, by omega, by omega⟩, for_range (fun j σ H' => ∃ (v5 v6 v7 v8 : Option V) (ks : List Wk) (as : List Addr), σ = [some (.ref B.p), some (.str z), some (.int (m : Nat)), some (.ref D), some (.int ((1 + i : Nat) : Int)), v5, v6, v7, v8] ∧
        Same H H' ∧ H' D = some (.lst (as.map V.ref)) ∧ AllAt H' ks as ∧ Joins ws z m (OldAt (1 + i) (1 + j) [] 0) ks ∧ ks.length ≤ per * i + 91 * j)
        ⟨v5, v6, v7, v8, ks, as, rfl, s1, hD1, a1, t1, by omega⟩ ?_ ?_⟩
      · rintro j σ H2 hj ⟨v5, v6, v7, v8, ks, as, rfl, s2, hD2, a2, t2, l2⟩
        have e2 : (1 : Int) + (j : Nat) = ((1 + j : Nat) : Int) := by omega
        rw [e2]
        have hj' : j + 2 < m := by omega
        -- others = workings_of(book, answer[cut:], many - 1 - size)
        have e3 : ((m : Nat) : Int) - 1 - ((1 + j : Nat) : Int) = ((m - 1 - (1 + j) : Nat) : Int) := by omega
        have lr := seg_len z (1 + i) z.length (Nat.le_refl _)
        refine ⟨_, rfl, _, rfl, _, rfl, _, rfl, z, rfl, hz', _, rfl, _, _, rfl, rfl, _, rfl, _, _, rfl, rfl, B, ws, n, seg z (1 + i) z.length, m - 1 - (1 + j), ?_, by omega, by omega, by omega, b.same s2, hW, hwl, low_seg low _ _, by omega, by omega, fun H3 q os oas s3 hq hq3 ao no go lo => ?_⟩
        · show [V.ref B.p, V.str (cutS z (some ((1 + i : Nat) : Int)) none), V.int (((m : Nat) : Int) - 1 - ((1 + j : Nat) : Int))] = _
          rw [cut_hi, e3]
        -- for one in workings_of(book, answer[:cut], size)
        have ll := seg_len z 0 (1 + i) (by omega)
        have s13 := s2.trans s3
        refine ⟨_, rfl, _, rfl, _, rfl, _, rfl, z, rfl, hz', _, rfl, B, ws, n, seg z 0 (1 + i), 1 + j, ?_, by omega, by omega, by omega, b.same s13, hW, hwl, low_seg low _ _, by omega, by omega, fun H4 r xs xas s4 hr4 hr5 ax nx gx lx => ?_⟩
        · show [V.ref B.p, V.str (cutS z none (some ((1 + i : Nat) : Int))), V.int ((1 + j : Nat) : Int)] = _
          rw [cut_lo z (1 + i) (by omega)]
        have qD : q ≠ D := fun e => by rw [e, hD2] at hq; cases hq
        have hD3 := s3 _ _ hD2
        have rD : r ≠ D := fun e => by rw [e, hD3] at hr4; cases hr4
        have bo : os.length ≤ 1456 := by
          refine Nat.le_trans lo ?_
          unfold bnd
          split <;> decide
        refine ⟨r, rfl, ⟨_, SqL.of hr5⟩, for_list (fun t σ H' => ∃ (v7 v8 : Option V) (ks : List Wk) (as : List Addr), σ = [some (.ref B.p), some (.str z), some (.int (m : Nat)), some (.ref D), some (.int ((1 + i : Nat) : Int)), some (.int ((1 + j : Nat) : Int)), some (.ref q), v7, v8] ∧
          Same H H' ∧ H' q = some (.lst (oas.map V.ref)) ∧ AllAt H' os oas ∧ H' r = some (.lst (xas.map V.ref)) ∧ AllAt H' xs xas ∧ H' D = some (.lst (as.map V.ref)) ∧ AllAt H' ks as ∧ Joins ws z m (OldAt (1 + i) (1 + j) xs t) ks ∧ ks.length ≤ per * i + 91 * j + os.length * t)
          ⟨v7, v8, ks, as, rfl, s13.trans s4, s4 _ _ hq3, paired_same (tups_of s4) ao, hr5, ax, s4 _ _ hD3, paired_same (tups_of (s3.trans s4)) a2, t2.mono fun x hx => old_start x hx, by omega⟩ (fun t σ H' _ ⟨_, _, _, _, _, _, _, _, hr6, _⟩ => SqL.of hr6) ?_ ?_⟩
        · rintro t x σ H5 hx ⟨v7, v8, ks, as, rfl, s5, hq5, ao5, hr6, ax5, hD5, a5, t5, l5⟩
          obtain ⟨xa, hxa, rfl⟩ : ∃ xa, xas[t]? = some xa ∧ x = .ref xa := by
            rw [List.getElem?_map] at hx
            cases e : xas[t]? with
            | none => rw [e] at hx; cases hx
            | some xa => rw [e] at hx; cases hx; exact ⟨xa, rfl, rfl⟩
          obtain ⟨xk, hxk, wx⟩ := ax5.at hxa
          obtain ⟨gx1, gx2, gx3⟩ := gx xk (List.mem_of_getElem? hxk)
          -- found.extend([('join', one, other) for other in others])
          refine ⟨_, rfl, .inl ⟨rfl, _, SqL.of hD5⟩, _, rfl, q, rfl, ⟨_, SqL.of hq5⟩, fun E' hE => ?_⟩
          have ED : E' ≠ D := fun e => by rw [e, hD5] at hE; cases hE
          refine lc_list (fun u H' => ∃ bs : List Addr, Same H5 H' ∧ H' E' = some (.lst (bs.map V.ref)) ∧ AllAt H' ((os.take u).map (Wk.join xk)) bs) ⟨[], same_new hE _, upd_same, .nil⟩ (fun u H' _ ⟨_, s6, _⟩ => SqL.of (s6 _ _ hq5)) ?_ ?_
          · rintro u y H6 hy ⟨bs, s6, hE6, ab⟩
            obtain ⟨oa, hoa, rfl⟩ : ∃ oa, oas[u]? = some oa ∧ y = .ref oa := by
              rw [List.getElem?_map] at hy
              cases e : oas[u]? with
              | none => rw [e] at hy; cases hy
              | some oa => rw [e] at hy; cases hy; exact ⟨oa, rfl, rfl⟩
            obtain ⟨ok, hok, wo⟩ := ao5.at hoa
            refine ⟨rfl, ?_⟩
            refine yes ?_
            refine ⟨_, rfl, _, rfl, (by show 3 ≤ sizeLine; exact sz (by decide)), fun Tn nTn => ?_⟩
            have s67 := s6.trans (same_new nTn (.tup [.str "join", .ref xa, .ref oa]))
            obtain ⟨g1, g2, g3, g4⟩ := add_wk (k := .join xk ok) s6 hE hE6 ab nTn ⟨xa, oa, upd_same, wx.same s67, wo.same s67⟩
            refine ⟨bs.map V.ref, ?_, ?_, bs ++ [Tn], g1, g2, ?_⟩
            · rw [upd_ne (ne_of_none hE6 nTn)]
              exact hE6
            · have e := ab.len
              rw [List.length_map, List.length_take] at e
              rw [List.length_map]
              exact szlt (by omega)
            · rw [List.take_add_one, hok, List.map_append]
              exact g3
          · rintro H6 ⟨bs, s6, hE6, ab⟩
            have eo : os.take (oas.map V.ref).length = os := by
              rw [List.length_map, ← ao5.len, List.take_length]
            rw [eo] at ab
            have lb := ab.len
            rw [List.length_map] at lb
            have la := a5.len
            have tl' : t < xs.length := (List.getElem?_eq_some_iff.mp hxk).1
            have hle : os.length * (t + 1) ≤ 91 := Nat.le_trans (Nat.mul_le_mul lo (Nat.le_trans tl' lx)) (bnd_pair h4 (by omega) (by omega))
            rw [Nat.mul_succ] at hle
            have hD6 := s6 _ _ hD5
            refine ⟨D, E', as.map V.ref, bs.map V.ref, rfl, rfl, hD6, hE6, ?_, ?_⟩
            · rw [List.length_map, List.length_map]
              have hi7 : per * i ≤ per * 5 := Nat.mul_le_mul_left _ (by omega)
              exact sz (by omega)
            · have tu := tups_upd hD6 (.lst (as.map V.ref ++ bs.map V.ref))
              refine ⟨_, v8, ks ++ os.map (Wk.join xk), as ++ bs, rfl, fun b u e => ?_, ?_, paired_same tu (paired_same (tups_of s6) ao5), ?_, paired_same tu (paired_same (tups_of s6) ax5), ?_, ?_, ?_, ?_⟩
              · rw [upd_ne (ne_of_none e hD)]
                exact s6 _ _ (s5 _ _ e)
              · rw [upd_ne qD]
                exact s6 _ _ hq5
              · rw [upd_ne rD]
                exact s6 _ _ hr6
              · rw [upd_same, List.map_append]
              · exact AllAt.app (paired_same tu (paired_same (tups_of s6) a5)) (paired_same tu ab)
              · refine t5.add (old_not nx hxk (by rw [gx2]; omega) gx3) (fun x hx => old_next x hx) (old_here hxk (by rw [gx2]; omega) gx3) gx1 no fun y hy => ?_
                obtain ⟨go1, go2, go3⟩ := go y hy
                refine ⟨go1, ?_, by omega⟩
                rw [gx2, go2, seg_app]
              · rw [List.length_append, List.length_map, Nat.mul_succ]
                omega
        · rintro σ H5 ⟨v7, v8, ks, as, rfl, s5, hq5, ao5, hr6, ax5, hD5, a5, t5, l5⟩
          rw [List.length_map] at t5 l5
          have le : os.length * xas.length ≤ 91 := Nat.le_trans (Nat.mul_le_mul lo (by rw [← ax5.len]; exact lx)) (bnd_pair h4 (by omega) (by omega))
          refine ⟨_, _, v7, v8, ks, as, rfl, s5, hD5, a5, ?_, by omega⟩
          have e : 1 + (j + 1) = 1 + j + 1 := by omega
          rw [e]
          exact t5.mono fun x hx => old_size x hx
      · rintro σ H2 ⟨v5, v6, v7, v8, ks, as, rfl, s2, hD2, a2, t2, l2⟩
        refine ⟨_, v5, v6, v7, v8, ks, as, rfl, s2, hD2, a2, ?_, ?_⟩
        · have e : 1 + (i + 1) = 1 + i + 1 := by omega
          rw [e]
          exact t2.mono fun x hx => old_cut x hx
        · rw [Nat.mul_succ]
          omega
    · rintro σ H1 ⟨v4, v5, v6, v7, v8, ks, as, rfl, s1, hD1, a1, t1, l1⟩
      refine ⟨_, rfl, k H1 D ks as s1 hD hD1 a1 (t1.mono fun _ _ => trivial) ?_⟩
      have e : per * ((((z.length : Nat) : Int) - 1).toNat) ≤ per * 5 := Nat.mul_le_mul_left _ (by omega)
      omega
/-! ### workings_of -/
theorem work_none {f : Addr} {fd : FuncData} {L : Nat} {w : World} {C : Addr} : FnOk P w K mg base CX0 L f fd ["book", "answer", "many"] (spWork w C 0) := by
  have no : ∀ vs H Q E, ¬ spWork w C 0 vs H Q E := fun vs H Q E h => by
    obtain ⟨B, ws, n, z, m, _, h1, h2, _⟩ := h
    omega
  exact ⟨fun vs H Q E h => absurd h (no vs H Q E), fun A outer s H args us vs Q E _ _ _ _ h => absurd h (no vs H Q E)⟩
theorem flat_one : ∀ l : List Nat, (l.map fun c => (⟨#[c]⟩ : Str)).map tl = l.map fun c => [c]
  | [] => rfl
  | c :: l => congrArg (fun r => [c] :: r) (flat_one l)
theorem joinL_flat : ∀ xs : List (List Nat), joinL [] xs = xs.flatten
  | [] => rfl
  | [x] => by simp [joinL]
  | x :: y :: r => by
    have q := joinL_flat (y :: r)
    simp only [joinL, List.flatten_cons] at q ⊢
    simp [q]
theorem rev_join (z : Str) : Txt.join "" (signs z).reverse = rev z := by
  rw [join_eq]
  refine ext_tl ?_
  rw [tl_join, tl_rev, show tl "" = [] by rw [tl_ofString]; rfl, joinL_flat]
  unfold signs
  rw [← List.map_reverse, flat_one]
  generalize (tl z).reverse = l
  induction l with
  | nil => rfl
  | cons c l ih => rw [List.map_cons, List.flatten_cons, ih]; rfl
theorem sum_ones : ∀ l : List Nat, ((l.map fun c => (⟨#[c]⟩ : Str)).map (·.length)).sum = l.length
  | [] => rfl
  | c :: l => by
    rw [List.map_cons, List.map_cons, List.sum_cons, sum_ones l, List.length_cons]
    show 1 + l.length = _
    omega
theorem rev_sum (z : Str) : (((signs z).reverse).map (·.length)).sum + ((signs z).reverse).length * Str.length "" = z.length := by
  have e : Str.length "" = 0 := rfl
  rw [e, Nat.mul_zero, Nat.add_zero]
  unfold signs
  rw [← List.map_reverse, sum_ones, List.length_reverse, ← len_tl]
theorem ok_work {L M : Nat} {f fO fJ fH C : Addr} {fd fdO fdJ fdH : FuncData} (hL : 2 ≤ L) (F : Fun K "workings_of" "workings_of" sWork f fd) (T : Txt K mg C) (GW : FnOk P w K mg base CX0 L f fd ["book", "answer", "many"] (spWork w C M)) (bW : Binds K fd ["book", "answer", "many"] []) (mW : mg "workings_of" = some (.ref f))
    (GO : FnOk P w K mg base CX0 2 fO fdO ["book", "answer"] (spOfWords w C)) (bO : Binds K fdO ["book", "answer"] []) (kO : PySem.W.keepIn K (.ref fO) = true) (mO : mg "of_words" = some (.ref fO))
    (GJ : FnOk P w K mg base CX0 (L + 1) fJ fdJ ["book", "answer", "many"] (spJoin w C M)) (bJ : Binds K fdJ ["book", "answer", "many"] []) (kJ : PySem.W.keepIn K (.ref fJ) = true) (mJ : mg "joined" = some (.ref fJ))
    (GH : FnOk P w K mg base CX0 1 fH fdH ["self", "word"] (spHas w C)) (bH : Binds K fdH ["self", "word"] []) (mH : Meth K C "has" fH) : FnOk P w K mg base CX0 (L + 2) f fd ["book", "answer", "many"] (spWork w C (M + 1)) := by
  refine F.ok scWork (fun vs H Q E h => ?_) (fun cdv A outer s H vs Q E hr h => ?_)
  · obtain ⟨B, ws, n, z, m, rfl, _⟩ := h
    rfl
  · obtain ⟨B, ws, n, z, m, rfl, h1, hM, h4, b, hW, hwl, low, hz1, hz6, k⟩ := h
    have hz' : z.length ≤ sizeLine := sz (by omega)
    refine ⟨_, pss_cons (ps_if (pt_cmpR op_eq (pv 2) pe_int (nomark _)) (pss_cons (ps_if (pt_val (pe_meth (pv 0) T.cl mH GH (hr.mono (by omega)) bH .nil pass0 (pa_cons (pv 1) pa_nil))) (pss_one (ps_ret (pe_lst (pa_cons (pe_tup (pa_cons pe_str (pa_cons (pv 1) pa_nil))) pa_nil)))) pss_nil) (pss_one (ps_ret (pe_lst pa_nil)))) pss_nil)
      (pss_cons (ps_set (i := 3) scWork.nd rfl (Or.inl rfl) (pe_join pe_str (pe_listRev rfl rfl T.tlist rfl T.rev (pv 1))))
      (pss_cons (ps_setLc (i := 4) (own := [("working", 5)]) (g := gName 5) (tt := tYes) rfl scWork.nd rfl rfl (sw_true rfl rfl rfl (by decide +kernel)) (pi_list (pe_call GW (hr.mono (by omega)) rfl mW F.kp bW .nil pass0 (pa_cons (pv 0) (pa_cons (pv 3) (pa_cons (pe_op op_sub (pv 2) pe_int) pa_nil))))) (blkOk_by (own := [("working", 5)]) (N := ["book", "answer", "many", "back", "found", "working"]) (sc := defScope sWork) (by decide +kernel))
          (fun _ _ _ _ _ => pg_name (i := 5) scWork.nd rfl (Or.inl rfl)) (fun _ _ _ _ _ => pts_nil) (fun _ _ _ _ _ => pe_tup (pa_cons pe_str (pa_cons (pv 5) pa_nil))))
      (C8.pss_cut (ps_if (pt_cmpR op_eq (pv 2) pe_int (nomark _)) (pss_one (ps_expr (pe_bm PySem.F.plainAttrs_list PySem.F.slot_list_extend PySem.F.type_list_extend mt_extend (pv 4) (pa_cons (pe_call GO (hr.mono (by omega)) rfl mO kO bO .nil pass0 (pa_cons (pv 0) (pa_cons (pv 1) pa_nil))) pa_nil)))) pss_nil)
      (pss_one (ps_ret (pe_op op_cat (pv 4) (pe_call GJ hr rfl mJ kJ bJ .nil pass0 (pa_cons (pv 0) (pa_cons (pv 1) (pa_cons (pv 2) pa_nil)))))))))), ?_⟩
    -- if many == 1
    refine ⟨_, rfl, rfl, _, rfl, ?_⟩
    refine ite2 (fun e => ?_) (fun e => ?_)
    · have e1 : m = 1 := by have := V.int.inj (of_decide_eq_true e); omega
      subst e1
      -- if book.has(answer)
      refine ⟨_, rfl, B.p, B.dx, _, rfl, b.ob, lkNo B (by decide +kernel) (by decide +kernel) (by decide +kernel), _, rfl, B, ws, n, z, rfl, b, _, rfl, ite2 (fun e2 => ?_) (fun e2 => ?_)⟩
      · have hin : z ∈ ws := of_decide_eq_true e2
        refine ⟨_, rfl, (by show 2 ≤ sizeLine; exact sz (by decide)), fun Tn nTn => ⟨(by show 1 ≤ sizeLine; exact sz (by decide)), fun p hp => ?_⟩⟩
        have s1 := same_new nTn (.tup [.str "word", .str z])
        have pT : p ≠ Tn := fun e => by rw [e, upd_same] at hp; cases hp
        have hp0 : H p = none := by rw [upd_ne pT] at hp; exact hp
        refine k _ p [.word z] [Tn] (s1.trans (same_new hp _)) hp0 upd_same (.cons (same_new hp _ _ _ upd_same) .nil) (by simp) (fun k hk => ?_) (Nat.le_refl 1)
        rw [List.mem_singleton.mp hk]
        exact ⟨hin, rfl, rfl⟩
      · exact ⟨sz (by decide), fun p hp => k _ p [] [] (same_new hp _) hp upd_same .nil List.nodup_nil (fun _ h => absurd h List.not_mem_nil) (Nat.zero_le _)⟩
    · have e1 : m ≠ 1 := fun q => e (decide_eq_true (by rw [q]; rfl))
      have h2 : 2 ≤ m := by omega
      -- back = ''.join(list(reversed(answer)))
      refine ⟨⟨_, rfl⟩, _, rfl, z, rfl, hz', fun R hR => ⟨"", R, (signs z).reverse, rfl, rfl, .inl (SqL.of upd_same), (by rw [rev_sum]; omega), ?_⟩⟩
      rw [rev_join]
      have sR := same_new hR (.lst ((signs z).reverse.map V.str))
      -- found = [('back', working) for working in workings_of(book, back, many - 1)]
      have e3 : ((m : Nat) : Int) - 1 = ((m - 1 : Nat) : Int) := by omega
      refine ⟨_, rfl, _, rfl, _, rfl, _, _, rfl, rfl, B, ws, n, rev z, m - 1, ?_, by omega, by omega, by omega, b.same sR, hW, hwl, low_rev low, by rw [rev_len]; omega, by rw [rev_len]; omega, fun H2 q ks as s2 hq hq2 a2 nd g l => ?_⟩
      · show [V.ref B.p, V.str (rev z), V.int (((m : Nat) : Int) - 1)] = _
        rw [e3]
      have s02 := sR.trans s2
      have bk : bnd (m - 1) ≤ 1456 := by unfold bnd; split <;> decide
      refine ⟨q, rfl, ⟨_, SqL.of hq2⟩, fun D hD => ?_⟩
      have hD0 : H D = none := by
        cases e : H D with
        | none => rfl
        | some o => rw [s02 _ _ e] at hD; cases hD
      refine lc_list (fun u H' => ∃ bs : List Addr, Same H2 H' ∧ H' D = some (.lst (bs.map V.ref)) ∧ AllAt H' ((ks.take u).map Wk.back) bs) ⟨[], same_new hD _, upd_same, .nil⟩ (fun u H' _ ⟨_, s6, _⟩ => SqL.of (s6 _ _ hq2)) ?_ ?_
      · rintro u y H6 hy ⟨bs, s6, hE6, ab⟩
        obtain ⟨oa, hoa, rfl⟩ : ∃ oa, as[u]? = some oa ∧ y = .ref oa := by
          rw [List.getElem?_map] at hy
          cases e : as[u]? with
          | none => rw [e] at hy; cases hy
          | some oa => rw [e] at hy; cases hy; exact ⟨oa, rfl, rfl⟩
        obtain ⟨ok, hok, wo⟩ := a2.at hoa
        refine ⟨rfl, ?_⟩
        refine yes ?_
        refine ⟨_, rfl, (by show 2 ≤ sizeLine; exact sz (by decide)), fun Tn nTn => ?_⟩
        have s67 := s6.trans (same_new nTn (.tup [.str "back", .ref oa]))
        obtain ⟨g1, g2, g3, g4⟩ := add_wk (k := .back ok) s6 hD hE6 ab nTn ⟨oa, upd_same, wo.same s67⟩
        refine ⟨bs.map V.ref, ?_, ?_, bs ++ [Tn], g1, g2, ?_⟩
        · rw [upd_ne (ne_of_none hE6 nTn)]
          exact hE6
        · have e := ab.len
          rw [List.length_map, List.length_take] at e
          rw [List.length_map]
          exact szlt (by omega)
        · rw [List.take_add_one, hok, List.map_append]
          exact g3
      · rintro H6 ⟨bs, s6, hE6, ab⟩
        have eo : ks.take (as.map V.ref).length = ks := by
          rw [List.length_map, ← a2.len, List.take_length]
        rw [eo] at ab
        have s06 := s02.trans s6
        -- if many == 2: found.extend(of_words(book, answer))
        refine ⟨fun σ H' => ∃ (v5 : Option V) (fs : List Wk) (bs : List Addr), σ = [some (.ref B.p), some (.str z), some (.int (m : Nat)), some (.str (rev z)), some (.ref D), v5] ∧ Same H H' ∧ H' D = some (.lst (bs.map V.ref)) ∧ AllAt H' fs bs ∧
          fs.Nodup ∧ (∀ k ∈ fs, Good ws k ∧ k.out = z ∧ k.size = m ∧ ∀ x y, k ≠ .join x y) ∧ fs.length ≤ bnd (m - 1) + (if m = 2 then 90 else 0), ?_, ?_⟩
        · have nb : (ks.map Wk.back).Nodup := nodup_map (fun a b e => Wk.back.inj e) nd
          have gb : ∀ k ∈ ks.map Wk.back, Good ws k ∧ k.out = z ∧ k.size = m ∧ ∀ x y, k ≠ .join x y := fun k hk => by
            obtain ⟨x, hx, rfl⟩ := List.mem_map.mp hk
            obtain ⟨g1, g2, g3⟩ := g x hx
            refine ⟨g1, ?_, ?_, fun x y => by simp⟩
            · show rev x.out = z
              rw [g2, rev_rev]
            · show 1 + x.size = m
              omega
          have lb := ab.len
          rw [List.length_map] at lb
          refine ⟨_, rfl, rfl, _, rfl, ?_⟩
          refine ite2 (fun e => ?_) (fun e => ?_)
          · have em : m = 2 := by have := V.int.inj (of_decide_eq_true e); omega
            refine ⟨_, rfl, .inl ⟨rfl, _, SqL.of hE6⟩, _, rfl, _, rfl, B, ws, n, z, rfl, b.same s06, hW, hwl, low, hz1, hz6, fun H7 p os oas s7 hp hp7 a7 no go lo => ?_⟩
            have hE7 := s7 _ _ hE6
            refine ⟨D, p, bs.map V.ref, oas.map V.ref, rfl, rfl, hE7, hp7, ?_, ?_⟩
            · rw [List.length_map, List.length_map, ← a7.len]
              exact sz (by omega)
            · have tu := tups_upd hE7 (.lst (bs.map V.ref ++ oas.map V.ref))
              refine ⟨_, ks.map Wk.back ++ os, bs ++ oas, rfl, fun b u e => ?_, ?_, ?_, ?_, fun k hk => ?_, ?_⟩
              · rw [upd_ne (ne_of_none e hD0)]
                exact s7 _ _ (s06 _ _ e)
              · rw [upd_same, List.map_append]
              · exact AllAt.app (paired_same tu (paired_same (tups_of s7) ab)) (paired_same tu a7)
              · refine nodup_app nb no fun k hk hm => ?_
                obtain ⟨x, _, rfl⟩ := List.mem_map.mp hk
                have := (go _ hm).2.2.2
                exact nomatch this
              · rcases List.mem_append.mp hk with hk | hk
                · exact gb k hk
                · obtain ⟨g1, g2, g3, g4⟩ := go k hk
                  exact ⟨g1, g2, by omega, fun x y e => by rw [e] at g4; exact nomatch g4⟩
              · rw [List.length_append, List.length_map, if_pos em]
                omega
          · exact ⟨_, _, bs, rfl, s06, hE6, ab, nb, gb, by rw [List.length_map]; omega⟩
        · rintro σ H7 ⟨v5, fs, bs, rfl, s7, hD7, a7, n7, g7, l7⟩
          -- return found + joined(book, answer, many)
          refine ⟨_, rfl, _, rfl, _, rfl, _, rfl, B, ws, n, z, m, rfl, h2, by omega, h4, b.same s7, hW, hwl, low, hz1, hz6, fun H8 p js jas s8 hp hp8 a8 J8 l8 => ?_⟩
          have hD8 := s8 _ _ hD7
          have bs2 := bnd_step h2 h4
          have lb := a7.len
          have lj := a8.len
          have bm : bnd m ≤ 1456 := by unfold bnd; split <;> decide
          refine ⟨D, p, bs.map V.ref, jas.map V.ref, rfl, rfl, hD8, hp8, ?_, fun r hr8 => ?_⟩
          · rw [List.length_map, List.length_map]
            exact sz (by omega)
          · have sr := same_new hr8 (.lst (bs.map V.ref ++ jas.map V.ref))
            have hr0 : H r = none := by
              cases e : H r with
              | none => rfl
              | some o => rw [(s7.trans s8) _ _ e] at hr8; cases hr8
            refine k _ r (fs ++ js) (bs ++ jas) (s7.trans (s8.trans sr)) hr0 ?_ ?_ ?_ (fun k hk => ?_) ?_
            · rw [upd_same, List.map_append]
            · exact AllAt.app (paired_same (tups_of (s8.trans sr)) a7) (paired_same (tups_of sr) a8)
            · refine nodup_app n7 J8.nd fun k hk hm => ?_
              obtain ⟨x, y, e, _⟩ := J8.at_ k hm
              exact (g7 k hk).2.2.2 x y e
            · rcases List.mem_append.mp hk with hk | hk
              · obtain ⟨g1, g2, g3, _⟩ := g7 k hk
                exact ⟨g1, g2, g3⟩
              · obtain ⟨x, y, rfl, _, gx, gy, e1, e2⟩ := J8.at_ k hk
                exact ⟨⟨gx, gy⟩, e1, e2⟩
            · rw [List.length_append]
              omega
/-! ### all calls of the two, and all_workings -/
def lw : Nat → Nat
  | 0 => 2
  | M + 1 => lw M + 2
theorem lw_pos : ∀ M, 2 ≤ lw M
  | 0 => Nat.le_refl 2
  | M + 1 => Nat.le_trans (lw_pos M) (Nat.le_add_right _ 2)
theorem all_work {f fO fJ fH C : Addr} {fd fdO fdJ fdH : FuncData} (FW : Fun K "workings_of" "workings_of" sWork f fd) (FJ : Fun K "joined" "joined" sJoined fJ fdJ) (T : Txt K mg C) (bW : Binds K fd ["book", "answer", "many"] []) (mW : mg "workings_of" = some (.ref f))
    (GO : FnOk P w K mg base CX0 2 fO fdO ["book", "answer"] (spOfWords w C)) (bO : Binds K fdO ["book", "answer"] []) (kO : PySem.W.keepIn K (.ref fO) = true) (mO : mg "of_words" = some (.ref fO))
    (bJ : Binds K fdJ ["book", "answer", "many"] []) (mJ : mg "joined" = some (.ref fJ))
    (GH : FnOk P w K mg base CX0 1 fH fdH ["self", "word"] (spHas w C)) (bH : Binds K fdH ["self", "word"] []) (mH : Meth K C "has" fH) : ∀ M, FnOk P w K mg base CX0 (lw M) f fd ["book", "answer", "many"] (spWork w C M)
  | 0 => work_none
  | M + 1 => by
    have ih := all_work FW FJ T bW mW GO bO kO mO bJ mJ GH bH mH M
    exact ok_work (lw_pos M) FW T ih bW mW GO bO kO mO (ok_joined FJ T ih bW FW.kp mW) bJ FJ.kp mJ GH bH mH
def tot : Nat → Nat
  | 0 => 0
  | m + 1 => tot m + bnd (m + 1)
def spAll (w : World) (C : Addr) : Sp := fun vs H Q _ => ∃ (B : Bk) (ws : List Str) (n : Nat) (z : Str) (m : Nat), vs = [.ref B.p, .str z, .int (m : Nat)] ∧ m ≤ 4 ∧ BookAt w C H B ws n ∧ Words ws ∧ ws.length ≤ 10 ∧ Low z ∧ 1 ≤ z.length ∧ z.length ≤ 6 ∧
  ∀ H' p ks as, Same H H' → H p = none → H' p = some (.lst ((as : List Addr).map V.ref)) → AllAt H' ks as → ks.Nodup → (∀ k ∈ ks, Good ws k ∧ k.out = z ∧ k.size ≤ m) → ks.length ≤ 2094 → Q (.ref p) H'
theorem ok_all {f fW C : Addr} {fd fdW : FuncData} (F : FunD K "all_workings" "all_workings" (defArgs sAll) (defBody sAll) (defScope sAll) [.int 3] [] f fd) (T : Txt K mg C) (GW : FnOk P w K mg base CX0 10 fW fdW ["book", "answer", "many"] (spWork w C 4)) (bW : Binds K fdW ["book", "answer", "many"] []) (kW : PySem.W.keepIn K (.ref fW) = true) (mW : mg "workings_of" = some (.ref fW)) :
    FnOk P w K mg base CX0 11 f fd ["book", "answer", "most"] (spAll w C) := by
  refine dOk F scAll (fun vs H Q E h => ?_) (fun cdv A outer s H vs Q E hr h => ?_)
  · obtain ⟨B, ws, n, z, m, rfl, _⟩ := h
    rfl
  · obtain ⟨B, ws, n, z, m, rfl, h4, b, hW, hwl, low, hz1, hz6, k⟩ := h
    refine ⟨_, pss_cons (ps_set (i := 3) scAll.nd rfl (Or.inl rfl) (pe_lst pa_nil))
      (pss_cons (ps_for PassesOwn.never rfl (pi_range2 rfl T.rng (pa_cons pe_int (pa_cons (pe_op op_add (pv 2) pe_int) pa_nil))) (pg_name (i := 4) scAll.nd rfl (Or.inl rfl))
        (pss_one (ps_expr (pe_bm PySem.F.plainAttrs_list PySem.F.slot_list_extend PySem.F.type_list_extend mt_extend (pv 3) (pa_cons (pe_call GW hr rfl mW kW bW .nil pass0 (pa_cons (pv 0) (pa_cons (pv 1) (pa_cons (pv 4) pa_nil)))) pa_nil)))))
      (pss_one (ps_ret (pv 3)))), ?_⟩
    refine ⟨sz (by decide), fun D hD => ?_⟩
    have t4 : tot 4 = 2094 := by decide
    have tm : ∀ i, i ≤ 4 → tot i ≤ 2094 := fun i hi => by
      have : i = 0 ∨ i = 1 ∨ i = 2 ∨ i = 3 ∨ i = 4 := by omega
      rcases this with e | e | e | e | e <;> subst e <;> decide
    refine ⟨_, rfl, _, _, rfl, rfl, 1, _, rfl, ⟨by decide, by decide, by omega, by omega⟩, for_range (fun i σ H' => ∃ (v4 : Option V) (ks : List Wk) (as : List Addr), σ = [some (.ref B.p), some (.str z), some (.int (m : Nat)), some (.ref D), v4] ∧
      Same H H' ∧ H' D = some (.lst (as.map V.ref)) ∧ AllAt H' ks as ∧ ks.Nodup ∧ (∀ k ∈ ks, Good ws k ∧ k.out = z ∧ k.size ≤ i) ∧ ks.length ≤ tot i)
      ⟨none, [], [], rfl, same_new hD _, upd_same, .nil, List.nodup_nil, fun _ h => absurd h List.not_mem_nil, Nat.zero_le _⟩ ?_ ?_⟩
    · rintro i σ H1 hi ⟨v4, ks, as, rfl, s1, hD1, a1, n1, g1, l1⟩
      have e1 : (1 : Int) + (i : Nat) = ((1 + i : Nat) : Int) := by omega
      rw [e1]
      have im : i < m := by omega
      refine ⟨_, rfl, .inl ⟨rfl, _, SqL.of hD1⟩, _, rfl, _, rfl, _, rfl, B, ws, n, z, 1 + i, rfl, by omega, by omega, by omega, b.same s1, hW, hwl, low, hz1, hz6, fun H2 p js jas s2 hp hp2 a2 n2 g2 l2 => ?_⟩
      have hD2 := s2 _ _ hD1
      have e2 : tot (i + 1) = tot i + bnd (1 + i) := by rw [Nat.add_comm 1 i]; rfl
      have t1 := tm (i + 1) (by omega)
      have lb := a1.len
      have lj := a2.len
      refine ⟨D, p, as.map V.ref, jas.map V.ref, rfl, rfl, hD2, hp2, ?_, ?_⟩
      · rw [List.length_map, List.length_map]
        exact sz (by omega)
      · have tu := tups_upd hD2 (.lst (as.map V.ref ++ jas.map V.ref))
        refine ⟨_, ks ++ js, as ++ jas, rfl, fun b u e => ?_, ?_, ?_, ?_, fun k hk => ?_, ?_⟩
        · rw [upd_ne (ne_of_none e hD)]
          exact s2 _ _ (s1 _ _ e)
        · rw [upd_same, List.map_append]
        · exact AllAt.app (paired_same tu (paired_same (tups_of s2) a1)) (paired_same tu a2)
        · refine nodup_app n1 n2 fun k hk hm => ?_
          have := (g1 k hk).2.2
          have := (g2 k hm).2.2
          omega
        · rcases List.mem_append.mp hk with hk | hk
          · obtain ⟨q1, q2, q3⟩ := g1 k hk
            exact ⟨q1, q2, by omega⟩
          · obtain ⟨q1, q2, q3⟩ := g2 k hk
            exact ⟨q1, q2, by omega⟩
        · rw [List.length_append, e2]
          omega
    · rintro σ H1 ⟨v4, ks, as, rfl, s1, hD1, a1, n1, g1, l1⟩
      have e : (((m : Nat) : Int) + 1 - 1).toNat = m := by omega
      rw [e] at l1 g1
      have := tm m h4
      exact ⟨_, rfl, k H1 D ks as s1 hD hD1 a1 n1 g1 (by omega)⟩
end
end Cw
/-! CwLaw1: the law's reckoners of one working. -/
namespace Cw
open PySem L2 TL PyProof.Rows

/-! ### a chain of three comparisons, as a test -/
def tChain3 (r1 r2 r3 : R2) (ta tb tc td : TE) : TT := fun σ H Q => ta σ H fun x H1 => tb σ H1 fun y H2 => r1 x y H2 fun z H3 => ∃ k, z = .bl k ∧
  (if k = true then tc σ H3 fun v H4 => r2 y v H4 fun z2 H5 => ∃ k2, z2 = .bl k2 ∧
    (if k2 = true then td σ H5 fun u H6 => r3 v u H6 fun z3 H7 => ∃ k3, z3 = .bl k3 ∧ Q k3 H7 else Q false H5) else Q false H3)
section
variable {X : Cx} {a b c d : Expr} {ta tb tc td : TE} {pos : Pos}
theorem pt_chain3 {o1 o2 o3 : CmpOp} {r1 r2 r3 : R2} (h1 : OpR X (compareOp o1) r1) (h2 : OpR X (compareOp o2) r2) (h3 : OpR X (compareOp o3) r3) (ha : PE X a ta) (hb : PE X b tb) (hc : PE X c tc) (hd : PE X d td)
    (hm : lastMarks [o1, o2, o3] [b, c, d] = false := by with_unfolding_all rfl) : PT X (.Compare a [o1, o2, o3] [b, c, d] pos) (tChain3 r1 r2 r3 ta tb tc td) := by
  refine ⟨fun pins s σ H Q I h => isTrue_chain (thn (ha.run pins s σ H _ I h) fun v s1 ⟨x, H1, I1, e1, q1⟩ => test_link (thn (hb.run pins s1 σ H1 _ I1 q1) fun u s2 ⟨y, H2, I2, e2, q2⟩ =>
    thn (h1 pins s2 σ H2 x y v u _ I2 e1 e2 q2) fun m s3 ⟨z, H3, I3, e3, k, ez, q3⟩ => ?_)) hm⟩
  subst ez
  cases e3
  refine wpAny_truthy_bool ?_
  cases k with
  | false => exact ite_ff ⟨H3, I3, q3⟩
  | true =>
    refine ite_tt (test_link (thn (hc.run pins s3 σ H3 _ I3 q3) fun w4 s4 ⟨y4, H4, I4, e4, q4⟩ => thn (h2 pins s4 σ H4 y y4 u w4 _ I4 e2 e4 q4) fun m5 s5 ⟨z5, H5, I5, e5, k5, ez5, q5⟩ => ?_))
    subst ez5
    cases e5
    refine wpAny_truthy_bool ?_
    cases k5 with
    | false => exact ite_ff ⟨H5, I5, q5⟩
    | true =>
      refine ite_tt (test_last (thn (hd.run pins s5 σ H5 _ I5 q5) fun w6 s6 ⟨y6, H6, I6, e6, q6⟩ => thn (h3 pins s6 σ H6 y4 y6 w4 w6 _ I6 e4 e6 q6) fun m7 s7 ⟨z7, H7, I7, e7, k7, ez7, q7⟩ => ?_))
      subst ez7
      cases e7
      exact wpAny_truthy_bool ⟨H7, I7, q7⟩
end

/-! ### a working by its first item -/
def Wk.kind : Wk → Str
  | .word _ => "word"
  | .back _ => "back"
  | .join _ _ => "join"
  | .mix _ _ => "mix"
  | .within _ _ _ => "within"
  | .less _ _ => "less"
theorem nk (a b : Str) (h : (a == b) = false) : ¬ V.str a = V.str b := fun e => by
  rw [V.str.inj e] at h
  simp at h
theorem kind_word : ∀ {k : Wk}, V.str k.kind = V.str "word" → ∃ w, k = .word w
  | .word w, _ => ⟨w, rfl⟩
  | .back _, e => absurd e (nk "back" "word" (by decide +kernel))
  | .join _ _, e => absurd e (nk "join" "word" (by decide +kernel))
  | .mix _ _, e => absurd e (nk "mix" "word" (by decide +kernel))
  | .within _ _ _, e => absurd e (nk "within" "word" (by decide +kernel))
  | .less _ _, e => absurd e (nk "less" "word" (by decide +kernel))
theorem kind_back : ∀ {k : Wk}, V.str k.kind = V.str "back" → ∃ x, k = .back x
  | .back x, _ => ⟨x, rfl⟩
  | .word _, e => absurd e (nk "word" "back" (by decide +kernel))
  | .join _ _, e => absurd e (nk "join" "back" (by decide +kernel))
  | .mix _ _, e => absurd e (nk "mix" "back" (by decide +kernel))
  | .within _ _ _, e => absurd e (nk "within" "back" (by decide +kernel))
  | .less _ _, e => absurd e (nk "less" "back" (by decide +kernel))
theorem kind_join : ∀ {k : Wk}, V.str k.kind = V.str "join" → ∃ x y, k = .join x y
  | .join x y, _ => ⟨x, y, rfl⟩
  | .word _, e => absurd e (nk "word" "join" (by decide +kernel))
  | .back _, e => absurd e (nk "back" "join" (by decide +kernel))
  | .mix _ _, e => absurd e (nk "mix" "join" (by decide +kernel))
  | .within _ _ _, e => absurd e (nk "within" "join" (by decide +kernel))
  | .less _ _, e => absurd e (nk "less" "join" (by decide +kernel))
theorem kind_mix : ∀ {k : Wk}, V.str k.kind = V.str "mix" → ∃ w t, k = .mix w t
  | .mix w t, _ => ⟨w, t, rfl⟩
  | .word _, e => absurd e (nk "word" "mix" (by decide +kernel))
  | .back _, e => absurd e (nk "back" "mix" (by decide +kernel))
  | .join _ _, e => absurd e (nk "join" "mix" (by decide +kernel))
  | .within _ _ _, e => absurd e (nk "within" "mix" (by decide +kernel))
  | .less _ _, e => absurd e (nk "less" "mix" (by decide +kernel))
theorem kind_within : ∀ {k : Wk}, V.str k.kind = V.str "within" → ∃ w i j, k = .within w i j
  | .within w i j, _ => ⟨w, i, j, rfl⟩
  | .word _, e => absurd e (nk "word" "within" (by decide +kernel))
  | .back _, e => absurd e (nk "back" "within" (by decide +kernel))
  | .join _ _, e => absurd e (nk "join" "within" (by decide +kernel))
  | .mix _ _, e => absurd e (nk "mix" "within" (by decide +kernel))
  | .less _ _, e => absurd e (nk "less" "within" (by decide +kernel))
/-- the tuple: its kind, then the rest -/
theorem wk_tup {H : Hp} : ∀ {k : Wk} {a : Addr}, WkAt H k a → ∃ r, H a = some (.tup (.str k.kind :: r))
  | .word _, _, h => ⟨_, h⟩
  | .back _, _, ⟨_, h, _⟩ => ⟨_, h⟩
  | .join _ _, _, ⟨_, _, h, _⟩ => ⟨_, h⟩
  | .mix _ _, _, ⟨_, h, _⟩ => ⟨_, h⟩
  | .within _ _ _, _, ⟨_, h, _⟩ => ⟨_, h⟩
  | .less _ _, _, ⟨_, h, _⟩ => ⟨_, h⟩
theorem dp_word {K : PySem.W.Frag} {H : Hp} {w : Str} {a : Addr} (h : WordAt H w a) : Dp K H (.ref a) (dW w) := .tup (SqT.of h) (.cons (.str _) (.cons (.str _) .nil))
theorem dp_of {K : PySem.W.Frag} {H : Hp} : ∀ {k : Wk} {a : Addr}, WkAt H k a → Dp K H (.ref a) k.dat
  | .word _, _, h => dp_word h
  | .back x, _, ⟨_, h, g⟩ => .tup (SqT.of h) (.cons (.str _) (.cons (dp_of (k := x) g) .nil))
  | .join x y, _, ⟨_, _, h, g1, g2⟩ => .tup (SqT.of h) (.cons (.str _) (.cons (dp_of (k := x) g1) (.cons (dp_of (k := y) g2) .nil)))
  | .mix _ _, _, ⟨_, h, g⟩ => .tup (SqT.of h) (.cons (.str _) (.cons (dp_word g) (.cons (.str _) .nil)))
  | .within _ _ _, _, ⟨_, h, g⟩ => .tup (SqT.of h) (.cons (.str _) (.cons (dp_word g) (.cons (.int _) (.cons (.int _) .nil))))
  | .less _ _, _, ⟨_, h, g⟩ => .tup (SqT.of h) (.cons (.str _) (.cons (dp_word g) (.cons (.int _) .nil)))
theorem eqv_none : ∀ k : Wk, PyData.eqv k.dat (.tuple []) = false
  | .word _ => rfl
  | .back _ => rfl
  | .join _ _ => rfl
  | .mix _ _ => rfl
  | .within _ _ _ => rfl
  | .less _ _ => rfl
theorem out_le {ws : List Str} (h : Words ws) : ∀ {k : Wk}, Good ws k → k.out.length ≤ 4 * k.size
  | .word w, g => (h.2 w g).2.2
  | .back x, g => by
    have := out_le h (k := x) g
    show (rev x.out).length ≤ 4 * (1 + x.size)
    rw [rev_len]
    omega
  | .join x y, g => by
    have q1 := out_le h (k := x) g.1
    have q2 := out_le h (k := y) g.2
    show (x.out ++ y.out).length ≤ 4 * (1 + x.size + y.size)
    rw [app_len]
    omega
  | .mix w t, g => by
    have q := (h.2 w g.1).2.2
    have l := g.2.1.length_eq
    show t.length ≤ 8
    rw [len_tl] at q ⊢
    omega
  | .within w a b, g => by
    have q := (h.2 w g.1).2.2
    have q2 := g.2.2.1
    show (seg w a b).length ≤ 8
    rw [seg_len w a b q2]
    omega
  | .less w k, g => by
    have q := (h.2 w g.1).2.2
    show (wout w k).length ≤ 8
    rw [len_tl] at q ⊢
    rw [tl_wout, List.length_append, List.length_take, List.length_drop]
    omega
theorem in_strs (z : Str) : ∀ ws : List Str, inV (.str z) (ws.map V.str) = decide (z ∈ ws)
  | [] => rfl
  | x :: r => by
    have q := in_strs z r
    unfold inV at q ⊢
    rw [List.map_cons, List.any_cons, q]
    show ((x == z) || decide (z ∈ r)) = _
    by_cases e : x = z
    · subst e; simp
    · have e2 : ¬ z = x := fun q => e q.symm
      simp [e, e2]
theorem flat_strs (ws : List Str) : (ws.map V.str).all flatV = true := List.all_eq_true.mpr fun y hy => by
  obtain ⟨_, _, rfl⟩ := List.mem_map.mp hy
  rfl
section
variable {P : Program} {w : World} {K : PySem.W.Frag} {mg : Str → Option Value} {base : Heap}
/-! ### _law_cell_at -/
def spCell (K : PySem.W.Frag) : Sp := fun vs H Q _ => ∃ (a : Addr) (ns : List Int) (i : Nat), vs = [.ref a, .int (i : Nat)] ∧ SqL K H a (ns.map V.int) ∧ ∀ v : Int, Q (.int v) H
theorem ok_cell {f C : Addr} {fd : FuncData} (F : Fun K "_law_cell_at" "_law_cell_at" sCell f fd) (T : Txt K mg C) : FnOk P w K mg base CX0 1 f fd ["_law_script", "_law_k"] (spCell K) := by
  refine F.ok scCell (fun vs H Q E h => ?_) (fun cdv A outer s H vs Q E hr h => ?_)
  · obtain ⟨a, ns, i, rfl, _⟩ := h
    rfl
  · obtain ⟨a, ns, i, rfl, hS, k⟩ := h
    refine ⟨_, pss_cons (ps_if (pt_cmpR op_lt (pv 1) (pe_callB call_len_seq rfl T.len PySem.boot_len (pa_cons (pv 0) pa_nil)) (nomark _)) (pss_one (ps_ret (pe_ix ix_list (pv 0) (pv 1) (fun _ _ => rfl)))) pss_nil)
      (pss_one (ps_ret pe_int)), ?_⟩
    refine ⟨_, rfl, _, rfl, a, _, rfl, .inl hS, _, _, rfl, rfl, _, rfl, ?_⟩
    refine ite2 (fun e => ?_) (fun e => k 0)
    have il : i < (ns.map V.int).length := by have := of_decide_eq_true e; omega
    rw [List.length_map] at il
    exact ⟨_, rfl, _, rfl, a, _, _, _, rfl, rfl, hS, atI_nat (by rw [List.getElem?_map, List.getElem?_eq_getElem il]; rfl), k _⟩
/-! ### _law_back -/
def spLBack : Sp := fun vs H Q _ => ∃ z : Str, vs = [.str z] ∧ z.length ≤ 1000 ∧ ∀ H', Same H H' → Q (.str (rev z)) H'
theorem ok_lback {f C : Addr} {fd : FuncData} (F : Fun K "_law_back" "_law_back" sLBack f fd) (T : Txt K mg C) : FnOk P w K mg base CX0 1 f fd ["_law_text"] spLBack := by
  refine F.ok scLBack (fun vs H Q E h => ?_) (fun cdv A outer s H vs Q E hr h => ?_)
  · obtain ⟨z, rfl, _⟩ := h
    rfl
  · obtain ⟨z, rfl, hz, k⟩ := h
    have hz' : z.length ≤ sizeLine := sz (by omega)
    refine ⟨_, pss_one (ps_ret (pe_join pe_str (pe_lc (own := [("_law_k", 1)]) (g := gName 1) (tt := tYes) rfl scLBack.nd (pi_range1 rfl T.rng (pa_cons (pe_callB call_len_str rfl T.len PySem.boot_len (pa_cons (pv 0) pa_nil)) pa_nil)) (blkOk_by (own := [("_law_k", 1)]) (N := ["_law_text", "_law_k"]) (sc := defScope sLBack) (by decide +kernel))
        (fun _ _ _ _ _ => pg_name (i := 1) scLBack.nd rfl (Or.inl rfl)) (fun _ _ _ _ _ => pts_nil) (fun _ _ _ _ _ => pe_ix ix_str (pv 0) (pe_op op_sub (pe_op op_sub (pe_callB call_len_str rfl T.len PySem.boot_len (pa_cons (pv 0) pa_nil)) pe_int) (pv 1)) (fun _ _ => rfl))))), ?_⟩
    refine ⟨⟨_, rfl⟩, _, rfl, z, rfl, hz', _, rfl, by omega, by omega, fun D hD => ?_⟩
    refine lc_range (fun i H' => Same H H' ∧ H' D = some (.lst (((signs z).reverse.take i).map V.str))) ⟨same_new hD _, upd_same⟩ ?_ ?_
    · rintro i H1 hi ⟨s1, e1⟩
      have il : i < z.length := by rw [Int.toNat_natCast] at hi; exact hi
      refine ⟨rfl, ?_⟩
      refine yes ?_
      have hj : z.length - 1 - i < (tl z).length := by rw [← len_tl]; omega
      have ec : (tl z)[z.length - 1 - i]? = some (tl z)[z.length - 1 - i] := List.getElem?_eq_getElem hj
      have ei : ((z.length : Nat) : Int) - 1 - (0 + (i : Nat)) = ((z.length - 1 - i : Nat) : Int) := by omega
      have er : (signs z).reverse[i]? = some ⟨#[(tl z)[z.length - 1 - i]]⟩ := by
        rw [List.getElem?_reverse (by rw [signs_len]; exact il), signs_len]
        unfold signs
        rw [List.getElem?_map, ec]
        rfl
      refine ⟨_, rfl, _, rfl, z, rfl, hz', _, _, rfl, rfl, _, rfl, _, _, rfl, rfl, z, _, (tl z)[z.length - 1 - i], rfl, rfl, hz', ?_, ?_⟩
      · rw [ei]
        exact atI_nat ec
      · refine ⟨_, e1, ?_, fun b o e => ?_, ?_⟩
        · rw [List.length_map, List.length_take]
          exact szlt (by omega)
        · rw [upd_ne (ne_of_none e hD)]
          exact s1 _ _ e
        · rw [upd_same, List.take_add_one, er, List.map_append]
          rfl
    · rintro H1 ⟨s1, e1⟩
      rw [Int.toNat_natCast] at e1
      have e2 : (signs z).reverse.take z.length = (signs z).reverse := List.take_of_length_le (by rw [List.length_reverse, signs_len]; exact Nat.le_refl _)
      rw [e2] at e1
      refine ⟨"", D, (signs z).reverse, rfl, rfl, .inl (SqL.of e1), (by rw [rev_sum]; omega), ?_⟩
      rw [rev_join]
      exact k H1 s1
/-! ### _law_size -/
theorem at0 {x : V} {xs : List V} : atI (x :: xs) 0 = some x := atI_nat (j := 0) rfl
theorem at1 {x y : V} {xs : List V} : atI (x :: y :: xs) 1 = some y := atI_nat (j := 1) rfl
theorem at2 {x y z : V} {xs : List V} : atI (x :: y :: z :: xs) 2 = some z := atI_nat (j := 2) rfl
theorem at3 {x y z u : V} {xs : List V} : atI (x :: y :: z :: u :: xs) 3 = some u := atI_nat (j := 3) rfl
def dispK : List (Key × V) := [(Sum.inr "mix", .int 3), (Sum.inr "within", .int 4), (Sum.inr "less", .int 3)]
theorem disp_mix : valV (mergeK [] dispK) (Sum.inr "mix") = some (.int 3) := by decide +kernel
theorem disp_within : valV (mergeK [] dispK) (Sum.inr "within") = some (.int 4) := by decide +kernel
theorem disp_less : valV (mergeK [] dispK) (Sum.inr "less") = some (.int 3) := by decide +kernel
def spSize (n : Nat) : Sp := fun vs H Q _ => ∃ (k : Wk) (a : Addr), vs = [.ref a] ∧ WkAt H k a ∧ LowW k ∧ k.size ≤ n ∧ k.size ≤ 20 ∧ ∀ H', Same H H' → Q (.int (k.size : Nat)) H'
theorem size_none {f : Addr} {fd : FuncData} {L : Nat} : FnOk P w K mg base CX0 L f fd ["_law_working"] (spSize 0) := by
  have no : ∀ vs H Q E, ¬ spSize 0 vs H Q E := fun vs H Q E h => by
    obtain ⟨k, a, _, _, _, h1, _⟩ := h
    have := size_pos k
    omega
  exact ⟨fun vs H Q E h => absurd h (no vs H Q E), fun A outer s H args us vs Q E _ _ _ _ h => absurd h (no vs H Q E)⟩
theorem ok_size {n : Nat} {f C : Addr} {fd : FuncData} (F : Fun K "_law_size" "_law_size" sLSize f fd) (T : Txt K mg C) (G : FnOk P w K mg base CX0 n f fd ["_law_working"] (spSize n)) (bG : Binds K fd ["_law_working"] []) (mG : mg "_law_size" = some (.ref f)) : FnOk P w K mg base CX0 (n + 1) f fd ["_law_working"] (spSize (n + 1)) := by
  refine F.ok scLSize (fun vs H Q E h => ?_) (fun cdv A outer s H vs Q E hr h => ?_)
  · obtain ⟨k, a, rfl, _⟩ := h
    rfl
  · obtain ⟨k, a, rfl, hk, low, hn, h20, q⟩ := h
    have hu := hr.units
    have hu1 := hu_of hr
    refine ⟨_, pss_cons (ps_if (PW.pt (pw_or (pt_not (pt_val (pe_callB call_isi rfl T.isi (by decide +kernel) (pa_cons (pv 0) (pa_cons (pe_bltn rfl T.ttup (by decide +kernel) (v := .ty "tuple") rfl) pa_nil)))))
        (pw_or1 (pt_cmpR (op_eqD hu) (pv 0) (pe_tup pa_nil) (nomark _))))) (pss_one (ps_ret pe_int)) pss_nil)
      (pss_cons (ps_if (PW.pt (pw_and (pt_cmpR op_eq (pe_ix ix_tup (pv 0) pe_int (fun _ _ => rfl)) pe_str (nomark _)) (pw_and1 (pt_cmpR op_eq (pe_callB call_len_seq rfl T.len PySem.boot_len (pa_cons (pv 0) pa_nil)) pe_int (nomark _))))) (pss_one (ps_ret pe_int)) pss_nil)
      (pss_cons (ps_if (PW.pt (pw_and (pt_cmpR op_eq (pe_ix ix_tup (pv 0) pe_int (fun _ _ => rfl)) pe_str (nomark _)) (pw_and1 (pt_cmpR op_eq (pe_callB call_len_seq rfl T.len PySem.boot_len (pa_cons (pv 0) pa_nil)) pe_int (nomark _)))))
        (pss_one (ps_ret (pe_op op_add pe_int (pe_call G hr rfl mG F.kp bG .nil pass0 (pa_cons (pe_ix ix_tup (pv 0) pe_int (fun _ _ => rfl)) pa_nil))))) pss_nil)
      (pss_cons (ps_if (PW.pt (pw_and (pt_cmpR op_eq (pe_ix ix_tup (pv 0) pe_int (fun _ _ => rfl)) pe_str (nomark _)) (pw_and1 (pt_cmpR op_eq (pe_callB call_len_seq rfl T.len PySem.boot_len (pa_cons (pv 0) pa_nil)) pe_int (nomark _)))))
        (pss_one (ps_ret (pe_op op_add (pe_op op_add pe_int (pe_call G hr rfl mG F.kp bG .nil pass0 (pa_cons (pe_ix ix_tup (pv 0) pe_int (fun _ _ => rfl)) pa_nil))) (pe_call G hr rfl mG F.kp bG .nil pass0 (pa_cons (pe_ix ix_tup (pv 0) pe_int (fun _ _ => rfl)) pa_nil))))) pss_nil)
      (pss_cons (ps_if (PW.pt (pw_and (pt_cmpR op_eq (pe_callB call_len_seq rfl T.len PySem.boot_len (pa_cons (pv 0) pa_nil)) (pe_dget2 hu1 (pe_disp (pps_cons pe_str pe_int (pps_cons pe_str pe_int (pps_cons pe_str pe_int pps_nil))) rfl rfl (List.cons_ne_nil _ _) (by decide)) (pe_ix ix_tup (pv 0) pe_int (fun _ _ => rfl)) pe_int ⟨rfl, rfl, rfl, rfl⟩) (nomark _))
          (pw_and1 (pt_cmpR op_eq (pe_call G hr rfl mG F.kp bG .nil pass0 (pa_cons (pe_ix ix_tup (pv 0) pe_int (fun _ _ => rfl)) pa_nil)) pe_int (nomark _))))) (pss_one (ps_ret pe_int)) pss_nil)
      (pss_one (ps_ret pe_int)))))), ?_⟩
    obtain ⟨r, hr0⟩ := wk_tup hk
    -- if not isinstance(w, tuple) or w == ()
    refine ⟨_, rfl, _, _, .type "tuple", .type "tuple", true, rfl, .ty "tuple", .base (.tup hr0), kit_ty (by decide +kernel), _, rfl, ?_⟩
    refine iteF ?_
    refine ⟨_, rfl, Nat.zero_le _, fun p hp => ?_⟩
    have s1 := same_new hp (.tup [])
    have hk1 := hk.same s1
    have hr1 := s1 _ _ hr0
    refine ⟨k.dat, .tuple [], dp_of hk1, .tup (SqT.of upd_same) .nil, dat_shaped low h20, rfl, _, rfl, ?_⟩
    rw [eqv_none]
    refine iteF ?_
    have sqt := SqT.of (K := K) hr1
    -- if w[0] == 'word' and len(w) == 2
    refine ⟨_, rfl, a, _, 0, _, rfl, rfl, sqt, at0, rfl, _, rfl, ?_⟩
    refine ite2 (fun e => ?_) (fun e1 => ?_)
    · obtain ⟨x, rfl⟩ := kind_word (of_decide_eq_true e)
      have hb : upd H p (.tup []) a = some (.tup [.str "word", .str x]) := hk1
      refine ⟨_, rfl, a, _, rfl, .inr (SqT.of hb), rfl, _, rfl, iteT ?_⟩
      exact q _ s1
    -- if w[0] == 'back' and len(w) == 2
    refine ⟨_, rfl, a, _, 0, _, rfl, rfl, sqt, at0, rfl, _, rfl, ?_⟩
    refine ite2 (fun e => ?_) (fun e2 => ?_)
    · obtain ⟨x, rfl⟩ := kind_back (of_decide_eq_true e)
      obtain ⟨b, hb, hx⟩ := hk1
      have hsz : 1 + x.size ≤ n + 1 := hn
      have hs20 : 1 + x.size ≤ 20 := h20
      refine ⟨_, rfl, a, _, rfl, .inr (SqT.of hb), rfl, _, rfl, iteT ?_⟩
      refine ⟨_, rfl, a, _, 1, _, rfl, rfl, SqT.of hb, at1, x, b, rfl, hx, low, by omega, by omega, fun H2 s2 => ⟨_, _, rfl, rfl, ?_⟩⟩
      have e : (1 : Int) + ((x.size : Nat) : Int) = ((1 + x.size : Nat) : Int) := by omega
      show Q (.int ((1 : Int) + ((x.size : Nat) : Int))) H2
      rw [e]
      exact q _ (s1.trans s2)
    -- if w[0] == 'join' and len(w) == 3
    refine ⟨_, rfl, a, _, 0, _, rfl, rfl, sqt, at0, rfl, _, rfl, ?_⟩
    refine ite2 (fun e => ?_) (fun e3 => ?_)
    · obtain ⟨x, y, rfl⟩ := kind_join (of_decide_eq_true e)
      obtain ⟨b, c, hb, hx, hy⟩ := hk1
      have hsz : 1 + x.size + y.size ≤ n + 1 := hn
      have hs20 : 1 + x.size + y.size ≤ 20 := h20
      have px := size_pos x
      have py := size_pos y
      refine ⟨_, rfl, a, _, rfl, .inr (SqT.of hb), rfl, _, rfl, iteT ?_⟩
      refine ⟨_, rfl, a, _, 1, _, rfl, rfl, SqT.of hb, at1, x, b, rfl, hx, low.1, by omega, by omega, fun H2 s2 => ⟨_, _, rfl, rfl, ?_⟩⟩
      refine ⟨_, rfl, a, _, 2, _, rfl, rfl, SqT.of (s2 _ _ hb), at2, y, c, rfl, hy.same s2, low.2, by omega, by omega, fun H3 s3 => ⟨_, _, rfl, rfl, ?_⟩⟩
      have e : (1 : Int) + ((x.size : Nat) : Int) + ((y.size : Nat) : Int) = ((1 + x.size + y.size : Nat) : Int) := by omega
      show Q (.int ((1 : Int) + ((x.size : Nat) : Int) + ((y.size : Nat) : Int))) H3
      rw [e]
      exact q _ (s1.trans (s2.trans s3))
    -- if len(w) == {'mix': 3, 'within': 4, 'less': 3}.get(w[0], 0) and size(w[1]) == 1
    have key : ∃ (w : Str) (b : Addr) (m : V) (r2 : List V), k.size = 2 ∧ upd H p (.tup []) a = some (.tup (.str k.kind :: .ref b :: m :: r2)) ∧ WordAt (upd H p (.tup [])) w b ∧ Low w ∧
        valV (mergeK [] dispK) (Sum.inr k.kind) = some (.int ((.str k.kind :: .ref b :: m :: r2 : List V).length : Nat)) := by
      cases k with
      | word w => exact absurd (decide_eq_true rfl) e1
      | back x => exact absurd (decide_eq_true rfl) e2
      | join x y => exact absurd (decide_eq_true rfl) e3
      | mix w t => obtain ⟨b, hb, hw⟩ := hk1; exact ⟨w, b, _, _, rfl, hb, hw, low.1, disp_mix⟩
      | within w i j => obtain ⟨b, hb, hw⟩ := hk1; exact ⟨w, b, _, _, rfl, hb, hw, low, disp_within⟩
      | less w j => obtain ⟨b, hb, hw⟩ := hk1; exact ⟨w, b, _, _, rfl, hb, hw, low, disp_less⟩
    obtain ⟨w, b, m, r2, h2, hb, hw, lw, hv⟩ := key
    refine ⟨_, rfl, a, _, rfl, .inr (SqT.of hb), fun d hd => ⟨upd_same, dispK, rfl, (by decide), d, rfl, .inl ⟨_, .inl upd_same⟩, ?_⟩⟩
    have s2 : Same (upd H p (.tup [])) (upd (upd (upd H p (.tup [])) d (.dK [])) d (.dK (mergeK [] dispK))) := fun c o e => by
      rw [upd_ne (ne_of_none e hd), upd_ne (ne_of_none e hd)]
      exact e
    have hb2 := s2 _ _ hb
    refine ⟨_, rfl, a, _, 0, _, rfl, rfl, SqT.of hb2, at0, _, DGet.k (k := Sum.inr k.kind) upd_same, ?_⟩
    rw [hv]
    refine ⟨rfl, _, rfl, ?_⟩
    refine ite2 (fun _ => ?_) (fun e => absurd (decide_eq_true rfl) e)
    refine ⟨_, rfl, a, _, 1, _, rfl, rfl, SqT.of hb2, at1, .word w, b, rfl, s2 _ _ hw, lw, ?_, ?_, fun H3 s3 => ⟨rfl, _, rfl, iteT ?_⟩⟩
    · show 1 ≤ n
      omega
    · show 1 ≤ 20
      decide
    · have e : k.size = 2 := h2
      have q2 := q _ (s1.trans (s2.trans s3))
      rw [e] at q2
      exact q2
/-! ### _law_makes -/
theorem not_empty {z : Str} (h : 0 < z.length) : ¬ decide (V.str z = V.str "") = true := fun e => by
  have e2 := V.str.inj (of_decide_eq_true e)
  rw [e2] at h
  exact absurd h (by decide)
def spMakes (n : Nat) : Sp := fun vs H Q _ => ∃ (k : Wk) (a b : Addr) (ws : List Str), vs = [.ref a, .ref b] ∧ WkAt H k a ∧ H b = some (.lst (ws.map V.str)) ∧ Words ws ∧ Good ws k ∧ k.size ≤ n ∧ k.size ≤ 20 ∧ ∀ H', Same H H' → Q (.str k.out) H'
theorem makes_none {f : Addr} {fd : FuncData} {L : Nat} : FnOk P w K mg base CX0 L f fd ["_law_working", "_law_words"] (spMakes 0) := by
  have no : ∀ vs H Q E, ¬ spMakes 0 vs H Q E := fun vs H Q E h => by
    obtain ⟨k, a, b, ws, _, _, _, _, _, h1, _⟩ := h
    have := size_pos k
    omega
  exact ⟨fun vs H Q E h => absurd h (no vs H Q E), fun A outer s H args us vs Q E _ _ _ _ h => absurd h (no vs H Q E)⟩
theorem ok_makes {n : Nat} {f fB C : Addr} {fd fdB : FuncData} (F : Fun K "_law_makes" "_law_makes" sLMakes f fd) (T : Txt K mg C) (G : FnOk P w K mg base CX0 (n + 1) f fd ["_law_working", "_law_words"] (spMakes n)) (bG : Binds K fd ["_law_working", "_law_words"] []) (mG : mg "_law_makes" = some (.ref f))
    (GB : FnOk P w K mg base CX0 1 fB fdB ["_law_text"] spLBack) (bB : Binds K fdB ["_law_text"] []) (kB : PySem.W.keepIn K (.ref fB) = true) (mB : mg "_law_back" = some (.ref fB)) : FnOk P w K mg base CX0 (n + 2) f fd ["_law_working", "_law_words"] (spMakes (n + 1)) := by
  refine F.ok scLMakes (fun vs H Q E h => ?_) (fun cdv A outer s H vs Q E hr h => ?_)
  · obtain ⟨k, a, b, ws, rfl, _⟩ := h
    rfl
  · obtain ⟨k, a, b, ws, rfl, hk, hb, hW, gk, hn, h20, q⟩ := h
    have hu := hr.units
    have hr1 : Room 1 _ := hr.mono (by omega)
    refine ⟨_, pss_cons (ps_if (pt_cmpR op_eq (pe_ix ix_tup (pv 0) pe_int (fun _ _ => rfl)) pe_str (nomark _)) (pss_one (ps_ret (pe_ifExp (pt_cmpR op_in_seq (pe_ix ix_tup (pv 0) pe_int (fun _ _ => rfl)) (pv 1) rfl) (pe_ix ix_tup (pv 0) pe_int (fun _ _ => rfl)) pe_str))) pss_nil)
      (pss_cons (ps_set (i := 2) scLMakes.nd rfl (Or.inl rfl) (pe_call G hr rfl mG F.kp bG .nil pass0 (pa_cons (pe_ix ix_tup (pv 0) pe_int (fun _ _ => rfl)) (pa_cons (pv 1) pa_nil))))
      (pss_cons (ps_if (pt_cmpR op_eq (pv 2) pe_str (nomark _)) (pss_one (ps_ret pe_str)) pss_nil)
      (pss_cons (ps_if (pt_cmpR op_eq (pe_ix ix_tup (pv 0) pe_int (fun _ _ => rfl)) pe_str (nomark _)) (pss_one (ps_ret (pe_call GB hr1 rfl mB kB bB .nil pass0 (pa_cons (pv 2) pa_nil)))) pss_nil)
      (pss_cons (ps_if (pt_cmpR op_eq (pe_ix ix_tup (pv 0) pe_int (fun _ _ => rfl)) pe_str (nomark _)) (pss_cons (ps_set (i := 3) scLMakes.nd rfl (Or.inl rfl) (pe_call G hr rfl mG F.kp bG .nil pass0 (pa_cons (pe_ix ix_tup (pv 0) pe_int (fun _ _ => rfl)) (pa_cons (pv 1) pa_nil))))
          (pss_one (ps_ret (pe_ifExp (pt_cmpR op_ne (pv 3) pe_str (nomark _)) (pe_op op_add_str (pv 2) (pv 3)) pe_str)))) pss_nil)
      (pss_cons (ps_if (pt_cmpR op_eq (pe_ix ix_tup (pv 0) pe_int (fun _ _ => rfl)) pe_str (nomark _)) (pss_one (ps_ret (pe_ifExp (PW.pt (pw_and (pt_cmpR (op_eqD hu) (pe_callB (call_sortedT rfl) rfl T.srt (by decide +kernel) (pa_cons (pe_ix ix_tup (pv 0) pe_int (fun _ _ => rfl)) pa_nil)) (pe_callB (call_sortedT rfl) rfl T.srt (by decide +kernel) (pa_cons (pv 2) pa_nil)) (nomark _))
            (pw_and1 (pt_cmpR op_ne (pe_ix ix_tup (pv 0) pe_int (fun _ _ => rfl)) (pv 2) (nomark _))))) (pe_ix ix_tup (pv 0) pe_int (fun _ _ => rfl)) pe_str))) pss_nil)
      (pss_cons (ps_if (pt_cmpR op_eq (pe_ix ix_tup (pv 0) pe_int (fun _ _ => rfl)) pe_str (nomark _)) (pss_cons (ps_if (PW.pt (pw_or (pt_not (pt_chain3 op_le op_lt op_le pe_int (pe_ix ix_tup (pv 0) pe_int (fun _ _ => rfl)) (pe_ix ix_tup (pv 0) pe_int (fun _ _ => rfl)) (pe_callB call_len_str rfl T.len PySem.boot_len (pa_cons (pv 2) pa_nil))))
            (pw_or1 (pt_cmpR op_eq (pe_op op_sub (pe_ix ix_tup (pv 0) pe_int (fun _ _ => rfl)) (pe_ix ix_tup (pv 0) pe_int (fun _ _ => rfl))) (pe_callB call_len_str rfl T.len PySem.boot_len (pa_cons (pv 2) pa_nil)) (nomark _))))) (pss_one (ps_ret pe_str)) pss_nil)
          (pss_one (ps_ret (pe_slice sl_str (pv 2) (po_some (pe_ix ix_tup (pv 0) pe_int (fun _ _ => rfl))) (po_some (pe_ix ix_tup (pv 0) pe_int (fun _ _ => rfl))))))) pss_nil)
      (pss_cons (ps_if (PW.pt (pw_or (pt_not (pt_chain op_le op_lt pe_int (pe_ix ix_tup (pv 0) pe_int (fun _ _ => rfl)) (pe_callB call_len_str rfl T.len PySem.boot_len (pa_cons (pv 2) pa_nil))))
          (pw_or1 (pt_cmpR op_eq (pe_callB call_len_str rfl T.len PySem.boot_len (pa_cons (pv 2) pa_nil)) pe_int (nomark _))))) (pss_one (ps_ret pe_str)) pss_nil)
      (pss_one (ps_ret (pe_op op_add_str (pe_slice sl_str (pv 2) po_none (po_some (pe_ix ix_tup (pv 0) pe_int (fun _ _ => rfl)))) (pe_slice sl_str (pv 2) (po_some (pe_op op_add (pe_ix ix_tup (pv 0) pe_int (fun _ _ => rfl)) pe_int)) po_none))))))))))), ?_⟩
    obtain ⟨r, hr0⟩ := wk_tup hk
    -- if w[0] == 'word'
    refine ⟨_, rfl, a, _, 0, _, rfl, rfl, SqT.of hr0, at0, rfl, _, rfl, ?_⟩
    refine ite2 (fun e => ?_) (fun e1 => ?_)
    · obtain ⟨x, rfl⟩ := kind_word (of_decide_eq_true e)
      have hk1 : H a = some (.tup [.str "word", .str x]) := hk
      refine ⟨_, rfl, a, _, 1, _, rfl, rfl, SqT.of hk1, at1, _, rfl, b, _, rfl, .inl (SqL.of hb), rfl, flat_strs ws, _, rfl, ?_⟩
      have ein : inV (.str x) (ws.map V.str) = true := by rw [in_strs]; exact decide_eq_true gk
      refine ite2 (fun _ => ?_) (fun e => absurd ein e)
      exact ⟨_, rfl, a, _, 1, _, rfl, rfl, SqT.of hk1, at1, q H fun _ _ e => e⟩
    cases k with
    | word w => exact absurd (decide_eq_true rfl) e1
    | back x =>
      obtain ⟨c, hk1, hx⟩ := hk
      have hsz : 1 + x.size ≤ n + 1 := hn
      have hs20 : 1 + x.size ≤ 20 := h20
      refine ⟨_, rfl, a, _, 1, _, rfl, rfl, SqT.of hk1, at1, _, rfl, x, c, b, ws, rfl, hx, hb, hW, gk, by omega, by omega, fun H2 s2 => ?_⟩
      have lk := out_len hW (k := x) gk
      have le := out_le hW (k := x) gk
      -- if first == ''
      refine ⟨_, rfl, rfl, _, rfl, ?_⟩
      refine ite2 (fun e => absurd e (not_empty lk)) (fun _ => ?_)
      have hk2 := s2 _ _ hk1
      refine ⟨_, rfl, a, _, 0, _, rfl, rfl, SqT.of hk2, at0, rfl, _, rfl, ?_⟩
      refine ite2 (fun _ => ?_) (fun e => absurd (decide_eq_true rfl) e)
      exact ⟨_, rfl, x.out, rfl, by omega, fun H3 s3 => q _ (s2.trans s3)⟩
    | join x y =>
      obtain ⟨c, d, hk1, hx, hy⟩ := hk
      have hsz : 1 + x.size + y.size ≤ n + 1 := hn
      have hs20 : 1 + x.size + y.size ≤ 20 := h20
      have px := size_pos x
      have py := size_pos y
      refine ⟨_, rfl, a, _, 1, _, rfl, rfl, SqT.of hk1, at1, _, rfl, x, c, b, ws, rfl, hx, hb, hW, gk.1, by omega, by omega, fun H2 s2 => ?_⟩
      have lk := out_len hW (k := x) gk.1
      have le := out_le hW (k := x) gk.1
      -- if first == ''
      refine ⟨_, rfl, rfl, _, rfl, ?_⟩
      refine ite2 (fun e => absurd e (not_empty lk)) (fun _ => ?_)
      have hk2 := s2 _ _ hk1
      refine ⟨_, rfl, a, _, 0, _, rfl, rfl, SqT.of hk2, at0, rfl, _, rfl, ?_⟩
      refine ite2 (fun e => absurd (of_decide_eq_true e) (nk "join" "back" (by decide +kernel))) (fun _ => ?_)
      refine ⟨_, rfl, a, _, 0, _, rfl, rfl, SqT.of hk2, at0, rfl, _, rfl, ?_⟩
      refine ite2 (fun _ => ?_) (fun e => absurd (decide_eq_true rfl) e)
      refine ⟨_, rfl, a, _, 2, _, rfl, rfl, SqT.of hk2, at2, _, rfl, y, d, b, ws, rfl, hy.same s2, s2 _ _ hb, hW, gk.2, by omega, by omega, fun H3 s3 => ?_⟩
      have lk2 := out_len hW (k := y) gk.2
      have le2 := out_le hW (k := y) gk.2
      refine ⟨_, rfl, rfl, _, rfl, ?_⟩
      have en : decide (V.str y.out = V.str "") = false := Bool.eq_false_iff.mpr (not_empty lk2)
      refine ite2 (fun _ => ?_) (fun e => absurd (by rw [en]; rfl) e)
      refine ⟨_, rfl, _, rfl, _, _, rfl, rfl, ?_, q _ (s2.trans s3)⟩
      exact sz (by omega)
    | mix w t =>
      obtain ⟨c, hk1, hx⟩ := hk
      have hsz : 2 ≤ n + 1 := hn
      obtain ⟨hw, hperm, hne⟩ := gk
      obtain ⟨lw, w2, w4⟩ := hW.2 w hw
      have lt : Low t := fun c hc => lw c (hperm.mem_iff.mp hc)
      have tlen : t.length = w.length := hperm.length_eq
      refine ⟨_, rfl, a, _, 1, _, rfl, rfl, SqT.of hk1, at1, _, rfl, (.word w), c, b, ws, rfl, hx, hb, hW, hw, by (show 1 ≤ _; omega), by (show 1 ≤ _; omega), fun H2 s2 => ?_⟩
      have lk := out_len hW (k := (.word w)) hw
      have le := out_le hW (k := (.word w)) hw
      -- if first == ''
      refine ⟨_, rfl, rfl, _, rfl, ?_⟩
      refine ite2 (fun e => absurd e (not_empty lk)) (fun _ => ?_)
      have hk2 := s2 _ _ hk1
      refine ⟨_, rfl, a, _, 0, _, rfl, rfl, SqT.of hk2, at0, rfl, _, rfl, ?_⟩
      refine ite2 (fun e => absurd (of_decide_eq_true e) (nk "mix" "back" (by decide +kernel))) (fun _ => ?_)
      refine ⟨_, rfl, a, _, 0, _, rfl, rfl, SqT.of hk2, at0, rfl, _, rfl, ?_⟩
      refine ite2 (fun e => absurd (of_decide_eq_true e) (nk "mix" "join" (by decide +kernel))) (fun _ => ?_)
      refine ⟨_, rfl, a, _, 0, _, rfl, rfl, SqT.of hk2, at0, rfl, _, rfl, ?_⟩
      refine ite2 (fun _ => ?_) (fun e => absurd (decide_eq_true rfl) e)
      refine ⟨_, rfl, a, _, 2, _, rfl, rfl, SqT.of hk2, at2, t, rfl, by omega, fun u1 p1 hp1 so1 hn1 => ?_⟩
      have f1 := same_new hn1 (.lst (u1.map V.str))
      refine ⟨_, rfl, w, rfl, by omega, fun u2 p2 hp2 so2 hn2 => ?_⟩
      have f2 := same_new hn2 (.lst (u2.map V.str))
      have hk3 := f2 _ _ (f1 _ _ hk2)
      have eu : u1 = u2 := sorted_same hp1 hp2 so1 so2 hperm
      refine ⟨.list (u1.map .str), .list (u2.map .str), .lst (SqL.of (f2 _ _ upd_same)) (dp_strs _), .lst (SqL.of upd_same) (dp_strs _), shaped_strs (ok_signs lt hp1), shaped_strs (ok_signs lw hp2), _, rfl, ?_⟩
      have hev : PyData.eqv (.list (u1.map .str)) (.list (u2.map .str)) = true := (eqv_strs u1 u2).trans (decide_eq_true eu)
      refine ite2 (fun _ => ?_) (fun e => absurd hev e)
      refine ⟨_, rfl, a, _, 2, _, rfl, rfl, SqT.of hk3, at2, _, rfl, rfl, _, rfl, ?_⟩
      have en : decide (V.str t = V.str w) = false := decide_eq_false fun e => hne (V.str.inj e)
      refine ite2 (fun _ => ?_) (fun e => absurd (by show (!decide (V.str t = V.str w)) = true; rw [en]; rfl) e)
      exact ⟨_, rfl, a, _, 2, _, rfl, rfl, SqT.of hk3, at2, q _ (s2.trans (f1.trans f2))⟩
    | within w i j =>
      obtain ⟨c, hk1, hx⟩ := hk
      have hsz : 2 ≤ n + 1 := hn
      obtain ⟨hw, ij, jl, nl⟩ := gk
      obtain ⟨lw, w2, w4⟩ := hW.2 w hw
      have wl : w.length ≤ sizeLine := sz (by omega)
      refine ⟨_, rfl, a, _, 1, _, rfl, rfl, SqT.of hk1, at1, _, rfl, (.word w), c, b, ws, rfl, hx, hb, hW, hw, by (show 1 ≤ _; omega), by (show 1 ≤ _; omega), fun H2 s2 => ?_⟩
      have lk := out_len hW (k := (.word w)) hw
      have le := out_le hW (k := (.word w)) hw
      -- if first == ''
      refine ⟨_, rfl, rfl, _, rfl, ?_⟩
      refine ite2 (fun e => absurd e (not_empty lk)) (fun _ => ?_)
      have hk2 := s2 _ _ hk1
      refine ⟨_, rfl, a, _, 0, _, rfl, rfl, SqT.of hk2, at0, rfl, _, rfl, ?_⟩
      refine ite2 (fun e => absurd (of_decide_eq_true e) (nk "within" "back" (by decide +kernel))) (fun _ => ?_)
      refine ⟨_, rfl, a, _, 0, _, rfl, rfl, SqT.of hk2, at0, rfl, _, rfl, ?_⟩
      refine ite2 (fun e => absurd (of_decide_eq_true e) (nk "within" "join" (by decide +kernel))) (fun _ => ?_)
      refine ⟨_, rfl, a, _, 0, _, rfl, rfl, SqT.of hk2, at0, rfl, _, rfl, ?_⟩
      refine ite2 (fun e => absurd (of_decide_eq_true e) (nk "within" "mix" (by decide +kernel))) (fun _ => ?_)
      refine ⟨_, rfl, a, _, 0, _, rfl, rfl, SqT.of hk2, at0, rfl, _, rfl, ?_⟩
      refine ite2 (fun _ => ?_) (fun e => absurd (decide_eq_true rfl) e)
      refine ⟨_, rfl, a, _, 2, _, rfl, rfl, SqT.of hk2, at2, _, _, rfl, rfl, _, rfl, ?_⟩
      refine ite2 (fun _ => ?_) (fun e => absurd (decide_eq_true (by omega)) e)
      refine ⟨_, rfl, a, _, 3, _, rfl, rfl, SqT.of hk2, at3, _, _, rfl, rfl, _, rfl, ?_⟩
      refine ite2 (fun _ => ?_) (fun e => absurd (decide_eq_true (by omega)) e)
      refine ⟨_, rfl, w, rfl, wl, _, _, rfl, rfl, _, rfl, ?_⟩
      have e3 : decide (((j : Nat) : Int) ≤ ((w.length : Nat) : Int)) = true := decide_eq_true (by omega)
      rw [e3]
      refine iteF ?_
      refine ⟨_, rfl, a, _, 3, _, rfl, rfl, SqT.of hk2, at3, _, rfl, a, _, 2, _, rfl, rfl, SqT.of hk2, at2, _, _, rfl, rfl, _, rfl, w, rfl, wl, rfl, _, rfl, ?_⟩
      refine ite2 (fun e => absurd (V.int.inj (of_decide_eq_true e)) (by omega)) (fun _ => ?_)
      refine ⟨_, rfl, _, rfl, a, _, 2, _, rfl, rfl, SqT.of hk2, at2, _, rfl, _, rfl, a, _, 3, _, rfl, rfl, SqT.of hk2, at3, _, rfl, w, rfl, wl, ?_⟩
      have ec : cutS w (some ((i : Nat) : Int)) (some ((j : Nat) : Int)) = seg w i j := by rw [cut_mid, Nat.min_eq_left jl]
      rw [ec]
      exact q _ s2
    | less w i =>
      obtain ⟨c, hk1, hx⟩ := hk
      have hsz : 2 ≤ n + 1 := hn
      obtain ⟨hw, il, _⟩ := gk
      obtain ⟨lw, w2, w4⟩ := hW.2 w hw
      have wl : w.length ≤ sizeLine := sz (by omega)
      refine ⟨_, rfl, a, _, 1, _, rfl, rfl, SqT.of hk1, at1, _, rfl, (.word w), c, b, ws, rfl, hx, hb, hW, hw, by (show 1 ≤ _; omega), by (show 1 ≤ _; omega), fun H2 s2 => ?_⟩
      have lk := out_len hW (k := (.word w)) hw
      have le := out_le hW (k := (.word w)) hw
      -- if first == ''
      refine ⟨_, rfl, rfl, _, rfl, ?_⟩
      refine ite2 (fun e => absurd e (not_empty lk)) (fun _ => ?_)
      have hk2 := s2 _ _ hk1
      refine ⟨_, rfl, a, _, 0, _, rfl, rfl, SqT.of hk2, at0, rfl, _, rfl, ?_⟩
      refine ite2 (fun e => absurd (of_decide_eq_true e) (nk "less" "back" (by decide +kernel))) (fun _ => ?_)
      refine ⟨_, rfl, a, _, 0, _, rfl, rfl, SqT.of hk2, at0, rfl, _, rfl, ?_⟩
      refine ite2 (fun e => absurd (of_decide_eq_true e) (nk "less" "join" (by decide +kernel))) (fun _ => ?_)
      refine ⟨_, rfl, a, _, 0, _, rfl, rfl, SqT.of hk2, at0, rfl, _, rfl, ?_⟩
      refine ite2 (fun e => absurd (of_decide_eq_true e) (nk "less" "mix" (by decide +kernel))) (fun _ => ?_)
      refine ⟨_, rfl, a, _, 0, _, rfl, rfl, SqT.of hk2, at0, rfl, _, rfl, ?_⟩
      refine ite2 (fun e => absurd (of_decide_eq_true e) (nk "less" "within" (by decide +kernel))) (fun _ => ?_)
      refine ⟨_, rfl, a, _, 2, _, rfl, rfl, SqT.of hk2, at2, _, _, rfl, rfl, _, rfl, ?_⟩
      refine ite2 (fun _ => ?_) (fun e => absurd (decide_eq_true (by omega)) e)
      refine ⟨_, rfl, w, rfl, wl, _, _, rfl, rfl, _, rfl, ?_⟩
      have e3 : decide (((i : Nat) : Int) < ((w.length : Nat) : Int)) = true := decide_eq_true (by omega)
      rw [e3]
      refine iteF ?_
      refine ⟨_, rfl, w, rfl, wl, rfl, _, rfl, ?_⟩
      refine ite2 (fun e => absurd (V.int.inj (of_decide_eq_true e)) (by omega)) (fun _ => ?_)
      refine ⟨_, rfl, _, rfl, a, _, 2, _, rfl, rfl, SqT.of hk2, at2, _, rfl, w, rfl, wl, _, rfl, _, rfl, a, _, 2, _, rfl, rfl, SqT.of hk2, at2, _, _, rfl, rfl, _, rfl, w, rfl, wl, ?_⟩
      have e1' : ((i : Int) + 1) = ((i + 1 : Nat) : Int) := by omega
      rw [cut_lo w i (by omega), e1', cut_hi w (i + 1)]
      refine ⟨_, _, rfl, rfl, ?_, ?_⟩
      · rw [seg_len w 0 i (by omega), seg_len w (i + 1) w.length (Nat.le_refl _)]
        exact sz (by omega)
      · rw [wout_cut]
        exact q _ s2
end
end Cw
/-! CwLaw2: the law's book and its answer. -/
namespace Cw
open PySem L2 TL PyProof.Rows

/-- a list that is none of the book's may change -/
theorem BookAt.upd {w : World} {C : Addr} {H : Hp} {B : Bk} {ws : List Str} {n : Nat} (h : BookAt w C H B ws n) {p : Addr} {xs : List V} (e : H p = some (.lst xs)) (ne : p ≠ B.dr) (ys : List V) : BookAt w C (L2.upd H p (.lst ys)) B ws n := by
  obtain ⟨h1, ⟨kvs, h2, h3⟩, ⟨rs, h4, h5⟩, h6⟩ := h
  have n1 : B.p ≠ p := fun q => by rw [q, e] at h1; cases h1
  have n2 : B.dw ≠ p := fun q => by rw [q, e] at h2; cases h2
  have n3 : B.db ≠ p := fun q => by
    obtain ⟨_, xs, _, h, _⟩ := h6
    rw [q, e] at h
    cases h
  exact ⟨by rw [upd_ne n1]; exact h1, ⟨kvs, by rw [upd_ne n2]; exact h2, h3⟩, ⟨rs, by rw [upd_ne ne.symm]; exact h4, h5⟩, h6.keep (upd_ne n3) (tups_upd e _) (Nat.le_refl _)⟩
/-- the signs that were drawn, as texts -/
def drawn (S : List Nat) : List V := S.map fun c => V.str ⟨#[c]⟩
theorem at_mod {α : Type} {xs : List α} (h : 0 < xs.length) (m : Int) : ∃ v, v ∈ xs ∧ atI xs (m % ((xs.length : Nat) : Int)) = some v := by
  have h1 : 0 ≤ m % ((xs.length : Nat) : Int) := Int.emod_nonneg _ (by omega)
  have h2 : m % ((xs.length : Nat) : Int) < ((xs.length : Nat) : Int) := Int.emod_lt_of_pos _ (by omega)
  obtain ⟨j, hj⟩ := Int.eq_ofNat_of_zero_le h1
  rw [hj] at h2 ⊢
  have jl : j < xs.length := by omega
  exact ⟨xs[j], List.getElem_mem jl, atI_nat (List.getElem?_eq_getElem jl)⟩
/-- the law's book under way: H at the def's start, H' now -/
structure LB (w : World) (C : Addr) (H H' : Hp) (B : Bk) (ws : List Str) (n : Nat) (S : List Nat) (aw as : Addr) : Prop where
  s : Same H H'
  ha : H' as = some (.lst (drawn S))
  b : BookAt w C H' B ws n
  hw : H' aw = some (.lst (ws.map V.str))
  W : Words ws
  l : ws.length ≤ 10
  ne : aw ≠ as ∧ aw ≠ B.dw ∧ aw ≠ B.dr ∧ aw ≠ B.db ∧ as ≠ B.dw ∧ as ≠ B.dr ∧ as ≠ B.db
  fr : H aw = none ∧ H B.dw = none ∧ H B.dr = none ∧ H B.db = none
theorem LB.same {w : World} {C : Addr} {H H1 H2 : Hp} {B : Bk} {ws : List Str} {n : Nat} {S : List Nat} {aw as : Addr} (h : LB w C H H1 B ws n S aw as) (s : Same H1 H2) : LB w C H H2 B ws n S aw as :=
  ⟨h.s.trans s, s _ _ h.ha, h.b.same s, s _ _ h.hw, h.W, h.l, h.ne, h.fr⟩
theorem LB.step {w : World} {C : Addr} {H H1 H2 : Hp} {B : Bk} {ws ws' : List Str} {n n' : Nat} {S : List Nat} {aw as : Addr} (h : LB w C H H1 B ws n S aw as) (b2 : BookAt w C H2 B ws' n') (k : Keeps B H1 H2) (W' : Words ws') (l' : ws'.length ≤ 10) :
    H2 aw = some (.lst (ws.map V.str)) ∧ LB w C H (upd H2 aw (.lst (ws'.map V.str))) B ws' n' S aw as := by
  obtain ⟨n1, n2, n3, n4, n5, n6, n7⟩ := h.ne
  obtain ⟨f1, f2, f3, f4⟩ := h.fr
  have e := k _ _ h.hw n2 n3 n4
  refine ⟨e, fun b o q => ?_, ?_, b2.upd e n3 _, upd_same, W', l', h.ne, h.fr⟩
  · rw [upd_ne (ne_of_none q f1)]
    exact k _ _ (h.s _ _ q) (ne_of_none q f2) (ne_of_none q f3) (ne_of_none q f4)
  · rw [upd_ne n1.symm]
    exact k _ _ h.ha n5 n6 n7
theorem low_app {z : Str} {c : Nat} (h : Low z) (hc : 97 ≤ c ∧ c ≤ 122) : Low (z ++ ⟨#[c]⟩) := fun x hx => by
  rw [tl_append] at hx
  rcases List.mem_append.mp hx with hx | hx
  · exact h x hx
  · rw [List.mem_singleton.mp hx]
    exact hc
theorem len26 : (tl lowText).length = 26 := by rw [tl_low]; rfl
section
variable {P : Program} {w : World} {K : PySem.W.Frag} {mg : Str → Option Value} {base : Heap}
/-! ### _law_book -/
def spLBook (w : World) (K : PySem.W.Frag) (C : Addr) : Sp := fun vs H Q _ => ∃ (a : Addr) (cs : List Int) (num : Int), vs = [.ref a, .int num, .int 10] ∧ SqL K H a (cs.map V.int) ∧ cs.length ≤ 100 ∧
  ∀ (H' : Hp) (B : Bk) (ws : List Str) (n : Nat) (S : List Nat) (aw as p : Addr), Same H H' → BookAt w C H' B ws n → Words ws → 1 ≤ ws.length → ws.length ≤ 10 → H' aw = some (.lst (ws.map V.str)) → H' as = some (.lst (drawn S)) → 2 ≤ S.length → S.length ≤ 4 → (∀ c ∈ S, 97 ≤ c ∧ c ≤ 122) →
    H' p = some (.tup [.ref B.p, .ref aw, .ref as]) → Q (.ref p) H'
theorem ok_lbook {f fI fP fD C : Addr} {fd fdI fdP fdD : FuncData} {d0 : Value} (F : Fun K "_law_book" "_law_book" sLBook f fd) (T : Txt K mg C) (M : Mk K C fI) (GI : FnOk P w K mg base CX0 1 fI fdI ["self"] (spInit w C)) (bI : Binds K fdI ["self"] [])
    (GP : FnOk P w K mg base CX0 2 fP fdP ["self", "word", "worth"] (spPut w C)) (bP : Binds K fdP ["self", "word", "worth"] []) (bP2 : Binds K fdP ["self", "word", "worth"] [d0]) (r0 : RelV (.int 0) d0) (mP : Meth K C "put" fP)
    (GD : FnOk P w K mg base CX0 3 fD fdD ["self", "word"] (spDrop w C)) (bD : Binds K fdD ["self", "word"] []) (mD : Meth K C "drop" fD) : FnOk P w K mg base CX0 4 f fd ["_law_cells", "_law_number", "_law_most"] (spLBook w K C) := by
  refine F.ok scLBook (fun vs H Q E h => ?_) (fun cdv A outer s H vs Q E hr h => ?_)
  · obtain ⟨a, cs, num, rfl, _⟩ := h
    rfl
  · obtain ⟨a, cs, num, rfl, hS, hcs, k⟩ := h
    have hu := hr.units
    have hr2 : Room 2 _ := hr.mono (by decide)
    refine ⟨_, pss_cons (ps_set (i := 3) scLBook.nd rfl (Or.inr rfl) pe_str)
      (pss_cons (ps_setLc (i := 5) (own := [("_law_k", 4)]) (g := gName 4) (tt := tYes) rfl scLBook.nd rfl rfl (sw_true rfl rfl rfl (by decide +kernel)) (pi_range1 rfl T.rng (pa_cons (pe_op op_add pe_int (pe_op op_mod (pe_op op_fdiv (pv 1) pe_int) pe_int)) pa_nil))
          (blkOk_by (own := [("_law_k", 4)]) (N := ["_law_cells", "_law_number", "_law_most", "_law_letters", "_law_k", "_law_some", "_law_book_here", "_law_words", "_law_cell", "_law_word", "_law_size_here"]) (sc := defScope sLBook) (by decide +kernel))
          (fun _ _ _ _ _ => pg_name (i := 4) scLBook.nd rfl (Or.inl rfl)) (fun _ _ _ _ _ => pts_nil) (fun _ _ _ _ _ => pe_ix ix_str (pv 3) (pe_op op_mod (pe_op op_add (pv 1) (pe_op op_mul pe_int (pv 4))) pe_int) (fun _ _ => rfl)))
      (pss_cons (ps_set (i := 6) scLBook.nd rfl (Or.inl rfl) (pe_make0 M GI hr2 rfl T.mgC bI .nil pass0))
      (pss_cons (ps_set (i := 7) scLBook.nd rfl (Or.inl rfl) (pe_lst pa_nil))
      (pss_cons (ps_for PassesOwn.never rfl (pi_list (pv 0)) (pg_name (i := 8) scLBook.nd rfl (Or.inl rfl))
        (pss_cons (ps_set (i := 1) scLBook.nd rfl (Or.inr rfl) (pe_op op_mod (pe_op op_mul (pv 8) pe_int) pe_int))
        (pss_cons (ps_set (i := 9) scLBook.nd rfl (Or.inl rfl) pe_str)
        (pss_cons (ps_set (i := 10) scLBook.nd rfl (Or.inl rfl) (pe_op op_add pe_int (pe_op op_mod (pv 1) pe_int)))
        (pss_cons (ps_set (i := 1) scLBook.nd rfl (Or.inr rfl) (pe_op op_fdiv (pv 1) pe_int))
        (pss_cons (ps_for PassesOwn.never rfl (pi_range1 rfl T.rng (pa_cons (pv 10) pa_nil)) (pg_name (i := 4) scLBook.nd rfl (Or.inl rfl))
          (pss_cons (ps_set (i := 9) scLBook.nd rfl (Or.inl rfl) (pe_op op_add_str (pv 9) (pe_ix ix_list (pv 5) (pe_op op_mod (pv 1) (pe_callB call_len_seq rfl T.len PySem.boot_len (pa_cons (pv 5) pa_nil))) (fun _ _ => rfl))))
          (pss_one (ps_set (i := 1) scLBook.nd rfl (Or.inr rfl) (pe_op op_fdiv (pv 1) (pe_callB call_len_seq rfl T.len PySem.boot_len (pa_cons (pv 5) pa_nil)))))))
        (pss_one (ps_if (pt_cmpR op_in_seq (pv 9) (pv 7) rfl)
          (pss_cons (ps_expr (pe_meth (pv 6) T.cl mD GD hr bD .nil pass0 (pa_cons (pv 9) pa_nil)))
            (pss_one (ps_expr (pe_bm PySem.F.plainAttrs_list PySem.F.slot_list_remove PySem.F.type_list_remove mt_removeS (pv 7) (pa_cons (pv 9) pa_nil)))))
          (pss_one (ps_if (pt_cmpR op_lt (pe_callB call_len_seq rfl T.len PySem.boot_len (pa_cons (pv 7) pa_nil)) (pv 2) (nomark _))
            (pss_cons (ps_expr (pe_meth (pv 6) T.cl mP GP hr2 bP .nil pass0 (pa_cons (pv 9) (pa_cons (pe_op op_mod (pv 1) (pe_op op_pow pe_int pe_int)) pa_nil))))
              (pss_one (ps_expr (pe_bm PySem.F.plainAttrs_list PySem.F.slot_list_append PySem.F.type_list_append mt_append (pv 7) (pa_cons (pv 9) pa_nil))))) pss_nil))))))))))
      (C8.pss_cut (ps_if (pt_cmpR (op_eqD hu) (pv 7) (pe_lst pa_nil) (nomark _))
        (pss_cons (ps_expr (pe_meth (pv 6) T.cl mP GP hr2 bP2 (.cons r0 .nil) pass0 (pa_cons (pe_op op_add_str (pe_ix ix_list (pv 5) pe_int (fun _ _ => rfl)) (pe_ix ix_list (pv 5) pe_int (fun _ _ => rfl))) pa_nil)))
          (pss_one (ps_expr (pe_bm PySem.F.plainAttrs_list PySem.F.slot_list_append PySem.F.type_list_append mt_append (pv 7) (pa_cons (pe_op op_add_str (pe_ix ix_list (pv 5) pe_int (fun _ _ => rfl)) (pe_ix ix_list (pv 5) pe_int (fun _ _ => rfl))) pa_nil))))) pss_nil)
      (pss_one (ps_ret (pe_tup (pa_cons (pv 6) (pa_cons (pv 7) (pa_cons (pv 5) pa_nil))))))))))), ?_⟩
    -- _law_some = [.. for _law_k in range(..)]
    refine ⟨_, rfl, _, _, rfl, rfl, ⟨by decide, by decide⟩, _, _, rfl, rfl, (by show (0 : Int) < 3; decide), _, _, rfl, rfl, _, rfl, by omega, by omega, fun as has => ?_⟩
    refine lc_range (fun i H' => ∃ S : List Nat, S.length = i ∧ (∀ c ∈ S, 97 ≤ c ∧ c ≤ 122) ∧ Same H H' ∧ H' as = some (.lst (drawn S))) ⟨[], rfl, fun _ h => absurd h List.not_mem_nil, same_new has _, upd_same⟩ ?_ ?_
    · rintro i H1 hi ⟨S, hl, hS1, s1, e1⟩
      refine ⟨rfl, ?_⟩
      refine yes ?_
      have il : i < 4 := by omega
      obtain ⟨c, hc, hat⟩ := at_mod (xs := tl lowText) (by rw [len26]; decide) (num + 5 * (0 + (i : Nat)))
      rw [len26] at hat
      refine ⟨_, rfl, _, rfl, _, rfl, _, _, rfl, rfl, .inl ⟨by decide, by decide⟩, _, _, rfl, rfl, _, _, rfl, rfl, (by show (0 : Int) < 26; decide), lowText, _, c, rfl, rfl, sz (by rw [len_tl, len26]; decide), hat, ?_⟩
      refine ⟨drawn S, e1, ?_, S ++ [c], ?_, fun x hx => ?_, fun b o e => ?_, ?_⟩
      · unfold drawn
        rw [List.length_map]
        exact szlt (by omega)
      · rw [List.length_append, hl]
        rfl
      · rcases List.mem_append.mp hx with hx | hx
        · exact hS1 x hx
        · rw [List.mem_singleton.mp hx]
          exact mem_low.mp hc
      · rw [upd_ne (ne_of_none e has)]
        exact s1 _ _ e
      · rw [upd_same]
        unfold drawn
        rw [List.map_append]
        rfl
    rintro H1 ⟨S, hl, hS1, s1, e1⟩
    have S2 : 2 ≤ S.length := by omega
    have S4 : S.length ≤ 4 := by omega
    -- _law_book_here = Book()
    intro x dx nx ndx nex
    refine ⟨x, dx, rfl, upd_same, fun B H2 eB hw hd hb b2 k2 => ⟨rfl, ?_⟩⟩
    have free : ∀ q, (upd (upd H1 dx (.own x)) x (.ins C dx [])) q = none → H1 q = none := fun q e => by
      have n1 : q ≠ x := fun z => by rw [z, upd_same] at e; cases e
      rw [upd_ne n1] at e
      have n2 : q ≠ dx := fun z => by rw [z, upd_same] at e; cases e
      rw [upd_ne n2] at e
      exact e
    have free0 : ∀ q, H1 q = none → H q = none := fun q e => by
      cases z : H q with
      | none => rfl
      | some o => rw [s1 _ _ z] at e; cases e
    have s12 : Same H1 H2 := fun b o e => k2 b o (by rw [upd_ne (ne_of_none e nx), upd_ne (ne_of_none e ndx)]; exact e) (ne_of_none e nx)
    -- _law_words = []
    refine ⟨sz (by decide), fun aw haw => ?_⟩
    have s23 := same_new haw (.lst [])
    have haw0 : H aw = none := by
      cases z : H aw with
      | none => rfl
      | some o => rw [s12 _ _ (s1 _ _ z)] at haw; cases haw
    have L0 : LB w C H (upd H2 aw (.lst (([] : List Str).map V.str))) B [] 0 S aw as := by
      refine ⟨s1.trans (s12.trans s23), s23 _ _ (s12 _ _ e1), b2.same s23, upd_same, ⟨List.nodup_nil, fun _ h => absurd h List.not_mem_nil⟩, Nat.zero_le _, ⟨?_, ?_, ?_, ?_, ?_, ?_, ?_⟩, haw0, free0 _ (free _ hw), free0 _ (free _ hd), free0 _ (free _ hb)⟩
      · exact (ne_of_none (s12 _ _ e1) haw).symm
      · obtain ⟨kvs, h, _⟩ := b2.dc
        exact (ne_of_none h haw).symm
      · obtain ⟨rs, h, _⟩ := b2.row
        exact (ne_of_none h haw).symm
      · obtain ⟨_, xs, _, h, _⟩ := b2.bt
        exact (ne_of_none h haw).symm
      · exact ne_of_none e1 (free _ hw)
      · exact ne_of_none e1 (free _ hd)
      · exact ne_of_none e1 (free _ hb)
    -- for _law_cell in _law_cells
    rw [← eB]
    refine ⟨_, rfl, a, rfl, ⟨_, L0.s.seq hS⟩, for_list (K := K) (a := a) (xs := cs.map V.int) (fun i σ H' => ∃ (m : Int) (v4 v8 v9 v10 : Option V) (ws : List Str) (n : Nat), σ = [some (.ref a), some (.int m), some (.int 10), some (.str lowText), v4, some (.ref as), some (.ref B.p), some (.ref aw), v8, v9, v10] ∧
      LB w C H H' B ws n S aw as ∧ n ≤ i)
      ⟨num, _, none, none, none, [], 0, rfl, L0, Nat.le_refl _⟩ (fun i σ H' _ ⟨_, _, _, _, _, _, _, _, L, _⟩ => L.s.seq hS) ?_ ?_⟩
    · rintro i y σ H3 hi ⟨m, v4, v8, v9, v10, ws, n, rfl, L, ni⟩
      have hil : i < cs.length := by
        have := (List.getElem?_eq_some_iff.mp hi).1
        rw [List.length_map] at this
        exact this
      obtain ⟨cell, rfl⟩ : ∃ z, y = V.int z := by
        rw [List.getElem?_map] at hi
        cases e : cs[i]? with
        | none => rw [e] at hi; cases hi
        | some z => rw [e] at hi; exact ⟨z, (Option.some.inj hi).symm⟩
      -- number = cell * 48271 % 2147483647; word = ''; size = 2 + number % 3; number = number // 3
      refine ⟨_, rfl, _, _, rfl, rfl, .inr ⟨by decide, by decide⟩, _, _, rfl, rfl, (by show (0 : Int) < 2147483647; decide), ?_⟩
      refine ⟨_, rfl, _, _, rfl, rfl, (by show (0 : Int) < 3; decide), _, _, rfl, rfl, ?_⟩
      refine ⟨_, rfl, _, _, rfl, rfl, ⟨by decide, by decide⟩, ?_⟩
      -- for _law_k in range(size)
      refine ⟨_, rfl, _, rfl, by omega, by omega, for_range (fun j σ H' => ∃ (m2 : Int) (v4 : Option V) (z : Str), σ = [some (.ref a), some (.int m2), some (.int 10), some (.str lowText), v4, some (.ref as), some (.ref B.p), some (.ref aw), some (.int cell), some (.str z), some (.int (2 + cell * 48271 % 2147483647 % 3))] ∧
        H' = H3 ∧ Low z ∧ z.length = j) ⟨_, v4, "", rfl, rfl, fun c hc => absurd hc (by rw [tl_ofString]; exact List.not_mem_nil), rfl⟩ ?_ ?_⟩
      · rintro j σ H4 hj ⟨m2, v4, z, rfl, rfl, lz, zl⟩
        have jl : j < 4 := by omega
        have dl : (drawn S).length = S.length := List.length_map _
        obtain ⟨v, hv, hat⟩ := at_mod (xs := drawn S) (by omega) m2
        obtain ⟨c, hc, rfl⟩ := List.mem_map.mp hv
        have hp : (0 : Int) < (((drawn S).length : Nat) : Int) := by omega
        refine ⟨_, rfl, _, rfl, _, rfl, _, rfl, as, _, rfl, .inl (SqL.of L.ha), _, _, rfl, rfl, hp, as, _, _, _, rfl, rfl, SqL.of L.ha, hat, z, ⟨#[c]⟩, rfl, rfl, ?_, ?_⟩
        · show z.length + 1 ≤ sizeLine
          exact sz (by omega)
        · refine ⟨_, rfl, _, rfl, as, _, rfl, .inl (SqL.of L.ha), _, _, rfl, rfl, ⟨hp, by omega⟩, ?_⟩
          refine ⟨_, _, z ++ ⟨#[c]⟩, rfl, rfl, low_app lz (hS1 c hc), ?_⟩
          rw [app_len, zl]
          rfl
      · rintro σ H4 ⟨m2, v4, z, rfl, rfl, lz, zl⟩
        have z2 : 2 ≤ z.length := by omega
        have z4 : z.length ≤ 4 := by omega
        -- if _law_word in _law_words
        refine ⟨_, rfl, _, rfl, aw, _, rfl, .inl (SqL.of L.hw), rfl, flat_strs ws, _, rfl, ?_⟩
        refine ite2 (fun e => ?_) (fun e => ?_)
        · have hin : z ∈ ws := by
            have e2 : inV (.str z) (ws.map V.str) = true := e
            rw [in_strs] at e2
            exact of_decide_eq_true e2
          refine ⟨_, rfl, B.p, B.dx, _, rfl, L.b.ob, lkNo B (by decide +kernel) (by decide +kernel) (by decide +kernel), _, rfl, B, ws, n, z, rfl, L.b, lz, z2, z4, hin, L.W.1, by omega, fun H5 b5 k5 => ?_⟩
          obtain ⟨j, j1, j2, j3⟩ := first_str hin
          obtain ⟨e5, L5⟩ := L.step (ws' := ws.erase z) b5 k5 ⟨L.W.1.erase z, fun y hy => L.W.2 y (List.mem_of_mem_erase hy)⟩ (by have := List.length_erase_of_mem hin; have := L.l; omega)
          refine ⟨_, rfl, .inl ⟨rfl, _, SqL.of e5⟩, _, rfl, aw, ws, z, j, rfl, rfl, e5, j1, j2, ?_⟩
          rw [j3]
          exact ⟨_, _, _, _, _, _, _, rfl, L5, by omega⟩
        · have hno : z ∉ ws := fun hin => e (by
            show inV (.str z) (ws.map V.str) = true
            rw [in_strs]
            exact decide_eq_true hin)
          -- elif len(_law_words) < _law_most
          refine ⟨_, rfl, aw, _, rfl, .inl (SqL.of L.hw), _, rfl, _, _, rfl, rfl, _, rfl, ?_⟩
          refine ite2 (fun e2 => ?_) (fun e2 => ?_)
          · have hl9 : ws.length < 10 := by
              have := of_decide_eq_true e2
              rw [List.length_map] at this
              omega
            refine ⟨_, rfl, B.p, B.dx, _, rfl, L.b.ob, lkNo B (by decide +kernel) (by decide +kernel) (by decide +kernel), _, rfl, _, rfl, _, _, rfl, rfl, ⟨by decide, by decide, by decide⟩, _, _, rfl, rfl, (by show (0 : Int) < 10 ^ (9 : Int).toNat; decide), B, ws, n, z, _, rfl, L.b, lz, z2, z4, hno, by omega, by omega, fun H5 b5 k5 => ?_⟩
            have W5 : Words (ws ++ [z]) := ⟨nodup_app L.W.1 (by simp) fun y hy m => hno (List.mem_singleton.mp m ▸ hy), fun y hy => by
              rcases List.mem_append.mp hy with hy | hy
              · exact L.W.2 y hy
              · rw [List.mem_singleton.mp hy]; exact ⟨lz, z2, z4⟩⟩
            obtain ⟨e5, L5⟩ := L.step (ws' := ws ++ [z]) b5 k5 W5 (by rw [List.length_append]; exact hl9)
            rw [List.map_append] at L5
            refine ⟨_, rfl, .inl ⟨rfl, _, SqL.of e5⟩, _, rfl, aw, _, _, rfl, rfl, e5, ?_, ?_⟩
            · rw [List.length_map]
              exact szlt (by omega)
            · exact ⟨_, _, _, _, _, _, _, rfl, L5, by omega⟩
          · exact ⟨_, _, _, _, _, _, _, rfl, L, by omega⟩
    · rintro σ H3 ⟨m, v4, v8, v9, v10, ws, n, rfl, L, ni⟩
      rw [List.length_map] at ni
      -- if _law_words == []
      refine ⟨fun σ H' => ∃ (m : Int) (v4 v8 v9 v10 : Option V) (ws : List Str) (n : Nat), σ = [some (.ref a), some (.int m), some (.int 10), some (.str lowText), v4, some (.ref as), some (.ref B.p), some (.ref aw), v8, v9, v10] ∧
        LB w C H H' B ws n S aw as ∧ 1 ≤ ws.length, ?_, ?_⟩
      · refine ⟨_, rfl, Nat.zero_le _, fun p hp => ?_⟩
        have sp := same_new hp (.lst [])
        refine ⟨.list (ws.map .str), .list [], .lst (SqL.of (sp _ _ L.hw)) (dp_strs _), .lst (SqL.of upd_same) .nil, shaped_strs fun y hy => ok_low (L.W.2 y hy).1, rfl, _, rfl, ?_⟩
        have ev : PyData.eqv (.list (ws.map .str)) (.list []) = decide (ws = []) := eqv_strs ws []
        rw [ev]
        have Lp := L.same sp
        refine ite2 (fun e => ?_) (fun e => ?_)
        · have e0 : ws = [] := of_decide_eq_true e
          subst e0
          obtain ⟨c0, c1, r, rfl⟩ : ∃ c0 c1 r, S = c0 :: c1 :: r := by
            match S, S2 with
            | c0 :: c1 :: r, _ => exact ⟨c0, c1, r, rfl⟩
          have hc0 := hS1 c0 (by simp)
          have hc1 := hS1 c1 (by simp)
          have l0 : Low ⟨#[c0]⟩ := fun x hx => by
            rw [List.mem_singleton.mp hx]
            exact hc0
          have l2 := low_app l0 hc1
          have len2 : ((⟨#[c0]⟩ : Str) ++ ⟨#[c1]⟩).length = 2 := by rw [app_len]; rfl
          refine ⟨_, rfl, B.p, B.dx, _, rfl, Lp.b.ob, lkNo B (by decide +kernel) (by decide +kernel) (by decide +kernel), _, rfl, as, _, 0, _, rfl, rfl, SqL.of Lp.ha, at0, _, rfl, as, _, 1, _, rfl, rfl, SqL.of Lp.ha, at1, _, _, rfl, rfl, sz (by show 1 + 1 ≤ 16777216; decide), B, [], n, _, 0, rfl, Lp.b, l2, by omega, by omega, List.not_mem_nil, by decide, by omega, fun H5 b5 k5 => ?_⟩
          have W5 : Words ([] ++ [(⟨#[c0]⟩ : Str) ++ ⟨#[c1]⟩]) := ⟨by simp, fun y hy => by
            rw [List.mem_singleton.mp hy]
            exact ⟨l2, by omega, by omega⟩⟩
          obtain ⟨e5, L5⟩ := Lp.step b5 k5 W5 (by show 1 ≤ 10; decide)
          have has5 := L5.ha
          have ha5 : H5 as = some (.lst (drawn (c0 :: c1 :: r))) := by
            rw [upd_ne L.ne.1.symm] at has5
            exact has5
          refine ⟨_, rfl, .inl ⟨rfl, _, SqL.of e5⟩, _, rfl, as, _, 0, _, rfl, rfl, SqL.of ha5, at0, _, rfl, as, _, 1, _, rfl, rfl, SqL.of ha5, at1, _, _, rfl, rfl, sz (by show 1 + 1 ≤ 16777216; decide), aw, _, _, rfl, rfl, e5, szlt (by decide), ?_⟩
          exact ⟨_, _, _, _, _, _, _, rfl, L5, (by show 1 ≤ 1; decide)⟩
        · refine ⟨_, _, _, _, _, ws, _, rfl, Lp, ?_⟩
          cases ws with
          | nil => exact absurd (decide_eq_true rfl) e
          | cons y r => exact Nat.succ_le_succ (Nat.zero_le _)
      · rintro σ H5 ⟨m, v4, v8, v9, v10, ws, n, rfl, L, l1⟩
        refine ⟨_, rfl, _, rfl, _, rfl, (by show 3 ≤ sizeLine; exact sz (by decide)), fun p hp => ?_⟩
        have sp := same_new hp (.tup [.ref B.p, .ref aw, .ref as])
        have Lp := L.same sp
        exact k _ B ws n S aw as p Lp.s Lp.b Lp.W l1 Lp.l Lp.hw Lp.ha S2 S4 hS1 upd_same
/-! ### _law_answer -/
theorem low_seg2 {z : Str} (h : Low z) (a b : Nat) : Low (seg z a b) := low_seg h a b
theorem low_cat {x y : Str} (hx : Low x) (hy : Low y) : Low (x ++ y) := fun c hc => by
  rw [tl_append] at hc
  rcases List.mem_append.mp hc with hc | hc
  · exact hx c hc
  · exact hy c hc
def spLAns (K : PySem.W.Frag) : Sp := fun vs H Q _ => ∃ (a aw as : Addr) (ns : List Int) (ws : List Str) (S : List Nat), vs = [.ref a, .ref aw, .ref as] ∧ SqL K H a (ns.map V.int) ∧ H aw = some (.lst (ws.map V.str)) ∧ H as = some (.lst (drawn S)) ∧ Words ws ∧ 1 ≤ ws.length ∧ ws.length ≤ 10 ∧
  2 ≤ S.length ∧ S.length ≤ 4 ∧ (∀ c ∈ S, 97 ≤ c ∧ c ≤ 122) ∧ ∀ z, Low z → 1 ≤ z.length → z.length ≤ 6 → Q (.str z) H
theorem ok_lans {f fC C : Addr} {fd fdC : FuncData} (F : Fun K "_law_answer" "_law_answer" sLAns f fd) (T : Txt K mg C) (GC : FnOk P w K mg base CX0 1 fC fdC ["_law_script", "_law_k"] (spCell K)) (bC : Binds K fdC ["_law_script", "_law_k"] []) (kC : PySem.W.keepIn K (.ref fC) = true) (mC : mg "_law_cell_at" = some (.ref fC)) :
    FnOk P w K mg base CX0 2 f fd ["_law_script", "_law_words", "_law_some"] (spLAns K) := by
  refine F.ok scLAns (fun vs H Q E h => ?_) (fun cdv A outer s H vs Q E hr h => ?_)
  · obtain ⟨a, aw, as, ns, ws, S, rfl, _⟩ := h
    rfl
  · obtain ⟨a, aw, as, ns, ws, S, rfl, hS, hw, ha, hW, w1, w10, S2, S4, hS1, k⟩ := h
    refine ⟨_, pss_cons (ps_set (i := 3) scLAns.nd rfl (Or.inl rfl) (pe_op op_mod (pe_op op_mul (pe_call GC hr rfl mC kC bC .nil pass0 (pa_cons (pv 0) (pa_cons pe_int pa_nil))) pe_int) pe_int))
      (pss_cons (ps_set (i := 4) scLAns.nd rfl (Or.inl rfl) pe_str)
      (pss_cons (ps_if (pt_cmpR op_eq (pe_op op_mod (pv 3) pe_int) pe_int (nomark _))
        (pss_cons (ps_set (i := 4) scLAns.nd rfl (Or.inl rfl) (pe_slice sl_str (pe_ix ix_list (pv 1) (pe_op op_mod (pe_op op_fdiv (pv 3) pe_int) (pe_callB call_len_seq rfl T.len PySem.boot_len (pa_cons (pv 1) pa_nil))) (fun _ _ => rfl)) po_none (po_some (pe_op op_mod (pe_op op_fdiv (pv 3) pe_int) pe_int))))
        (pss_cons (ps_set (i := 4) scLAns.nd rfl (Or.inl rfl) (pe_op op_add_str (pe_ix ix_list (pv 1) (pe_op op_mod (pe_op op_fdiv (pv 3) pe_int) (pe_callB call_len_seq rfl T.len PySem.boot_len (pa_cons (pv 1) pa_nil))) (fun _ _ => rfl)) (pv 4)))
        (pss_cons (ps_set (i := 5) scLAns.nd rfl (Or.inl rfl) (pe_op op_mod (pe_op op_fdiv (pv 3) pe_int) (pe_callB call_len_str rfl T.len PySem.boot_len (pa_cons (pv 4) pa_nil))))
        (pss_one (ps_ret (pe_op op_add_str (pe_slice sl_str (pv 4) (po_some (pv 5)) po_none) (pe_slice sl_str (pv 4) po_none (po_some (pv 5))))))))) pss_nil)
      (pss_cons (ps_for PassesOwn.never rfl (pi_range1 rfl T.rng (pa_cons (pe_op op_add pe_int (pe_op op_mod (pe_op op_fdiv (pv 3) pe_int) pe_int)) pa_nil)) (pg_name (i := 6) scLAns.nd rfl (Or.inl rfl))
        (pss_cons (ps_set (i := 3) scLAns.nd rfl (Or.inl rfl) (pe_op op_mod (pe_op op_mul (pv 3) pe_int) pe_int))
        (pss_one (ps_set (i := 4) scLAns.nd rfl (Or.inl rfl) (pe_op op_add_str (pv 4) (pe_ix ix_list (pv 2) (pe_op op_mod (pv 3) (pe_callB call_len_seq rfl T.len PySem.boot_len (pa_cons (pv 2) pa_nil))) (fun _ _ => rfl)))))))
      (pss_one (ps_ret (pv 4)))))), ?_⟩
    -- number = _law_cell_at(script, 1) * 69621 % 2147483587
    refine ⟨_, rfl, a, ns, 1, rfl, hS, fun v => ⟨_, _, rfl, rfl, .inr ⟨by decide, by decide⟩, _, _, rfl, rfl, (by show (0 : Int) < 2147483587; decide), ?_⟩⟩
    obtain ⟨m, hm⟩ : ∃ m : Int, m = v * 69621 % 2147483587 := ⟨_, rfl⟩
    show gName 3 (.int (v * 69621 % 2147483587)) _ H _
    rw [← hm]
    have wl : (ws.map V.str).length = ws.length := List.length_map _
    have wp : (0 : Int) < (((ws.map V.str).length : Nat) : Int) := by omega
    have dl : (drawn S).length = S.length := List.length_map _
    have dp : (0 : Int) < (((drawn S).length : Nat) : Int) := by omega
    -- if number % 2 == 1
    refine ⟨_, rfl, _, _, rfl, rfl, (by show (0 : Int) < 2; decide), rfl, _, rfl, ?_⟩
    refine ite2 (fun _ => ?_) (fun _ => ?_)
    · obtain ⟨v1, hv1, at1⟩ := at_mod (xs := ws.map V.str) (by omega) (m / 40)
      obtain ⟨y1, hy1, rfl⟩ := List.mem_map.mp hv1
      obtain ⟨v2, hv2, at2⟩ := at_mod (xs := ws.map V.str) (by omega) (m / 2)
      obtain ⟨y2, hy2, rfl⟩ := List.mem_map.mp hv2
      obtain ⟨ly1, a1, b1⟩ := hW.2 y1 hy1
      obtain ⟨ly2, a2, b2⟩ := hW.2 y2 hy2
      obtain ⟨t, ht⟩ := Int.eq_ofNat_of_zero_le (show 0 ≤ m / 800 % 3 by omega)
      have t3 : t < 3 := by omega
      refine ⟨_, rfl, _, rfl, _, _, rfl, rfl, ⟨by decide, by decide⟩, _, rfl, aw, _, rfl, .inl (SqL.of hw), _, _, rfl, rfl, wp, aw, _, _, _, rfl, rfl, SqL.of hw, at1, _, rfl, _, _, rfl, rfl, ⟨by decide, by decide⟩, _, _, rfl, rfl, (by show (0 : Int) < 3; decide), _, rfl, y1, rfl, sz (by omega), ?_⟩
      rw [ht, cut_lo y1 t (by omega)]
      have ls := seg_len y1 0 t (by omega)
      have lc := app_len y2 (seg y1 0 t)
      refine ⟨_, rfl, _, rfl, _, _, rfl, rfl, ⟨by decide, by decide⟩, _, rfl, aw, _, rfl, .inl (SqL.of hw), _, _, rfl, rfl, wp, aw, _, _, _, rfl, rfl, SqL.of hw, at2, _, rfl, _, _, rfl, rfl, sz (by omega), ?_⟩
      have lowz := low_cat ly2 (low_seg ly1 0 t)
      obtain ⟨z, hz⟩ : ∃ z, z = y2 ++ seg y1 0 t := ⟨_, rfl⟩
      rw [← hz] at lc lowz ⊢
      have zl : z.length ≤ sizeLine := sz (by omega)
      have zp : (0 : Int) < ((z.length : Nat) : Int) := by omega
      refine ⟨_, rfl, _, _, rfl, rfl, ⟨by decide, by decide⟩, _, rfl, z, rfl, zl, _, _, rfl, rfl, zp, ?_⟩
      have u1 : 0 ≤ m / 2400 % ((z.length : Nat) : Int) := Int.emod_nonneg _ (by omega)
      have u2 : m / 2400 % ((z.length : Nat) : Int) < ((z.length : Nat) : Int) := Int.emod_lt_of_pos _ zp
      obtain ⟨u, hu⟩ := Int.eq_ofNat_of_zero_le u1
      rw [hu] at u2
      refine ⟨_, rfl, _, rfl, _, rfl, z, rfl, zl, _, rfl, _, rfl, _, rfl, z, rfl, zl, ?_⟩
      rw [hu, cut_lo z u (by omega), cut_hi z u]
      have l1 := seg_len z u z.length (Nat.le_refl _)
      have l2 := seg_len z 0 u (by omega)
      refine ⟨_, _, rfl, rfl, sz (by omega), k _ (low_cat (low_seg lowz _ _) (low_seg lowz _ _)) ?_ ?_⟩
      · rw [app_len]
        omega
      · rw [app_len]
        omega
    · -- for _law_k in range(1 + number // 2 % 6)
      refine ⟨_, rfl, _, _, rfl, rfl, ⟨by decide, by decide⟩, _, _, rfl, rfl, (by show (0 : Int) < 6; decide), _, _, rfl, rfl, _, rfl, by omega, by omega, for_range (fun j σ H' => ∃ (m2 : Int) (v6 : Option V) (z : Str), σ = [some (.ref a), some (.ref aw), some (.ref as), some (.int m2), some (.str z), none, v6] ∧ H' = H ∧ Low z ∧ z.length = j)
        ⟨m, none, "", rfl, rfl, fun c hc => absurd hc (by rw [tl_ofString]; exact List.not_mem_nil), rfl⟩ ?_ ?_⟩
      · rintro j σ H4 hj ⟨m2, v6, z, rfl, rfl, lz, zl⟩
        have jl : j < 6 := by omega
        refine ⟨_, rfl, _, _, rfl, rfl, .inr ⟨by decide, by decide⟩, _, _, rfl, rfl, (by show (0 : Int) < 2147483629; decide), ?_⟩
        obtain ⟨v, hv, hat⟩ := at_mod (xs := drawn S) (by omega) (m2 * 16807 % 2147483629)
        obtain ⟨c, hc, rfl⟩ := List.mem_map.mp hv
        refine ⟨_, rfl, _, rfl, _, rfl, _, rfl, as, _, rfl, .inl (SqL.of ha), _, _, rfl, rfl, dp, as, _, _, _, rfl, rfl, SqL.of ha, hat, z, ⟨#[c]⟩, rfl, rfl, ?_, ?_⟩
        · show z.length + 1 ≤ sizeLine
          exact sz (by omega)
        · refine ⟨_, _, z ++ ⟨#[c]⟩, rfl, rfl, low_app lz (hS1 c hc), ?_⟩
          rw [app_len, zl]
          rfl
      · rintro σ H4 ⟨m2, v6, z, rfl, rfl, lz, zl⟩
        exact ⟨_, rfl, k z lz (by omega) (by omega)⟩
end
end Cw
/-! CwLaw3: the law itself. -/
namespace Cw
open PySem L2 TL PyProof.Rows

theorem cut_ints (ns : List Int) (lo hi : Option Int) : ∃ cs : List Int, cutV (ns.map V.int) lo hi = cs.map V.int ∧ cs.length ≤ ns.length := by
  refine ⟨(ns.drop (HT.sIx ns.length 0 lo)).take (HT.sIx ns.length ns.length hi - HT.sIx ns.length 0 lo), ?_, ?_⟩
  · unfold cutV
    rw [List.length_map, List.map_take, List.map_drop]
  · rw [List.length_take, List.length_drop]
    omega
section
variable {P : Program} {w : World} {K : PySem.W.Frag} {mg : Str → Option Value} {base : Heap}
abbrev lawN : List Str := ["_law_script", "_law_number", "_law_book_here", "_law_words", "_law_some", "_law_answer_here", "_law_most", "_law_got", "_law_met", "_law_working"]
theorem law_body {fC fB fA fW fS fM C : Addr} {fdC fdB fdA fdW fdS fdM : FuncData} {d3 : Value} (T : Txt K mg C)
    (GC : FnOk P w K mg base CX0 1 fC fdC ["_law_script", "_law_k"] (spCell K)) (bC : Binds K fdC ["_law_script", "_law_k"] []) (kC : PySem.W.keepIn K (.ref fC) = true) (mC : mg "_law_cell_at" = some (.ref fC))
    (GB : FnOk P w K mg base CX0 4 fB fdB ["_law_cells", "_law_number", "_law_most"] (spLBook w K C)) (bB : Binds K fdB ["_law_cells", "_law_number", "_law_most"] []) (kB : PySem.W.keepIn K (.ref fB) = true) (mB : mg "_law_book" = some (.ref fB))
    (GA : FnOk P w K mg base CX0 2 fA fdA ["_law_script", "_law_words", "_law_some"] (spLAns K)) (bA : Binds K fdA ["_law_script", "_law_words", "_law_some"] []) (kA : PySem.W.keepIn K (.ref fA) = true) (mA : mg "_law_answer" = some (.ref fA))
    (GW : FnOk P w K mg base CX0 11 fW fdW ["book", "answer", "most"] (spAll w C)) (bW : Binds K fdW ["book", "answer", "most"] []) (bW3 : Binds K fdW ["book", "answer", "most"] [d3]) (r3 : RelV (.int 3) d3) (kW : PySem.W.keepIn K (.ref fW) = true) (mW : mg "all_workings" = some (.ref fW))
    (GS : FnOk P w K mg base CX0 4 fS fdS ["_law_working"] (spSize 4)) (bS : Binds K fdS ["_law_working"] []) (kS : PySem.W.keepIn K (.ref fS) = true) (mS : mg "_law_size" = some (.ref fS))
    (GM : FnOk P w K mg base CX0 5 fM fdM ["_law_working", "_law_words"] (spMakes 4)) (bM : Binds K fdM ["_law_working", "_law_words"] []) (kM : PySem.W.keepIn K (.ref fM) = true) (mM : mg "_law_makes" = some (.ref fM))
    (f : Addr) (cdv : Value) (A : Around) (outer : List Env) (s : Shared) (H : Hp) (Q : VK) (E : XK) (hA : A.guards = some []) (hr : Room 11 (A.deeper (envOfC "law" (defScope sLaw) s.heap.objs.size f cdv)))
    (a : Addr) (ns : List Int) (hS : SqL K H a (ns.map V.int)) (hl : ns.length ≤ 63) (q : ∀ H', Q (.bl true) H') :
    ∃ t, PSs (cxOf CX0 P w K mg base lawN "law" (defScope sLaw) f cdv A outer s H E).nox (defBody sLaw) t ∧ t { nx := fun _ H' => Q .non H', rt := Q } (start lawN [.ref a]) H := by
  have hu := hr.units
  have hu1 := hu_of hr
  have hg : (cxOf CX0 P w K mg base lawN "law" (defScope sLaw) f cdv A outer s H E).nox.A.guards = some [] := hA
  have hr1 : Room 1 _ := hr.mono (by decide)
  have hr2 : Room 2 _ := hr.mono (by decide)
  have hr4 : Room 4 _ := hr.mono (by decide)
  have hr5 : Room 5 _ := hr.mono (by decide)
  refine ⟨_, pss_cons (ps_set (i := 1) scLaw.nd rfl (Or.inl rfl) (pe_op op_mod (pe_op op_mul (pe_call GC hr1 rfl mC kC bC .nil pass0 (pa_cons (pv 0) (pa_cons pe_int pa_nil))) pe_int) pe_int))
    (pss_cons (ps_asg (pe_call GB hr4 rfl mB kB bB .nil pass0 (pa_cons (pe_slice sl_list (pv 0) (po_some pe_int) (po_some pe_int)) (pa_cons (pv 1) (pa_cons pe_int pa_nil)))) (pg_tup rfl (pgs_cons (pg_name (i := 2) scLaw.nd rfl (Or.inl rfl)) (pgs_cons (pg_name (i := 3) scLaw.nd rfl (Or.inl rfl)) (pgs_cons (pg_name (i := 4) scLaw.nd rfl (Or.inl rfl)) pgs_nil)))))
    (pss_cons (ps_set (i := 5) scLaw.nd rfl (Or.inl rfl) (pe_call GA hr2 rfl mA kA bA .nil pass0 (pa_cons (pv 0) (pa_cons (pv 3) (pa_cons (pv 4) pa_nil)))))
    (pss_cons (ps_set (i := 6) scLaw.nd rfl (Or.inl rfl) (pe_op op_mod (pe_call GC hr1 rfl mC kC bC .nil pass0 (pa_cons (pv 0) (pa_cons pe_int pa_nil))) pe_int))
    (C8.pss_cut (ps_if (pt_cmpR op_eq (pv 6) pe_int (nomark _)) (pss_cons (ps_set (i := 6) scLaw.nd rfl (Or.inl rfl) pe_int) (pss_one (ps_set (i := 7) scLaw.nd rfl (Or.inl rfl) (pe_call GW hr rfl mW kW bW3 (.cons r3 .nil) pass0 (pa_cons (pv 2) (pa_cons (pv 5) pa_nil))))))
      (pss_one (ps_set (i := 7) scLaw.nd rfl (Or.inl rfl) (pe_call GW hr rfl mW kW bW .nil pass0 (pa_cons (pv 2) (pa_cons (pv 5) (pa_cons (pv 6) pa_nil)))))))
    (pss_cons (ps_if (pt_not (pt_val (pe_callB call_isi rfl T.isi (by decide +kernel) (pa_cons (pv 7) (pa_cons (pe_bltn rfl T.tlist (by decide +kernel) (v := .ty "list") rfl) pa_nil))))) (pss_one (ps_ret pe_bl)) pss_nil)
    (pss_cons (ps_set (i := 8) scLaw.nd rfl (Or.inl rfl) pe_dnewK)
    (pss_cons (ps_for PassesOwn.never rfl (pi_list (pv 7)) (pg_name (i := 9) scLaw.nd rfl (Or.inl rfl))
      (pss_cons (ps_if (PW.pt (pw_or (pt_cmpR op_gt (pe_call GS hr4 rfl mS kS bS .nil pass0 (pa_cons (pv 9) pa_nil)) (pv 6) (nomark _))
          (pw_or (pt_cmp (pc_din hu1 (pe_callB (call_reprD hg hu) rfl T.rpr (by decide +kernel) (pa_cons (pv 9) pa_nil)) (pv 8)))
          (pw_or1 (pt_cmpR op_ne (pe_call GM hr5 rfl mM kM bM .nil pass0 (pa_cons (pv 9) (pa_cons (pv 3) pa_nil))) (pv 5) (nomark _)))))) (pss_one (ps_ret pe_bl)) pss_nil)
      (pss_one (ps_dput hu1 (pv 8) (pe_callB (call_reprD hg hu) rfl T.rpr (by decide +kernel) (pa_cons (pv 9) pa_nil)) pe_bl rfl))))
    (pss_one (ps_ret pe_bl))))))))), ?_⟩
  -- number = _law_cell_at(script, 0) * 16807 % 2147483629
  refine ⟨_, rfl, a, ns, 0, rfl, hS, fun v0 => ⟨_, _, rfl, rfl, .inr ⟨by decide, by decide⟩, _, _, rfl, rfl, (by show (0 : Int) < 2147483629; decide), ?_⟩⟩
  -- book, words, some = _law_book(script[4:104], number, 10)
  obtain ⟨cs, ecs, lcs⟩ := cut_ints ns (some 4) (some 104)
  refine ⟨_, rfl, _, rfl, _, rfl, a, _, rfl, hS, fun ac hac => ?_⟩
  rw [ecs]
  have sc := same_new hac (.lst (cs.map V.int))
  refine ⟨_, rfl, ac, cs, _, rfl, SqL.of upd_same, by omega, fun H1 B ws n S aw as p s1 b hW w1 w10 hw ha S2 S4 hS1 hp => ?_⟩
  have s01 := sc.trans s1
  refine ⟨p, _, rfl, SqT.of hp, rfl, _, _, rfl, _, _, rfl, _, _, rfl, rfl, ?_⟩
  -- answer = _law_answer(script, words, some)
  refine ⟨_, rfl, _, rfl, _, rfl, a, aw, as, ns, ws, S, rfl, s01.seq hS, hw, ha, hW, w1, w10, S2, S4, hS1, fun z lz z1 z6 => ?_⟩
  -- most = _law_cell_at(script, 2) % 6
  refine ⟨_, rfl, a, ns, 2, rfl, s01.seq hS, fun v2 => ⟨_, _, rfl, rfl, (by show (0 : Int) < 6; decide), ?_⟩⟩
  obtain ⟨m, hm⟩ := Int.eq_ofNat_of_zero_le (show 0 ≤ v2 % 6 by omega)
  have m6 : m < 6 := by omega
  show gName 6 (.int (v2 % 6)) _ H1 _
  rw [hm]
  refine ⟨fun σ H' => ∃ (m : Nat) (v1 : Option V) (got : Addr) (ks : List Wk) (gs : List Addr), σ = [some (.ref a), v1, some (.ref B.p), some (.ref aw), some (.ref as), some (.str z), some (.int (m : Nat)), some (.ref got), none, none] ∧ m ≤ 4 ∧
    H' aw = some (.lst (ws.map V.str)) ∧ H' got = some (.lst (gs.map V.ref)) ∧ AllAt H' ks gs ∧ ks.Nodup ∧ (∀ k ∈ ks, Good ws k ∧ k.out = z ∧ k.size ≤ m) ∧ ks.length ≤ 2094, ?_, ?_⟩
  · refine ⟨_, rfl, rfl, _, rfl, ?_⟩
    refine ite2 (fun e => ?_) (fun e => ?_)
    · exact ⟨_, rfl, _, rfl, B, ws, n, z, 3, rfl, by decide, b, hW, w10, lz, z1, z6, fun H' p' ks gs s' _ hp2 a2 nd g l => ⟨3, _, p', ks, gs, rfl, by decide, s' _ _ hw, hp2, a2, nd, g, l⟩⟩
    · have m4 : m ≤ 4 := by
        have e5 : m ≠ 5 := fun e5 => e (decide_eq_true (by rw [e5]; rfl))
        omega
      exact ⟨_, rfl, _, rfl, _, rfl, B, ws, n, z, m, rfl, m4, b, hW, w10, lz, z1, z6, fun H' p' ks gs s' _ hp2 a2 nd g l => ⟨m, _, p', ks, gs, rfl, m4, s' _ _ hw, hp2, a2, nd, g, l⟩⟩
  · rintro σ H2 ⟨m, v1, got, ks, gs, rfl, m4, hw2, hg2, a2, nd, g, l⟩
    -- if not isinstance(got, list)
    refine ⟨_, rfl, _, _, .type "list", .type "list", true, rfl, .ty "list", .base (.lst hg2), kit_ty (by decide +kernel), _, rfl, ?_⟩
    refine iteF ?_
    -- met = {}
    intro D hD
    have sD := same_new hD (.dK [])
    have Dw : aw ≠ D := ne_of_none hw2 hD
    have Dg : got ≠ D := ne_of_none hg2 hD
    -- for working in got
    refine ⟨_, rfl, got, rfl, ⟨_, SqL.of (sD _ _ hg2)⟩, for_list (fun i σ H' => ∃ (v9 : Option V) (kvs : List (Key × V)), σ = [some (.ref a), v1, some (.ref B.p), some (.ref aw), some (.ref as), some (.str z), some (.int (m : Nat)), some (.ref got), some (.ref D), v9] ∧
      H' aw = some (.lst (ws.map V.str)) ∧ H' got = some (.lst (gs.map V.ref)) ∧ AllAt H' ks gs ∧ H' D = some (.dK kvs) ∧ kvs.map (·.1) = ((ks.take i).map fun k => k.dat.shown).map Sum.inr)
      ⟨none, [], rfl, sD _ _ hw2, sD _ _ hg2, paired_same (tups_of sD) a2, upd_same, rfl⟩ (fun i σ H' _ ⟨_, _, _, _, h, _⟩ => SqL.of h) ?_ ?_⟩
    · rintro i y σ H3 hi ⟨v9, kvs, rfl, hw3, hg3, a3, hD3, hk3⟩
      obtain ⟨ka, hka, rfl⟩ : ∃ ka, gs[i]? = some ka ∧ y = .ref ka := by
        rw [List.getElem?_map] at hi
        cases e : gs[i]? with
        | none => rw [e] at hi; cases hi
        | some ka => rw [e] at hi; cases hi; exact ⟨ka, rfl, rfl⟩
      obtain ⟨k, hk, wk⟩ := a3.at hka
      have il : i < ks.length := (List.getElem?_eq_some_iff.mp hk).1
      obtain ⟨gk, ok, sk⟩ := g k (List.mem_of_getElem? hk)
      have lk := low_of hW gk
      have dk := dat_depth k
      have kl : kvs.length = i := by
        have e := congrArg List.length hk3
        rw [List.length_map, List.length_map, List.length_map, List.length_take] at e
        omega
      have hnew : k.dat.shown ∉ (ks.take i).map fun k => k.dat.shown := fun hm => by
        obtain ⟨j, hj, e⟩ := List.mem_map.mp hm
        obtain ⟨gj, _, _⟩ := g j (List.take_subset _ _ hj)
        have ej := shown_inj (low_of hW gj) lk e
        rw [ej] at hj
        obtain ⟨u, hu2⟩ := List.mem_iff_getElem?.mp hj
        have ul : u < i := by
          have := (List.getElem?_eq_some_iff.mp hu2).1
          rw [List.length_take] at this
          omega
        rw [List.getElem?_take_of_lt ul] at hu2
        have := nd_ix nd hu2 hk
        omega
      -- if size(working) > most
      refine ⟨_, rfl, k, ka, rfl, wk, lk, by omega, by omega, fun H4 s4 => ⟨_, rfl, _, _, rfl, rfl, _, rfl, ?_⟩⟩
      refine ite2 (fun e => absurd (of_decide_eq_true e) (by omega)) (fun _ => ?_)
      -- or repr(working) in met
      refine ⟨_, rfl, ka, k.dat, rfl, dp_of (wk.same s4), dat_showable (small_of hW gk), dat_noDict lk, by omega, sz (Nat.le_trans (shown_len hW gk (by omega)) (by decide)), _, rfl, D, _, rfl, DGet.k (k := Sum.inr k.dat.shown) (s4 _ _ hD3), _, rfl, ?_⟩
      have hno : (valV kvs (Sum.inr k.dat.shown : Key)).isSome = false := (has_word hk3 _).trans (decide_eq_false hnew)
      refine ite2 (fun e => absurd (hno.symm.trans e) (by decide)) (fun _ => ?_)
      -- or makes(working, words) != answer
      refine ⟨_, rfl, _, rfl, k, ka, aw, ws, rfl, wk.same s4, s4 _ _ hw3, hW, gk, by omega, by omega, fun H5 s5 => ⟨_, rfl, rfl, _, rfl, ?_⟩⟩
      have en : (!decide (V.str k.out = V.str z)) = false := by rw [ok, decide_eq_true rfl]; rfl
      refine ite2 (fun e => absurd (en.symm.trans e) (by decide)) (fun _ => ?_)
      -- met[repr(working)] = True
      have s35 := s4.trans s5
      have hD5 := s35 _ _ hD3
      refine ⟨_, rfl, _, rfl, ka, k.dat, rfl, dp_of (wk.same s35), dat_showable (small_of hW gk), dat_noDict lk, by omega, sz (Nat.le_trans (shown_len hW gk (by omega)) (by decide)), D, _, rfl, DPut.k (k := Sum.inr k.dat.shown) hD5 (szlt (by omega)), ?_⟩
      refine ⟨_, putK kvs (Sum.inr k.dat.shown) (.bl true), rfl, ?_, ?_, ?_, upd_same, ?_⟩
      · rw [upd_ne Dw]
        exact s35 _ _ hw3
      · rw [upd_ne Dg]
        exact s35 _ _ hg3
      · refine paired_same (fun c xs e => ?_) (paired_same (tups_of s35) a3)
        rw [upd_ne (fun z => by rw [z, hD5] at e; cases e)]
        exact e
      · have hv : valV kvs (Sum.inr k.dat.shown : Key) = none := by
          cases e : valV kvs (Sum.inr k.dat.shown : Key) with
          | none => rfl
          | some _ => rw [e] at hno; cases hno
        rw [putK_new _ hv, List.map_append, hk3, List.take_add_one, hk, List.map_append, List.map_append]
        rfl
    · rintro σ H3 ⟨v9, kvs, rfl, _⟩
      exact q H3
end
end Cw
/-! CwEnter: the law's def entered from the outermost caller, under which no guard stands. -/
namespace Cw
open PySem PySem.Spec L2 TL PyProof.Rows

section
variable {P : Program} {w : World} {K : PySem.W.Frag} {mg : Str → Option Value} {base : Heap}
/-- the call of law, where the state ahead is known -/
theorem law_enter {fa a : Addr} {fd : FuncData} {s : Shared} {H : Hp} {Q : VK} {E : XK} (F : Fun K "law" "law" sLaw fa fd) (hr : Room 12 callerA) (e0 : Env0 P w K mg base callerA [] s H) (hb : BindsTo s fd ⟨[.ref a], []⟩ [("_law_script", .ref a)])
    (body : ∀ cdv : Value, Room 11 (callerA.deeper (envOfC "law" (defScope sLaw) s.heap.objs.size fa cdv)) → ∃ t, PSs (cxOf CX0 P w K mg base lawN "law" (defScope sLaw) fa cdv callerA [] s H E).nox (defBody sLaw) t ∧ t { nx := fun _ H' => Q .non H', rt := Q } (start lawN [.ref a]) H) :
    codeAny (model P w) callerA (.call (.ref fa) ⟨[.ref a], []⟩) (CR CX0 [] P w H s Q E) s := by
  obtain ⟨oc, od, kV, doc, pm, an, cdv, ct, osl, rfl, lk, hcd⟩ := F.ex
  obtain ⟨t, ht, hq⟩ := body cdv (hr.deeper _)
  refine Att.call_fn (e0.mod.kin.keeps fun b o e => (e0.bs b o e).1) (e0.mod.nolimit.keeps fun b o e => (e0.bs b o e).1) lk hcd hr.depth hb (by show (((defScope sLaw).names.lookup ("_law_script" : Str) == some .local || (defScope sLaw).names.lookup ("_law_script" : Str) == some .cell) && true) = true; decide +kernel) (fun s1 x => ?_) scLaw.co scLaw.gen scLaw.kind
  have I : Inv (cxOf CX0 P w K mg base lawN "law" (defScope sLaw) fa cdv callerA [] s H E) [] (start lawN [.ref a]) H s1 := inv_start scLaw hr.hd e0 rfl (.cons rfl .nil) x
  have go := ht.nox.run [] s1 (start lawN [.ref a]) H _ I hq
  refine wpAny_mono go (fun fl s2 h => ?_) fun _ _ h => h
  match fl, h with
  | .ret _, ⟨v, _, H2, J, rv, qv⟩ => exact ⟨v, H2, J.os, J.bare, J.base, J.hok, rv, qv⟩
  | .next, ⟨_, H2, J, qv⟩ => exact ⟨.non, H2, J.os, J.bare, J.base, J.hok, rfl, qv⟩
  | .brk, ⟨_, _, _, no⟩ => exact no.elim
  | .cont, ⟨_, _, _, no⟩ => exact no.elim
/-- the law's promise at the heap behind the top: nothing is tracked but the script, as it stands -/
theorem law_runs {mb : Str → Option Value} {fa a : Addr} {s : Shared} {vs : List Value} {ns : List Int} (KX : K.In s.heap) (hg : s.heap.Ns mainGlobals mg) (hb : s.heap.Ns builtinsNs mb) (hbb : ∀ x : Str, x ≠ "__name__" → mb x = bootBuiltins x) (hlim : s.heap.NoLimit)
    (gens : s.gens = #[]) (ha : s.heap.get? a = some { cls := .type "list", data := .seq vs.toArray }) (hi : IntsAre vs ns) (hl : ns.length ≤ sizeLine)
    (run : ∀ (base : Heap) (H : Hp), K.In base → base.Ns mainGlobals mg → Env0 P w K mg base callerA [] s H → SqL K H a (ns.map V.int) → codeAny (model P w) callerA (.call (.ref fa) ⟨[.ref a], []⟩) (CR CX0 [] P w H s (fun v _ => v = .bl true) E0) s) :
    codeAny (model P w) callerA (.call (.ref fa) ⟨[.ref a], []⟩) (fun r s' => r = .ok (.ret (.bool true)) ∧ OldK s.heap s'.heap ∧ s'.os = s.os ∧ AllBare s'.gens) s := by
  have rv := vals_ints hi
  have lv : vs.length = ns.length := hi.length
  obtain ⟨ob, hob⟩ : ∃ ob : Obj, ob = { cls := .type "list", data := .seq vs.toArray } := ⟨_, rfl⟩
  rw [← hob] at ha
  -- the abstract heap: the script, frozen, where it is none of the module's own objects
  obtain ⟨H, hH, hS⟩ : ∃ H : Hp, (∀ b, H b = none ∨ (b = a ∧ K.lookup a = none ∧ H b = some (.frz ob (.lst (ns.map V.int))))) ∧ SqL K H a (ns.map V.int) := by
    cases hk : K.lookup a with
    | some o =>
      have e := KX a o hk
      rw [ha] at e
      cases e
      exact ⟨fun _ => none, fun _ => .inl rfl, .inr ⟨_, vs.toArray, _, hk, by rw [hob], by rw [hob], by rw [hob], by rw [List.size_toArray, lv]; exact hl, by simpa using rv⟩⟩
    | none =>
      refine ⟨fun b => if b = a then some (.frz ob (.lst (ns.map V.int))) else none, fun b => ?_, .inl (.inr ⟨ob, if_pos rfl⟩)⟩
      by_cases e : b = a
      · exact .inr ⟨e, rfl, if_pos e⟩
      · exact .inl (if_neg e)
  have clear : ∀ {b : Addr} {o : Obj}, s.heap.get? b = some o → (∀ its n, o.data ≠ .seq its n) → H b = none := fun {b o} e d => by
    rcases hH b with z | ⟨z, _, _⟩
    · exact z
    · rw [z, ha, hob] at e
      cases e
      exact absurd rfl (d _ _)
  have keepNs : ∀ {b : Addr} {m : Str → Option Value}, s.heap.Ns b m → (hidT s.heap H).Ns b m := fun {b m} ⟨o, es, ep, e, d, r⟩ => ⟨o, es, ep, hidT_get e (clear e fun its n z => by rw [d] at z; cases z), d, r⟩
  have KB : K.In (hidT s.heap H) := fun b o e => hidT_get (KX b o e) (by
    rcases hH b with z | ⟨z, k, _⟩
    · exact z
    · rw [z, k] at e
      cases e)
  obtain ⟨mc, l1, l2⟩ := hlim
  have hok : HOk P w H s.heap := fun b u e => by
    rcases hH b with z | ⟨z, _, q⟩
    · rw [z] at e
      cases e
    · rw [q] at e
      cases e
      rw [z]
      exact ⟨ha, by rw [List.length_map]; exact hl, vs, _, rv, by rw [ha, hob]⟩
  have e0 : Env0 P w K mg (hidT s.heap H) callerA [] s H := ⟨rfl, ⟨KB, keepNs hg, ⟨mb, keepNs hb, hbb⟩, ⟨mc, keepNs l1, l2⟩⟩, fun b o e => of_hidT e, Nat.le_of_eq (hidT_size _ _), trivial, fun b z => absurd z List.not_mem_nil, hok, .of_eq gens⟩
  refine codeAny_mono (run _ H KB (keepNs hg) e0 hS) fun r s' h => ?_
  match r, h with
  | .ok (.ret u), ⟨v, H', os, bare, un, hok', ru, ev⟩ =>
    rw [show v = .bl true from ev] at ru
    obtain rfl : u = Value.bool true := ru
    refine ⟨rfl, OldK.of_keep fun b o e => ?_, os, bare⟩
    rcases hH b with z | ⟨_, _, z⟩
    · exact un.keep b o e z (fun m => absurd (show b ∈ ([] : List Addr) from m) List.not_mem_nil) List.not_mem_nil
    · obtain ⟨g1, _⟩ := hok b _ z
      obtain ⟨g2, _⟩ := hok' b _ (un.frzs b ob _ z)
      rw [g2, ← g1, e]
end
end Cw
/-! CwEnd: what the top has written, and the law's call. -/
namespace Cw
open PySem PySem.Spec L2 TL PyProof.Rows

theorem all_mk {P : Program} {w : World} {K : PySem.W.Frag} {h : Heap} {mg : Str → Option Value} {fa C fwo fow fjo fwk fal fiw fce flb fla fls flk flm flw fmi fmt fmp fmn fmd fmw fmh Tal Tmp : Addr} (X : K.In h) (G : h.Ns mainGlobals mg) (hfa : mg "law" = some (.ref fa))
    {odwo odow odjo odwk odal odiw odce odlb odla odls odlk odlm odlw odmi odmt odmp odmn odmd odmw odmh anwo anow anjo anwk anal aniw ance anlb anla anls anlk anlm anlw anmi anmt anmp anmn anmd anmw anmh dTal dTmp : Option Addr} {slwo slow sljo slwk slal sliw slce sllb slla slls sllk sllm sllw slmi slmt slmp slmn slmd slmw slmh sTal sTmp : Array (Option Value)} {ocwo kVwo dcwo pmwo cdwo ctwo ocow kVow dcow pmow cdow ctow ocjo kVjo dcjo pmjo cdjo ctjo ocwk kVwk dcwk pmwk cdwk ctwk ocal kVal dcal pmal cdal ctal ociw kViw dciw pmiw cdiw ctiw occe kVce dcce pmce cdce ctce oclb kVlb dclb pmlb cdlb ctlb ocla kVla dcla pmla cdla ctla ocls kVls dcls pmls cdls ctls oclk kVlk dclk pmlk cdlk ctlk oclm kVlm dclm pmlm cdlm ctlm oclw kVlw dclw pmlw cdlw ctlw ocmi kVmi dcmi pmmi cdmi ctmi ocmt kVmt dcmt pmmt cdmt ctmt ocmp kVmp dcmp pmmp cdmp ctmp ocmn kVmn dcmn pmmn cdmn ctmn ocmd kVmd dcmd pmmd cdmd ctmd ocmw kVmw dcmw pmmw cdmw ctmw ocmh kVmh dcmh pmmh cdmh ctmh oTal oTmp : Value} {ual ump uL uN : Tok} {nal nmp : Nat}
    (aC : PySem.W.nsIn K mainGlobals "Book" = some (some (.ref C)))
    (awo : PySem.W.nsIn K mainGlobals "without" = some (some (.ref fwo))) (lwo : K.lookup fwo = some ⟨ocwo, odwo, .func (PySem.W.fnOf "without" "without" (defArgs sWithout) (defBody sWithout) (defScope sWithout) .none kVwo dcwo pmwo anwo cdwo ctwo), slwo⟩) (cwo : PySem.W.codeIn K cdwo "without" = true) (kwo : PySem.W.keepIn K (.ref fwo) = true)
    (aow : PySem.W.nsIn K mainGlobals "of_words" = some (some (.ref fow))) (low : K.lookup fow = some ⟨ocow, odow, .func (PySem.W.fnOf "of_words" "of_words" (defArgs sOfWords) (defBody sOfWords) (defScope sOfWords) .none kVow dcow pmow anow cdow ctow), slow⟩) (cow : PySem.W.codeIn K cdow "of_words" = true) (kow : PySem.W.keepIn K (.ref fow) = true)
    (ajo : PySem.W.nsIn K mainGlobals "joined" = some (some (.ref fjo))) (ljo : K.lookup fjo = some ⟨ocjo, odjo, .func (PySem.W.fnOf "joined" "joined" (defArgs sJoined) (defBody sJoined) (defScope sJoined) .none kVjo dcjo pmjo anjo cdjo ctjo), sljo⟩) (cjo : PySem.W.codeIn K cdjo "joined" = true) (kjo : PySem.W.keepIn K (.ref fjo) = true)
    (awk : PySem.W.nsIn K mainGlobals "workings_of" = some (some (.ref fwk))) (lwk : K.lookup fwk = some ⟨ocwk, odwk, .func (PySem.W.fnOf "workings_of" "workings_of" (defArgs sWork) (defBody sWork) (defScope sWork) .none kVwk dcwk pmwk anwk cdwk ctwk), slwk⟩) (cwk : PySem.W.codeIn K cdwk "workings_of" = true) (kwk : PySem.W.keepIn K (.ref fwk) = true)
    (aal : PySem.W.nsIn K mainGlobals "all_workings" = some (some (.ref fal))) (lal : K.lookup fal = some ⟨ocal, odal, .func (PySem.W.fnOf "all_workings" "all_workings" (defArgs sAll) (defBody sAll) (defScope sAll) (.ref Tal) kVal dcal pmal anal cdal ctal), slal⟩) (cal : PySem.W.codeIn K cdal "all_workings" = true) (kal : PySem.W.keepIn K (.ref fal) = true) (tal : K.lookup Tal = some ⟨oTal, dTal, .seq ([.int 3 ual] : List Value).toArray nal, sTal⟩)
    (aiw : PySem.W.nsIn K mainGlobals "is_word" = some (some (.ref fiw))) (liw : K.lookup fiw = some ⟨ociw, odiw, .func (PySem.W.fnOf "is_word" "is_word" (defArgs sIsWord) (defBody sIsWord) (defScope sIsWord) .none kViw dciw pmiw aniw cdiw ctiw), sliw⟩) (ciw : PySem.W.codeIn K cdiw "is_word" = true) (kiw : PySem.W.keepIn K (.ref fiw) = true)
    (ace : PySem.W.nsIn K mainGlobals "_law_cell_at" = some (some (.ref fce))) (lce : K.lookup fce = some ⟨occe, odce, .func (PySem.W.fnOf "_law_cell_at" "_law_cell_at" (defArgs sCell) (defBody sCell) (defScope sCell) .none kVce dcce pmce ance cdce ctce), slce⟩) (cce : PySem.W.codeIn K cdce "_law_cell_at" = true) (kce : PySem.W.keepIn K (.ref fce) = true)
    (alb : PySem.W.nsIn K mainGlobals "_law_book" = some (some (.ref flb))) (llb : K.lookup flb = some ⟨oclb, odlb, .func (PySem.W.fnOf "_law_book" "_law_book" (defArgs sLBook) (defBody sLBook) (defScope sLBook) .none kVlb dclb pmlb anlb cdlb ctlb), sllb⟩) (clb : PySem.W.codeIn K cdlb "_law_book" = true) (klb : PySem.W.keepIn K (.ref flb) = true)
    (ala : PySem.W.nsIn K mainGlobals "_law_answer" = some (some (.ref fla))) (lla : K.lookup fla = some ⟨ocla, odla, .func (PySem.W.fnOf "_law_answer" "_law_answer" (defArgs sLAns) (defBody sLAns) (defScope sLAns) .none kVla dcla pmla anla cdla ctla), slla⟩) (cla : PySem.W.codeIn K cdla "_law_answer" = true) (kla : PySem.W.keepIn K (.ref fla) = true)
    (als : PySem.W.nsIn K mainGlobals "_law_size" = some (some (.ref fls))) (lls : K.lookup fls = some ⟨ocls, odls, .func (PySem.W.fnOf "_law_size" "_law_size" (defArgs sLSize) (defBody sLSize) (defScope sLSize) .none kVls dcls pmls anls cdls ctls), slls⟩) (cls : PySem.W.codeIn K cdls "_law_size" = true) (kls : PySem.W.keepIn K (.ref fls) = true)
    (alk : PySem.W.nsIn K mainGlobals "_law_back" = some (some (.ref flk))) (llk : K.lookup flk = some ⟨oclk, odlk, .func (PySem.W.fnOf "_law_back" "_law_back" (defArgs sLBack) (defBody sLBack) (defScope sLBack) .none kVlk dclk pmlk anlk cdlk ctlk), sllk⟩) (clk : PySem.W.codeIn K cdlk "_law_back" = true) (klk : PySem.W.keepIn K (.ref flk) = true)
    (alm : PySem.W.nsIn K mainGlobals "_law_makes" = some (some (.ref flm))) (llm : K.lookup flm = some ⟨oclm, odlm, .func (PySem.W.fnOf "_law_makes" "_law_makes" (defArgs sLMakes) (defBody sLMakes) (defScope sLMakes) .none kVlm dclm pmlm anlm cdlm ctlm), sllm⟩) (clm : PySem.W.codeIn K cdlm "_law_makes" = true) (klm : PySem.W.keepIn K (.ref flm) = true)
    (alw : PySem.W.nsIn K mainGlobals "law" = some (some (.ref flw))) (llw : K.lookup flw = some ⟨oclw, odlw, .func (PySem.W.fnOf "law" "law" (defArgs sLaw) (defBody sLaw) (defScope sLaw) .none kVlw dclw pmlw anlw cdlw ctlw), sllw⟩) (clw : PySem.W.codeIn K cdlw "law" = true) (klw : PySem.W.keepIn K (.ref flw) = true)
    (ami : PySem.W.findIn K (.ref C) "__init__" = some (some (.ref fmi))) (imi : PySem.W.isFn K (.ref fmi) = true) (lmi : K.lookup fmi = some ⟨ocmi, odmi, .func (PySem.W.fnOf "__init__" "Book.__init__" (defArgs sInit) (defBody sInit) (defScope sInit) .none kVmi dcmi pmmi anmi cdmi ctmi), slmi⟩) (cmi : PySem.W.codeIn K cdmi "Book.__init__" = true) (kmi : PySem.W.keepIn K (.ref fmi) = true)
    (amt : PySem.W.findIn K (.ref C) "turn_bits" = some (some (.ref fmt))) (imt : PySem.W.isFn K (.ref fmt) = true) (lmt : K.lookup fmt = some ⟨ocmt, odmt, .func (PySem.W.fnOf "turn_bits" "Book.turn_bits" (defArgs sTurn) (defBody sTurn) (defScope sTurn) .none kVmt dcmt pmmt anmt cdmt ctmt), slmt⟩) (cmt : PySem.W.codeIn K cdmt "Book.turn_bits" = true) (kmt : PySem.W.keepIn K (.ref fmt) = true)
    (amp : PySem.W.findIn K (.ref C) "put" = some (some (.ref fmp))) (imp : PySem.W.isFn K (.ref fmp) = true) (lmp : K.lookup fmp = some ⟨ocmp, odmp, .func (PySem.W.fnOf "put" "Book.put" (defArgs sPut) (defBody sPut) (defScope sPut) (.ref Tmp) kVmp dcmp pmmp anmp cdmp ctmp), slmp⟩) (cmp : PySem.W.codeIn K cdmp "Book.put" = true) (kmp : PySem.W.keepIn K (.ref fmp) = true) (tmp : K.lookup Tmp = some ⟨oTmp, dTmp, .seq ([.int 0 ump] : List Value).toArray nmp, sTmp⟩)
    (amn : PySem.W.findIn K (.ref C) "need" = some (some (.ref fmn))) (imn : PySem.W.isFn K (.ref fmn) = true) (lmn : K.lookup fmn = some ⟨ocmn, odmn, .func (PySem.W.fnOf "need" "Book.need" (defArgs sNeed) (defBody sNeed) (defScope sNeed) .none kVmn dcmn pmmn anmn cdmn ctmn), slmn⟩) (cmn : PySem.W.codeIn K cdmn "Book.need" = true) (kmn : PySem.W.keepIn K (.ref fmn) = true)
    (amd : PySem.W.findIn K (.ref C) "drop" = some (some (.ref fmd))) (imd : PySem.W.isFn K (.ref fmd) = true) (lmd : K.lookup fmd = some ⟨ocmd, odmd, .func (PySem.W.fnOf "drop" "Book.drop" (defArgs sDrop) (defBody sDrop) (defScope sDrop) .none kVmd dcmd pmmd anmd cdmd ctmd), slmd⟩) (cmd : PySem.W.codeIn K cdmd "Book.drop" = true) (kmd : PySem.W.keepIn K (.ref fmd) = true)
    (amw : PySem.W.findIn K (.ref C) "words" = some (some (.ref fmw))) (imw : PySem.W.isFn K (.ref fmw) = true) (lmw : K.lookup fmw = some ⟨ocmw, odmw, .func (PySem.W.fnOf "words" "Book.words" (defArgs sWords) (defBody sWords) (defScope sWords) .none kVmw dcmw pmmw anmw cdmw ctmw), slmw⟩) (cmw : PySem.W.codeIn K cdmw "Book.words" = true) (kmw : PySem.W.keepIn K (.ref fmw) = true)
    (amh : PySem.W.findIn K (.ref C) "has" = some (some (.ref fmh))) (imh : PySem.W.isFn K (.ref fmh) = true) (lmh : K.lookup fmh = some ⟨ocmh, odmh, .func (PySem.W.fnOf "has" "Book.has" (defArgs sHas) (defBody sHas) (defScope sHas) .none kVmh dcmh pmmh anmh cdmh ctmh), slmh⟩) (cmh : PySem.W.codeIn K cdmh "Book.has" = true) (kmh : PySem.W.keepIn K (.ref fmh) = true)
    (pg : PySem.W.plainGet K C Str.empty = true) (hd : PySem.W.hasDictIn K C = true) (po : PySem.W.plainOver K C = true) (sa : PySem.W.findIn K (.ref C) "__setattr__" = some (some (.builtin "object.__setattr__"))) (mk : PySem.W.makesIn K C = true) (kc : PySem.W.keepIn K (.ref C) = true)
    (nW : PySem.W.findIn K (.ref C) "worths" = some none) (nR : PySem.W.findIn K (.ref C) "row" = some none) (nB : PySem.W.findIn K (.ref C) "bits" = some none)
    (zlen : PySem.W.nsIn K mainGlobals "len" = some none) (zisi : PySem.W.nsIn K mainGlobals "isinstance" = some none) (zstr : PySem.W.nsIn K mainGlobals "str" = some none) (zlist : PySem.W.nsIn K mainGlobals "list" = some none) (ztup : PySem.W.nsIn K mainGlobals "tuple" = some none) (zall : PySem.W.nsIn K mainGlobals "all" = some none) (zenm : PySem.W.nsIn K mainGlobals "enumerate" = some none) (zsrt : PySem.W.nsIn K mainGlobals "sorted" = some none) (zrev : PySem.W.nsIn K mainGlobals "reversed" = some none) (zrng : PySem.W.nsIn K mainGlobals "range" = some none) (zrpr : PySem.W.nsIn K mainGlobals "repr" = some none)
    (vL : PySem.W.nsIn K mainGlobals "LETTERS" = some (some (.str lowText uL))) (vN : PySem.W.nsIn K mainGlobals "LONGEST" = some (some (.int 9 uN))) :
    ∀ (s : Shared) (base : Heap) (H : Hp) (a : Addr) (ns : List Int), K.In base → base.Ns mainGlobals mg → Env0 P w K mg base callerA [] s H → SqL K H a (ns.map V.int) → ns.length ≤ 63 →
      codeAny (model P w) callerA (.call (.ref fa) ⟨[.ref a], []⟩) (CR CX0 [] P w H s (fun v _ => v = .bl true) E0) s := by
  have e := hfa.symm.trans (PySem.W.mg_of X G alw)
  cases e
  have T : Txt K mg C := ⟨⟨pg, hd, po, sa⟩, nW, nR, nB, PySem.W.mg_of X G aC, PySem.W.mg_none_of X G zlen, PySem.W.mg_none_of X G zisi, PySem.W.mg_none_of X G zstr, PySem.W.mg_none_of X G zlist, PySem.W.mg_none_of X G ztup, PySem.W.mg_none_of X G zall, PySem.W.mg_none_of X G zenm, PySem.W.mg_none_of X G zsrt, PySem.W.mg_none_of X G zrev, PySem.W.mg_none_of X G zrng, PySem.W.mg_none_of X G zrpr, ⟨_, PySem.W.mg_of X G vL⟩, ⟨_, PySem.W.mg_of X G vN⟩⟩
  have Fwo := fun_mk (st := sWithout) lwo cwo kwo
  have bwo := Fwo.binds (ps := ["text", "place"]) fun _ _ _ _ _ _ us hl => match us, hl with | [_, _], _ => rfl
  have Fow := fun_mk (st := sOfWords) low cow kow
  have bow := Fow.binds (ps := ["book", "answer"]) fun _ _ _ _ _ _ us hl => match us, hl with | [_, _], _ => rfl
  have Fjo := fun_mk (st := sJoined) ljo cjo kjo
  have bjo := Fjo.binds (ps := ["book", "answer", "many"]) fun _ _ _ _ _ _ us hl => match us, hl with | [_, _, _], _ => rfl
  have Fwk := fun_mk (st := sWork) lwk cwk kwk
  have bwk := Fwk.binds (ps := ["book", "answer", "many"]) fun _ _ _ _ _ _ us hl => match us, hl with | [_, _, _], _ => rfl
  have Fal : FunD K "all_workings" "all_workings" (defArgs sAll) (defBody sAll) (defScope sAll) [.int 3] [] fal _ := ⟨⟨_, _, _, _, _, _, _, _, _, _, rfl, lal, cal, .inr ⟨List.cons_ne_nil _ _, Tal, _, _, _, rfl, tal, rfl, .cons ⟨_, rfl⟩ .nil⟩, .inl rfl⟩, kal⟩
  obtain ⟨eal, ral, bal⟩ := Fal.binds1 (ps := ["book", "answer", "most"]) 3 1 (List.cons_ne_nil _ _) rfl fun _ _ _ _ _ _ _ us its h1 h2 => match us, its, h1, h2 with | [_, _, _], [_], _, _ => ⟨_, rfl, rfl⟩
  cases ral
  obtain ⟨dal, qal, bdal⟩ := Fal.binds1 (ps := ["book", "answer", "most"]) 2 0 (List.cons_ne_nil _ _) rfl fun _ _ _ _ _ _ _ us its h1 h2 => match us, its, h1, h2 with | [_, _], [_], _, _ => ⟨_, rfl, rfl⟩
  obtain ⟨val, rfl, rval⟩ := vals1 qal
  have Fiw := fun_mk (st := sIsWord) liw ciw kiw
  have biw := Fiw.binds (ps := ["thing"]) fun _ _ _ _ _ _ us hl => match us, hl with | [_], _ => rfl
  have Fce := fun_mk (st := sCell) lce cce kce
  have bce := Fce.binds (ps := ["_law_script", "_law_k"]) fun _ _ _ _ _ _ us hl => match us, hl with | [_, _], _ => rfl
  have Flb := fun_mk (st := sLBook) llb clb klb
  have blb := Flb.binds (ps := ["_law_cells", "_law_number", "_law_most"]) fun _ _ _ _ _ _ us hl => match us, hl with | [_, _, _], _ => rfl
  have Fla := fun_mk (st := sLAns) lla cla kla
  have bla := Fla.binds (ps := ["_law_script", "_law_words", "_law_some"]) fun _ _ _ _ _ _ us hl => match us, hl with | [_, _, _], _ => rfl
  have Fls := fun_mk (st := sLSize) lls cls kls
  have bls := Fls.binds (ps := ["_law_working"]) fun _ _ _ _ _ _ us hl => match us, hl with | [_], _ => rfl
  have Flk := fun_mk (st := sLBack) llk clk klk
  have blk := Flk.binds (ps := ["_law_text"]) fun _ _ _ _ _ _ us hl => match us, hl with | [_], _ => rfl
  have Flm := fun_mk (st := sLMakes) llm clm klm
  have blm := Flm.binds (ps := ["_law_working", "_law_words"]) fun _ _ _ _ _ _ us hl => match us, hl with | [_, _], _ => rfl
  have Flw := fun_mk (st := sLaw) llw clw klw
  have blw := Flw.binds (ps := ["_law_script"]) fun _ _ _ _ _ _ us hl => match us, hl with | [_], _ => rfl
  have Fmi := fun_mk (st := sInit) lmi cmi kmi
  have bmi := Fmi.binds (ps := ["self"]) fun _ _ _ _ _ _ us hl => match us, hl with | [_], _ => rfl
  have Fmt := fun_mk (st := sTurn) lmt cmt kmt
  have bmt := Fmt.binds (ps := ["self", "word", "at"]) fun _ _ _ _ _ _ us hl => match us, hl with | [_, _, _], _ => rfl
  have Fmp : FunD K "put" "Book.put" (defArgs sPut) (defBody sPut) (defScope sPut) [.int 0] [] fmp _ := ⟨⟨_, _, _, _, _, _, _, _, _, _, rfl, lmp, cmp, .inr ⟨List.cons_ne_nil _ _, Tmp, _, _, _, rfl, tmp, rfl, .cons ⟨_, rfl⟩ .nil⟩, .inl rfl⟩, kmp⟩
  obtain ⟨emp, rmp, bmp⟩ := Fmp.binds1 (ps := ["self", "word", "worth"]) 3 1 (List.cons_ne_nil _ _) rfl fun _ _ _ _ _ _ _ us its h1 h2 => match us, its, h1, h2 with | [_, _, _], [_], _, _ => ⟨_, rfl, rfl⟩
  cases rmp
  obtain ⟨dmp, qmp, bdmp⟩ := Fmp.binds1 (ps := ["self", "word", "worth"]) 2 0 (List.cons_ne_nil _ _) rfl fun _ _ _ _ _ _ _ us its h1 h2 => match us, its, h1, h2 with | [_, _], [_], _, _ => ⟨_, rfl, rfl⟩
  obtain ⟨vmp, rfl, rvmp⟩ := vals1 qmp
  have Fmn := fun_mk (st := sNeed) lmn cmn kmn
  have bmn := Fmn.binds (ps := ["self", "word"]) fun _ _ _ _ _ _ us hl => match us, hl with | [_, _], _ => rfl
  have Fmd := fun_mk (st := sDrop) lmd cmd kmd
  have bmd := Fmd.binds (ps := ["self", "word"]) fun _ _ _ _ _ _ us hl => match us, hl with | [_, _], _ => rfl
  have Fmw := fun_mk (st := sWords) lmw cmw kmw
  have bmw := Fmw.binds (ps := ["self"]) fun _ _ _ _ _ _ us hl => match us, hl with | [_], _ => rfl
  have Fmh := fun_mk (st := sHas) lmh cmh kmh
  have bmh := Fmh.binds (ps := ["self", "word"]) fun _ _ _ _ _ _ us hl => match us, hl with | [_, _], _ => rfl
  intro s base H a ns KB NB e0 hS hl
  have Giw : FnOk P w K mg base CX0 1 fiw _ ["thing"] spIsWord := ok_isWord Fiw T
  have Gmi : FnOk P w K mg base CX0 1 fmi _ ["self"] (spInit w C) := ok_init Fmi T
  have Gmt : FnOk P w K mg base CX0 1 fmt _ ["self", "word", "at"] (spTurn w C) := ok_turn Fmt T
  have Gmp : FnOk P w K mg base CX0 2 fmp _ ["self", "word", "worth"] (spPut w C) := ok_put Fmp T Giw biw kiw (PySem.W.mg_of X G aiw) Gmt bmt ⟨amt, imt, kmt⟩
  have Gmn : FnOk P w K mg base CX0 2 fmn _ ["self", "word"] (spNeed w C) := ok_need Fmn T Giw biw kiw (PySem.W.mg_of X G aiw)
  have Gmd : FnOk P w K mg base CX0 3 fmd _ ["self", "word"] (spDrop w C) := ok_drop Fmd T Gmn bmn ⟨amn, imn, kmn⟩ Gmt bmt ⟨amt, imt, kmt⟩
  have Gmw : FnOk P w K mg base CX0 1 fmw _ ["self"] (spWords w C) := ok_words Fmw T
  have Gmh : FnOk P w K mg base CX0 1 fmh _ ["self", "word"] (spHas w C) := ok_has Fmh T
  have Gwo : FnOk P w K mg base CX0 1 fwo _ ["text", "place"] spWithout := ok_without Fwo
  have Gow : FnOk P w K mg base CX0 2 fow _ ["book", "answer"] (spOfWords w C) := ok_ofWords Fow T Gmw bmw ⟨amw, imw, kmw⟩ Gwo bwo kwo (PySem.W.mg_of X G awo)
  have Gwk : FnOk P w K mg base CX0 10 fwk _ ["book", "answer", "many"] (spWork w C 4) := all_work Fwk Fjo T bwk (PySem.W.mg_of X G awk) Gow bow kow (PySem.W.mg_of X G aow) bjo (PySem.W.mg_of X G ajo) Gmh bmh ⟨amh, imh, kmh⟩ 4
  have Gal : FnOk P w K mg base CX0 11 fal _ ["book", "answer", "most"] (spAll w C) := ok_all Fal T Gwk bwk kwk (PySem.W.mg_of X G awk)
  have Gce : FnOk P w K mg base CX0 1 fce _ ["_law_script", "_law_k"] (spCell K) := ok_cell Fce T
  have Glb : FnOk P w K mg base CX0 4 flb _ ["_law_cells", "_law_number", "_law_most"] (spLBook w K C) := ok_lbook Flb T ⟨mk, ami, imi, kc⟩ Gmi bmi Gmp bmp bdmp rvmp ⟨amp, imp, kmp⟩ Gmd bmd ⟨amd, imd, kmd⟩
  have Gla : FnOk P w K mg base CX0 2 fla _ ["_law_script", "_law_words", "_law_some"] (spLAns K) := ok_lans Fla T Gce bce kce (PySem.W.mg_of X G ace)
  have Gls : ∀ n, FnOk P w K mg base CX0 n fls _ ["_law_working"] (spSize n) := fun n => by
    induction n with
    | zero => exact size_none
    | succ n ih => exact ok_size Fls T ih bls (PySem.W.mg_of X G als)
  have Glk : FnOk P w K mg base CX0 1 flk _ ["_law_text"] spLBack := ok_lback Flk T
  have Glm : ∀ n, FnOk P w K mg base CX0 (n + 1) flm _ ["_law_working", "_law_words"] (spMakes n) := fun n => by
    induction n with
    | zero => exact makes_none
    | succ n ih => exact ok_makes Flm T ih blm (PySem.W.mg_of X G alm) Glk blk klk (PySem.W.mg_of X G alk)
  refine law_enter Flw ⟨rfl, by decide, by decide⟩ e0 (.of_eq rfl) fun cdv hr => ?_
  exact law_body T Gce bce kce (PySem.W.mg_of X G ace) Glb blb klb (PySem.W.mg_of X G alb) Gla bla kla (PySem.W.mg_of X G ala) Gal bal bdal rval kal (PySem.W.mg_of X G aal) (Gls 4) bls kls (PySem.W.mg_of X G als) (Glm 4) blm klm (PySem.W.mg_of X G alm) fa cdv callerA [] s H (fun v _ => v = .bl true) E0 rfl hr a ns hS hl fun _ => rfl
/-- the goal that k_head leaves -/
theorem walk {l : PySem.W.OpenLaw} {q : Program} {loose : List Str} {XP : (Str → Option Value) → Heap → Prop} {YP : World → Heap → Prop} {d : DefRec} {K : Params → PySem.W.Frag} (hn : l.most = some 63) (hdf : d.params.defaults = []) (hY : ∀ (w : World) (h : Heap), YP w h → (K w.params).In h)
    (F : ∀ (w : World) (mg : Str → Option Value) (fa : Addr) (h : Heap), (K w.params).In h → h.Ns mainGlobals mg → mg d.name = some (.ref fa) →
      ∀ (s : Shared) (base : Heap) (H : Hp) (a : Addr) (ns : List Int), (K w.params).In base → base.Ns mainGlobals mg → Env0 l.prog w (K w.params) mg base callerA [] s H → SqL (K w.params) H a (ns.map V.int) → ns.length ≤ 63 →
        codeAny (model l.prog w) callerA (.call (.ref fa) ⟨[.ref a], []⟩) (CR CX0 [] l.prog w H s (fun v _ => v = .bl true) E0) s) :
    PySem.W.WalkO q loose XP YP l.row.toRowW d [] (fun f vs => PySem.call f vs) := by
  refine Att.attach_call hn hdf fun w s0 s1 mg mb fa o pm cd doc a vs ns G Y ho hd hcd hmg hobj hints hlen hg => ?_
  have KX := hY w _ Y
  exact law_runs KX G.T.g G.T.b G.T.builtins G.T.nolimit hg hobj hints (Nat.le_trans hlen (by decide)) fun base H KB NB e0 hS => F w mg fa _ KX G.T.g hmg s1 base H a ns KB NB e0 hS hlen
end Cw
open PySem PySem.W PyProof.Rows
set_option maxRecDepth 100000 in
set_option maxHeartbeats 0 in
theorem PySem.Challenge.cw_crosswright_k77_workings_told_holds : PySem.Challenge.rw_crosswright_k77_workings_told.Holds := by
  w_on; o_law; k_head; (case hw => w_witness2)
  k_fill
  refine Cw.walk (l := PySem.Challenge.rw_crosswright_k77_workings_told) rfl rfl (fun w h Y => PySem.W.kIn_of Y) ?F
  case F =>
    intro w mg fa h KX G hmg
    refine' Cw.all_mk KX G hmg ?aC ?awo ?lwo ?cwo ?kwo ?aow ?low ?cow ?kow ?ajo ?ljo ?cjo ?kjo ?awk ?lwk ?cwk ?kwk ?aal ?lal ?cal ?kal ?tal ?aiw ?liw ?ciw ?kiw ?ace ?lce ?cce ?kce ?alb ?llb ?clb ?klb ?ala ?lla ?cla ?kla ?als ?lls ?cls ?kls ?alk ?llk ?clk ?klk ?alm ?llm ?clm ?klm ?alw ?llw ?clw ?klw ?ami ?imi ?lmi ?cmi ?kmi ?amt ?imt ?lmt ?cmt ?kmt ?amp ?imp ?lmp ?cmp ?kmp ?tmp ?amn ?imn ?lmn ?cmn ?kmn ?amd ?imd ?lmd ?cmd ?kmd ?amw ?imw ?lmw ?cmw ?kmw ?amh ?imh ?lmh ?cmh ?kmh ?pg ?hd ?po ?sa ?mk ?kc ?nW ?nR ?nB ?zlen ?zisi ?zstr ?zlist ?ztup ?zall ?zenm ?zsrt ?zrev ?zrng ?zrpr ?vL ?vN
    (case aC => k_is); (case awo => k_is); (case lwo => k_is); (case cwo => k_is); (case kwo => k_is); (case aow => k_is)
    (case low => k_is); (case cow => k_is); (case kow => k_is); (case ajo => k_is); (case ljo => k_is); (case cjo => k_is)
    (case kjo => k_is); (case awk => k_is); (case lwk => k_is); (case cwk => k_is); (case kwk => k_is); (case aal => k_is)
    (case lal => k_is); (case cal => k_is); (case kal => k_is); (case tal => k_is); (case aiw => k_is); (case liw => k_is)
    (case ciw => k_is); (case kiw => k_is); (case ace => k_is); (case lce => k_is); (case cce => k_is); (case kce => k_is)
    (case alb => k_is); (case llb => k_is); (case clb => k_is); (case klb => k_is); (case ala => k_is); (case lla => k_is)
    (case cla => k_is); (case kla => k_is); (case als => k_is); (case lls => k_is); (case cls => k_is); (case kls => k_is)
    (case alk => k_is); (case llk => k_is); (case clk => k_is); (case klk => k_is); (case alm => k_is); (case llm => k_is)
    (case clm => k_is); (case klm => k_is); (case alw => k_is); (case llw => k_is); (case clw => k_is); (case klw => k_is)
    (case ami => k_is); (case imi => k_is); (case lmi => k_is); (case cmi => k_is); (case kmi => k_is); (case amt => k_is)
    (case imt => k_is); (case lmt => k_is); (case cmt => k_is); (case kmt => k_is); (case amp => k_is); (case imp => k_is)
    (case lmp => k_is); (case cmp => k_is); (case kmp => k_is); (case tmp => k_is); (case amn => k_is); (case imn => k_is)
    (case lmn => k_is); (case cmn => k_is); (case kmn => k_is); (case amd => k_is); (case imd => k_is); (case lmd => k_is)
    (case cmd => k_is); (case kmd => k_is); (case amw => k_is); (case imw => k_is); (case lmw => k_is); (case cmw => k_is)
    (case kmw => k_is); (case amh => k_is); (case imh => k_is); (case lmh => k_is); (case cmh => k_is); (case kmh => k_is)
    (case pg => k_is); (case hd => k_is); (case po => k_is); (case sa => k_is); (case mk => k_is); (case kc => k_is)
    (case nW => k_is); (case nR => k_is); (case nB => k_is); (case zlen => k_is); (case zisi => k_is); (case zstr => k_is)
    (case zlist => k_is); (case ztup => k_is); (case zall => k_is); (case zenm => k_is); (case zsrt => k_is); (case zrev => k_is)
    (case zrng => k_is); (case zrpr => k_is); (case vL => k_is); (case vN => k_is)
