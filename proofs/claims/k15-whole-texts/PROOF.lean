import PyProof.Rows.All
import HandS.Text
import HandS.List
import Wide.All
import OpenK.AllK
import Wide.FinOn
import KE.KStateDown
import HandS.ForMost
import HandS.Codes
import HandS.Defaults
import HandS.HeadHook1
import HandS.HeadHook2
import KE.GoesEnum
import PyProof.DictMoreH
import HandS.TupLe
import HandS.OwnEq
import HandS.IsInst
import HandS.TupAny
import HandS.Deep
import HandS.FStr
import HandS.Small
import HandS.Walk
import HandS.RaiseMore
import HandS.TupSets
import HandS.Head0
import HandS.Head1
import HandS.Head2
import HandS.HeadEnd
import PySem.Challenge.RW_falsedays_k15_whole_texts_of_offices
set_option Elab.async false
set_option linter.all false
set_option maxRecDepth 100000

-- part Math
set_option maxHeartbeats 4000000
/-! K15Math: lines, texts, the parts of an office. -/
namespace K15
open PySem TL

/-! ### numbers' texts -/
abbrev numS (i : Int) : Str := Str.ofString (toString i)
def Sm (i : Int) : Prop := 0 ≤ i ∧ i ≤ 20
theorem sm_nat {i : Int} (h : Sm i) : ∃ n : Nat, i = (n : Int) ∧ n < 21 := ⟨i.toNat, by have := h.1; omega, by have := h.1; have := h.2; omega⟩
theorem tl_numS {i : Int} (h : Sm i) : tl (numS i) = numL i.toNat := by
  obtain ⟨n, rfl, _⟩ := sm_nat h
  exact tl_num n
theorem numS_inj {i j : Int} (hi : Sm i) (hj : Sm j) (h : numS i = numS j) : i = j := by
  have e := congrArg tl h
  rw [tl_numS hi, tl_numS hj] at e
  have e2 := numL_inj e
  have := hi.1
  have := hj.1
  omega
theorem numS_len {i : Int} (h : Sm i) : (numS i).length ≤ 2 := by
  obtain ⟨n, rfl, hn⟩ := sm_nat h
  rw [len_tl, tl_num]
  exact numL_len (by decide) (by omega)
theorem numS_pos {i : Int} (h : Sm i) : 1 ≤ (numS i).length := by
  obtain ⟨n, rfl, hn⟩ := sm_nat h
  rw [len_tl, tl_num]
  have := numL_ne n
  cases e : numL n with
  | nil => exact absurd e this
  | cons a r => simp
theorem numS_free {i : Int} (h : Sm i) {s : Nat} (hs : s < 48 ∨ 57 < s) : s ∉ tl (numS i) := by
  rw [tl_numS h]
  exact numL_free hs
theorem numS_int {i : Int} (h : Sm i) : intText? (numS i) = some i := by
  obtain ⟨n, rfl, hn⟩ := sm_nat h
  exact int_num (Nat.le_trans (numL_len (k := 2) (by decide) (by omega)) (by decide))
theorem figs : tl ("0123456789" : Str) = [48, 49, 50, 51, 52, 53, 54, 55, 56, 57] := by decide +kernel
theorem numS_figs {i : Int} (h : Sm i) : ∀ c ∈ tl (numS i), c ∈ tl ("0123456789" : Str) := by
  intro c hc
  rw [tl_numS h] at hc
  have r := numL_digits i.toNat c hc
  rw [figs]
  have h1 : 48 ≤ c := r.1
  have h2 : c ≤ 57 := r.2
  have h3 : c = 48 ∨ c = 49 ∨ c = 50 ∨ c = 51 ∨ c = 52 ∨ c = 53 ∨ c = 54 ∨ c = 55 ∨ c = 56 ∨ c = 57 := by omega
  simp only [List.mem_cons, List.not_mem_nil, or_false]
  exact h3
/-- the first sign of a text of two figures is no nought -/
theorem numS_head {i : Int} (h : Sm i) (hl : 1 < (numS i).length) : ∃ c r, tl (numS i) = c :: r ∧ c ≠ 48 := by
  obtain ⟨n, rfl, hn⟩ := sm_nat h
  rw [len_tl, tl_num] at hl
  rw [tl_num]
  by_cases h10 : n < 10
  · rw [numL_lt h10] at hl
    simp at hl
  · rw [numL_step (by omega), numL_lt (show n / 10 < 10 by omega)]
    exact ⟨_, _, rfl, by omega⟩

/-! ### lines -/
abbrev Ln := Str × List Int
def lnText (l : Ln) : Str := Txt.join (" " : Str) (l.1 :: l.2.map numS)
def lnFull (l : Ln) : Str := lnText l ++ ("\n" : Str)
def lnsText (ls : List Ln) : Str := Txt.join ("" : Str) (ls.map lnFull)
theorem tl_blank : tl (" " : Str) = [32] := by decide +kernel
theorem tl_lf : tl ("\n" : Str) = [10] := by decide +kernel
theorem tl_none : tl ("" : Str) = [] := by decide +kernel
/-- a line as it is written: no blank, no line feed in its word, small numbers -/
structure LnOk (l : Ln) : Prop where
  b : 32 ∉ tl l.1
  f : 10 ∉ tl l.1
  w : l.1.length ≤ 6
  n : ∀ i ∈ l.2, Sm i
  k : l.2.length ≤ 4
theorem split_line {l : Ln} (h : LnOk l) : Txt.split (lnText l) (" " : Str) = l.1 :: l.2.map numS := by
  refine split_join (s := 32) (S := []) tl_blank (by decide +kernel) (List.cons_ne_nil _ _) fun p hp => ?_
  rcases List.mem_cons.mp hp with rfl | hp
  · exact h.b
  · obtain ⟨i, hi, rfl⟩ := List.mem_map.mp hp
    exact numS_free (h.n i hi) (.inl (by decide))
theorem joinL_free {s : Nat} {S : List Nat} (hS : s ∉ S) : ∀ {ps : List (List Nat)}, (∀ p ∈ ps, s ∉ p) → s ∉ joinL S ps
  | [], _ => by simp [joinL]
  | [p], h => h p (List.mem_singleton.mpr rfl)
  | p :: q :: r, h => by
    show s ∉ p ++ (S ++ joinL S (q :: r))
    have ih := joinL_free hS (ps := q :: r) fun z hz => h z (List.mem_cons_of_mem _ hz)
    have h1 := h p List.mem_cons_self
    simp only [List.mem_append, not_or]
    exact ⟨h1, hS, ih⟩
theorem joinL_len {S : List Nat} {k : Nat} (hS : S.length ≤ 1) : ∀ {ps : List (List Nat)}, (∀ p ∈ ps, p.length ≤ k) → (joinL S ps).length ≤ ps.length * (k + 1)
  | [], _ => by simp [joinL]
  | [p], h => by
    have := h p (List.mem_singleton.mpr rfl)
    show p.length ≤ 1 * (k + 1)
    omega
  | p :: q :: r, h => by
    show (p ++ (S ++ joinL S (q :: r))).length ≤ (r.length + 1 + 1) * (k + 1)
    have ih := joinL_len hS (ps := q :: r) fun z hz => h z (List.mem_cons_of_mem _ hz)
    have h1 := h p List.mem_cons_self
    rw [List.length_append, List.length_append]
    have e : (r.length + 1 + 1) * (k + 1) = (r.length + 1) * (k + 1) + (k + 1) := by rw [Nat.add_mul (r.length + 1) 1, Nat.one_mul]
    rw [List.length_cons] at ih
    omega
theorem tl_lnText (l : Ln) : tl (lnText l) = joinL [32] (tl l.1 :: l.2.map fun i => tl (numS i)) := by
  unfold lnText
  rw [join_eq, tl_join, tl_blank, List.map_cons, List.map_map]
  rfl
theorem lnText_lf {l : Ln} (h : LnOk l) : 10 ∉ tl (lnText l) := by
  rw [tl_lnText]
  refine joinL_free (by decide) fun p hp => ?_
  rcases List.mem_cons.mp hp with rfl | hp
  · exact h.f
  · obtain ⟨i, hi, rfl⟩ := List.mem_map.mp hp
    exact numS_free (h.n i hi) (.inl (by decide))
theorem lnText_len {l : Ln} (h : LnOk l) : (lnText l).length ≤ 35 := by
  rw [len_tl, tl_lnText]
  have q := joinL_len (S := [32]) (k := 6) (ps := tl l.1 :: l.2.map fun i => tl (numS i)) (by decide) fun p hp => by
    rcases List.mem_cons.mp hp with rfl | hp
    · rw [← len_tl]
      exact h.w
    · obtain ⟨i, hi, rfl⟩ := List.mem_map.mp hp
      rw [← len_tl]
      have := numS_len (h.n i hi)
      omega
  have hk := h.k
  rw [List.length_cons, List.length_map] at q
  have : (l.2.length + 1) * 7 ≤ 5 * 7 := Nat.mul_le_mul_right 7 (by omega)
  omega
theorem lnFull_len {l : Ln} (h : LnOk l) : (lnFull l).length ≤ 36 := by
  have := lnText_len h
  unfold lnFull
  rw [len_tl, tl_append, List.length_append, tl_lf, ← len_tl]
  show _ + 1 ≤ 36
  omega
theorem sum_le {ys : List Str} {k : Nat} (h : ∀ y ∈ ys, y.length ≤ k) : (ys.map (·.length)).sum ≤ ys.length * k := by
  induction ys with
  | nil => simp
  | cons y r ih =>
    rw [List.map_cons, List.sum_cons, List.length_cons, Nat.add_mul, Nat.one_mul]
    have := h y List.mem_cons_self
    have := ih fun z hz => h z (List.mem_cons_of_mem _ hz)
    omega
theorem joinL_nil : ∀ ps : List (List Nat), joinL [] ps = ps.flatten
  | [] => rfl
  | [p] => by simp [joinL]
  | p :: q :: r => by
    show p ++ ([] ++ joinL [] (q :: r)) = _
    rw [List.nil_append, joinL_nil (q :: r)] <;> rfl
theorem tl_lnsText (ls : List Ln) : tl (lnsText ls) = (ls.map fun l => tl (lnText l) ++ [10]).flatten := by
  unfold lnsText
  rw [join_eq, tl_join, tl_none, joinL_nil, List.map_map]
  congr 1
  refine List.map_congr_left fun l _ => ?_
  show tl (lnText l ++ ("\n" : Str)) = _
  rw [tl_append, tl_lf]
theorem lnsText_nil : lnsText [] = ("" : Str) := ext_tl (by rw [tl_lnsText, tl_none]; rfl)
theorem lnsText_append (a b : List Ln) : lnsText (a ++ b) = lnsText a ++ lnsText b := ext_tl (by
  rw [tl_append, tl_lnsText, tl_lnsText, tl_lnsText, List.map_append, List.flatten_append])
theorem lnsText_one (l : Ln) : lnsText [l] = lnFull l := ext_tl (by
  rw [tl_lnsText]
  show tl (lnText l) ++ [10] ++ [] = tl (lnText l ++ ("\n" : Str))
  rw [List.append_nil, tl_append, tl_lf])
theorem lnsText_len {ls : List Ln} (h : ∀ l ∈ ls, LnOk l) : (lnsText ls).length ≤ ls.length * 36 := by
  rw [len_tl, tl_lnsText]
  induction ls with
  | nil => simp
  | cons l r ih =>
    rw [List.map_cons, List.flatten_cons, List.length_append, List.length_cons, Nat.add_mul, Nat.one_mul]
    have h1 := lnText_len (h l List.mem_cons_self)
    rw [len_tl] at h1
    have h2 := ih fun z hz => h z (List.mem_cons_of_mem _ hz)
    rw [List.length_append]
    show _ + 1 + _ ≤ _
    omega
theorem joinL_lf : ∀ ps : List (List Nat), joinL [10] (ps ++ [[]]) = (ps.map fun p => p ++ [10]).flatten
  | [] => rfl
  | [p] => by
    show p ++ ([10] ++ []) = p ++ [10] ++ []
    simp
  | p :: q :: r => by
    show p ++ ([10] ++ joinL [10] ((q :: r) ++ [[]])) = (p ++ [10]) ++ ((q :: r).map fun p => p ++ [10]).flatten
    rw [joinL_lf (q :: r), List.append_assoc]
theorem lnsText_join (ls : List Ln) : lnsText ls = Txt.join ("\n" : Str) (ls.map lnText ++ [("" : Str)]) := ext_tl (by
  rw [tl_lnsText, join_eq, tl_join, tl_lf, List.map_append, List.map_map]
  show _ = joinL [10] (ls.map (tl ∘ lnText) ++ [tl ("" : Str)])
  rw [tl_none, joinL_lf, List.map_map]
  rfl)
theorem split_text {ls : List Ln} (h : ∀ l ∈ ls, LnOk l) : Txt.split (lnsText ls) ("\n" : Str) = ls.map lnText ++ [("" : Str)] := by
  rw [lnsText_join]
  refine split_join (s := 10) (S := []) tl_lf (by decide +kernel) (by simp) fun p hp => ?_
  rcases List.mem_append.mp hp with hp | hp
  · obtain ⟨l, hl, rfl⟩ := List.mem_map.mp hp
    exact lnText_lf (h l hl)
  · rw [List.mem_singleton.mp hp, tl_none]
    simp
theorem map_num_inj : ∀ {a b : List Int}, (∀ i ∈ a, Sm i) → (∀ i ∈ b, Sm i) → a.map numS = b.map numS → a = b
  | [], [], _, _, _ => rfl
  | [], _ :: _, _, _, h => by simp at h
  | _ :: _, [], _, _, h => by simp at h
  | x :: a, y :: b, ha, hb, h => by
    rw [List.map_cons, List.map_cons] at h
    injection h with h1 h2
    rw [numS_inj (ha x List.mem_cons_self) (hb y List.mem_cons_self) h1, map_num_inj (fun i hi => ha i (List.mem_cons_of_mem _ hi)) (fun i hi => hb i (List.mem_cons_of_mem _ hi)) h2]
theorem line_inj {l m : Ln} (hl : LnOk l) (hm : LnOk m) (h : lnText l = lnText m) : l = m := by
  have e := split_line hl
  rw [h, split_line hm] at e
  injection e with e1 e2
  have e3 := map_num_inj hm.n hl.n e2
  exact Prod.ext e1.symm e3.symm
theorem lines_inj : ∀ {a b : List Ln}, (∀ l ∈ a, LnOk l) → (∀ l ∈ b, LnOk l) → a.map lnText = b.map lnText → a = b
  | [], [], _, _, _ => rfl
  | [], _ :: _, _, _, h => by simp at h
  | _ :: _, [], _, _, h => by simp at h
  | x :: a, y :: b, ha, hb, h => by
    rw [List.map_cons, List.map_cons] at h
    injection h with h1 h2
    rw [line_inj (ha x List.mem_cons_self) (hb y List.mem_cons_self) h1, lines_inj (fun i hi => ha i (List.mem_cons_of_mem _ hi)) (fun i hi => hb i (List.mem_cons_of_mem _ hi)) h2]
theorem text_inj {a b : List Ln} (ha : ∀ l ∈ a, LnOk l) (hb : ∀ l ∈ b, LnOk l) (h : lnsText a = lnsText b) : a = b := by
  have e := split_text ha
  rw [h, split_text hb] at e
  exact (lines_inj hb ha (List.append_cancel_right e)).symm

/-! ### the parts of an office -/
structure Parts where
  a : Int
  b : Int
  c : Int
  mv : List (List (List Int))
  cl : List (List Int)
def Parts.sz (p : Parts) : List Int := [p.a, p.b, p.c]
/-- a move: slip, answer, mark, next -/
def MvOk (a b c n : Int) (m : List Int) : Prop := ∃ w x y z : Int, m = [w, x, y, z] ∧ (0 ≤ w ∧ w < a) ∧ (0 ≤ x ∧ x < b) ∧ (0 ≤ y ∧ y < c) ∧ 0 ≤ z ∧ z < n
structure RowOk (a b c n : Int) (r : List (List Int)) : Prop where
  ok : ∀ m ∈ r, MvOk a b c n m
  asc : r.Pairwise fun x y => HT.lexLt x y = true
  len : r.length ≤ 63
structure ClOk (c : Int) (r : List Int) : Prop where
  ok : ∀ k ∈ r, 0 ≤ k ∧ k < c
  asc : r.Pairwise (· < ·)
  len : r.length ≤ 4
structure Good (p : Parts) : Prop where
  a : 1 ≤ p.a ∧ p.a ≤ 4
  b : 1 ≤ p.b ∧ p.b ≤ 4
  c : 1 ≤ p.c ∧ p.c ≤ 4
  n : 1 ≤ p.mv.length ∧ p.mv.length ≤ 20
  mv : ∀ r ∈ p.mv, RowOk p.a p.b p.c p.mv.length r
  cn : p.cl.length = p.mv.length
  cl : ∀ r ∈ p.cl, ClOk p.c r
def mvLn (m : List Int) : Ln := (("move" : Str), m)
def clLn (c : List Int) : Ln := (("closes" : Str), c)
def atLn (i : Nat) : Ln := (("at" : Str), [(i : Int)])
def stLns : Nat → List (List (List Int)) → List (List Int) → List Ln
  | i, m :: ms, c :: cs => atLn i :: (m.map mvLn ++ (clLn c :: stLns (i + 1) ms cs))
  | _, _, _ => []
def ofLns (p : Parts) : List Ln := (("office" : Str), p.sz) :: stLns 0 p.mv p.cl
def ofText (p : Parts) : Str := lnsText (ofLns p)
def WdOk (w : Str) : Prop := 32 ∉ tl w ∧ 10 ∉ tl w ∧ w.length ≤ 6
theorem wd_at : WdOk ("at" : Str) := ⟨by decide +kernel, by decide +kernel, by decide +kernel⟩
theorem wd_mv : WdOk ("move" : Str) := ⟨by decide +kernel, by decide +kernel, by decide +kernel⟩
theorem wd_cl : WdOk ("closes" : Str) := ⟨by decide +kernel, by decide +kernel, by decide +kernel⟩
theorem wd_of : WdOk ("office" : Str) := ⟨by decide +kernel, by decide +kernel, by decide +kernel⟩
theorem ok_at {i : Nat} (h : i ≤ 20) : LnOk (atLn i) := ⟨wd_at.1, wd_at.2.1, wd_at.2.2, fun k hk => by
  rw [List.mem_singleton.mp hk]
  exact ⟨by omega, by omega⟩, by show 1 ≤ 4; decide⟩
theorem ok_mv {a b c n : Int} {m : List Int} (ha : a ≤ 4) (hb : b ≤ 4) (hc : c ≤ 4) (hn : n ≤ 20) (h : MvOk a b c n m) : LnOk (mvLn m) := by
  obtain ⟨w, x, y, z, rfl, h1, h2, h3, h4⟩ := h
  refine ⟨wd_mv.1, wd_mv.2.1, wd_mv.2.2, fun k hk => ?_, by show 4 ≤ 4; decide⟩
  have hk : k = w ∨ k = x ∨ k = y ∨ k = z := by simpa [mvLn] using hk
  unfold Sm
  omega
theorem ok_cl {c : Int} {r : List Int} (hc : c ≤ 4) (h : ClOk c r) : LnOk (clLn r) := ⟨wd_cl.1, wd_cl.2.1, wd_cl.2.2, fun k hk => by
  have := h.ok k hk
  unfold Sm
  omega, h.len⟩
theorem ok_of {p : Parts} (h : Good p) : LnOk (("office" : Str), p.sz) := ⟨wd_of.1, wd_of.2.1, wd_of.2.2, fun k hk => by
  have hk : k = p.a ∨ k = p.b ∨ k = p.c := by simpa [Parts.sz] using hk
  have := h.a
  have := h.b
  have := h.c
  unfold Sm
  omega, by show 3 ≤ 4; decide⟩
theorem ok_st {a b c n : Int} (ha : a ≤ 4) (hb : b ≤ 4) (hc : c ≤ 4) (hn : n ≤ 20) : ∀ (i : Nat) (ms : List (List (List Int))) (cs : List (List Int)), i + ms.length ≤ 20 → (∀ r ∈ ms, RowOk a b c n r) → (∀ r ∈ cs, ClOk c r) → ∀ l ∈ stLns i ms cs, LnOk l
  | i, m :: ms, c' :: cs, hi, hm, hcl, l, hl => by
    rw [List.length_cons] at hi
    rcases List.mem_cons.mp hl with rfl | hl
    · exact ok_at (by omega)
    · rcases List.mem_append.mp hl with hl | hl
      · obtain ⟨v, hv, rfl⟩ := List.mem_map.mp hl
        exact ok_mv ha hb hc hn ((hm m List.mem_cons_self).ok v hv)
      · rcases List.mem_cons.mp hl with rfl | hl
        · exact ok_cl hc (hcl c' List.mem_cons_self)
        · exact ok_st ha hb hc hn (i + 1) ms cs (by omega) (fun r hr => hm r (List.mem_cons_of_mem _ hr)) (fun r hr => hcl r (List.mem_cons_of_mem _ hr)) l hl
  | _, [], _, _, _, _, l, hl => by simp [stLns] at hl
  | _, _ :: _, [], _, _, _, l, hl => by simp [stLns] at hl
theorem ok_lns {p : Parts} (h : Good p) : ∀ l ∈ ofLns p, LnOk l := by
  intro l hl
  rcases List.mem_cons.mp hl with rfl | hl
  · exact ok_of h
  · have hn := h.n
    exact ok_st h.a.2 h.b.2 h.c.2 (by omega) 0 p.mv p.cl (by omega) h.mv h.cl l hl
theorem len_st {a b c n : Int} : ∀ (i : Nat) (ms : List (List (List Int))) (cs : List (List Int)), (∀ r ∈ ms, RowOk a b c n r) → (stLns i ms cs).length ≤ ms.length * 65
  | i, m :: ms, c' :: cs, hm => by
    have ih := len_st (i + 1) ms cs fun r hr => hm r (List.mem_cons_of_mem _ hr)
    have h1 := (hm m List.mem_cons_self).len
    show (m.map mvLn ++ (clLn c' :: stLns (i + 1) ms cs)).length + 1 ≤ _
    rw [List.length_append, List.length_map, List.length_cons, List.length_cons, Nat.add_mul]
    omega
  | _, [], _, _ => by simp [stLns]
  | _, _ :: _, [], _ => by simp [stLns]
theorem len_lns {p : Parts} (h : Good p) : (ofLns p).length ≤ 1301 := by
  have q := len_st (a := p.a) (b := p.b) (c := p.c) (n := p.mv.length) 0 p.mv p.cl h.mv
  have hn := h.n
  have : p.mv.length * 65 ≤ 20 * 65 := Nat.mul_le_mul_right 65 hn.2
  show (stLns 0 p.mv p.cl).length + 1 ≤ 1301
  omega
theorem len_text {p : Parts} (h : Good p) : (ofText p).length ≤ 46836 := by
  have q := lnsText_len (ok_lns h)
  have := Nat.mul_le_mul_right 36 (len_lns h)
  exact Nat.le_trans q this
/-- the lines of the first i standings, behind the first line -/
def pfx (p : Parts) (i : Nat) : List Ln := (("office" : Str), p.sz) :: stLns 0 (p.mv.take i) (p.cl.take i)
theorem st_snoc : ∀ (j : Nat) (m : List (List (List Int))) (c : List (List Int)) (r : List (List Int)) (k : List Int), m.length = c.length → stLns j (m ++ [r]) (c ++ [k]) = stLns j m c ++ (atLn (j + m.length) :: (r.map mvLn ++ [clLn k]))
  | j, [], [], r, k, _ => rfl
  | j, x :: m, y :: c, r, k, h => by
    have ih := st_snoc (j + 1) m c r k (by simpa using h)
    show atLn j :: (x.map mvLn ++ (clLn y :: stLns (j + 1) (m ++ [r]) (c ++ [k]))) = (atLn j :: (x.map mvLn ++ (clLn y :: stLns (j + 1) m c))) ++ _
    rw [ih, show j + 1 + m.length = j + (x :: m).length by rw [List.length_cons]; omega]
    simp
theorem pfx_zero (p : Parts) : pfx p 0 = [(("office" : Str), p.sz)] := by
  unfold pfx
  rw [List.take_zero, List.take_zero]
  rfl
theorem pfx_succ {p : Parts} (h : Good p) {i : Nat} {r : List (List Int)} {k : List Int} (hr : p.mv[i]? = some r) (hk : p.cl[i]? = some k) : pfx p (i + 1) = pfx p i ++ (atLn i :: (r.map mvLn ++ [clLn k])) := by
  have hi := (List.getElem?_eq_some_iff.mp hr).1
  have hc := h.cn
  unfold pfx
  rw [List.take_add_one, List.take_add_one, hr, hk]
  show _ :: stLns 0 (p.mv.take i ++ [r]) (p.cl.take i ++ [k]) = _
  rw [st_snoc 0 _ _ _ _ (by rw [List.length_take, List.length_take]; omega), List.length_take, Nat.zero_add, Nat.min_eq_left (by omega)]
  rfl
theorem pfx_all {p : Parts} (h : Good p) : pfx p p.mv.length = ofLns p := by
  unfold pfx ofLns
  rw [List.take_length, ← h.cn, List.take_length]
theorem pfx_ok {p : Parts} (h : Good p) (i : Nat) : ∀ l ∈ pfx p i, LnOk l := by
  intro l hl
  rcases List.mem_cons.mp hl with rfl | hl
  · exact ok_of h
  · have hn := h.n
    exact ok_st (n := p.mv.length) h.a.2 h.b.2 h.c.2 (by omega) 0 _ _ (by rw [List.length_take]; omega) (fun r hr => h.mv r (List.mem_of_mem_take hr)) (fun r hr => h.cl r (List.mem_of_mem_take hr)) l hl
theorem pfx_len {p : Parts} (h : Good p) (i : Nat) : (pfx p i).length ≤ 1301 := by
  have q := len_st (a := p.a) (b := p.b) (c := p.c) (n := p.mv.length) 0 (p.mv.take i) (p.cl.take i) fun r hr => h.mv r (List.mem_of_mem_take hr)
  have hn := h.n
  have : (p.mv.take i).length * 65 ≤ 20 * 65 := Nat.mul_le_mul_right 65 (by rw [List.length_take]; omega)
  show (stLns 0 (p.mv.take i) (p.cl.take i)).length + 1 ≤ 1301
  omega
theorem good_mv {p : Parts} (h : Good p) {i : Nat} {r : List (List Int)} (hr : p.mv[i]? = some r) {m : List Int} (hm : m ∈ r) : LnOk (mvLn m) := by
  have hn := h.n
  exact ok_mv h.a.2 h.b.2 h.c.2 (n := p.mv.length) (by omega) ((h.mv r (List.mem_of_getElem? hr)).ok m hm)
theorem good_cl {p : Parts} (h : Good p) {i : Nat} {r : List Int} (hr : p.cl[i]? = some r) : LnOk (clLn r) := ok_cl h.c.2 (h.cl r (List.mem_of_getElem? hr))
theorem good_cl_at {p : Parts} (h : Good p) {i : Nat} (hi : i < p.mv.length) : ∃ r, p.cl[i]? = some r := ⟨_, List.getElem?_eq_getElem (show i < p.cl.length by rw [h.cn]; exact hi)⟩
/-- the texts that a line is joined of -/
theorem line_sum {l : Ln} (h : LnOk l) : ((l.1 :: l.2.map numS).map (·.length)).sum + (l.1 :: l.2.map numS).length * (" " : Str).length ≤ 16777216 := by
  have q := sum_le (ys := l.1 :: l.2.map numS) (k := 6) fun y hy => by
    rcases List.mem_cons.mp hy with rfl | hy
    · exact h.w
    · obtain ⟨i, hi, rfl⟩ := List.mem_map.mp hy
      exact Nat.le_trans (numS_len (h.n i hi)) (by decide)
  have hk := h.k
  have e1 : (" " : Str).length = 1 := by decide +kernel
  rw [e1]
  rw [List.length_cons, List.length_map] at q ⊢
  have : (l.2.length + 1) * 6 ≤ 5 * 6 := Nat.mul_le_mul_right 6 (by omega)
  omega
theorem text_sum {ls : List Ln} (h : ∀ l ∈ ls, LnOk l) (hl : ls.length ≤ 2000) : ((ls.map lnFull).map (·.length)).sum + (ls.map lnFull).length * ("" : Str).length ≤ 16777216 := by
  have q := sum_le (ys := ls.map lnFull) (k := 36) fun y hy => by
    obtain ⟨l, hl, rfl⟩ := List.mem_map.mp hy
    exact lnFull_len (h l hl)
  have e1 : ("" : Str).length = 0 := by decide +kernel
  rw [e1]
  rw [List.length_map] at q ⊢
  have : ls.length * 36 ≤ 2000 * 36 := Nat.mul_le_mul_right 36 hl
  omega
theorem sm_log {i : Int} (h : Sm i) : i.natAbs.log2 < 1920 := by
  obtain ⟨n, rfl, hn⟩ := sm_nat h
  have : ∀ n, n < 21 → Nat.log2 n < 1920 := by decide +kernel
  exact this n hn
theorem mv_ne_cl (m c : List Int) : mvLn m ≠ clLn c := fun e => absurd (congrArg (fun l : Ln => l.1) e) (by show ¬ (("move" : Str) = "closes"); decide +kernel)
theorem row_inj : ∀ {m m' : List (List Int)} {c c' : List Int} {r r' : List Ln}, m.map mvLn ++ (clLn c :: r) = m'.map mvLn ++ (clLn c' :: r') → m = m' ∧ c = c' ∧ r = r'
  | [], [], c, c', r, r', h => by
    have h2 : clLn c :: r = clLn c' :: r' := h
    injection h2 with h3 h4
    exact ⟨rfl, congrArg (fun l : Ln => l.2) h3, h4⟩
  | [], x :: m', c, c', r, r', h => by
    have h2 : clLn c :: r = mvLn x :: (m'.map mvLn ++ (clLn c' :: r')) := h
    injection h2 with h3 h4
    exact absurd h3.symm (mv_ne_cl x c)
  | x :: m, [], c, c', r, r', h => by
    have h2 : mvLn x :: (m.map mvLn ++ (clLn c :: r)) = clLn c' :: r' := h
    injection h2 with h3 h4
    exact absurd h3 (mv_ne_cl x c')
  | x :: m, y :: m', c, c', r, r', h => by
    have h2 : mvLn x :: (m.map mvLn ++ (clLn c :: r)) = mvLn y :: (m'.map mvLn ++ (clLn c' :: r')) := h
    injection h2 with h3 h4
    obtain ⟨e1, e2, e3⟩ := row_inj h4
    have e0 : x = y := congrArg (fun l : Ln => l.2) h3
    exact ⟨by rw [e0, e1], e2, e3⟩
theorem st_inj : ∀ (i : Nat) {m m' : List (List (List Int))} {c c' : List (List Int)}, c.length = m.length → c'.length = m'.length → stLns i m c = stLns i m' c' → m = m' ∧ c = c'
  | _, [], [], [], [], _, _, _ => ⟨rfl, rfl⟩
  | i, [], x :: m', [], y :: c', _, _, h => by simp [stLns] at h
  | i, x :: m, [], y :: c, [], _, _, h => by simp [stLns] at h
  | i, x :: m, x' :: m', y :: c, y' :: c', h1, h2, h => by
    have h3 : atLn i :: (x.map mvLn ++ (clLn y :: stLns (i + 1) m c)) = atLn i :: (x'.map mvLn ++ (clLn y' :: stLns (i + 1) m' c')) := h
    injection h3 with _ h4
    obtain ⟨e1, e2, e3⟩ := row_inj h4
    obtain ⟨e4, e5⟩ := st_inj (i + 1) (by simpa using h1) (by simpa using h2) e3
    exact ⟨by rw [e1, e4], by rw [e2, e5]⟩
theorem of_inj {p q : Parts} (hp : Good p) (hq : Good q) (h : ofText p = ofText q) : p = q := by
  have e := text_inj (ok_lns hp) (ok_lns hq) h
  have e2 : (("office" : Str), p.sz) :: stLns 0 p.mv p.cl = (("office" : Str), q.sz) :: stLns 0 q.mv q.cl := e
  injection e2 with e3 e4
  obtain ⟨e5, e6⟩ := st_inj 0 hp.cn hq.cn e4
  have e7 : p.sz = q.sz := congrArg (fun l : Ln => l.2) e3
  obtain ⟨a, b, c, mv, cl⟩ := p
  obtain ⟨a', b', c', mv', cl'⟩ := q
  simp only [Parts.sz, List.cons.injEq] at e7
  obtain ⟨rfl, rfl, rfl, _⟩ := e7
  cases e5
  cases e6
  rfl
end K15

-- part Text
set_option maxHeartbeats 4000000
/-! K15Text: the text by places, the facts of the top. -/
namespace K15
open PySem PySem.Spec PyProof.Rows L2
def top (i : Nat) : Stmt := PySem.Challenge.pw_falsedays_k15_whole_texts_of_offices.main.body.getD i (.Pass ⟨0, 0, 0, 0⟩)
abbrev s_is_integer : Stmt := top 5
abbrev s_is_within : Stmt := top 6
abbrev s_is_triple : Stmt := top 7
abbrev s_is_string_of : Stmt := top 8
abbrev s_are_ascending : Stmt := top 9
abbrev s_are_sizes : Stmt := top 13
abbrev s_is_move : Stmt := top 14
abbrev s_are_moves : Stmt := top 15
abbrev s_are_closings : Stmt := top 16
abbrev s_number_of : Stmt := top 21
abbrev s_numbers_behind : Stmt := top 22
abbrev s_read_standing : Stmt := top 24
abbrev s_read_office : Stmt := top 25
abbrev s_words_line : Stmt := top 27
abbrev s_office_text : Stmt := top 28
abbrev s_law_hand : Stmt := top 30
abbrev s_law_draw : Stmt := top 31
abbrev s_law_row : Stmt := top 32
abbrev s_law_parts : Stmt := top 33
abbrev s_law_made : Stmt := top 34
abbrev s_law_line : Stmt := top 35
abbrev s_law_text : Stmt := top 36
abbrev s_law_changed : Stmt := top 38
abbrev s_law : Stmt := top 39
abbrev s_Office_init : Stmt := inClass (top 17) 0
abbrev s_Office_keep : Stmt := inClass (top 17) 1
abbrev s_Office_eq : Stmt := inClass (top 17) 2
abbrev s_Lines_init : Stmt := inClass (top 23) 0
abbrev s_Lines_is_out : Stmt := inClass (top 23) 1
abbrev s_Lines_tried : Stmt := inClass (top 23) 3
abbrev s_Lines_needed : Stmt := inClass (top 23) 4
abbrev s_Lines_check_out : Stmt := inClass (top 23) 5
def mkD (p : Str × Option Str) (x q : Str) (st : Stmt) : He.DefD := ⟨p, x, q, defArgs st, defBody st, defScope st, [], []⟩
def fn : List He.DefD := [
  mkD ("is_integer", none) "is_integer" "is_integer" s_is_integer,
  mkD ("is_within", none) "is_within" "is_within" s_is_within,
  mkD ("is_triple", none) "is_triple" "is_triple" s_is_triple,
  mkD ("is_string_of", none) "is_string_of" "is_string_of" s_is_string_of,
  mkD ("are_ascending", none) "are_ascending" "are_ascending" s_are_ascending,
  mkD ("are_sizes", none) "are_sizes" "are_sizes" s_are_sizes,
  mkD ("is_move", none) "is_move" "is_move" s_is_move,
  mkD ("are_moves", none) "are_moves" "are_moves" s_are_moves,
  mkD ("are_closings", none) "are_closings" "are_closings" s_are_closings,
  mkD ("number_of", none) "number_of" "number_of" s_number_of,
  mkD ("numbers_behind", none) "numbers_behind" "numbers_behind" s_numbers_behind,
  mkD ("read_standing", none) "read_standing" "read_standing" s_read_standing,
  mkD ("read_office", none) "read_office" "read_office" s_read_office,
  mkD ("words_line", none) "words_line" "words_line" s_words_line,
  mkD ("office_text", none) "office_text" "office_text" s_office_text,
  mkD ("_law_hand", none) "_law_hand" "_law_hand" s_law_hand,
  mkD ("_law_draw", none) "_law_draw" "_law_draw" s_law_draw,
  mkD ("_law_row", none) "_law_row" "_law_row" s_law_row,
  mkD ("_law_parts", none) "_law_parts" "_law_parts" s_law_parts,
  mkD ("_law_made", none) "_law_made" "_law_made" s_law_made,
  mkD ("_law_line", none) "_law_line" "_law_line" s_law_line,
  mkD ("_law_text", none) "_law_text" "_law_text" s_law_text,
  mkD ("_law_changed", none) "_law_changed" "_law_changed" s_law_changed,
  mkD ("law", none) "law" "law" s_law,
  mkD ("Office", some "__init__") "__init__" "Office.__init__" s_Office_init,
  mkD ("Office", some "keep") "keep" "Office.keep" s_Office_keep,
  mkD ("Office", some "__eq__") "__eq__" "Office.__eq__" s_Office_eq,
  mkD ("Lines", some "__init__") "__init__" "Lines.__init__" s_Lines_init,
  mkD ("Lines", some "is_out") "is_out" "Lines.is_out" s_Lines_is_out,
  mkD ("Lines", some "tried") "tried" "Lines.tried" s_Lines_tried,
  mkD ("Lines", some "needed") "needed" "Lines.needed" s_Lines_needed,
  mkD ("Lines", some "check_out") "check_out" "Lines.check_out" s_Lines_check_out]
def fa : List He.Fa := [.glo "is_integer", .glo "is_within", .glo "is_triple", .glo "is_string_of", .glo "are_ascending", .glo "are_sizes", .glo "is_move", .glo "are_moves", .glo "are_closings", .glo "number_of", .glo "numbers_behind", .glo "read_standing", .glo "read_office", .glo "words_line", .glo "office_text", .glo "_law_hand", .glo "_law_draw", .glo "_law_row", .glo "_law_parts", .glo "_law_made", .glo "_law_line", .glo "_law_text", .glo "_law_changed", .glo "law", .glo "Office", .cls "Office", .mkr "Office", .glo "Lines", .cls "Lines", .mkr "Lines", .meth "Office" "__init__", .meth "Office" "keep", .meth "Office" "__eq__", .meth "Lines" "__init__", .meth "Lines" "is_out", .meth "Lines" "tried", .meth "Lines" "needed", .meth "Lines" "check_out", .noat "Office" "sizes", .noat "Office" "moves", .noat "Office" "closings", .noat "Office" "kept_goals", .noat "Lines" "rows", .noat "Lines" "rest", .noat "Lines" "at", .int "MOST_SIZE" 4, .int "MOST_STANDINGS" 20, .int "MOST_FIGURES" 9, .str "FIGURES" "0123456789", .free "isinstance", .free "int", .free "bool", .free "tuple", .free "len", .free "str", .free "range", .free "all", .free "enumerate", .free "abs", .free "list", .free "sorted", .free "min"]
/-- the other facts of Office: != by object.__ne__; isinstance -/
def exB (K : PySem.W.Frag) : Bool := He.eqO (PySem.W.findIn K (.ref (He.ga K "Office")) "__ne__") (some (some (.builtin "object.__ne__"))) &&
  (He.eqO (PySem.W.findIn K (.ref (He.ga K "Office")) "__class__") (some (some (.builtin "object.__class__"))) &&
  (He.eqO (PySem.W.specialIn K (.builtin "object.__class__") "__get__") (some (some (.builtin "getset_descriptor.__get__"))) &&
  (decide (PySem.W.takesIn K (.builtin "object.__class__") = some true) && (decide (PySem.W.mroIn K (He.ga K "Office") (.type "object") = some true) && decide (PySem.W.kitOne K (.ref (He.ga K "Office")) (.ref (He.ga K "Office")) = some true)))))
/-! ### the hook -/
def obsX (K : PySem.W.Frag) : Bool × He.AlD := (exB K, He.obsD fa fn K)
def SaysX (K : PySem.W.Frag) : Prop := obsX K = (true, He.valD fn)
def obsXG (n : Nat) (g : Addr → Option Obj) : Bool × He.AlD := obsX (He.frG g (He.asD g n))
def hookX (n : Nat) : PySem.W.Hook where
  α := Bool × He.AlD
  obs := fun s => obsXG n s.heap.get?
  val := fun _ => (true, He.valD fn)
  says := fun _ h => ∃ K : PySem.W.Frag, K.In h ∧ SaysX K
  of := fun _ _ e => ⟨_, He.frG_in, e⟩
  keeps := fun _ _ _ ⟨K, hK, c⟩ k => ⟨K, PySem.W.Frag.In.keeps hK k, c⟩
theorem obsXG_eq {n : Nat} {g : Addr → Option Obj} {s : Shared} (h : ∀ a, g a = s.heap.get? a) : obsXG n g = (hookX n).obs s := by
  have e : g = s.heap.get? := funext h
  rw [e] <;> rfl
/-- what the walk knows of the top -/
structure Tx (K : PySem.W.Frag) (mg : Str → Option Value) : Prop where
  h : ∃ h : Heap, K.In h ∧ h.Ns mainGlobals mg
  c : SaysX K
section
variable {K : PySem.W.Frag} {mg : Str → Option Value}
theorem Tx.d (T : Tx K mg) : He.SaysD fa fn K := congrArg (fun z : Bool × He.AlD => z.2) T.c
theorem Tx.ex (T : Tx K mg) : exB K = true := congrArg (fun z : Bool × He.AlD => z.1) T.c
theorem Tx.fct (T : Tx K mg) (i : Nat) {f : He.Fa} (h : fa[i]? = some f := by rfl) : f.ok K = true := T.d.fact i h
theorem Tx.gl (T : Tx K mg) (i : Nat) {x : Str} (h : fa[i]? = some (.glo x) := by rfl) : mg x = some (.ref (He.ga K x)) := by
  obtain ⟨h0, X, G⟩ := T.h
  exact He.glo_ok X G (T.fct i h)
theorem Tx.fr (T : Tx K mg) (i : Nat) {x : Str} (h : fa[i]? = some (.free x) := by rfl) : mg x = none := by
  obtain ⟨h0, X, G⟩ := T.h
  exact He.free_ok X G (T.fct i h)
theorem Tx.g_is_integer (T : Tx K mg) : mg "is_integer" = some (.ref (He.ga K "is_integer")) := T.gl 0
theorem Tx.g_is_within (T : Tx K mg) : mg "is_within" = some (.ref (He.ga K "is_within")) := T.gl 1
theorem Tx.g_is_triple (T : Tx K mg) : mg "is_triple" = some (.ref (He.ga K "is_triple")) := T.gl 2
theorem Tx.g_is_string_of (T : Tx K mg) : mg "is_string_of" = some (.ref (He.ga K "is_string_of")) := T.gl 3
theorem Tx.g_are_ascending (T : Tx K mg) : mg "are_ascending" = some (.ref (He.ga K "are_ascending")) := T.gl 4
theorem Tx.g_are_sizes (T : Tx K mg) : mg "are_sizes" = some (.ref (He.ga K "are_sizes")) := T.gl 5
theorem Tx.g_is_move (T : Tx K mg) : mg "is_move" = some (.ref (He.ga K "is_move")) := T.gl 6
theorem Tx.g_are_moves (T : Tx K mg) : mg "are_moves" = some (.ref (He.ga K "are_moves")) := T.gl 7
theorem Tx.g_are_closings (T : Tx K mg) : mg "are_closings" = some (.ref (He.ga K "are_closings")) := T.gl 8
theorem Tx.g_number_of (T : Tx K mg) : mg "number_of" = some (.ref (He.ga K "number_of")) := T.gl 9
theorem Tx.g_numbers_behind (T : Tx K mg) : mg "numbers_behind" = some (.ref (He.ga K "numbers_behind")) := T.gl 10
theorem Tx.g_read_standing (T : Tx K mg) : mg "read_standing" = some (.ref (He.ga K "read_standing")) := T.gl 11
theorem Tx.g_read_office (T : Tx K mg) : mg "read_office" = some (.ref (He.ga K "read_office")) := T.gl 12
theorem Tx.g_words_line (T : Tx K mg) : mg "words_line" = some (.ref (He.ga K "words_line")) := T.gl 13
theorem Tx.g_office_text (T : Tx K mg) : mg "office_text" = some (.ref (He.ga K "office_text")) := T.gl 14
theorem Tx.g_law_hand (T : Tx K mg) : mg "_law_hand" = some (.ref (He.ga K "_law_hand")) := T.gl 15
theorem Tx.g_law_draw (T : Tx K mg) : mg "_law_draw" = some (.ref (He.ga K "_law_draw")) := T.gl 16
theorem Tx.g_law_row (T : Tx K mg) : mg "_law_row" = some (.ref (He.ga K "_law_row")) := T.gl 17
theorem Tx.g_law_parts (T : Tx K mg) : mg "_law_parts" = some (.ref (He.ga K "_law_parts")) := T.gl 18
theorem Tx.g_law_made (T : Tx K mg) : mg "_law_made" = some (.ref (He.ga K "_law_made")) := T.gl 19
theorem Tx.g_law_line (T : Tx K mg) : mg "_law_line" = some (.ref (He.ga K "_law_line")) := T.gl 20
theorem Tx.g_law_text (T : Tx K mg) : mg "_law_text" = some (.ref (He.ga K "_law_text")) := T.gl 21
theorem Tx.g_law_changed (T : Tx K mg) : mg "_law_changed" = some (.ref (He.ga K "_law_changed")) := T.gl 22
theorem Tx.g_law (T : Tx K mg) : mg "law" = some (.ref (He.ga K "law")) := T.gl 23
theorem Tx.g_Office (T : Tx K mg) : mg "Office" = some (.ref (He.ga K "Office")) := T.gl 24
theorem Tx.cl_Office (T : Tx K mg) : Cls K (He.ga K "Office") := He.cls_ok (T.fct 25)
theorem Tx.mk_Office (T : Tx K mg) : Mk K (He.ga K "Office") (He.ma K (He.ga K "Office") "__init__") := He.mkr_ok (T.fct 26)
theorem Tx.g_Lines (T : Tx K mg) : mg "Lines" = some (.ref (He.ga K "Lines")) := T.gl 27
theorem Tx.cl_Lines (T : Tx K mg) : Cls K (He.ga K "Lines") := He.cls_ok (T.fct 28)
theorem Tx.mk_Lines (T : Tx K mg) : Mk K (He.ga K "Lines") (He.ma K (He.ga K "Lines") "__init__") := He.mkr_ok (T.fct 29)
theorem Tx.me_Office_init (T : Tx K mg) : Meth K (He.ga K "Office") "__init__" (He.ma K (He.ga K "Office") "__init__") := He.meth_ok (T.fct 30)
theorem Tx.me_Office_keep (T : Tx K mg) : Meth K (He.ga K "Office") "keep" (He.ma K (He.ga K "Office") "keep") := He.meth_ok (T.fct 31)
theorem Tx.me_Office_eq (T : Tx K mg) : Meth K (He.ga K "Office") "__eq__" (He.ma K (He.ga K "Office") "__eq__") := He.meth_ok (T.fct 32)
theorem Tx.me_Lines_init (T : Tx K mg) : Meth K (He.ga K "Lines") "__init__" (He.ma K (He.ga K "Lines") "__init__") := He.meth_ok (T.fct 33)
theorem Tx.me_Lines_is_out (T : Tx K mg) : Meth K (He.ga K "Lines") "is_out" (He.ma K (He.ga K "Lines") "is_out") := He.meth_ok (T.fct 34)
theorem Tx.me_Lines_tried (T : Tx K mg) : Meth K (He.ga K "Lines") "tried" (He.ma K (He.ga K "Lines") "tried") := He.meth_ok (T.fct 35)
theorem Tx.me_Lines_needed (T : Tx K mg) : Meth K (He.ga K "Lines") "needed" (He.ma K (He.ga K "Lines") "needed") := He.meth_ok (T.fct 36)
theorem Tx.me_Lines_check_out (T : Tx K mg) : Meth K (He.ga K "Lines") "check_out" (He.ma K (He.ga K "Lines") "check_out") := He.meth_ok (T.fct 37)
theorem Tx.n_sizes (T : Tx K mg) : NoAttr K (He.ga K "Office") "sizes" := He.noat_ok (T.fct 38)
theorem Tx.n_moves (T : Tx K mg) : NoAttr K (He.ga K "Office") "moves" := He.noat_ok (T.fct 39)
theorem Tx.n_closings (T : Tx K mg) : NoAttr K (He.ga K "Office") "closings" := He.noat_ok (T.fct 40)
theorem Tx.n_kept_goals (T : Tx K mg) : NoAttr K (He.ga K "Office") "kept_goals" := He.noat_ok (T.fct 41)
theorem Tx.n_rows (T : Tx K mg) : NoAttr K (He.ga K "Lines") "rows" := He.noat_ok (T.fct 42)
theorem Tx.n_rest (T : Tx K mg) : NoAttr K (He.ga K "Lines") "rest" := He.noat_ok (T.fct 43)
theorem Tx.n_at (T : Tx K mg) : NoAttr K (He.ga K "Lines") "at" := He.noat_ok (T.fct 44)
theorem Tx.i_MOST_SIZE (T : Tx K mg) : ∃ t, mg "MOST_SIZE" = some (.int 4 t) := by
  obtain ⟨h0, X, G⟩ := T.h
  exact He.int_ok X G (T.fct 45)
theorem Tx.i_MOST_STANDINGS (T : Tx K mg) : ∃ t, mg "MOST_STANDINGS" = some (.int 20 t) := by
  obtain ⟨h0, X, G⟩ := T.h
  exact He.int_ok X G (T.fct 46)
theorem Tx.i_MOST_FIGURES (T : Tx K mg) : ∃ t, mg "MOST_FIGURES" = some (.int 9 t) := by
  obtain ⟨h0, X, G⟩ := T.h
  exact He.int_ok X G (T.fct 47)
theorem Tx.s_FIGURES (T : Tx K mg) : ∃ t, mg "FIGURES" = some (.str "0123456789" t) := by
  obtain ⟨h0, X, G⟩ := T.h
  exact He.str_ok X G (T.fct 48)
theorem Tx.m_isinstance (T : Tx K mg) : mg "isinstance" = none := T.fr 49
theorem Tx.m_int (T : Tx K mg) : mg "int" = none := T.fr 50
theorem Tx.m_bool (T : Tx K mg) : mg "bool" = none := T.fr 51
theorem Tx.m_tuple (T : Tx K mg) : mg "tuple" = none := T.fr 52
theorem Tx.m_len (T : Tx K mg) : mg "len" = none := T.fr 53
theorem Tx.m_str (T : Tx K mg) : mg "str" = none := T.fr 54
theorem Tx.m_range (T : Tx K mg) : mg "range" = none := T.fr 55
theorem Tx.m_all (T : Tx K mg) : mg "all" = none := T.fr 56
theorem Tx.m_enumerate (T : Tx K mg) : mg "enumerate" = none := T.fr 57
theorem Tx.m_abs (T : Tx K mg) : mg "abs" = none := T.fr 58
theorem Tx.m_list (T : Tx K mg) : mg "list" = none := T.fr 59
theorem Tx.m_sorted (T : Tx K mg) : mg "sorted" = none := T.fr 60
theorem Tx.m_min (T : Tx K mg) : mg "min" = none := T.fr 61
abbrev FnP (K : PySem.W.Frag) (x q : Str) (st : Stmt) (f : Addr) (fd : FuncData) : Prop := FunD K x q (defArgs st) (defBody st) (defScope st) [] [] f fd
theorem Tx.f_is_integer (T : Tx K mg) : ∃ fd, FnP K "is_integer" "is_integer" s_is_integer (He.ga K "is_integer") fd := T.d.def_ 0 (d := mkD ("is_integer", none) "is_integer" "is_integer" s_is_integer) rfl
theorem Tx.f_is_within (T : Tx K mg) : ∃ fd, FnP K "is_within" "is_within" s_is_within (He.ga K "is_within") fd := T.d.def_ 1 (d := mkD ("is_within", none) "is_within" "is_within" s_is_within) rfl
theorem Tx.f_is_triple (T : Tx K mg) : ∃ fd, FnP K "is_triple" "is_triple" s_is_triple (He.ga K "is_triple") fd := T.d.def_ 2 (d := mkD ("is_triple", none) "is_triple" "is_triple" s_is_triple) rfl
theorem Tx.f_is_string_of (T : Tx K mg) : ∃ fd, FnP K "is_string_of" "is_string_of" s_is_string_of (He.ga K "is_string_of") fd := T.d.def_ 3 (d := mkD ("is_string_of", none) "is_string_of" "is_string_of" s_is_string_of) rfl
theorem Tx.f_are_ascending (T : Tx K mg) : ∃ fd, FnP K "are_ascending" "are_ascending" s_are_ascending (He.ga K "are_ascending") fd := T.d.def_ 4 (d := mkD ("are_ascending", none) "are_ascending" "are_ascending" s_are_ascending) rfl
theorem Tx.f_are_sizes (T : Tx K mg) : ∃ fd, FnP K "are_sizes" "are_sizes" s_are_sizes (He.ga K "are_sizes") fd := T.d.def_ 5 (d := mkD ("are_sizes", none) "are_sizes" "are_sizes" s_are_sizes) rfl
theorem Tx.f_is_move (T : Tx K mg) : ∃ fd, FnP K "is_move" "is_move" s_is_move (He.ga K "is_move") fd := T.d.def_ 6 (d := mkD ("is_move", none) "is_move" "is_move" s_is_move) rfl
theorem Tx.f_are_moves (T : Tx K mg) : ∃ fd, FnP K "are_moves" "are_moves" s_are_moves (He.ga K "are_moves") fd := T.d.def_ 7 (d := mkD ("are_moves", none) "are_moves" "are_moves" s_are_moves) rfl
theorem Tx.f_are_closings (T : Tx K mg) : ∃ fd, FnP K "are_closings" "are_closings" s_are_closings (He.ga K "are_closings") fd := T.d.def_ 8 (d := mkD ("are_closings", none) "are_closings" "are_closings" s_are_closings) rfl
theorem Tx.f_number_of (T : Tx K mg) : ∃ fd, FnP K "number_of" "number_of" s_number_of (He.ga K "number_of") fd := T.d.def_ 9 (d := mkD ("number_of", none) "number_of" "number_of" s_number_of) rfl
theorem Tx.f_numbers_behind (T : Tx K mg) : ∃ fd, FnP K "numbers_behind" "numbers_behind" s_numbers_behind (He.ga K "numbers_behind") fd := T.d.def_ 10 (d := mkD ("numbers_behind", none) "numbers_behind" "numbers_behind" s_numbers_behind) rfl
theorem Tx.f_read_standing (T : Tx K mg) : ∃ fd, FnP K "read_standing" "read_standing" s_read_standing (He.ga K "read_standing") fd := T.d.def_ 11 (d := mkD ("read_standing", none) "read_standing" "read_standing" s_read_standing) rfl
theorem Tx.f_read_office (T : Tx K mg) : ∃ fd, FnP K "read_office" "read_office" s_read_office (He.ga K "read_office") fd := T.d.def_ 12 (d := mkD ("read_office", none) "read_office" "read_office" s_read_office) rfl
theorem Tx.f_words_line (T : Tx K mg) : ∃ fd, FnP K "words_line" "words_line" s_words_line (He.ga K "words_line") fd := T.d.def_ 13 (d := mkD ("words_line", none) "words_line" "words_line" s_words_line) rfl
theorem Tx.f_office_text (T : Tx K mg) : ∃ fd, FnP K "office_text" "office_text" s_office_text (He.ga K "office_text") fd := T.d.def_ 14 (d := mkD ("office_text", none) "office_text" "office_text" s_office_text) rfl
theorem Tx.f_law_hand (T : Tx K mg) : ∃ fd, FnP K "_law_hand" "_law_hand" s_law_hand (He.ga K "_law_hand") fd := T.d.def_ 15 (d := mkD ("_law_hand", none) "_law_hand" "_law_hand" s_law_hand) rfl
theorem Tx.f_law_draw (T : Tx K mg) : ∃ fd, FnP K "_law_draw" "_law_draw" s_law_draw (He.ga K "_law_draw") fd := T.d.def_ 16 (d := mkD ("_law_draw", none) "_law_draw" "_law_draw" s_law_draw) rfl
theorem Tx.f_law_row (T : Tx K mg) : ∃ fd, FnP K "_law_row" "_law_row" s_law_row (He.ga K "_law_row") fd := T.d.def_ 17 (d := mkD ("_law_row", none) "_law_row" "_law_row" s_law_row) rfl
theorem Tx.f_law_parts (T : Tx K mg) : ∃ fd, FnP K "_law_parts" "_law_parts" s_law_parts (He.ga K "_law_parts") fd := T.d.def_ 18 (d := mkD ("_law_parts", none) "_law_parts" "_law_parts" s_law_parts) rfl
theorem Tx.f_law_made (T : Tx K mg) : ∃ fd, FnP K "_law_made" "_law_made" s_law_made (He.ga K "_law_made") fd := T.d.def_ 19 (d := mkD ("_law_made", none) "_law_made" "_law_made" s_law_made) rfl
theorem Tx.f_law_line (T : Tx K mg) : ∃ fd, FnP K "_law_line" "_law_line" s_law_line (He.ga K "_law_line") fd := T.d.def_ 20 (d := mkD ("_law_line", none) "_law_line" "_law_line" s_law_line) rfl
theorem Tx.f_law_text (T : Tx K mg) : ∃ fd, FnP K "_law_text" "_law_text" s_law_text (He.ga K "_law_text") fd := T.d.def_ 21 (d := mkD ("_law_text", none) "_law_text" "_law_text" s_law_text) rfl
theorem Tx.f_law_changed (T : Tx K mg) : ∃ fd, FnP K "_law_changed" "_law_changed" s_law_changed (He.ga K "_law_changed") fd := T.d.def_ 22 (d := mkD ("_law_changed", none) "_law_changed" "_law_changed" s_law_changed) rfl
theorem Tx.f_law (T : Tx K mg) : ∃ fd, FnP K "law" "law" s_law (He.ga K "law") fd := T.d.def_ 23 (d := mkD ("law", none) "law" "law" s_law) rfl
theorem Tx.f_Office_init (T : Tx K mg) : ∃ fd, FnP K "__init__" "Office.__init__" s_Office_init (He.ma K (He.ga K "Office") "__init__") fd := T.d.def_ 24 (d := mkD ("Office", some "__init__") "__init__" "Office.__init__" s_Office_init) rfl
theorem Tx.f_Office_keep (T : Tx K mg) : ∃ fd, FnP K "keep" "Office.keep" s_Office_keep (He.ma K (He.ga K "Office") "keep") fd := T.d.def_ 25 (d := mkD ("Office", some "keep") "keep" "Office.keep" s_Office_keep) rfl
theorem Tx.f_Office_eq (T : Tx K mg) : ∃ fd, FnP K "__eq__" "Office.__eq__" s_Office_eq (He.ma K (He.ga K "Office") "__eq__") fd := T.d.def_ 26 (d := mkD ("Office", some "__eq__") "__eq__" "Office.__eq__" s_Office_eq) rfl
theorem Tx.f_Lines_init (T : Tx K mg) : ∃ fd, FnP K "__init__" "Lines.__init__" s_Lines_init (He.ma K (He.ga K "Lines") "__init__") fd := T.d.def_ 27 (d := mkD ("Lines", some "__init__") "__init__" "Lines.__init__" s_Lines_init) rfl
theorem Tx.f_Lines_is_out (T : Tx K mg) : ∃ fd, FnP K "is_out" "Lines.is_out" s_Lines_is_out (He.ma K (He.ga K "Lines") "is_out") fd := T.d.def_ 28 (d := mkD ("Lines", some "is_out") "is_out" "Lines.is_out" s_Lines_is_out) rfl
theorem Tx.f_Lines_tried (T : Tx K mg) : ∃ fd, FnP K "tried" "Lines.tried" s_Lines_tried (He.ma K (He.ga K "Lines") "tried") fd := T.d.def_ 29 (d := mkD ("Lines", some "tried") "tried" "Lines.tried" s_Lines_tried) rfl
theorem Tx.f_Lines_needed (T : Tx K mg) : ∃ fd, FnP K "needed" "Lines.needed" s_Lines_needed (He.ma K (He.ga K "Lines") "needed") fd := T.d.def_ 30 (d := mkD ("Lines", some "needed") "needed" "Lines.needed" s_Lines_needed) rfl
theorem Tx.f_Lines_check_out (T : Tx K mg) : ∃ fd, FnP K "check_out" "Lines.check_out" s_Lines_check_out (He.ma K (He.ga K "Lines") "check_out") fd := T.d.def_ 31 (d := mkD ("Lines", some "check_out") "check_out" "Lines.check_out" s_Lines_check_out) rfl
theorem Tx.insC (T : Tx K mg) : C8.InsC K (He.ga K "Office") := by
  obtain ⟨_, c⟩ := He.ba T.ex
  obtain ⟨c2, c⟩ := He.ba c
  obtain ⟨c3, c⟩ := He.ba c
  obtain ⟨c4, c⟩ := He.ba c
  obtain ⟨c5, c6⟩ := He.ba c
  exact ⟨T.cl_Office, He.eqO_ok c2, He.eqO_ok c3, of_decide_eq_true c4, of_decide_eq_true c5, of_decide_eq_true c6⟩
theorem Tx.ne (T : Tx K mg) : PySem.W.findIn K (.ref (He.ga K "Office")) "__ne__" = some (some (.builtin "object.__ne__")) := He.eqO_ok (He.ba T.ex).1
end
end K15

-- part Rules
set_option maxHeartbeats 4000000
/-! K15Rules: rules that the layer lacks: >= of tuples, setdefault with tuple keys, enumerate of a tuple, != by an own ==. -/
namespace K15
open PySem PySem.Spec PyProof.Rows L2
/-! ### t >= u, two tuples of ints of one length, the first less -/
theorem lex_ge : ∀ (k i : Nat) (ns ms : List Int), ns.length = ms.length → i + k = ns.length →
    Ob.lexAt (fun j => decide (ns.getD j 0 = ms.getD j 0)) (fun j => decide (ms.getD j 0 ≤ ns.getD j 0)) true i k = !(HT.lexLt (ns.drop i) (ms.drop i))
  | 0, i, ns, ms, hl, hi => by
    rw [List.drop_of_length_le (show ns.length ≤ i by omega), List.drop_of_length_le (show ms.length ≤ i by omega)]
    rfl
  | k + 1, i, ns, ms, hl, hi => by
    have h1 : i < ns.length := by omega
    have h2 : i < ms.length := by omega
    rw [List.drop_eq_getElem_cons h1, List.drop_eq_getElem_cons h2, Ob.lexAt_succ, lex_ge k (i + 1) ns ms hl (by omega)]
    have g1 : ns.getD i 0 = ns[i] := by simp [h1]
    have g2 : ms.getD i 0 = ms[i] := by simp [h2]
    rw [g1, g2]
    show _ = !(if ns[i] = ms[i] then HT.lexLt (ns.drop (i + 1)) (ms.drop (i + 1)) else decide (ns[i] < ms[i]))
    by_cases e : ns[i] = ms[i]
    · rw [if_pos e, if_pos (decide_eq_true e)]
    · rw [if_neg e, if_neg (by simp [e])]
      by_cases h : ns[i] < ms[i]
      · rw [decide_eq_true h, decide_eq_false (by omega)]
        rfl
      · rw [decide_eq_false h, decide_eq_true (by omega)]
        rfl
def rGeT (K : PySem.W.Frag) : R2 := fun x y H Q => ∃ (a b : Addr) (ns ms : List Int), x = .ref a ∧ y = .ref b ∧ SqT K H a (ns.map V.int) ∧ SqT K H b (ms.map V.int) ∧ ns.length = ms.length ∧ Q (.bl (!HT.lexLt ns ms)) H
theorem op_geT {X : Cx} (hu : X.A.units < cLine) : OpR X (compareOp .GtE) (rGeT X.K) := by
  intro pins s σ H x y v u Q I rx ry h
  obtain ⟨a, b, ns, ms, rfl, rfl, ha, hb, hl, q⟩ := h
  cases rx
  cases ry
  obtain ⟨its, r1, p1, _⟩ := I.tuple ha
  obtain ⟨its2, r2, p2, _⟩ := I.tuple hb
  have i1 : IntsAre its ns := Vals.ints r1
  have i2 : IntsAre its2 ms := Vals.ints r2
  have e1 : its.toArray.size = ns.length := by rw [List.size_toArray]; exact i1.length
  have e2 : its2.toArray.size = ms.length := by rw [List.size_toArray]; exact i2.length
  have at1 : ∀ j (h1 : j < its.toArray.size), ∃ t, its.toArray[j] = .int (ns.getD j 0) t := fun j h1 => PyProof.Rows.IntsAre.int_at i1 _ _ (by simp at h1; simp [h1])
  have at2 : ∀ j (h1 : j < its2.toArray.size), ∃ t, its2.toArray[j] = .int (ms.getD j 0) t := fun j h1 => PyProof.Rows.IntsAre.int_at i2 _ _ (by simp at h1; simp [h1])
  have R := Ob.RcOp.tuples_ge (A := X.A) (s := s) (e := fun j => decide (ns.getD j 0 = ms.getD j 0)) (r := fun j => decide (ms.getD j 0 ≤ ns.getD j 0)) p1 p2 hu (fun j h1 h2 => by
    obtain ⟨t, et⟩ := at1 j h1
    obtain ⟨t', et'⟩ := at2 j h2
    rw [et, et']
    have z : (ns.getD j 0 == ms.getD j 0) = decide (ns.getD j 0 = ms.getD j 0) := by
      by_cases q : ns.getD j 0 = ms.getD j 0
      · rw [decide_eq_true q]; exact beq_iff_eq.mpr q
      · rw [decide_eq_false q]; exact beq_eq_false_iff_ne.mpr q
    rw [← z]
    exact SeqAt.EqAt.int_int _ _ _ _) (fun j h1 h2 _ => by
    obtain ⟨t, et⟩ := at1 j h1
    obtain ⟨t', et'⟩ := at2 j h2
    rw [et, et']
    exact Ob.RcOp.ge_int _ _ _ _)
  rw [e1, e2, ← hl, Nat.min_self, show decide (ns.length ≥ ns.length) = true from decide_eq_true (Nat.le_refl _), lex_ge ns.length 0 ns ms hl (by omega), List.drop_zero, List.drop_zero] at R
  have z : wpAny (model X.prog X.w) X.A (compareOp .GtE (.ref a) (.ref b)) (EP X pins σ Q) X.xe s := R X.prog X.w X.xe (EP X pins σ Q) ⟨.bl _, H, I, rfl, q⟩
  exact z

/-! ### d.setdefault(t, z), t a tuple -/
def tDSetT (td ty tx : TE) : TE := fun σ H Q => td σ H fun x H1 => ∃ a, x = .ref a ∧ IsD H1 a ∧ ty σ H1 fun y H2 => tx σ H2 fun z H3 => ∃ (kvs : List (List Key × V)) (k : List Key) (b : Addr), H3 a = some (.dT kvs) ∧ y = .ref b ∧ H3 b = some (.tup (k.map kV)) ∧ kvs.length < sizeLine ∧
  (∀ v, valV kvs k = some v → Q v H3) ∧ (valV kvs k = none → Q z (upd H3 a (.dT (putK kvs k z))))
section
variable {X : Cx}
theorem pe_dsetT {o e f : Expr} {td ty tx : TE} {apos cpos : Pos} (hu : X.A.units + 1 < cLine) (ho : PE X o td) (he : PE X e ty) (hf : PE X f tx) (m : M2 X o "setdefault" apos e f cpos) : PE X (.Call (.Attribute o "setdefault" apos) [e, f] [] cpos) (tDSetT td ty tx) := by
  refine ⟨fun pins s σ H Q I h => ?_⟩
  refine wpAny_Call_method m.base m.few m.line PySem.F.plainAttrs_dict PySem.F.slot_dict_setdefault PySem.F.type_dict_setdefault (thn (ho.run pins s σ H _ I h) fun u s1 ⟨x, H1, I1, rx, a, ex, d, q1⟩ => ?_)
  subst ex
  obtain rfl : u = Value.ref a := rx
  obtain ⟨t1, t2, _⟩ := isD_at I1 d
  refine ⟨t1, t2, ?_⟩
  rw [m.trees]
  refine Calls.callWith_builtin rfl (Calls.evalArgs_plain (Calls.spliced_cons (thn (he.run pins s1 σ H1 _ I1 q1) fun iv s2 ⟨y, H2, I2, ry, q2⟩ =>
    Calls.spliced_cons (thn (hf.run pins s2 σ H2 _ I2 q2) fun fv s3 ⟨z, H3, I3, rz, kvs, k, b, ea, ey, eb, hl, q3, q4⟩ => Calls.spliced_nil ?_))))
  subst ey
  cases (show iv = Value.ref b from ry)
  obtain ⟨zz, hd, xs, rel, dd⟩ := dt_of I3.hok ea
  have hz : xs.length ≤ sizeLine := by rw [← Paired.length rel]; exact zz
  refine call_setdefault_heap (hsz := hz) (tupleKind_room_in1 hu) (key_of I3.hok eb) hd dd (fun p hp => ?_) fun hn h' dd' hs => ?_
  · have rr := rel.val k
    rw [hp] at rr
    cases hv : valV kvs k with
    | none => rw [hv] at rr; exact False.elim rr
    | some v =>
      rw [hv] at rr
      exact ⟨v, H3, I3.tok _, rr, q3 v hv⟩
  · have rr := rel.val k
    rw [hn] at rr
    cases hv : valV kvs k with
    | some v => rw [hv] at rr; exact False.elim rr
    | none =>
      have hl2 : (putK kvs k z).length ≤ sizeLine := by have := length_putK kvs k z; omega
      obtain ⟨q, es, ep, hq, h2, h3, h4, _, h5⟩ := dd'
      have nw : ObjOk X.prog X.w (upd H3 a (.dT (putK kvs k z))) h' a (.dT (putK kvs k z)) := ⟨hl2, hd, _, (rel.put k eb rz).keeps fun c ys ec => by
        rw [upd_ne (ne_of ec ea (fun z => nomatch z))]
        exact ec, q, es, ep, hq, h2, h3, h4, h5⟩
      exact ⟨z, _, d_write (t' := s3.toks + (tupleKind (mixKind X.prog X.w)).draws k) I3 (by rw [ea]; exact True.intro) hs ⟨q, hq⟩ nw, rz, q4 hv⟩
end

/-! ### enumerate(t), t a tuple -/
theorem meets_enumerate_newT (l : Addr) (items : Array Value) (n : Nat) (dct : Option Addr) (sl : Array (Option Value)) :
    Meets (Builtin.«enumerate.__new__» ⟨[.type "enumerate", .ref l], []⟩) (fun _ R s => s.heap.get? l = some { cls := .type "tuple", dict := dct, data := .seq items n, slots := sl } ∧
      R (.ok (.ret (.ref (s.heap.push { cls := .type "tuple_iterator", data := .fields #[.ref l, .int 0 0] }).objs.size)))
        { s with heap := (s.heap.push { cls := .type "tuple_iterator", data := .fields #[.ref l, .int 0 0] }).push { cls := .type "enumerate", data := .fields #[.none, .bool false, .ref s.heap.objs.size, rawInt 0, .none, .none] } }) :=
  .of_wp fun prog w A R s h => by
    obtain ⟨hp, g, d, tk, os⟩ := s; obtain ⟨hl, h⟩ := h
    have hsub := sub_enumerate
    have hL : Heap.IsTuple (Shared.heap ⟨hp, g, d, tk, os⟩) l items := ⟨_, hl, rfl, n, rfl⟩
    wp_walk using AutoSeq1.wpAny_loadPart' hl
    refine wpAny_stack_any fun st => wpAny_pure ?_
    split
    · rename_i c _ _ _ _ _
      cases (c == Value.type "enumerate")
      · wp_walk using AutoSeq1.wpAny_loadPart' hl, wpAny_pyIter_tuple hL
        exact ⟨_, rfl, h⟩
      · wp_walk using AutoSeq1.wpAny_loadPart' hl, wpAny_pyIter_tuple hL
        exact ⟨_, rfl, h⟩
    · wp_walk using AutoSeq1.wpAny_loadPart' hl, wpAny_pyIter_tuple hL
      exact ⟨_, rfl, h⟩
theorem call_enumerate_tuple {prog : Program} {w : World} {A : Around} {E : Value → Shared → Prop} {s : Shared} {l : Addr} {items : Array Value} {Q : Value → Shared → Prop} (hL : s.heap.IsTuple l items)
    (h : ∀ h', IsEnum h' (s.heap.objs.size + 1) s.heap.objs.size 0 .none → h'.IsTupleIter s.heap.objs.size l 0 → h'.objs.size = s.heap.objs.size + 2 →
      (∀ b o, s.heap.get? b = some o → h'.get? b = some o) → Q (.ref (s.heap.objs.size + 1)) { s with heap := h' }) :
    wpAny (model prog w) A (call (.type "enumerate") [.ref l]) Q E s := by
  obtain ⟨⟨c, dct, dt, sl⟩, hl, hc, n, hd⟩ := hL
  replace hc : c = .type "tuple" := hc
  replace hd : dt = .seq items n := hd
  subst hc hd
  refine callType_new F.called_enumerate (by decide) (F.typeCall_enumerate_1 _) (F.newCall_enumerate_1 _) (fun obj => F.args_object_init_2 obj _) F.entry_enumerate_new
    (meets_enumerate_newT l items n dct sl) ⟨hl, ?_⟩
  have hz : (s.heap.push { cls := .type "tuple_iterator", data := .fields #[.ref l, .int 0 0] }).objs.size = s.heap.objs.size + 1 := Heap.size_push ..
  show _ ∧ _
  rw [hz]
  have he : IsEnum ((s.heap.push { cls := .type "tuple_iterator", data := .fields #[.ref l, .int 0 0] }).push
      { cls := .type "enumerate", data := .fields #[.none, .bool false, .ref s.heap.objs.size, rawInt 0, .none, .none] }) (s.heap.objs.size + 1) s.heap.objs.size 0 .none := by
    have := Heap.get?_push_size (s.heap.push { cls := .type "tuple_iterator", data := .fields #[.ref l, .int 0 0] })
      (o := { cls := .type "enumerate", data := .fields #[.none, .bool false, .ref s.heap.objs.size, rawInt 0, .none, .none] }) rfl
    rw [hz] at this; exact this
  refine ⟨⟨_, he, rfl⟩, h _ he ⟨_, Heap.get?_push_of_some _ (Heap.get?_push_size _ rfl), rfl, rfl⟩ (by rw [Heap.size_push, hz]) fun b o x => Heap.get?_push_of_some _ (Heap.get?_push_of_some _ x)⟩
theorem enum_endT {prog : Program} {w : World} {A : Around} {E : Value → Shared → Prop} {s : Shared} {e it l : Addr} {i : Nat} {items : Array Value} {old : Value} {Q : Option Value → Shared → Prop} (hh : A.handled = none)
    (he : IsEnum s.heap e it i old) (hit : s.heap.IsTupleIter it l i) (hl : s.heap.IsTuple l items) (hx : items.size ≤ i)
    (hQ : ∀ h', Heap.ExtBut it s.heap h' → Q none { s with heap := h' }) : wpAny (model prog w) A (pyNext (.ref e)) Q E s := by
  have hT : s.TypeIs (.ref e) "enumerate" := ⟨_, he, rfl⟩
  unfold pyNext
  refine wpAny_bind (wpAny_attempt (wpAny_callSpecial?_slot (name := Str.ofString "__next__") hT F.slot_enumerate_next
    (wpAny_call_entry F.slot_enumerate_next hT F.entry_enumerate_next ?_ (F.args_enumerate_next_1 _))))
  show wpAny _ _ (field (.ref e) 2 >>= _) _ _ _
  refine wpAny_bind (wpAny_field he rfl (x := .ref it) rfl ?_)
  refine wpAny_bind (wpAny_nextOf_tuple_end hh hit hl (by simp [hx]) fun h' x he' hx' => ?_)
  obtain ⟨o, ho, hc⟩ := hx'
  refine wpAny_bind (wpAny_isInstance (T := "StopIteration") (b := true) ⟨o, ho, hc⟩ isSubtype_stop ?_)
  exact wpAny_pure (hQ _ he')
def ItTe (K : PySem.W.Frag) (a : Addr) : It :=
  ⟨fun i H => ∃ (xs : List V) (x : V), SqT K H a xs ∧ xs[i]? = some x, fun i H v H' => ∃ T x, v = .ref T ∧ H T = none ∧ H' = upd H T (.tup [.int (i : Nat), x]) ∧ ∀ xs, SqT K H a xs → xs[i]? = some x, fun i H => ∃ xs : List V, SqT K H a xs ∧ xs.length ≤ i⟩
theorem turn_enumT {P : Program} {w : World} {K : PySem.W.Frag} {elts : List Expr} {kk : Nat} {tpos : Pos} (a e it : Addr) :
    Turn P w K (.Tuple elts kk tpos) (ItTe K a) [e, it] e (fun i h => (∃ old, IsEnum h e it ((i : Nat) : Int) old) ∧ h.IsTupleIter it a i ∧ e ≠ it ∧ a ≠ e ∧ a ≠ it) where
  mem := by simp
  obj := fun i h st b hb => by
    obtain ⟨⟨old, he⟩, ⟨o, ho, hc, hd⟩, _⟩ := st
    have e' : b = e ∨ b = it := by simpa using hb
    rcases e' with z | z
    · rw [z]; exact ⟨_, he, fun v q => nomatch q⟩
    · rw [z]; exact ⟨o, ho, fun v q => by rw [hd] at q; cases q⟩
  keep := fun i h h' st k => let ⟨⟨old, he⟩, hi, hne⟩ := st; ⟨⟨old, k e (by simp) _ he⟩, hi.at fun o q => k it (by simp) o q, hne⟩
  item := by
    intro X hP hw hK hc i pins s σ H E I hf st hg
    subst hP hw hK
    obtain ⟨⟨old, he⟩, hit, hne, hae, hai⟩ := st
    obtain ⟨xs, x, hq, hx⟩ := hg
    obtain ⟨its, rv, p, hz⟩ := I.tuple hq
    obtain ⟨u, hu, ru⟩ := rv.get hx
    have hel : e < s.heap.objs.size := Heap.lt_size he
    have hil : it < s.heap.objs.size := by obtain ⟨_, q, _⟩ := hit; exact Heap.lt_size q
    have hil2 : i < its.toArray.size := by
      have := (List.getElem?_eq_some_iff.mp hu).1
      simpa using this
    have D := Draws.tuple (prog := X.prog) (w := X.w) (A := X.A.in1) (I.ok.hd hc) it a hai its.toArray
    refine wpAny_pyNext_enum_itemD D he ⟨hit, p⟩ hil2 hne (by simp [hne, Ne.symm hae]) fun y h' tk hy ho hit' hT hsz hk => ?_
    have ey : y = u := by
      have e1 : its.toArray[i]? = some u := by simpa using hu
      have e2 : its.toArray[i]? = some y := hy
      rw [e1] at e2
      exact (Option.some.inj e2).symm
    subst ey
    refine ⟨_, rfl, wpAny_letOwnedTupleGo_enum (s := { s with heap := h', toks := tk + 1 }) ho fun h'' he' sb => ?_⟩
    have hT2 : h''.get? s.heap.objs.size = some { cls := .type "tuple", data := .seq #[.int i tk, y] } := (sb.2 _ (Nat.ne_of_gt hel)).trans hT
    have new : ObjOk X.prog X.w (upd H s.heap.objs.size (.tup [.int (i : Nat), x])) h'' s.heap.objs.size (.tup [.int (i : Nat), x]) :=
      ⟨by show 2 ≤ sizeLine; decide, [.int i tk, y], .cons ⟨_, rfl⟩ (.cons ru .nil), ⟨_, hT2, rfl, _, rfl⟩⟩
    have I1 : Inv X pins σ (upd H s.heap.objs.size (.tup [.int (i : Nat), x])) { s with heap := h'', toks := tk + 1 } :=
      I.turnedNew (ch := [e, it]) (fun b ob hb q => (sb.2 b (fun z => hb (by simp [z]))).trans (hk b ob (fun z => hb (by simp [z])) (fun z => hb (by simp [z])) q)) hf (Nat.le_refl _) new
    refine ⟨.ref s.heap.objs.size, _, I1, rfl, ⟨_, x, rfl, I.hok.fresh (Nat.le_refl _), rfl, fun ys hy => by rw [I.tuple_inj hy hq]; exact hx⟩, ⟨⟨y, ?_⟩, hit'.1.at fun o q => (sb.2 it (Ne.symm hne)).trans q, hne, hae, hai⟩, fun b hb => ?_⟩
    · have e1 : ((i + 1 : Nat) : Int) = (i : Int) + 1 := by omega
      rw [e1]; exact he'
    · have hb' : b < s.heap.objs.size := by
        have e' : b = e ∨ b = it := by simpa using hb
        rcases e' with z | z
        · rw [z]; exact hel
        · rw [z]; exact hil
      rw [upd_ne (Nat.ne_of_lt hb')]
      exact (hf b hb).1
  done := by
    intro X hP hw hK hc i pins s σ H E I hf st hg
    subst hP hw hK
    obtain ⟨⟨old, he⟩, hit, hne, hae, hai⟩ := st
    obtain ⟨xs, hq, hx⟩ := hg
    obtain ⟨its, rv, p, hz⟩ := I.tuple hq
    obtain ⟨f0, f1, f2, f3, f4, f5⟩ := hf it (by simp)
    have hl := rv.length
    obtain ⟨n', hn'⟩ : ∃ n, n = its.toArray.size := ⟨_, rfl⟩
    have hle : its.toArray.size ≤ i := by simp; omega
    refine enum_endT (I.ok.hd hc) he hit p hle fun h' eb => ⟨rfl, I.turned (t' := s.toks) (fun b o hb q => eb b o hb q) f0 f1 f3 f4 f5⟩
  self := fun A i s Q E st h => let ⟨⟨_, he⟩, _⟩ := st; wpAny_pyIter_enum he h
def iEnumT (K : PySem.W.Frag) (ta : TA) : TI := fun σ H R => ta σ H fun vs H1 => ∃ a xs, vs = [.ref a] ∧ SqT K H1 a xs ∧ R (ItTe K a) H1
theorem pi_enumT {X : Cx} {e : Expr} {ta : TA} {p pos tpos : Pos} {elts : List Expr} {kk : Nat} (hg : Gl X "enumerate") (hm : X.mg "enumerate" = none) (ha : PA X [e] ta) (hs : starEach [e] X.env = [(false, eval e X.env)] := by rfl) :
    PI X (.Tuple elts kk tpos) (.Call (.Name "enumerate" p) [e] [] pos) (iEnumT X.K ta) := by
  refine ⟨fun pins s σ H R I h => ?_⟩
  refine Call_ (ld_blt I hg hm boot_enumerate (PyProof.Rows.callWith_type1 (thn (ha.run pos pins s σ H _ I h) fun us s1 ⟨vs, H1, I1, r1, q1⟩ => ?_) hs rfl))
  obtain ⟨a, xs, ex, hq, q⟩ := q1
  subst ex
  cases r1 with
  | cons r rr =>
    cases rr
    cases r
    obtain ⟨its, rv, p', hz⟩ := I1.tuple hq
    have hal : a < s1.heap.objs.size := by obtain ⟨_, q, _⟩ := p'; exact Heap.lt_size q
    refine call_enumerate_tuple p' fun h' he hit hsz hk => wpAny_pyIter_enum he ?_
    have I2 : Inv X pins σ H1 { s1 with heap := h' } := I1.kept (t' := s1.toks) hk
    refine ⟨s1.heap.objs.size + 1, [s1.heap.objs.size + 1, s1.heap.objs.size], _, _, H1, rfl, I2, turn_enumT a (s1.heap.objs.size + 1) s1.heap.objs.size, ⟨⟨.none, he⟩, hit, Nat.succ_ne_self _, Nat.ne_of_lt (Nat.lt_succ_of_lt hal), Nat.ne_of_lt hal⟩, fun b hb => ?_, q⟩
    have e' : b = s1.heap.objs.size + 1 ∨ b = s1.heap.objs.size := by simpa using hb
    have hle : s1.heap.objs.size ≤ b := by
      rcases e' with z | z
      · rw [z]; exact Nat.le_add_right _ _
      · rw [z]; exact Nat.le_refl _
    exact I1.fpOk hle (I1.hok.fresh hle)
theorem walk_enumT {K : PySem.W.Frag} {a : Addr} {xs : List V} {g : TG} {tb : TS} {D : Ends} {σ : L2.St} {H : Hp} (Pv : Nat → L2.St → Hp → Prop) (h0 : Pv 0 σ H) (hl : ∀ i σ H, i ≤ xs.length → Pv i σ H → SqT K H a xs)
    (hs : ∀ i x σ H T, xs[i]? = some x → Pv i σ H → H T = none → g (.ref T) σ (upd H T (.tup [.int (i : Nat), x])) fun σ2 H2 => tb { D with nx := Pv (i + 1), ct := Pv (i + 1), bk := D.nx } σ2 H2) (hd : ∀ σ H, Pv xs.length σ H → D.nx σ H) :
    ∃ W : Nat → Nat → L2.St → Hp → Prop, (∃ m, W 0 m σ H) ∧ ∀ i m σ H, W i m σ H →
      ((ItTe K a).stop i H ∧ D.nx σ H) ∨ ((ItTe K a).go i H ∧ ∃ N : L2.St → Hp → Prop, (∀ σ' H', N σ' H' → ∃ m', m' < m ∧ W (i + 1) m' σ' H') ∧ ∀ x H', (ItTe K a).yld i H x H' → g x σ H' fun σ2 H2 => tb { D with nx := N, ct := N, bk := D.nx } σ2 H2) := by
  refine ⟨fun i m σ H => m = xs.length - i ∧ i ≤ xs.length ∧ Pv i σ H, ⟨xs.length, by simp, Nat.zero_le _, h0⟩, ?_⟩
  rintro i m σ H ⟨rfl, hi, p⟩
  have q := hl i σ H hi p
  by_cases hlt : i < xs.length
  · refine .inr ⟨⟨xs, xs[i], q, by simp [hlt]⟩, Pv (i + 1), fun σ' H' p' => ⟨xs.length - (i + 1), by omega, rfl, hlt, p'⟩, fun x H' y => ?_⟩
    obtain ⟨T, z, rfl, hT, rfl, hz⟩ := y
    exact hs i z σ H T (hz xs q) p hT
  · have e : i = xs.length := by omega
    subst e
    exact .inl ⟨⟨xs, q, Nat.le_refl _⟩, hd σ H p⟩

/-! ### x != y by the class's own == -/
section
open PySem.W
variable {prog : Program} {w : World} {A : Around} {E : Value → Shared → Prop} {s : Shared} {K : PySem.W.Frag} {x y C f : Addr} {ox : Obj} {od : Option Obj}
theorem ne_check (X : K.In s.heap) (I : InstAt s.heap x ox C od) (hm : mroIn K C (.type "object") = some true) {Q : Unit → Shared → Prop} (q : Q () s) :
    wpAny (model prog w) A (checkBuiltinCall "object.__ne__" ⟨[.ref x, .ref y], []⟩) Q E s := by
  simp only [checkBuiltinCall, F.cmpKind_ne, F.cmpSplit_ne]
  refine wpAny_bind ?_
  unfold isInstance
  refine wpAny_bind (I.type.here ((looks_mroIn X hm).here ?_))
  simp only [Bool.not_true, Bool.false_eq_true, if_false]
  have ha := F.cmpArgs_ne (.ref x) (.ref y)
  cases hsig : Manifest.signature? "object.__ne__" with
  | none => exact wpAny_pure q
  | some sig =>
    simp only [argsOk, hsig] at ha
    have h2 : Bind.checkArgs "object.__ne__" sig ⟨[.ref x, .ref y], []⟩ = pure () := ha
    show wpAny _ A (Bind.checkArgs "object.__ne__" sig ⟨[.ref x, .ref y], []⟩) Q E _
    rw [h2]; exact wpAny_pure q
theorem ne_entry (X : K.In s.heap) (I : InstAt s.heap x ox C od) (hs : findIn K (.ref C) "__eq__" = some (some (.ref f))) (hf : isFn K (.ref f) = true) (hu : A.units < cLine) {Q : Fin → Shared → Prop}
    (hcall : wpAny (model prog w) A (call (.ref f) [.ref x, .ref y]) (fun v s' => ∃ b, v = .bool b ∧ Q (.done (.ret (.bool (!b)))) s') E s) :
    wpAny (model prog w) A (Builtin.«object.__ne__» ⟨[.ref x, .ref y], []⟩) Q E s := by
  unfold Builtin.«object.__ne__»
  repeat (first
    | with_reducible refine wpAny_cRoomFor hu ?_
    | (refine wpAny_bind (m := callSpecialIfBound? (.ref x) (Str.ofString "__eq__") [.ref y])
        (ifBound_K X I hs hf (wpAny_mono hcall (fun r s' hr => by
          obtain ⟨b, rfl, hq⟩ := hr
          repeat (first | exact hq | exact wpAny_pure hq | exact wpAny_truthy_bool hq | (refine wpAny_bind (m := truthy (.bool _)) (wpAny_truthy_bool ?_)) | wp_step)) fun _ _ e => e)))
    | wp_step)
theorem ne_rich (X : K.In s.heap) (I : InstAt s.heap x ox C od) {oy : Obj} {ody : Option Obj} (J : InstAt s.heap y oy C ody) (hn : findIn K (.ref C) "__ne__" = some (some (.builtin "object.__ne__"))) (hm : mroIn K C (.type "object") = some true)
    (hs : findIn K (.ref C) "__eq__" = some (some (.ref f))) (hf : isFn K (.ref f) = true) (hu : A.units + 1 < cLine) {Q : Value → Shared → Prop}
    (hcall : wpAny (model prog w) A.in1 (call (.ref f) [.ref x, .ref y]) (fun v s' => ∃ b, v = .bool b ∧ Q (.bool (!b)) s') E s) :
    wpAny (model prog w) A (richCompare .NotEq (.ref x) (.ref y)) Q E s := by
  have bc : wpAny (model prog w) A (call (.builtin "object.__ne__") [.ref x, .ref y]) (fun v s' => ∃ b, v = .bool b ∧ Q (.bool b) s') E s := by
    refine wpAny_call (codeAny_call_builtin F.slot_object_ne.plain F.cmpEntry_ne (ne_check X I hm (ne_entry (A := A.in1) X I hs hf hu (wpAny_mono hcall (fun v s' hv => ?_) fun _ _ e => e))))
    obtain ⟨b, rfl, hq⟩ := hv
    exact ⟨b, rfl, !b, rfl, hq⟩
  have fin : wpAny (model prog w) A (call (.builtin "object.__ne__") ([.ref x] ++ [.ref y]) >>= fun v => pure (some v)) (fun a s' => ∃ b, a = some (.bool b) ∧ Q (.bool b) s') E s := wpAny_bind (wpAny_mono bc (fun v s' ⟨b, e, q⟩ => wpAny_pure ⟨b, by rw [e], q⟩) fun _ _ h' => h')
  have fin2 : wpAny (model prog w) A (callSpecialIfBound? (.ref x) "__ne__" [.ref y]) (fun a s' => ∃ b, a = some (.bool b) ∧ Q (.bool b) s') E s := by
    simp only [callSpecialIfBound?, bindSpecialIfBound?]
    refine wpAny_holding (wpAny_bind (wpAny_bind (wpAny_bind (I.type.here ((looks_findIn X hn).here ?_)))))
    simp only [F.slot_object_ne.bind]
    refine wpAny_bind (wpAny_askSetting (wpAny_ite ?_))
    split
    · exact wpAny_bind (wpAny_pure (wpAny_pure (by exact fin)))
    · exact wpAny_tryCatch (wpAny_bind (wpAny_pure (wpAny_pure (by exact fin))))
  have one : wpAny (model prog w) A (tryCompare (.ref x) (cmpInfo .NotEq).2.1 (.ref y)) (fun r s' => ∃ v, r = some v ∧ Q v s') E s := by
    unfold tryCompare
    refine wpAny_bind (wpAny_mono fin2 (fun r s' z => ?_) fun _ _ e => e)
    obtain ⟨b, rfl, q⟩ := z
    exact wpAny_pure ⟨_, rfl, q⟩
  have X := X
  unfold richCompare
  simp only [oneThing_ref]
  refine wpAny_holding (wpAny_bind (wpAny_cRoomFor (Nat.lt_of_succ_lt hu) ?_))
  refine wpAny_bind (I.type.here (wpAny_bind (J.type.here ?_)))
  rw [show (Value.ref C != Value.ref C) = false from by simp]
  simp only [Bool.false_eq_true, if_false]
  refine wpAny_bind (wpAny_pure ?_)
  simp only [Bool.false_eq_true, if_false]
  refine wpAny_bind (wpAny_mono one (fun r s' z => ?_) fun _ _ e => e)
  obtain ⟨v, rfl, hq⟩ := z
  exact wpAny_pure hq
end
/-- x != y, both instances of the class at C, whose == promises sp -/
def rNeI (C : Addr) (sp : Sp) (E : XK) : R2 := fun x y H Q => ∃ a b dx dy fs gs, x = .ref a ∧ y = .ref b ∧ H a = some (.ins C dx fs) ∧ H b = some (.ins C dy gs) ∧ sp [.ref a, .ref b] H (fun v H' => ∃ k, v = .bl k ∧ Q (.bl (!k)) H') E
theorem op_neI {X : Cx} {CX : CXT} {C f : Addr} {n : Nat} {fd : FuncData} {ps : List Str} {sp : Sp} {E : XK} (F : FnOk X.prog X.w X.K X.mg X.base CX n f fd ps sp) (hr : Room (n + 1) X.A) (hx : Passes CX X E)
    (hn : PySem.W.findIn X.K (.ref C) "__ne__" = some (some (.builtin "object.__ne__"))) (hm : PySem.W.mroIn X.K C (.type "object") = some true)
    (hs : PySem.W.findIn X.K (.ref C) "__eq__" = some (some (.ref f))) (hf : PySem.W.isFn X.K (.ref f) = true) (hb : Binds X.K fd ps []) : OpR X (compareOp .NotEq) (rNeI C sp E) := by
  intro pins s σ H x y v u Q I rx ry h
  obtain ⟨a, b, dx, dy, fs, gs, rfl, rfl, ha, hb', hsp⟩ := h
  cases rx
  cases ry
  obtain ⟨mA, J, _⟩ := ins_get I.hok ha
  obtain ⟨mB, J', _⟩ := ins_get I.hok hb'
  obtain ⟨od, J, _⟩ := J.look
  obtain ⟨od', J', _⟩ := J'.look
  show wpAny (model X.prog X.w) X.A (richCompare .NotEq (.ref a) (.ref b)) (EP X pins σ Q) X.xe s
  refine ne_rich I.kIn J J' hn hm hs hf (by have := hr.un; omega) ?_
  have e0 : Env0 X.prog X.w X.K X.mg X.base X.A.in1 X.stack s H := by
    have e := I.env0
    exact ⟨e.frames, e.mod, e.bs, e.bsz, e.funs, e.frf, e.hok, e.bare⟩
  have hl := F.len _ _ _ _ hsp
  have r2 : Vals [V.ref a, V.ref b] [Value.ref a, Value.ref b] := .cons rfl (.cons rfl .nil)
  refine wpAny_call (codeAny_mono (F.run X.A.in1 X.stack s H ⟨[.ref a, .ref b], []⟩ [.ref a, .ref b] [.ref a, .ref b] _ E hr.in1 e0 (by
    have := hb s [.ref a, .ref b] I.kIn (by simpa using hl)
    simpa using this) r2 hsp) fun r s' hq => ?_)
  cases r with
  | error e => exact hx pins σ H s e s' I hq
  | ok fl =>
    cases fl with
    | ret w =>
      obtain ⟨z, H', I', rz, k, ez, q⟩ := I.after hq
      subst ez
      cases rz
      exact ⟨k, rfl, .bl (!k), H', I', rfl, q⟩
    | next => exact False.elim hq
    | brk => exact False.elim hq
    | cont => exact False.elim hq
end K15

-- part Base
set_option maxHeartbeats 4000000
/-! K15Base: the vocabulary of the promises. -/
namespace K15
open PySem PySem.Spec PyProof.Rows L2
/-! ### heaps -/
/-- all tuples stay -/
def TK (H H' : Hp) : Prop := ∀ b xs, H b = some (.tup xs) → H' b = some (.tup xs)
/-- all stays but what stands at a -/
def But (a : Addr) (H H' : Hp) : Prop := ∀ b o, H b = some o → b ≠ a → H' b = some o
section
variable {H H1 H2 H' : Hp} {a b p : Addr} {o : HO} {xs ys : List V}
theorem TK.refl : TK H H := fun _ _ h => h
theorem TK.trans (x : TK H H1) (y : TK H1 H2) : TK H H2 := fun c zs h => y c zs (x c zs h)
theorem stk (s : Same H H') : TK H H' := fun b xs h => s b _ h
theorem same_upd (h : H p = none) : Same H (upd H p o) := fun b x e => by
  rw [upd_ne (ne_of_none e h)]
  exact e
theorem But.refl : But a H H := fun _ _ h _ => h
theorem But.trans (x : But a H H1) (y : But a H1 H2) : But a H H2 := fun c u h hc => y c u (x c u h hc) hc
theorem sbut (s : Same H H') : But a H H' := fun b o h _ => s b o h
theorem But.upd (x : But a H H') : But a H (upd H' a o) := fun b u h hb => by
  rw [upd_ne hb]
  exact x b u h hb
theorem But.tk (x : But a H H') (h : H a = some (.lst ys)) : TK H H' := fun b xs e => x b _ e (ne_of e h (by intro q; cases q))
theorem But.tki {C dx : Addr} {fs : List (Str × V)} (x : But a H H') (h : H a = some (.ins C dx fs)) : TK H H' := fun b xs e => x b _ e (ne_of e h (by intro q; cases q))
theorem But.tkn (x : But a H H') (h : H a = none) : TK H H' := fun b xs e => x b _ e (ne_of_none e h)
theorem But.same (x : But a H H') (h : H a = none) : Same H H' := fun b o e => x b o e (ne_of_none e h)
theorem But.free (x : But a H H') (hb : b ≠ a) (h : H' b = none) : H b = none := by
  cases q : H b with
  | none => rfl
  | some o => rw [x b o q hb] at h; cases h
end
/-! ### tuples of ints, of tuples .. -/
def TI (H : Hp) (v : V) (ns : List Int) : Prop := ∃ a, v = .ref a ∧ H a = some (.tup (ns.map V.int))
def TL {α : Type} (P : Hp → V → α → Prop) (H : Hp) (v : V) (xs : List α) : Prop := ∃ a vs, v = .ref a ∧ H a = some (.tup vs) ∧ Paired (P H) vs xs
abbrev TII := TL TI
abbrev TIII := TL TII
theorem TI.tk {H H' : Hp} {v : V} {ns : List Int} (k : TK H H') (h : TI H v ns) : TI H' v ns := let ⟨a, e, q⟩ := h; ⟨a, e, k _ _ q⟩
theorem TL.tk {α : Type} {P : Hp → V → α → Prop} {H H' : Hp} (m : ∀ v x, P H v x → P H' v x) (k : TK H H') {v : V} {xs : List α} (h : TL P H v xs) : TL P H' v xs :=
  let ⟨a, vs, e, q, r⟩ := h; ⟨a, vs, e, k _ _ q, Paired.mapP r m⟩
theorem TII.tk {H H' : Hp} (k : TK H H') {v : V} {xs : List (List Int)} (h : TII H v xs) : TII H' v xs := TL.tk (fun _ _ => TI.tk k) k h
theorem TIII.tk {H H' : Hp} (k : TK H H') {v : V} {xs : List (List (List Int))} (h : TIII H v xs) : TIII H' v xs := TL.tk (fun _ _ => TII.tk k) k h
theorem paired_get {α : Type} {F : V → α → Prop} : ∀ {vs : List V} {xs : List α} {i : Nat} {v : V}, Paired F vs xs → vs[i]? = some v → ∃ x, xs[i]? = some x ∧ F v x
  | _, _, _, _, .nil, e => by simp at e
  | _, _, 0, _, .cons r _, e => by simp at e; subst e; exact ⟨_, rfl, r⟩
  | _, _, i + 1, v, .cons _ t, e => by
    obtain ⟨x, h1, h2⟩ := paired_get (i := i) (v := v) t (by simpa using e)
    exact ⟨x, by simpa using h1, h2⟩
theorem paired_get2 {α : Type} {F : V → α → Prop} : ∀ {vs : List V} {xs : List α} {i : Nat} {x : α}, Paired F vs xs → xs[i]? = some x → ∃ v, vs[i]? = some v ∧ F v x
  | _, _, _, _, .nil, e => by simp at e
  | _, _, 0, _, .cons r _, e => by simp at e; subst e; exact ⟨_, rfl, r⟩
  | _, _, i + 1, x, .cons _ t, e => by
    obtain ⟨v, h1, h2⟩ := paired_get2 (i := i) (x := x) t (by simpa using e)
    exact ⟨v, by simpa using h1, h2⟩
theorem paired_app {α : Type} {F : V → α → Prop} : ∀ {vs ws : List V} {xs ys : List α}, Paired F vs xs → Paired F ws ys → Paired F (vs ++ ws) (xs ++ ys)
  | _, _, _, _, .nil, s => s
  | _, _, _, _, .cons r t, s => .cons r (paired_app t s)
theorem paired_take {α : Type} {F : V → α → Prop} : ∀ {vs : List V} {xs : List α} (n : Nat), Paired F vs xs → Paired F (vs.take n) (xs.take n)
  | _, _, 0, _ => .nil
  | _, _, _ + 1, .nil => .nil
  | _, _, n + 1, .cons r t => .cons r (paired_take n t)
theorem paired_drop {α : Type} {F : V → α → Prop} : ∀ {vs : List V} {xs : List α} (n : Nat), Paired F vs xs → Paired F (vs.drop n) (xs.drop n)
  | _, _, 0, r => r
  | _, _, _ + 1, .nil => .nil
  | _, _, n + 1, .cons _ t => paired_drop n t
theorem paired_perm {α : Type} {F : V → α → Prop} {vs ws : List V} (p : ws.Perm vs) : ∀ {xs : List α}, Paired F vs xs → ∃ ys, Paired F ws ys ∧ ys.Perm xs := by
  induction p with
  | nil => intro xs h; exact ⟨xs, h, .refl _⟩
  | cons v _ ih =>
    intro xs h
    cases h with
    | cons r t =>
      obtain ⟨ys, h1, h2⟩ := ih t
      exact ⟨_ :: ys, .cons r h1, h2.cons _⟩
  | swap v w l =>
    intro xs h
    cases h with
    | cons r t =>
      cases t with
      | cons r2 t2 => exact ⟨_, .cons r2 (.cons r t2), .swap _ _ _⟩
  | trans _ _ ih1 ih2 =>
    intro xs h
    obtain ⟨ys, h1, h2⟩ := ih2 h
    obtain ⟨zs, h3, h4⟩ := ih1 h1
    exact ⟨zs, h3, h4.trans h2⟩
/-! ### as data -/
def dI (ns : List Int) : PyData := .tuple (ns.map .int)
def dII (xs : List (List Int)) : PyData := .tuple (xs.map dI)
def dIII (xs : List (List (List Int))) : PyData := .tuple (xs.map dII)
section
variable {K : PySem.W.Frag} {H : Hp}
theorem dpAll_int : ∀ ns : List Int, DpAll K H (ns.map V.int) (ns.map .int)
  | [] => .nil
  | n :: ns => .cons (.int n) (dpAll_int ns)
theorem TI.dp {v : V} {ns : List Int} (h : TI H v ns) : Dp K H v (dI ns) := by
  obtain ⟨a, rfl, e⟩ := h
  exact .tup (SqT.of e) (dpAll_int ns)
theorem dpAll_of {α : Type} {F : V → α → Prop} {d : α → PyData} (m : ∀ v x, F v x → Dp K H v (d x)) : ∀ {vs : List V} {xs : List α}, Paired F vs xs → DpAll K H vs (xs.map d)
  | _, _, .nil => .nil
  | _, _, .cons r t => .cons (m _ _ r) (dpAll_of m t)
theorem TII.dp {v : V} {xs : List (List Int)} (h : TII H v xs) : Dp K H v (dII xs) := by
  obtain ⟨a, vs, rfl, e, r⟩ := h
  exact .tup (SqT.of e) (dpAll_of (d := dI) (fun _ _ h => TI.dp h) r)
theorem TIII.dp {v : V} {xs : List (List (List Int))} (h : TIII H v xs) : Dp K H v (dIII xs) := by
  obtain ⟨a, vs, rfl, e, r⟩ := h
  exact .tup (SqT.of e) (dpAll_of (d := dII) (fun _ _ h => TII.dp h) r)
end
theorem eqvAll_map {α : Type} {d : α → PyData} [DecidableEq α] (h : ∀ x y, PyData.eqv (d x) (d y) = decide (x = y)) : ∀ xs ys : List α, PyData.eqvAll (xs.map d) (ys.map d) = decide (xs = ys)
  | [], [] => by simp [PyData.eqvAll]
  | [], y :: ys => by simp [PyData.eqvAll]
  | x :: xs, [] => by simp [PyData.eqvAll]
  | x :: xs, y :: ys => by
    show (PyData.eqv (d x) (d y) && PyData.eqvAll (xs.map d) (ys.map d)) = _
    rw [h, eqvAll_map h xs ys]
    by_cases h1 : x = y <;> by_cases h2 : xs = ys <;> simp [h1, h2]
theorem eqv_int (x y : Int) : PyData.eqv (.int x) (.int y) = decide (x = y) := by
  by_cases h : x = y <;> simp [PyData.eqv, h]
theorem eqv_dI (a b : List Int) : PyData.eqv (dI a) (dI b) = decide (a = b) := by
  show PyData.eqvAll (a.map .int) (b.map .int) = _
  exact eqvAll_map eqv_int a b
theorem eqv_dII (a b : List (List Int)) : PyData.eqv (dII a) (dII b) = decide (a = b) := by
  show PyData.eqvAll (a.map dI) (b.map dI) = _
  exact eqvAll_map eqv_dI a b
theorem eqv_dIII (a b : List (List (List Int))) : PyData.eqv (dIII a) (dIII b) = decide (a = b) := by
  show PyData.eqvAll (a.map dII) (b.map dII) = _
  exact eqvAll_map eqv_dII a b
theorem lay_all {α : Type} {d : α → PyData} (h : ∀ x, (d x).canLay0 = true) : ∀ xs : List α, PyData.canLayAll0 (xs.map d) = true
  | [] => by simp [PyData.canLayAll0]
  | x :: xs => by simp [PyData.canLayAll0, h x, lay_all h xs]
theorem dep_all {α : Type} {d : α → PyData} {k : Nat} (h : ∀ x, (d x).depth ≤ k) : ∀ xs : List α, PyData.depthAll (xs.map d) ≤ k
  | [] => by simp [PyData.depthAll]
  | x :: xs => by
    have h1 := dep_all h xs
    have h2 := h x
    simp only [List.map_cons, PyData.depthAll]
    omega
theorem lay_I (a : List Int) : (dI a).canLay0 = true := by simp only [dI, PyData.canLay0]; exact lay_all (fun x => by simp [PyData.canLay0]) a
theorem lay_II (a : List (List Int)) : (dII a).canLay0 = true := by simp only [dII, PyData.canLay0]; exact lay_all lay_I a
theorem lay_III (a : List (List (List Int))) : (dIII a).canLay0 = true := by simp only [dIII, PyData.canLay0]; exact lay_all lay_II a
theorem dep_I (a : List Int) : (dI a).depth ≤ 1 := by
  simp only [dI, PyData.depth]
  have := dep_all (d := PyData.int) (k := 0) (fun x => by simp [PyData.depth]) a
  omega
theorem dep_II (a : List (List Int)) : (dII a).depth ≤ 2 := by
  simp only [dII, PyData.depth]
  have := dep_all dep_I a
  omega
theorem dep_III (a : List (List (List Int))) : (dIII a).depth ≤ 3 := by
  simp only [dIII, PyData.depth]
  have := dep_all dep_II a
  omega
theorem shp_mk {d : PyData} (h1 : d.canLay0 = true) (h2 : d.depth ≤ 64) : SeqAt.shaped d = true := by
  show (d.canLay0 && decide (d.depth ≤ 64)) = true
  rw [h1, decide_eq_true h2]
  rfl
theorem shp_I (a : List Int) : SeqAt.shaped (dI a) = true := shp_mk (lay_I a) (by have := dep_I a; omega)
theorem shp_II (a : List (List Int)) : SeqAt.shaped (dII a) = true := shp_mk (lay_II a) (by have := dep_II a; omega)
theorem shp_III (a : List (List (List Int))) : SeqAt.shaped (dIII a) = true := shp_mk (lay_III a) (by have := dep_III a; omega)
/-- a list of tuples of ints -/
def dL (xs : List (List Int)) : PyData := .list (xs.map dI)
theorem shp_L (a : List (List Int)) : SeqAt.shaped (dL a) = true := shp_mk (by simp only [dL, PyData.canLay0]; exact lay_all lay_I a) (by
  simp only [dL, PyData.depth]
  have := dep_all dep_I a
  omega)
/-! ### parts, as a tuple of three -/
/-- the three parts stand at s, m, c -/
structure P3 (H : Hp) (p : Parts) (s m c : V) : Prop where
  s : TI H s p.sz
  m : TIII H m p.mv
  c : TII H c p.cl
theorem P3.tk {H H' : Hp} {p : Parts} {s m c : V} (k : TK H H') (h : P3 H p s m c) : P3 H' p s m c := ⟨h.s.tk k, TIII.tk k h.m, TII.tk k h.c⟩
def PT3 (H : Hp) (v : V) (p : Parts) : Prop := ∃ a s m c, v = .ref a ∧ H a = some (.tup [s, m, c]) ∧ P3 H p s m c
theorem PT3.tk {H H' : Hp} {p : Parts} {v : V} (k : TK H H') (h : PT3 H v p) : PT3 H' v p := let ⟨a, s, m, c, e, q, r⟩ := h; ⟨a, s, m, c, e, k _ _ q, r.tk k⟩
def dP (p : Parts) : PyData := .tuple [dI p.sz, dIII p.mv, dII p.cl]
theorem PT3.dp {K : PySem.W.Frag} {H : Hp} {v : V} {p : Parts} (h : PT3 H v p) : Dp K H v (dP p) := by
  obtain ⟨a, s, m, c, rfl, e, r⟩ := h
  exact .tup (SqT.of e) (.cons r.s.dp (.cons (TIII.dp r.m) (.cons (TII.dp r.c) .nil)))
theorem shp_P (p : Parts) : SeqAt.shaped (dP p) = true := shp_mk (by simp [dP, PyData.canLay0, PyData.canLayAll0, lay_I, lay_II, lay_III]) (by
  have h1 := dep_I p.sz
  have h2 := dep_III p.mv
  have h3 := dep_II p.cl
  simp only [dP, PyData.depth, PyData.depthAll]
  omega)
instance : DecidableEq Parts := fun p q => by
  obtain ⟨a, b, c, m, l⟩ := p
  obtain ⟨a', b', c', m', l'⟩ := q
  exact decidable_of_iff (a = a' ∧ b = b' ∧ c = c' ∧ m = m' ∧ l = l') (by simp)
theorem eqv_P (p q : Parts) : PyData.eqv (dP p) (dP q) = decide (p = q) := by
  have e : PyData.eqv (dP p) (dP q) = (PyData.eqv (dI p.sz) (dI q.sz) && (PyData.eqv (dIII p.mv) (dIII q.mv) && (PyData.eqv (dII p.cl) (dII q.cl) && true))) := by simp only [dP, PyData.eqv, PyData.eqvAll]
  rw [e, eqv_dI, eqv_dII, eqv_dIII]
  obtain ⟨a, b, c, m, l⟩ := p
  obtain ⟨a', b', c', m', l'⟩ := q
  by_cases h : (Parts.mk a b c m l) = Parts.mk a' b' c' m' l'
  · rw [decide_eq_true h]
    cases h
    simp
  · rw [decide_eq_false h]
    simp only [Parts.mk.injEq, not_and] at h
    by_cases h1 : a = a' <;> by_cases h2 : b = b' <;> by_cases h3 : c = c' <;> by_cases h4 : m = m' <;> simp_all [Parts.sz]
/-! ### instances -/
def ofF (s m c g : V) : List (Str × V) := [("sizes", s), ("moves", m), ("closings", c), ("kept_goals", g)]
theorem lk_ne {a b : Str} {v : V} {r : List (Str × V)} (h : (a == b) = false) : List.lookup a ((b, v) :: r) = List.lookup a r := by simp only [List.lookup, h]
theorem lk_eq {a : Str} {v : V} {r : List (Str × V)} : List.lookup a ((a, v) :: r) = some v := by simp only [List.lookup, beq_self_eq_true]
theorem pf_ne {a b : Str} {v w : V} {r : List (Str × V)} (h : ¬ (b = a)) : putF a v ((b, w) :: r) = (b, w) :: putF a v r := by
  show (if b = a then _ else _) = _
  rw [if_neg h]
theorem pf_eq {a : Str} {v w : V} {r : List (Str × V)} : putF a v ((a, w) :: r) = (a, v) :: r := by
  show (if a = a then _ else _) = _
  rw [if_pos rfl]
section
variable {s m c g : V}
theorem of_sizes : (ofF s m c g).lookup ("sizes" : Str) = some s := lk_eq
theorem of_moves : (ofF s m c g).lookup ("moves" : Str) = some m := (lk_ne (by decide +kernel)).trans lk_eq
theorem of_kept : (ofF s m c g).lookup ("kept_goals" : Str) = some g := (lk_ne (by decide +kernel)).trans ((lk_ne (by decide +kernel)).trans ((lk_ne (by decide +kernel)).trans lk_eq))
theorem of_closings : (ofF s m c g).lookup ("closings" : Str) = some c := (lk_ne (by decide +kernel)).trans ((lk_ne (by decide +kernel)).trans lk_eq)
end
/-- an office with these parts stands at a -/
def OffAt (C : Addr) (H : Hp) (v : V) (p : Parts) : Prop := ∃ a dx s m c g, v = .ref a ∧ H a = some (.ins C dx (ofF s m c g)) ∧ P3 H p s m c
theorem OffAt.same {C : Addr} {H H' : Hp} {v : V} {p : Parts} (k : Same H H') (h : OffAt C H v p) : OffAt C H' v p := let ⟨a, dx, s, m, c, g, e, q, r⟩ := h; ⟨a, dx, s, m, c, g, e, k _ _ q, r.tk (stk k)⟩
def lnF (r : Addr) (k : Int) : List (Str × V) := [("rows", .ref r), ("rest", .str ("" : Str)), ("at", .int k)]
section
variable {r : Addr} {k j : Int}
theorem ln_rows : (lnF r k).lookup ("rows" : Str) = some (.ref r) := lk_eq
theorem ln_rest : (lnF r k).lookup ("rest" : Str) = some (.str ("" : Str)) := (lk_ne (by decide +kernel)).trans lk_eq
theorem ln_at : (lnF r k).lookup ("at" : Str) = some (.int k) := (lk_ne (by decide +kernel)).trans ((lk_ne (by decide +kernel)).trans lk_eq)
theorem ln_put : putF ("at" : Str) (.int j) (lnF r k) = lnF r j := by
  unfold lnF
  rw [pf_ne (by decide +kernel), pf_ne (by decide +kernel), pf_eq]
end
/-! ### rules with the written part named (within a comprehension) -/
def rLenS (K : PySem.W.Frag) : List V → Hp → VK → Prop := fun xs H Q => ∃ p ys, xs = [.ref p] ∧ (SqL K H p ys ∨ SqT K H p ys) ∧ Q (.int ys.length) H
/-! ### comprehensions without a test -/
theorem lc_tupY {K : PySem.W.Frag} {a : Addr} {xs : List V} {g : TG} {te : TE} {vs : List Nat} {σ : L2.St} {H1 : Hp} {D : Addr} {Qd : Hp → Prop} (Pv : Nat → Hp → Prop) (h0 : Pv 0 (upd H1 D (.lst []))) (hl : ∀ i H, i ≤ xs.length → Pv i H → SqT K H a xs)
    (hs : ∀ i x H, xs[i]? = some x → Pv i H → g x (wipe σ vs) H fun σ2 H2 => wipe σ2 vs = wipe σ vs ∧ te σ2 H2 fun y H4 => ∃ acc, H4 D = some (.lst acc) ∧ acc.length < sizeLine ∧ Pv (i + 1) (upd H4 D (.lst (acc ++ [y])))) (hd : ∀ H, Pv xs.length H → Qd H) :
    ∃ W : Nat → Nat → Hp → Prop, (∃ m, W 0 m (upd H1 D (.lst []))) ∧ ∀ i m H, W i m H →
      ((Itt K a).stop i H ∧ Qd H) ∨ ((Itt K a).go i H ∧ ∃ Nx : Hp → Prop, (∀ H', Nx H' → ∃ m', m' < m ∧ W (i + 1) m' H') ∧ ∀ x H', (Itt K a).yld i H x H' → g x (wipe σ vs) H' fun σ2 H2 => wipe σ2 vs = wipe σ vs ∧ tYes σ2 H2 fun b H3 =>
        if b = true then te σ2 H3 fun y H4 => ∃ acc, H4 D = some (.lst acc) ∧ acc.length < sizeLine ∧ Nx (upd H4 D (.lst (acc ++ [y]))) else Nx H3) := lc_tup (tt := tYes) Pv h0 hl hs hd
theorem lc_listY {K : PySem.W.Frag} {a : Addr} {xs : List V} {g : TG} {te : TE} {vs : List Nat} {σ : L2.St} {H1 : Hp} {D : Addr} {Qd : Hp → Prop} (Pv : Nat → Hp → Prop) (h0 : Pv 0 (upd H1 D (.lst []))) (hl : ∀ i H, i ≤ xs.length → Pv i H → SqL K H a xs)
    (hs : ∀ i x H, xs[i]? = some x → Pv i H → g x (wipe σ vs) H fun σ2 H2 => wipe σ2 vs = wipe σ vs ∧ te σ2 H2 fun y H4 => ∃ acc, H4 D = some (.lst acc) ∧ acc.length < sizeLine ∧ Pv (i + 1) (upd H4 D (.lst (acc ++ [y])))) (hd : ∀ H, Pv xs.length H → Qd H) :
    ∃ W : Nat → Nat → Hp → Prop, (∃ m, W 0 m (upd H1 D (.lst []))) ∧ ∀ i m H, W i m H →
      ((Itl K a).stop i H ∧ Qd H) ∨ ((Itl K a).go i H ∧ ∃ Nx : Hp → Prop, (∀ H', Nx H' → ∃ m', m' < m ∧ W (i + 1) m' H') ∧ ∀ x H', (Itl K a).yld i H x H' → g x (wipe σ vs) H' fun σ2 H2 => wipe σ2 vs = wipe σ vs ∧ tYes σ2 H2 fun b H3 =>
        if b = true then te σ2 H3 fun y H4 => ∃ acc, H4 D = some (.lst acc) ∧ acc.length < sizeLine ∧ Nx (upd H4 D (.lst (acc ++ [y]))) else Nx H3) := lc_list (tt := tYes) Pv h0 hl hs hd
theorem lc_rangeY {lo : Int} {n : Nat} {g : TG} {te : TE} {vs : List Nat} {σ : L2.St} {H1 : Hp} {D : Addr} {Qd : Hp → Prop} (Pv : Nat → Hp → Prop) (h0 : Pv 0 (upd H1 D (.lst []))) 
    (hs : ∀ i H, i < n → Pv i H → g (.int (lo + i)) (wipe σ vs) H fun σ2 H2 => wipe σ2 vs = wipe σ vs ∧ te σ2 H2 fun y H4 => ∃ acc, H4 D = some (.lst acc) ∧ acc.length < sizeLine ∧ Pv (i + 1) (upd H4 D (.lst (acc ++ [y])))) (hd : ∀ H, Pv n H → Qd H) :
    ∃ W : Nat → Nat → Hp → Prop, (∃ m, W 0 m (upd H1 D (.lst []))) ∧ ∀ i m H, W i m H →
      ((Itr lo n).stop i H ∧ Qd H) ∨ ((Itr lo n).go i H ∧ ∃ Nx : Hp → Prop, (∀ H', Nx H' → ∃ m', m' < m ∧ W (i + 1) m' H') ∧ ∀ x H', (Itr lo n).yld i H x H' → g x (wipe σ vs) H' fun σ2 H2 => wipe σ2 vs = wipe σ vs ∧ tYes σ2 H2 fun b H3 =>
        if b = true then te σ2 H3 fun y H4 => ∃ acc, H4 D = some (.lst acc) ∧ acc.length < sizeLine ∧ Nx (upd H4 D (.lst (acc ++ [y]))) else Nx H3) := lc_range (tt := tYes) Pv h0 hs hd
/-! ### defs -/
section
variable {P : Program} {w : World} {K : PySem.W.Frag} {mg : Str → Option Value} {base : Heap}
/-- THE RULE for a def of the module -/
theorem cal_mk {x : Str} {st : Stmt} {f : Addr} {N ps : List Str} {k : Nat} {sp : Sp} (F : ∃ fd, FnP K x x st f fd) (g : mg x = some (.ref f)) (S : FnScope N ps (defScope st)) (len : ∀ vs H Q E, sp vs H Q E → vs.length = ps.length)
    (hb : ∀ (kV doc pm : Value) (an : Option Addr) (cdv ct : Value) (us : List Value), us.length = ps.length → bindArgs (PySem.W.fnOf x x (defArgs st) (defBody st) (defScope st) .none kV doc pm an cdv ct) ⟨us, []⟩ = pure (ps.zip us))
    (body : ∀ (cdv : Value) (A : Around) (outer : List Env) (s : Shared) (H : Hp) (vs : List V) (Q : VK) (E : XK), Room k (A.deeper (envOfC x (defScope st) s.heap.objs.size f cdv)) → sp vs H Q E →
      ∃ t, PSs (cxOf CX0 P w K mg base N x (defScope st) f cdv A outer s H E).nox (defBody st) t ∧ t { nx := fun _ H' => Q .non H', rt := Q } (start N vs) H) : C8.Cal P w K mg base (k + 1) x sp [] := by
  obtain ⟨fd, F⟩ := F
  refine ⟨f, fd, ps, [], F.ok (CX := CX0) S len fun cdv A outer s H vs Q E hr h => ?_, g, F.kp, F.bindsN hb, .nil⟩
  obtain ⟨t, h1, h2⟩ := body cdv A outer s H vs Q E hr h
  exact ⟨t, h1.nox, h2⟩
/-- .. for a method of the class at C -/
theorem met_mk {x q : Str} {st : Stmt} {C f : Addr} {N ps : List Str} {k : Nat} {sp : Sp} (c : Cls K C) (m : Meth K C x f) (F : ∃ fd, FnP K x q st f fd) (S : FnScope N ps (defScope st)) (len : ∀ vs H Q E, sp vs H Q E → vs.length = ps.length)
    (hb : ∀ (kV doc pm : Value) (an : Option Addr) (cdv ct : Value) (us : List Value), us.length = ps.length → bindArgs (PySem.W.fnOf x q (defArgs st) (defBody st) (defScope st) .none kV doc pm an cdv ct) ⟨us, []⟩ = pure (ps.zip us))
    (body : ∀ (cdv : Value) (A : Around) (outer : List Env) (s : Shared) (H : Hp) (vs : List V) (Q : VK) (E : XK), Room k (A.deeper (envOfC q (defScope st) s.heap.objs.size f cdv)) → sp vs H Q E →
      ∃ t, PSs (cxOf CX0 P w K mg base N q (defScope st) f cdv A outer s H E).nox (defBody st) t ∧ t { nx := fun _ H' => Q .non H', rt := Q } (start N vs) H) : C8.Met P w K mg base (k + 1) C x sp [] := by
  obtain ⟨fd, F⟩ := F
  refine ⟨f, fd, ps, [], c, m, F.ok (CX := CX0) S len fun cdv A outer s H vs Q E hr h => ?_, F.bindsN hb, .nil⟩
  obtain ⟨t, h1, h2⟩ := body cdv A outer s H vs Q E hr h
  exact ⟨t, h1.nox, h2⟩
/-- .. for a class, by its __init__ -/
theorem mak_mk {x q : Str} {st : Stmt} {C f : Addr} {N ps : List Str} {k : Nat} {sp : Sp} (M : Mk K C f) (g : mg x = some (.ref C)) (F : ∃ fd, FnP K "__init__" q st f fd) (S : FnScope N ps (defScope st)) (len : ∀ vs H Q E, sp vs H Q E → vs.length = ps.length)
    (hb : ∀ (kV doc pm : Value) (an : Option Addr) (cdv ct : Value) (us : List Value), us.length = ps.length → bindArgs (PySem.W.fnOf "__init__" q (defArgs st) (defBody st) (defScope st) .none kV doc pm an cdv ct) ⟨us, []⟩ = pure (ps.zip us))
    (body : ∀ (cdv : Value) (A : Around) (outer : List Env) (s : Shared) (H : Hp) (vs : List V) (Q : VK) (E : XK), Room k (A.deeper (envOfC q (defScope st) s.heap.objs.size f cdv)) → sp vs H Q E →
      ∃ t, PSs (cxOf CX0 P w K mg base N q (defScope st) f cdv A outer s H E).nox (defBody st) t ∧ t { nx := fun _ H' => Q .non H', rt := Q } (start N vs) H) : C8.Mak P w K mg base (k + 1) x C sp [] := by
  obtain ⟨fd, F⟩ := F
  refine ⟨f, fd, ps, [], M, F.ok (CX := CX0) S len fun cdv A outer s H vs Q E hr h => ?_, g, F.bindsN hb, .nil⟩
  obtain ⟨t, h1, h2⟩ := body cdv A outer s H vs Q E hr h
  exact ⟨t, h1.nox, h2⟩
end
end K15

-- part A
set_option maxHeartbeats 4000000
/-! K15A: checks. -/
namespace K15
open PySem PySem.Spec PyProof.Rows L2 C8
section
variable {P : Program} {w : World} {K : PySem.W.Frag} {mg : Str → Option Value} {base : Heap}
theorem kb_int_int : kitB "int" "int" = some true := by decide +kernel
theorem kb_int_bool : kitB "int" "bool" = some false := by decide +kernel
theorem kb_tup_tup : kitB "tuple" "tuple" = some true := by decide +kernel
theorem kb_str_str : kitB "str" "str" = some true := by decide +kernel
/-! ### is_integer -/
def spInt : Sp := fun vs H Q _ => ∃ i : Int, vs = [.int i] ∧ Q (.bl true) H
theorem sc_is_integer : FnScope ["thing"] ["thing"] (defScope s_is_integer) := ⟨rfl, rfl, rfl, by decide +kernel, rfl, by decide +kernel, by decide +kernel⟩
theorem ok_is_integer (T : Tx K mg) : Cal P w K mg base 1 "is_integer" spInt [] := by
  refine cal_mk T.f_is_integer T.g_is_integer sc_is_integer (fun vs H Q E h => ?_) (fun _ _ _ _ _ _ us hl => match us, hl with | [_], _ => rfl) (fun cdv A outer s H vs Q E hr h => ?_)
  · obtain ⟨i, rfl, _⟩ := h
    rfl
  · obtain ⟨i, rfl, q⟩ := h
    refine ⟨_, pss_one (ps_ret (pe_and (pe_callB call_isi (by rfl) T.m_isinstance (by decide +kernel) (pa_cons (pv 0) (pa_cons (pe_bltn (v := .ty "int") (by rfl) T.m_int (by decide +kernel) rfl) pa_nil)))
      (pe_one (pe_not (pe_callB call_isi (by rfl) T.m_isinstance (by decide +kernel) (pa_cons (pv 0) (pa_cons (pe_bltn (v := .ty "bool") (by rfl) T.m_bool (by decide +kernel) rfl) pa_nil))))))), ?_⟩
    refine ⟨_, rfl, _, _, _, _, _, rfl, .ty _, .base (.int i), kit_ty kb_int_int, true, rfl, iteT ?_⟩
    exact ⟨_, rfl, _, _, _, _, _, rfl, .ty _, .base (.int i), kit_ty kb_int_bool, false, rfl, q⟩
/-! ### is_within -/
def spWithin : Sp := fun vs H Q _ => ∃ i a b : Int, vs = [.int i, .int a, .int b] ∧ Q (.bl (decide (a ≤ i ∧ i ≤ b))) H
theorem sc_is_within : FnScope ["thing", "least", "most"] ["thing", "least", "most"] (defScope s_is_within) := ⟨rfl, rfl, rfl, by decide +kernel, rfl, by decide +kernel, by decide +kernel⟩
theorem ok_is_within (T : Tx K mg) : Cal P w K mg base 2 "is_within" spWithin [] := by
  refine cal_mk T.f_is_within T.g_is_within sc_is_within (fun vs H Q E h => ?_) (fun _ _ _ _ _ _ us hl => match us, hl with | [_, _, _], _ => rfl) (fun cdv A outer s H vs Q E hr h => ?_)
  · obtain ⟨i, a, b, rfl, _⟩ := h
    rfl
  · obtain ⟨i, a, b, rfl, q⟩ := h
    refine ⟨_, pss_one (ps_ret (pe_and (pe_c (ok_is_integer T) hr (by decide) (by rfl) (pa_cons (pv 0) pa_nil)) (pe_one (pe_chain op_le op_le (pv 1) (pv 0) (pv 2))))), ?_⟩
    refine ⟨_, rfl, i, rfl, true, rfl, iteT ?_⟩
    refine ⟨_, rfl, _, rfl, _, _, rfl, rfl, _, rfl, ?_⟩
    by_cases h1 : a ≤ i
    · rw [decide_eq_true h1]
      refine iteT ⟨_, rfl, _, _, rfl, rfl, ?_⟩
      have e : decide (a ≤ i ∧ i ≤ b) = decide (i ≤ b) := by simp [h1]
      rw [e] at q
      exact q
    · rw [decide_eq_false h1]
      have e : decide (a ≤ i ∧ i ≤ b) = false := by simp [h1]
      rw [e] at q
      exact iteF q
/-! ### is_triple -/
def spTriple : Sp := fun vs H Q _ => ∃ (a : Addr) (xs : List V), vs = [.ref a] ∧ H a = some (.tup xs) ∧ xs.length = 3 ∧ Q (.bl true) H
theorem sc_is_triple : FnScope ["thing"] ["thing"] (defScope s_is_triple) := ⟨rfl, rfl, rfl, by decide +kernel, rfl, by decide +kernel, by decide +kernel⟩
theorem ok_is_triple (T : Tx K mg) : Cal P w K mg base 1 "is_triple" spTriple [] := by
  refine cal_mk T.f_is_triple T.g_is_triple sc_is_triple (fun vs H Q E h => ?_) (fun _ _ _ _ _ _ us hl => match us, hl with | [_], _ => rfl) (fun cdv A outer s H vs Q E hr h => ?_)
  · obtain ⟨i, xs, rfl, _⟩ := h
    rfl
  · obtain ⟨a, xs, rfl, ha, hl, q⟩ := h
    refine ⟨_, pss_one (ps_ret (pe_and (pe_callB call_isi (by rfl) T.m_isinstance (by decide +kernel) (pa_cons (pv 0) (pa_cons (pe_bltn (v := .ty "tuple") (by rfl) T.m_tuple (by decide +kernel) rfl) pa_nil)))
      (pe_one (pe_cmpR op_eq (pe_callB call_len_seq (by rfl) T.m_len PySem.boot_len (pa_cons (pv 0) pa_nil)) pe_int (nomark _))))), ?_⟩
    refine ⟨_, rfl, _, _, _, _, _, rfl, .ty _, .base (.tup ha), kit_ty kb_tup_tup, true, rfl, iteT ?_⟩
    refine ⟨_, rfl, a, xs, rfl, .inr (SqT.of ha), rfl, ?_⟩
    rw [hl]
    exact q
/-! ### is_string_of -/
def spStrOf : Sp := fun vs H Q _ => ∃ z y : Str, vs = [.str z, .str y] ∧ (∀ c ∈ TL.tl z, c ∈ TL.tl y) ∧ Q (.bl true) H
theorem sc_is_string_of : FnScope ["thing", "signs", "sign"] ["thing", "signs"] (defScope s_is_string_of) := ⟨rfl, rfl, rfl, by decide +kernel, rfl, by decide +kernel, by decide +kernel⟩
theorem ok_is_string_of (T : Tx K mg) : Cal P w K mg base 1 "is_string_of" spStrOf [] := by
  refine cal_mk T.f_is_string_of T.g_is_string_of sc_is_string_of (fun vs H Q E h => ?_) (fun _ _ _ _ _ _ us hl => match us, hl with | [_, _], _ => rfl) (fun cdv A outer s H vs Q E hr h => ?_)
  · obtain ⟨z, y, rfl, _⟩ := h
    rfl
  · obtain ⟨z, y, rfl, hz, q⟩ := h
    refine ⟨_, pss_cons (ps_if (pt_not (pt_val (pe_callB call_isi (by rfl) T.m_isinstance (by decide +kernel) (pa_cons (pv 0) (pa_cons (pe_bltn (v := .ty "str") (by rfl) T.m_str (by decide +kernel) rfl) pa_nil))))) (pss_one (ps_ret pe_bl)) pss_nil)
      (pss_cons (ps_for PassesOwn.never rfl (pi_str (pv 0)) (pg_name (i := 2) sc_is_string_of.nd rfl (.inl rfl))
        (pss_one (ps_if (pt_cmpR op_notIn_sign (pv 2) (pv 1) rfl) (pss_one (ps_ret pe_bl)) pss_nil)))
      (pss_one (ps_ret pe_bl))), ?_⟩
    refine ⟨_, rfl, _, _, _, _, _, rfl, .ty _, .base (.str z), kit_ty kb_str_str, true, rfl, iteF ?_⟩
    refine ⟨_, rfl, z, rfl, ?_⟩
    refine for_it (walk_str (z := z)) (fun i σ H' => ∃ v, σ = [some (.str z), some (.str y), v] ∧ H' = H) ⟨none, rfl, rfl⟩ (fun _ _ _ _ _ => trivial) ?_ ?_
    · rintro i x σ H1 H2 hi ⟨v, rfl, rfl⟩ ⟨rfl, c, hc, rfl⟩
      have hm : c ∈ TL.tl z := by
        have h1 : z.cps.toList[i]? = some c := by simpa using hc
        exact List.mem_of_getElem? h1
      refine ⟨_, rfl, _, rfl, c, y, rfl, rfl, _, rfl, ?_⟩
      rw [decide_eq_true (hz c hm)]
      exact iteF ⟨_, rfl, rfl⟩
    · rintro σ H1 ⟨v, rfl, rfl⟩
      exact q
/-! ### are_ascending -/
/-- ascending ints, or ascending tuples of ints of one length -/
def AscV (H : Hp) (xs : List V) : Prop := (∃ ns : List Int, xs = ns.map V.int ∧ ns.Pairwise (· < ·)) ∨
  ∃ ms : List (List Int), Paired (TI H) xs ms ∧ (∀ m ∈ ms, m.length = 4) ∧ ms.Pairwise fun x y => HT.lexLt x y = true
def spAsc : Sp := fun vs H Q _ => ∃ (a : Addr) (xs : List V), vs = [.ref a] ∧ H a = some (.tup xs) ∧ xs.length ≤ 1000 ∧ AscV H xs ∧ Q (.bl true) H
theorem pw_get {α : Type} {R : α → α → Prop} {l : List α} (h : l.Pairwise R) {i : Nat} {x y : α} (hx : l[i]? = some x) (hy : l[i + 1]? = some y) : R x y := by
  obtain ⟨h1, e1⟩ := List.getElem?_eq_some_iff.mp hx
  obtain ⟨h2, e2⟩ := List.getElem?_eq_some_iff.mp hy
  rw [← e1, ← e2]
  exact List.pairwise_iff_getElem.mp h i (i + 1) h1 h2 (Nat.lt_succ_self i)
theorem ascV_step {K : PySem.W.Frag} {H : Hp} {xs : List V} (h : AscV H xs) {i : Nat} {x y : V} (hx : xs[i]? = some x) (hy : xs[i + 1]? = some y) (Q : VK) (q : Q (.bl false) H) :
    (rI0 fun i j => .bl (decide (j ≤ i))) x y H Q ∨ rGeT K x y H Q := by
  rcases h with ⟨ns, rfl, hp⟩ | ⟨ms, r, hl, hp⟩
  · rw [List.getElem?_map] at hx hy
    obtain ⟨m, hm, rfl⟩ := Option.map_eq_some_iff.mp hx
    obtain ⟨n, hn, rfl⟩ := Option.map_eq_some_iff.mp hy
    have lt : m < n := pw_get hp hm hn
    refine .inl ⟨m, n, rfl, rfl, ?_⟩
    show Q (.bl (decide (n ≤ m))) H
    rw [decide_eq_false (by omega)]
    exact q
  · obtain ⟨m, hm, a, rfl, ha⟩ := paired_get r hx
    obtain ⟨n, hn, b, rfl, hb⟩ := paired_get r hy
    have lt : HT.lexLt m n = true := pw_get hp hm hn
    refine .inr ⟨a, b, m, n, rfl, rfl, SqT.of ha, SqT.of hb, ?_, ?_⟩
    · rw [hl m (List.mem_of_getElem? hm), hl n (List.mem_of_getElem? hn)]
    · rw [lt]
      exact q
theorem sc_are_ascending : FnScope ["things", "at"] ["things"] (defScope s_are_ascending) := ⟨rfl, rfl, rfl, by decide +kernel, rfl, by decide +kernel, by decide +kernel⟩
theorem ok_are_ascending (T : Tx K mg) : Cal P w K mg base 1 "are_ascending" spAsc [] := by
  refine cal_mk T.f_are_ascending T.g_are_ascending sc_are_ascending (fun vs H Q E h => ?_) (fun _ _ _ _ _ _ us hl => match us, hl with | [_], _ => rfl) (fun cdv A outer s H vs Q E hr h => ?_)
  · obtain ⟨a, xs, rfl, _⟩ := h
    rfl
  · obtain ⟨a, xs, rfl, ha, hl, hA, q⟩ := h
    have hu : A.units + 3 < cLine := by
      have := hr.un
      have e : (A.deeper (envOfC "are_ascending" (defScope s_are_ascending) s.heap.objs.size (He.ga K "are_ascending") cdv)).units = A.units + 3 := rfl
      omega
    refine ⟨_, pss_cons (ps_for PassesOwn.never rfl (pi_range2 (by rfl) T.m_range (pa_cons pe_int (pa_cons (pe_callB call_len_seq (by rfl) T.m_len PySem.boot_len (pa_cons (pv 0) pa_nil)) pa_nil))) (pg_name (i := 1) sc_are_ascending.nd rfl (.inl rfl))
        (pss_one (ps_if (pt_cmpR (OpR.or op_ge (op_geT hr.units0)) (pe_ix ix_tup (pv 0) (pe_op op_sub (pv 1) pe_int) (fun _ _ => rfl)) (pe_ix ix_tup (pv 0) (pv 1) (fun _ _ => rfl)) (nomark _)) (pss_one (ps_ret pe_bl)) pss_nil)))
      (pss_one (ps_ret pe_bl)), ?_⟩
    refine ⟨_, rfl, a, xs, rfl, .inr (SqT.of ha), 1, _, rfl, ⟨by decide, by decide, by omega, by omega⟩, ?_⟩
    refine for_range (lo := 1) (n := ((xs.length : Int) - 1).toNat) (fun i σ H' => ∃ v, σ = [some (.ref a), v] ∧ H' = H) ⟨none, rfl, rfl⟩ ?_ ?_
    · rintro i σ H' hi ⟨v, rfl, rfl⟩
      have h1 : i < xs.length := by omega
      have h2 : i + 1 < xs.length := by omega
      refine ⟨_, rfl, _, rfl, _, _, rfl, rfl, a, xs, _, xs[i], rfl, rfl, SqT.of ha, at_of (j := i) (by omega) (List.getElem?_eq_getElem h1), _, rfl, _, rfl, a, xs, _, xs[i + 1], rfl, rfl, SqT.of ha, at_of (j := i + 1) (by omega) (List.getElem?_eq_getElem h2), ?_⟩
      exact ascV_step hA (List.getElem?_eq_getElem h1) (List.getElem?_eq_getElem h2) _ ⟨false, rfl, iteF ⟨_, rfl, rfl⟩⟩
    · rintro σ H' ⟨v, rfl, rfl⟩
      exact q
/-! ### are_sizes -/
/-- all([..]) of a comprehension that gave n times True -/
theorem all_rep {n : Nat} : (List.replicate n true).all id = true := by simp
theorem repl_len {n : Nat} (h : n ≤ 1000) : ((List.replicate n true).map V.bl).length < sizeLine := by
  rw [List.length_map, List.length_replicate]
  exact small1000 h
theorem all_true {D : Addr} {H : Hp} {n : Nat} {Q : VK} (h : H D = some (.lst ((List.replicate n true).map V.bl))) (q : Q (.bl true) H) : rAll K [.ref D] H Q := by
  refine ⟨D, List.replicate n true, rfl, SqL.of h, ?_⟩
  have e : (List.replicate n true).all id = true := by simp
  rw [e]
  exact q
def spSizes : Sp := fun vs H Q _ => ∃ (v : V) (a b c : Int), vs = [v] ∧ TI H v [a, b, c] ∧ (1 ≤ a ∧ a ≤ 4) ∧ (1 ≤ b ∧ b ≤ 4) ∧ (1 ≤ c ∧ c ≤ 4) ∧ ∀ H', Same H H' → Q (.bl true) H'
theorem sc_are_sizes : FnScope ["thing", "size"] ["thing"] (defScope s_are_sizes) := ⟨rfl, rfl, rfl, by decide +kernel, rfl, by decide +kernel, by decide +kernel⟩
theorem ok_are_sizes (T : Tx K mg) : Cal P w K mg base 3 "are_sizes" spSizes [] := by
  refine cal_mk T.f_are_sizes T.g_are_sizes sc_are_sizes (fun vs H Q E h => ?_) (fun _ _ _ _ _ _ us hl => match us, hl with | [_], _ => rfl) (fun cdv A outer s H vs Q E hr h => ?_)
  · obtain ⟨v, a, b, c, rfl, _⟩ := h
    rfl
  · obtain ⟨v, a, b, c, rfl, ⟨t, rfl, ht⟩, ha, hb, hc, q⟩ := h
    obtain ⟨tM, gM⟩ := T.i_MOST_SIZE
    refine ⟨_, pss_one (ps_ret (pe_and (pe_c (ok_is_triple T) hr (by decide) (by rfl) (pa_cons (pv 0) pa_nil))
      (pe_one (pe_callB (cr_all rfl) (by rfl) T.m_all (by decide +kernel) (pa_cons (pe_lc (own := [("size", 1)]) (g := gName 1) rfl sc_are_sizes.nd (pi_tup (pv 0)) (blkOk_by (N := ["thing", "size"]) (sc := defScope s_are_sizes) (by decide +kernel))
        (fun _ _ _ _ _ => pg_name (i := 1) sc_are_sizes.nd rfl (.inl rfl)) (fun _ _ _ _ _ => pts_nil)
        (fun _ _ _ _ _ => pe_c (ok_is_within T) hr (by decide) (by rfl) (pa_cons (pv 1) (pa_cons pe_int (pa_cons (pe_glob (v := .int 4) (by rfl) gM ⟨_, rfl⟩) pa_nil))))) pa_nil))))), ?_⟩
    refine ⟨_, rfl, t, _, rfl, ht, rfl, true, rfl, iteT ?_⟩
    refine ⟨_, rfl, t, rfl, ⟨_, SqT.of ht⟩, fun D hD => ?_⟩
    refine lc_tupY (K := K) (a := t) (xs := ([a, b, c] : List Int).map V.int) (fun i H' => Same H H' ∧ H' D = some (.lst ((List.replicate i true).map V.bl))) ⟨same_upd hD, upd_same⟩ (fun i H' _ p => SqT.of (p.1 _ _ ht)) ?_ ?_
    · rintro i x H' hx ⟨sm, hd⟩
      rw [List.getElem?_map] at hx
      obtain ⟨n, hn, rfl⟩ := Option.map_eq_some_iff.mp hx
      have hn2 : n = a ∨ n = b ∨ n = c := by
        have := List.mem_of_getElem? hn
        simpa using this
      have hi : i < 3 := (List.getElem?_eq_some_iff.mp hn).1
      refine ⟨rfl, ?_⟩
      refine ⟨_, rfl, n, 1, 4, rfl, ?_⟩
      rw [decide_eq_true (show 1 ≤ n ∧ n ≤ 4 by omega)]
      refine ⟨_, hd, repl_len (by omega), fun b' o e => ?_, ?_⟩
      · rw [upd_ne (ne_of_none e hD)]
        exact sm _ _ e
      · rw [upd_same, List.replicate_succ', List.map_append] <;> rfl
    · rintro H' ⟨sm, hd⟩
      exact all_true hd (q _ sm)
end
end K15

-- part B
set_option maxHeartbeats 4000000
/-! K15B: moves and closings judged. -/
namespace K15
open PySem PySem.Spec PyProof.Rows L2 C8
section
variable {P : Program} {w : World} {K : PySem.W.Frag} {mg : Str → Option Value} {base : Heap}
/-! ### is_move -/
def spMove : Sp := fun vs H Q _ => ∃ (sv tv : V) (a b c n : Int) (m : List Int), vs = [sv, .int n, tv] ∧ TI H sv [a, b, c] ∧ TI H tv m ∧ MvOk a b c n m ∧ Q (.bl true) H
theorem sc_is_move : FnScope ["sizes", "many", "thing", "slips", "answers", "marks"] ["sizes", "many", "thing"] (defScope s_is_move) := ⟨rfl, rfl, rfl, by decide +kernel, rfl, by decide +kernel, by decide +kernel⟩
theorem ok_is_move (T : Tx K mg) : Cal P w K mg base 3 "is_move" spMove [] := by
  refine cal_mk T.f_is_move T.g_is_move sc_is_move (fun vs H Q E h => ?_) (fun _ _ _ _ _ _ us hl => match us, hl with | [_, _, _], _ => rfl) (fun cdv A outer s H vs Q E hr h => ?_)
  · obtain ⟨sv, tv, a, b, c, n, m, rfl, _⟩ := h
    rfl
  · obtain ⟨sv, tv, a, b, c, n, m, rfl, ⟨s1, rfl, hs⟩, ⟨t1, rfl, ht⟩, ⟨x0, x1, x2, x3, rfl, h0, h1, h2, h3⟩, q⟩ := h
    refine ⟨_, pss_cons (ps_if (PW.pt (pw_or (pt_not (pt_val (pe_callB call_isi (by rfl) T.m_isinstance (by decide +kernel) (pa_cons (pv 2) (pa_cons (pe_bltn (v := .ty "tuple") (by rfl) T.m_tuple (by decide +kernel) rfl) pa_nil)))))
        (pw_or1 (pt_cmpR op_ne (pe_callB call_len_seq (by rfl) T.m_len PySem.boot_len (pa_cons (pv 2) pa_nil)) pe_int (nomark _))))) (pss_one (ps_ret pe_bl)) pss_nil)
      (pss_cons (ps_asg (pv 0) (pg_tup (by rfl) (pgs_cons (pg_name (i := 3) sc_is_move.nd rfl (.inl rfl)) (pgs_cons (pg_name (i := 4) sc_is_move.nd rfl (.inl rfl)) (pgs_cons (pg_name (i := 5) sc_is_move.nd rfl (.inl rfl)) pgs_nil)))))
      (pss_cons (ps_if (PW.pt (pw_or (pt_not (pt_val (pe_c (ok_is_within T) hr (by decide) (by rfl) (pa_cons (pe_ix ix_tup (pv 2) pe_int (fun _ _ => rfl)) (pa_cons pe_int (pa_cons (pe_op op_sub (pv 3) pe_int) pa_nil))))))
        (pw_or1 (pt_not (pt_val (pe_c (ok_is_within T) hr (by decide) (by rfl) (pa_cons (pe_ix ix_tup (pv 2) pe_int (fun _ _ => rfl)) (pa_cons pe_int (pa_cons (pe_op op_sub (pv 4) pe_int) pa_nil))))))))) (pss_one (ps_ret pe_bl)) pss_nil)
      (pss_one (ps_ret (pe_and (pe_c (ok_is_within T) hr (by decide) (by rfl) (pa_cons (pe_ix ix_tup (pv 2) pe_int (fun _ _ => rfl)) (pa_cons pe_int (pa_cons (pe_op op_sub (pv 5) pe_int) pa_nil))))
        (pe_one (pe_c (ok_is_within T) hr (by decide) (by rfl) (pa_cons (pe_ix ix_tup (pv 2) pe_int (fun _ _ => rfl)) (pa_cons pe_int (pa_cons (pe_op op_sub (pv 1) pe_int) pa_nil)))))))))), ?_⟩
    -- if not isinstance(thing, tuple) or len(thing) != 4
    refine ⟨_, rfl, _, _, _, _, _, rfl, .ty _, .base (.tup ht), kit_ty kb_tup_tup, true, rfl, iteF ?_⟩
    refine ⟨_, rfl, t1, _, rfl, .inr (SqT.of ht), rfl, _, rfl, iteF ?_⟩
    -- slips, answers, marks = sizes
    refine ⟨_, rfl, s1, _, rfl, SqT.of hs, rfl, _, _, rfl, _, _, rfl, _, _, rfl, rfl, ?_⟩
    refine ⟨_, rfl, t1, _, _, _, rfl, rfl, SqT.of ht, atI_nat (j := 0) rfl, _, rfl, _, _, rfl, rfl, x0, 0, a - 1, rfl, ?_⟩
    rw [decide_eq_true (show 0 ≤ x0 ∧ x0 ≤ a - 1 by omega)]
    refine ⟨true, rfl, iteF ?_⟩
    refine ⟨_, rfl, t1, _, _, _, rfl, rfl, SqT.of ht, atI_nat (j := 1) rfl, _, rfl, _, _, rfl, rfl, x1, 0, b - 1, rfl, ?_⟩
    rw [decide_eq_true (show 0 ≤ x1 ∧ x1 ≤ b - 1 by omega)]
    refine ⟨true, rfl, iteF ?_⟩
    refine ⟨_, rfl, t1, _, _, _, rfl, rfl, SqT.of ht, atI_nat (j := 2) rfl, _, rfl, _, _, rfl, rfl, x2, 0, c - 1, rfl, ?_⟩
    rw [decide_eq_true (show 0 ≤ x2 ∧ x2 ≤ c - 1 by omega)]
    refine ⟨true, rfl, iteT ?_⟩
    refine ⟨_, rfl, t1, _, _, _, rfl, rfl, SqT.of ht, atI_nat (j := 3) rfl, _, rfl, _, _, rfl, rfl, x3, 0, n - 1, rfl, ?_⟩
    rw [decide_eq_true (show 0 ≤ x3 ∧ x3 ≤ n - 1 by omega)]
    exact q
/-! ### are_moves -/
def spMoves : Sp := fun vs H Q _ => ∃ (sv mv : V) (a b c : Int) (m : List (List (List Int))), vs = [sv, mv] ∧ TI H sv [a, b, c] ∧ TIII H mv m ∧ (1 ≤ m.length ∧ m.length ≤ 20) ∧ (∀ r ∈ m, RowOk a b c m.length r) ∧ ∀ H', Same H H' → Q (.bl true) H'
theorem sc_are_moves : FnScope ["sizes", "thing", "row", "move"] ["sizes", "thing"] (defScope s_are_moves) := ⟨rfl, rfl, rfl, by decide +kernel, rfl, by decide +kernel, by decide +kernel⟩
theorem ok_are_moves (T : Tx K mg) : Cal P w K mg base 4 "are_moves" spMoves [] := by
  refine cal_mk T.f_are_moves T.g_are_moves sc_are_moves (fun vs H Q E h => ?_) (fun _ _ _ _ _ _ us hl => match us, hl with | [_, _], _ => rfl) (fun cdv A outer s H vs Q E hr h => ?_)
  · obtain ⟨sv, mv, a, b, c, m, rfl, _⟩ := h
    rfl
  · obtain ⟨sv, mv, a, b, c, m, rfl, ⟨s1, rfl, hs⟩, ⟨m1, ms, rfl, hm, hP⟩, hn, hrow, q⟩ := h
    obtain ⟨tM, gM⟩ := T.i_MOST_STANDINGS
    have hml : ms.length = m.length := Paired.length hP
    refine ⟨_, pss_cons (ps_if (PW.pt (pw_or (pt_not (pt_val (pe_callB call_isi (by rfl) T.m_isinstance (by decide +kernel) (pa_cons (pv 1) (pa_cons (pe_bltn (v := .ty "tuple") (by rfl) T.m_tuple (by decide +kernel) rfl) pa_nil)))))
        (pw_or1 (pt_not (pt_chain op_le op_le pe_int (pe_callB call_len_seq (by rfl) T.m_len PySem.boot_len (pa_cons (pv 1) pa_nil)) (pe_glob (v := .int 20) (by rfl) gM ⟨_, rfl⟩)))))) (pss_one (ps_ret pe_bl)) pss_nil)
      (pss_cons (ps_for PassesOwn.never rfl (pi_tup (pv 1)) (pg_name (i := 2) sc_are_moves.nd rfl (.inl rfl))
        (pss_cons (ps_if (PW.pt (pw_or (pt_not (pt_val (pe_callB call_isi (by rfl) T.m_isinstance (by decide +kernel) (pa_cons (pv 2) (pa_cons (pe_bltn (v := .ty "tuple") (by rfl) T.m_tuple (by decide +kernel) rfl) pa_nil)))))
          (pw_or1 (pt_not (pt_val (pe_callB (cr_all rfl) (by rfl) T.m_all (by decide +kernel) (pa_cons (pe_lc (own := [("move", 3)]) (g := gName 3) rfl sc_are_moves.nd (pi_tup (pv 2)) (blkOk_by (N := ["sizes", "thing", "row", "move"]) (sc := defScope s_are_moves) (by decide +kernel))
            (fun _ _ _ _ _ => pg_name (i := 3) sc_are_moves.nd rfl (.inl rfl)) (fun _ _ _ _ _ => pts_nil)
            (fun _ _ _ _ _ => pe_c (ok_is_move T) hr (by decide) (by rfl) (pa_cons (pv 0) (pa_cons (pe_callB (r := rLenS K) call_len_seq (by rfl) T.m_len PySem.boot_len (pa_cons (pv 1) pa_nil)) (pa_cons (pv 3) pa_nil))))) pa_nil))))))) (pss_one (ps_ret pe_bl)) pss_nil)
        (pss_one (ps_if (pt_not (pt_val (pe_c (ok_are_ascending T) hr (by decide) (by rfl) (pa_cons (pv 2) pa_nil)))) (pss_one (ps_ret pe_bl)) pss_nil))))
      (pss_one (ps_ret pe_bl))), ?_⟩
    refine ⟨_, rfl, _, _, _, _, _, rfl, .ty _, .base (.tup hm), kit_ty kb_tup_tup, true, rfl, iteF ?_⟩
    refine ⟨_, rfl, m1, _, rfl, .inr (SqT.of hm), _, _, rfl, rfl, _, rfl, ?_⟩
    rw [decide_eq_true (show (1 : Int) ≤ (ms.length : Int) by omega)]
    refine iteT ⟨_, _, rfl, rfl, _, rfl, ?_⟩
    rw [decide_eq_true (show (ms.length : Int) ≤ 20 by omega)]
    refine iteF ?_
    refine ⟨_, rfl, m1, rfl, ⟨_, SqT.of hm⟩, for_tup (K := K) (a := m1) (xs := ms) (fun i σ H' => ∃ v, σ = [some (.ref s1), some (.ref m1), v, none] ∧ Same H H') ⟨none, rfl, Same.refl H⟩ (fun i σ H' _ ⟨_, _, p⟩ => SqT.of (p _ _ hm)) ?_ ?_⟩
    · rintro i x σ H' hx ⟨v, rfl, sm⟩
      obtain ⟨r, hr', hrp⟩ := paired_get hP hx
      obtain ⟨r1, rs, rfl, hr1, hP1⟩ := TII.tk (stk sm) hrp
      have ok := hrow r (List.mem_of_getElem? hr')
      have hrl : rs.length = r.length := Paired.length hP1
      have hok := ok.len
      refine ⟨_, rfl, _, _, _, _, _, rfl, .ty _, .base (.tup hr1), kit_ty kb_tup_tup, true, rfl, iteF ?_⟩
      refine ⟨_, rfl, r1, rfl, ⟨_, SqT.of hr1⟩, fun D hD => ?_⟩
      refine lc_tupY (K := K) (a := r1) (xs := rs) (fun i H2 => Same H' H2 ∧ H2 D = some (.lst ((List.replicate i true).map V.bl))) ⟨same_upd hD, upd_same⟩ (fun i H2 _ p => SqT.of (p.1 _ _ hr1)) ?_ ?_
      · rintro j y H2 hy ⟨sm2, hd⟩
        obtain ⟨mm, hmm, hT⟩ := paired_get hP1 hy
        have hj : j < rs.length := (List.getElem?_eq_some_iff.mp hy).1
        have sm3 := sm.trans sm2
        refine ⟨rfl, ?_⟩
        refine ⟨_, rfl, _, rfl, m1, _, rfl, .inr (SqT.of (sm3 _ _ hm)), _, rfl, _, _, a, b, c, (ms.length : Int), mm, rfl, ⟨s1, rfl, sm3 _ _ hs⟩, TI.tk (stk sm2) hT, ?_, ?_⟩
        · rw [hml]
          exact ok.ok mm (List.mem_of_getElem? hmm)
        · refine ⟨_, hd, repl_len (by omega), fun b' o e => ?_, ?_⟩
          · rw [upd_ne (ne_of_none e hD)]
            exact sm2 _ _ e
          · rw [upd_same, List.replicate_succ', List.map_append] <;> rfl
      · rintro H2 ⟨sm2, hd⟩
        refine ⟨D, List.replicate _ true, rfl, SqL.of hd, ?_⟩
        rw [all_rep]
        refine ⟨true, rfl, iteF ?_⟩
        refine ⟨_, rfl, r1, rs, rfl, sm2 _ _ hr1, by omega, .inr ⟨r, Paired.mapP hP1 (fun _ _ => TI.tk (stk sm2)), fun mm hmm => ?_, ok.asc⟩, true, rfl, iteF ⟨_, rfl, sm.trans sm2⟩⟩
        obtain ⟨x0, x1, x2, x3, rfl, _⟩ := ok.ok mm hmm
        rfl
    · rintro σ H' ⟨v, rfl, sm⟩
      exact q _ sm
/-! ### are_closings -/
def spClosings : Sp := fun vs H Q _ => ∃ (sv cv : V) (a b c : Int) (cl : List (List Int)), vs = [sv, .int cl.length, cv] ∧ TI H sv [a, b, c] ∧ TII H cv cl ∧ (∀ r ∈ cl, ClOk c r) ∧ ∀ H', Same H H' → Q (.bl true) H'
theorem sc_are_closings : FnScope ["sizes", "many", "thing", "row", "mark"] ["sizes", "many", "thing"] (defScope s_are_closings) := ⟨rfl, rfl, rfl, by decide +kernel, rfl, by decide +kernel, by decide +kernel⟩
theorem ok_are_closings (T : Tx K mg) : Cal P w K mg base 3 "are_closings" spClosings [] := by
  refine cal_mk T.f_are_closings T.g_are_closings sc_are_closings (fun vs H Q E h => ?_) (fun _ _ _ _ _ _ us hl => match us, hl with | [_, _, _], _ => rfl) (fun cdv A outer s H vs Q E hr h => ?_)
  · obtain ⟨sv, mv, a, b, c, m, rfl, _⟩ := h
    rfl
  · obtain ⟨sv, mv, a, b, c, m, rfl, ⟨s1, rfl, hs⟩, ⟨m1, ms, rfl, hm, hP⟩, hrow, q⟩ := h
    have hml : ms.length = m.length := Paired.length hP
    refine ⟨_, pss_cons (ps_if (PW.pt (pw_or (pt_not (pt_val (pe_callB call_isi (by rfl) T.m_isinstance (by decide +kernel) (pa_cons (pv 2) (pa_cons (pe_bltn (v := .ty "tuple") (by rfl) T.m_tuple (by decide +kernel) rfl) pa_nil)))))
        (pw_or1 (pt_cmpR op_ne (pe_callB call_len_seq (by rfl) T.m_len PySem.boot_len (pa_cons (pv 2) pa_nil)) (pv 1) (nomark _))))) (pss_one (ps_ret pe_bl)) pss_nil)
      (pss_cons (ps_for PassesOwn.never rfl (pi_tup (pv 2)) (pg_name (i := 3) sc_are_closings.nd rfl (.inl rfl))
        (pss_cons (ps_if (PW.pt (pw_or (pt_not (pt_val (pe_callB call_isi (by rfl) T.m_isinstance (by decide +kernel) (pa_cons (pv 3) (pa_cons (pe_bltn (v := .ty "tuple") (by rfl) T.m_tuple (by decide +kernel) rfl) pa_nil)))))
          (pw_or1 (pt_not (pt_val (pe_callB (cr_all rfl) (by rfl) T.m_all (by decide +kernel) (pa_cons (pe_lc (own := [("mark", 4)]) (g := gName 4) rfl sc_are_closings.nd (pi_tup (pv 3)) (blkOk_by (N := ["sizes", "many", "thing", "row", "mark"]) (sc := defScope s_are_closings) (by decide +kernel))
            (fun _ _ _ _ _ => pg_name (i := 4) sc_are_closings.nd rfl (.inl rfl)) (fun _ _ _ _ _ => pts_nil)
            (fun _ _ _ _ _ => pe_c (ok_is_within T) hr (by decide) (by rfl) (pa_cons (pv 4) (pa_cons pe_int (pa_cons (pe_op op_sub (pe_ix (r := rIxT K) ix_tup (pv 0) pe_int (fun _ _ => rfl)) pe_int) pa_nil))))) pa_nil))))))) (pss_one (ps_ret pe_bl)) pss_nil)
        (pss_one (ps_if (pt_not (pt_val (pe_c (ok_are_ascending T) hr (by decide) (by rfl) (pa_cons (pv 3) pa_nil)))) (pss_one (ps_ret pe_bl)) pss_nil))))
      (pss_one (ps_ret pe_bl))), ?_⟩
    refine ⟨_, rfl, _, _, _, _, _, rfl, .ty _, .base (.tup hm), kit_ty kb_tup_tup, true, rfl, iteF ?_⟩
    refine ⟨_, rfl, m1, _, rfl, .inr (SqT.of hm), _, rfl, rfl, _, rfl, ?_⟩
    rw [hml, decide_eq_true rfl]
    refine iteF ?_
    refine ⟨_, rfl, m1, rfl, ⟨_, SqT.of hm⟩, for_tup (K := K) (a := m1) (xs := ms) (fun i σ H' => ∃ v, σ = [some (.ref s1), some (.int m.length), some (.ref m1), v, none] ∧ Same H H') ⟨none, rfl, Same.refl H⟩ (fun i σ H' _ ⟨_, _, p⟩ => SqT.of (p _ _ hm)) ?_ ?_⟩
    · rintro i x σ H' hx ⟨v, rfl, sm⟩
      obtain ⟨r, hr', hrp⟩ := paired_get hP hx
      obtain ⟨r1, rfl, hr1⟩ := TI.tk (stk sm) hrp
      have ok := hrow r (List.mem_of_getElem? hr')
      have hok := ok.len
      refine ⟨_, rfl, _, _, _, _, _, rfl, .ty _, .base (.tup hr1), kit_ty kb_tup_tup, true, rfl, iteF ?_⟩
      refine ⟨_, rfl, r1, rfl, ⟨_, SqT.of hr1⟩, fun D hD => ?_⟩
      refine lc_tupY (K := K) (a := r1) (xs := r.map V.int) (fun i H2 => Same H' H2 ∧ H2 D = some (.lst ((List.replicate i true).map V.bl))) ⟨same_upd hD, upd_same⟩ (fun i H2 _ p => SqT.of (p.1 _ _ hr1)) ?_ ?_
      · rintro j y H2 hy ⟨sm2, hd⟩
        rw [List.getElem?_map] at hy
        obtain ⟨k, hk, rfl⟩ := Option.map_eq_some_iff.mp hy
        have hj : j < r.length := (List.getElem?_eq_some_iff.mp hk).1
        have hk2 := ok.ok k (List.mem_of_getElem? hk)
        have sm3 := sm.trans sm2
        refine ⟨rfl, ?_⟩
        refine ⟨_, rfl, _, rfl, s1, _, _, _, rfl, rfl, SqT.of (sm3 _ _ hs), atI_nat (j := 2) rfl, _, _, rfl, rfl, k, 0, c - 1, rfl, ?_⟩
        rw [decide_eq_true (show 0 ≤ k ∧ k ≤ c - 1 by omega)]
        refine ⟨_, hd, repl_len (by omega), fun b' o e => ?_, ?_⟩
        · rw [upd_ne (ne_of_none e hD)]
          exact sm2 _ _ e
        · rw [upd_same, List.replicate_succ', List.map_append] <;> rfl
      · rintro H2 ⟨sm2, hd⟩
        refine ⟨D, List.replicate _ true, rfl, SqL.of hd, ?_⟩
        rw [all_rep]
        refine ⟨true, rfl, iteF ?_⟩
        exact ⟨_, rfl, r1, _, rfl, sm2 _ _ hr1, by simp; omega, .inl ⟨r, rfl, ok.asc⟩, true, rfl, iteF ⟨_, rfl, sm.trans sm2⟩⟩
    · rintro σ H' ⟨v, rfl, sm⟩
      exact q _ sm
end
end K15

-- part C
set_option maxHeartbeats 4000000
/-! K15C: the class Office. -/
namespace K15
open PySem PySem.Spec PyProof.Rows L2 C8
section
variable {P : Program} {w : World} {K : PySem.W.Frag} {mg : Str → Option Value} {base : Heap}
/-! ### keep -/
/-- a dict of goals: each value a list made since H0 -/
def GoalsAt (H0 H : Hp) (d p l : Addr) (n : Nat) : Prop := ∃ kvs : List (List Key × V), H d = some (.dT kvs) ∧ kvs.length ≤ n ∧
  ∀ k v, valV kvs k = some v → ∃ b xs, v = .ref b ∧ H b = some (.lst xs) ∧ xs.length ≤ n ∧ H0 b = none ∧ b ≠ p ∧ b ≠ l
def spKeep (C : Addr) : Sp := fun vs H Q _ => ∃ (p dx : Addr) (sv mv cv : V) (m : List (List (List Int))), vs = [.ref p, sv, mv, cv] ∧ H p = some (.ins C dx []) ∧ TIII H mv m ∧ m.length ≤ 20 ∧ (∀ r ∈ m, r.length ≤ 63 ∧ ∀ x ∈ r, x.length = 4) ∧
  ∀ g H', H' p = some (.ins C dx (ofF sv mv cv (.ref g))) → But p H H' → Q .non H'
theorem sc_keep : FnScope ["self", "sizes", "moves", "closings", "row", "goals", "slip", "answer", "mark", "goal"] ["self", "sizes", "moves", "closings"] (defScope s_Office_keep) := ⟨rfl, rfl, rfl, by decide +kernel, rfl, by decide +kernel, by decide +kernel⟩
theorem ok_keep (T : Tx K mg) : Met P w K mg base 1 (He.ga K "Office") "keep" (spKeep (He.ga K "Office")) [] := by
  refine met_mk T.cl_Office T.me_Office_keep T.f_Office_keep sc_keep (fun vs H Q E h => ?_) (fun _ _ _ _ _ _ us hl => match us, hl with | [_, _, _, _], _ => rfl) (fun cdv A outer s H vs Q E hr h => ?_)
  · obtain ⟨p, dx, sv, mv, cv, m, rfl, _⟩ := h
    rfl
  · obtain ⟨p, dx, sv, mv, cv, m, rfl, hp, ⟨m1, ms, rfl, hm, hP⟩, hn, hlen, q⟩ := h
    have hml : ms.length = m.length := Paired.length hP
    refine ⟨_, pss_cons (ps_fld (pv 0) (pv 1) rfl) (pss_cons (ps_fld (pv 0) (pv 2) rfl) (pss_cons (ps_fld (pv 0) (pv 3) rfl) (pss_cons (ps_fld (pv 0) (pe_lst pa_nil) rfl)
      (pss_one (ps_for PassesOwn.never rfl (pi_tup (pv 2)) (pg_name (i := 4) sc_keep.nd rfl (.inl rfl))
        (pss_cons (ps_set (i := 5) sc_keep.nd rfl (.inl rfl) pe_dnewT)
        (pss_cons (ps_for PassesOwn.never rfl (pi_tup (pv 4)) (pg_tup (by rfl) (pgs_cons (pg_name (i := 6) sc_keep.nd rfl (.inl rfl)) (pgs_cons (pg_name (i := 7) sc_keep.nd rfl (.inl rfl)) (pgs_cons (pg_name (i := 8) sc_keep.nd rfl (.inl rfl)) (pgs_cons (pg_name (i := 9) sc_keep.nd rfl (.inl rfl)) pgs_nil)))))
          (pss_one (ps_expr (pe_bm PySem.F.plainAttrs_list PySem.F.slot_list_append PySem.F.type_list_append mt_append
            (pe_dsetT (hu_of hr) (pv 5) (pe_tup (pa_cons (pv 6) (pa_cons (pv 7) (pa_cons (pv 8) pa_nil)))) (pe_lst pa_nil) ⟨rfl, rfl, rfl, rfl⟩) (pa_cons (pv 9) pa_nil)))))
        (pss_one (ps_expr (pe_bm PySem.F.plainAttrs_list PySem.F.slot_list_append PySem.F.type_list_append mt_append (pe_fld (pv 0) rfl) (pa_cons (pv 5) pa_nil)))))))))))
      , ?_⟩
    refine ⟨_, rfl, _, rfl, p, _, dx, [], rfl, hp, T.cl_Office, T.n_sizes, (by show 0 < 1000; decide), ?_⟩
    refine ⟨_, rfl, _, rfl, p, _, dx, _, rfl, upd_same, T.cl_Office, T.n_moves, (by show 1 < 1000; decide), ?_⟩
    refine ⟨_, rfl, _, rfl, p, _, dx, _, rfl, upd_same, T.cl_Office, T.n_closings, (by show 2 < 1000; decide), ?_⟩
    rw [upd_upd, upd_upd]
    have e3 : putF "closings" cv (putF "moves" (.ref m1) (putF "sizes" sv [])) = [(("sizes" : Str), sv), (("moves" : Str), .ref m1), (("closings" : Str), cv)] := by
      show putF "closings" cv (putF "moves" (.ref m1) [(("sizes" : Str), sv)]) = _
      rw [pf_ne (by decide +kernel)]
      show putF "closings" cv [(("sizes" : Str), sv), (("moves" : Str), .ref m1)] = _
      rw [pf_ne (by decide +kernel), pf_ne (by decide +kernel)]
      rfl
    have e4 : ∀ l : Addr, putF "kept_goals" (.ref l) [(("sizes" : Str), sv), (("moves" : Str), .ref m1), (("closings" : Str), cv)] = ofF sv (.ref m1) cv (.ref l) := fun l => by
      rw [pf_ne (by decide +kernel), pf_ne (by decide +kernel), pf_ne (by decide +kernel)]
      rfl
    rw [e3]
    refine ⟨Nat.zero_le _, fun l hl => ?_⟩
    have hlp : l ≠ p := fun e => by
      rw [e, upd_same] at hl
      cases hl
    have hl0 : H l = none := by
      rw [upd_ne hlp] at hl
      exact hl
    refine ⟨_, rfl, p, _, dx, _, rfl, (by rw [upd_ne hlp.symm]; exact upd_same), T.cl_Office, T.n_kept_goals, (by show 3 < 1000; decide), ?_⟩
    rw [e4 l]
    have b4 : But p H (upd (upd (upd H p (.ins (He.ga K "Office") dx [("sizes", sv), ("moves", .ref m1), ("closings", cv)])) l (.lst [])) p (.ins (He.ga K "Office") dx (ofF sv (.ref m1) cv (.ref l)))) := fun b o e hb => by
      rw [upd_ne hb, upd_ne (ne_of_none e hl0), upd_ne hb]
      exact e
    have p4 : (upd (upd (upd H p (.ins (He.ga K "Office") dx [("sizes", sv), ("moves", .ref m1), ("closings", cv)])) l (.lst [])) p (.ins (He.ga K "Office") dx (ofF sv (.ref m1) cv (.ref l)))) p = some (.ins (He.ga K "Office") dx (ofF sv (.ref m1) cv (.ref l))) := upd_same
    have l4 : (upd (upd (upd H p (.ins (He.ga K "Office") dx [("sizes", sv), ("moves", .ref m1), ("closings", cv)])) l (.lst [])) p (.ins (He.ga K "Office") dx (ofF sv (.ref m1) cv (.ref l)))) l = some (.lst []) := by rw [upd_ne hlp, upd_same]
    generalize upd (upd (upd H p (.ins (He.ga K "Office") dx [("sizes", sv), ("moves", .ref m1), ("closings", cv)])) l (.lst [])) p (.ins (He.ga K "Office") dx (ofF sv (.ref m1) cv (.ref l))) = H4 at b4 p4 l4 ⊢
    refine ⟨_, rfl, m1, rfl, ⟨_, SqT.of (b4.tki hp _ _ hm)⟩, for_tup (K := K) (a := m1) (xs := ms) (fun i σ H' => ∃ v4 v5 v6 v7 v8 v9, σ = [some (.ref p), some sv, some (.ref m1), some cv, v4, v5, v6, v7, v8, v9] ∧ H' p = some (.ins (He.ga K "Office") dx (ofF sv (.ref m1) cv (.ref l))) ∧ (∃ ds, H' l = some (.lst ds) ∧ ds.length = i) ∧ But p H H')
      ⟨none, none, none, none, none, none, rfl, p4, ⟨[], l4, rfl⟩, b4⟩ (fun i σ H' _ ⟨_, _, _, _, _, _, _, _, _, b⟩ => SqT.of (b.tki hp _ _ hm)) ?_ ?_⟩
    · rintro i x σ H' hx ⟨v4, v5, v6, v7, v8, v9, rfl, hp', ⟨ds, hl', hdl⟩, bb⟩
      have hi : i < ms.length := (List.getElem?_eq_some_iff.mp hx).1
      obtain ⟨r, hr', r1, rs, rfl, hr1, hP1⟩ := paired_get hP hx
      obtain ⟨hrl, hr4⟩ := hlen r (List.mem_of_getElem? hr')
      have hrs : rs.length = r.length := Paired.length hP1
      intro d hd
      have hdp : p ≠ d := ne_of_none hp' hd
      have hdl' : l ≠ d := ne_of_none hl' hd
      have b5 : But p H (upd H' d (.dT [])) := bb.trans (sbut (same_upd hd))
      refine ⟨_, rfl, r1, rfl, ⟨_, SqT.of (b5.tki hp _ _ hr1)⟩, for_tup (K := K) (a := r1) (xs := rs) (fun j σ H2 => ∃ v6 v7 v8 v9, σ = [some (.ref p), some sv, some (.ref m1), some cv, some (.ref r1), some (.ref d), v6, v7, v8, v9] ∧ H2 p = some (.ins (He.ga K "Office") dx (ofF sv (.ref m1) cv (.ref l))) ∧ H2 l = some (.lst ds) ∧ But p H H2 ∧ GoalsAt H H2 d p l j)
        ⟨v6, v7, v8, v9, rfl, (by rw [upd_ne hdp]; exact hp'), (by rw [upd_ne hdl']; exact hl'), b5, [], upd_same, Nat.zero_le _, fun k v e => by cases e⟩ (fun j σ H2 _ ⟨_, _, _, _, _, _, _, b, _⟩ => SqT.of (b.tki hp _ _ hr1)) ?_ ?_⟩
      · rintro j y σ H2 hy ⟨v6, v7, v8, v9, rfl, hp2, hl2, b2, kvs, hd2, hkl, hkv⟩
        have hj : j < rs.length := (List.getElem?_eq_some_iff.mp hy).1
        obtain ⟨x, hx1, t, rfl, ht⟩ := paired_get hP1 hy
        have hx4 := hr4 x (List.mem_of_getElem? hx1)
        obtain ⟨x0, x1, x2, x3, rfl⟩ : ∃ x0 x1 x2 x3, x = [x0, x1, x2, x3] := by
          match x, hx4 with
          | [a, b, c, d], _ => exact ⟨a, b, c, d, rfl⟩
        have ht2 := b2.tki hp _ _ ht
        refine ⟨t, _, rfl, SqT.of ht2, rfl, _, _, rfl, _, _, rfl, _, _, rfl, _, _, rfl, rfl, ?_⟩
        refine ⟨_, rfl, d, rfl, .inr ⟨kvs, .inl hd2⟩, _, rfl, _, rfl, _, rfl, (by show 3 ≤ sizeLine; decide), fun k hk => ⟨Nat.zero_le _, fun e he => ?_⟩⟩
        have hek : e ≠ k := fun z => by
          rw [z, upd_same] at he
          cases he
        have he2 : H2 e = none := by
          rw [upd_ne hek] at he
          exact he
        have hdk := ne_of_none hd2 hk
        have hde := ne_of_none hd2 he2
        have hpk := ne_of_none hp2 hk
        have hpe := ne_of_none hp2 he2
        have hlk := ne_of_none hl2 hk
        have hle := ne_of_none hl2 he2
        have hk0 : ∀ c o, H c = some o → c ≠ p → c ≠ k := fun c o hc hcp => ne_of_none (b2 c o hc hcp) hk
        have he0 : ∀ c o, H c = some o → c ≠ p → c ≠ e := fun c o hc hcp => ne_of_none (b2 c o hc hcp) he2
        refine ⟨kvs, [.inl x0, .inl x1, .inl x2], k, (by rw [upd_ne hde, upd_ne hdk]; exact hd2), rfl, (by rw [upd_ne hek.symm, upd_same]; rfl), small1000 (by omega), fun v hv => ?_, fun hv => ?_⟩
        · obtain ⟨b, xs, rfl, hb, hxl, hb0, hbp, hbl⟩ := hkv _ _ hv
          have hbk := ne_of_none hb hk
          have hbe := ne_of_none hb he2
          have hdb : d ≠ b := ne_of hd2 hb (by intro q; cases q)
          have hb3 : upd (upd H2 k (.tup [.int x0, .int x1, .int x2])) e (.lst []) b = some (.lst xs) := by
            rw [upd_ne hbe, upd_ne hbk]
            exact hb
          refine ⟨.inl ⟨rfl, _, SqL.of hb3⟩, _, rfl, b, xs, _, rfl, rfl, hb3, small1000 (by omega), ?_⟩
          refine ⟨_, _, _, _, rfl, (by rw [upd_ne hbp.symm, upd_ne hpe, upd_ne hpk]; exact hp2), (by rw [upd_ne hbl.symm, upd_ne hle, upd_ne hlk]; exact hl2), fun c o hc hcp => ?_, kvs, (by rw [upd_ne hdb, upd_ne hde, upd_ne hdk]; exact hd2), by omega, fun k' v' e' => ?_⟩
          · rw [upd_ne (ne_of_none hc hb0), upd_ne (he0 c o hc hcp), upd_ne (hk0 c o hc hcp)]
            exact b2 c o hc hcp
          · obtain ⟨b', xs', rfl, hb', hxl', hb0', hbp', hbl'⟩ := hkv _ _ e'
            by_cases ebb : b' = b
            · subst ebb
              have exx : xs' = xs := by
                rw [hb] at hb'
                cases hb'
                rfl
              exact ⟨b', xs ++ [.int x3], rfl, upd_same, by rw [List.length_append, List.length_singleton]; omega, hb0', hbp', hbl'⟩
            · exact ⟨b', xs', rfl, (by rw [upd_ne ebb, upd_ne (ne_of_none hb' he2), upd_ne (ne_of_none hb' hk)]; exact hb'), by omega, hb0', hbp', hbl'⟩
        · have he3 : upd (upd (upd H2 k (.tup [.int x0, .int x1, .int x2])) e (.lst [])) d (.dT (putK kvs [.inl x0, .inl x1, .inl x2] (.ref e))) e = some (.lst []) := by
            rw [upd_ne hde.symm, upd_same]
          have he00 : H e = none := by
            cases z : H e with
            | none => rfl
            | some o => exact absurd rfl (he0 e o z hpe.symm)
          have hd00 : H d = none := bb.free hdp.symm hd
          refine ⟨.inl ⟨rfl, _, SqL.of he3⟩, _, rfl, e, _, _, rfl, rfl, he3, Nat.zero_lt_of_lt (small1000 (n := 1) (by decide)), ?_⟩
          refine ⟨_, _, _, _, rfl, (by rw [upd_ne hpe, upd_ne hdp, upd_ne hpe, upd_ne hpk]; exact hp2), (by rw [upd_ne hle, upd_ne hdl', upd_ne hle, upd_ne hlk]; exact hl2), fun c o hc hcp => ?_, _, (by rw [upd_ne hde, upd_same]), Nat.le_trans (length_putK _ _ _) (by omega), fun k' v' e' => ?_⟩
          · rw [upd_ne (he0 c o hc hcp), upd_ne (ne_of_none hc hd00), upd_ne (he0 c o hc hcp), upd_ne (hk0 c o hc hcp)]
            exact b2 c o hc hcp
          · rw [valV_put] at e'
            by_cases ek : k' = [.inl x0, .inl x1, .inl x2]
            · rw [if_pos ek] at e'
              cases e'
              exact ⟨e, [.int x3], rfl, upd_same, by show 1 ≤ j + 1; omega, he00, hpe.symm, hle.symm⟩
            · rw [if_neg ek] at e'
              obtain ⟨b', xs', rfl, hb', hxl', hb0', hbp', hbl'⟩ := hkv _ _ e'
              have hdb : d ≠ b' := ne_of hd2 hb' (by intro q; cases q)
              exact ⟨b', xs', rfl, (by rw [upd_ne (ne_of_none hb' he2), upd_ne hdb.symm, upd_ne (ne_of_none hb' he2), upd_ne (ne_of_none hb' hk)]; exact hb'), by omega, hb0', hbp', hbl'⟩
      · rintro σ H2 ⟨v6, v7, v8, v9, rfl, hp2, hl2, b2, hg⟩
        refine ⟨_, rfl, p, _, dx, _, _, rfl, hp2, T.cl_Office, T.n_kept_goals, of_kept, .inl ⟨rfl, _, SqL.of hl2⟩, _, rfl, l, _, _, rfl, rfl, hl2, small1000 (by omega), ?_⟩
        refine ⟨_, _, _, _, _, _, rfl, (by rw [upd_ne hlp.symm]; exact hp2), ⟨_, upd_same, by rw [List.length_append, List.length_singleton, hdl]⟩, fun c o hc hcp => ?_⟩
        rw [upd_ne (ne_of_none hc hl0)]
        exact b2 c o hc hcp
    · rintro σ H' ⟨v4, v5, v6, v7, v8, v9, rfl, hp', _, bb⟩
      exact q l H' hp' bb
/-! ### __init__ -/
def spOffice (C : Addr) : Sp := fun vs H Q _ => ∃ (p dx : Addr) (sv mv cv : V) (pp : Parts), vs = [.ref p, sv, mv, cv] ∧ H p = some (.ins C dx []) ∧ P3 H pp sv mv cv ∧ Good pp ∧
  ∀ g H', H' p = some (.ins C dx (ofF sv mv cv (.ref g))) → But p H H' → Q .non H'
theorem sc_Office : FnScope ["self", "sizes", "moves", "closings"] ["self", "sizes", "moves", "closings"] (defScope s_Office_init) := ⟨rfl, rfl, rfl, by decide +kernel, rfl, by decide +kernel, by decide +kernel⟩
theorem ok_Office (T : Tx K mg) : Mak P w K mg base 5 "Office" (He.ga K "Office") (spOffice (He.ga K "Office")) [] := by
  refine mak_mk T.mk_Office T.g_Office T.f_Office_init sc_Office (fun vs H Q E h => ?_) (fun _ _ _ _ _ _ us hl => match us, hl with | [_, _, _, _], _ => rfl) (fun cdv A outer s H vs Q E hr h => ?_)
  · obtain ⟨p, dx, sv, mv, cv, pp, rfl, _⟩ := h
    rfl
  · obtain ⟨p, dx, sv, mv, cv, pp, rfl, hp, h3, hg, q⟩ := h
    refine ⟨_, pss_cons (ps_if (pt_not (pt_val (pe_c (ok_are_sizes T) hr (by decide) (by rfl) (pa_cons (pv 1) pa_nil)))) (pss_one ps_never) pss_nil)
      (pss_cons (ps_if (pt_not (pt_val (pe_c (ok_are_moves T) hr (by decide) (by rfl) (pa_cons (pv 1) (pa_cons (pv 2) pa_nil))))) (pss_one ps_never) pss_nil)
      (pss_cons (ps_if (pt_not (pt_val (pe_c (ok_are_closings T) hr (by decide) (by rfl) (pa_cons (pv 1) (pa_cons (pe_callB call_len_seq (by rfl) T.m_len PySem.boot_len (pa_cons (pv 2) pa_nil)) (pa_cons (pv 3) pa_nil)))))) (pss_one ps_never) pss_nil)
      (pss_one (ps_expr (pe_mt (ok_keep T) hr (by decide) (pv 0) (pa_cons (pv 1) (pa_cons (pv 2) (pa_cons (pv 3) pa_nil)))))))), ?_⟩
    refine ⟨_, rfl, sv, pp.a, pp.b, pp.c, rfl, h3.s, hg.a, hg.b, hg.c, fun H1 s1 => ⟨true, rfl, iteF ?_⟩⟩
    have h3a := h3.tk (stk s1)
    refine ⟨_, rfl, _, rfl, sv, mv, pp.a, pp.b, pp.c, pp.mv, rfl, h3a.s, h3a.m, hg.n, hg.mv, fun H2 s2 => ⟨true, rfl, iteF ?_⟩⟩
    have h3b := h3a.tk (stk s2)
    have s12 := s1.trans s2
    obtain ⟨m1, ms, em, hm, hP⟩ := id h3b.m
    subst em
    have hml : ms.length = pp.cl.length := (Paired.length hP).trans hg.cn.symm
    refine ⟨_, rfl, _, rfl, m1, _, rfl, .inr (SqT.of hm), _, rfl, ?_⟩
    rw [hml]
    refine ⟨sv, cv, pp.a, pp.b, pp.c, pp.cl, rfl, h3b.s, h3b.c, hg.cl, fun H3 s3 => ⟨true, rfl, iteF ?_⟩⟩
    have s13 := s12.trans s3
    have h3c := h3b.tk (stk s3)
    refine ⟨_, rfl, p, dx, [], rfl, s13 _ _ hp, rfl, _, rfl, _, rfl, _, rfl, p, dx, sv, .ref m1, cv, pp.mv, rfl, s13 _ _ hp, h3c.m, hg.n.2, fun r hr' => ⟨(hg.mv r hr').len, fun x hx => ?_⟩, fun g H4 hp4 b4 => q g H4 hp4 ((sbut s13).trans b4)⟩
    obtain ⟨x0, x1, x2, x3, rfl, _⟩ := (hg.mv r hr').ok x hx
    rfl
/-! ### __eq__ -/
def spEqO (C : Addr) : Sp := fun vs H Q _ => ∃ (x y : V) (pp : Parts), vs = [x, y] ∧ OffAt C H x pp ∧ OffAt C H y pp ∧ Q (.bl true) H
theorem sc_eq : FnScope ["self", "other"] ["self", "other"] (defScope s_Office_eq) := ⟨rfl, rfl, rfl, by decide +kernel, rfl, by decide +kernel, by decide +kernel⟩
theorem ok_eq (T : Tx K mg) : Met P w K mg base 1 (He.ga K "Office") "__eq__" (spEqO (He.ga K "Office")) [] := by
  refine met_mk T.cl_Office T.me_Office_eq T.f_Office_eq sc_eq (fun vs H Q E h => ?_) (fun _ _ _ _ _ _ us hl => match us, hl with | [_, _], _ => rfl) (fun cdv A outer s H vs Q E hr h => ?_)
  · obtain ⟨x, y, pp, rfl, _⟩ := h
    rfl
  · obtain ⟨x, y, pp, rfl, ⟨a, dx, sv, mv, cv, g, rfl, ha, h3⟩, ⟨b, dy, sv', mv', cv', g', rfl, hb, h3'⟩, q⟩ := h
    refine ⟨_, pss_cons (ps_if (pt_not (pt_val (pe_callB (call_isC T.insC) (by rfl) T.m_isinstance (by decide +kernel) (pa_cons (pv 1) (pa_cons (pe_glob (v := .ref (He.ga K "Office")) (by rfl) T.g_Office rfl) pa_nil))))) (pss_one (ps_ret pe_bl)) pss_nil)
      (pss_one (ps_ret (pe_and (pe_cmpR (op_eqD hr.units) (pe_fld (pv 0) rfl) (pe_fld (pv 1) rfl) (nomark _)) (pe_and (pe_cmpR (op_eqD hr.units) (pe_fld (pv 0) rfl) (pe_fld (pv 1) rfl) (nomark _)) (pe_one (pe_cmpR (op_eqD hr.units) (pe_fld (pv 0) rfl) (pe_fld (pv 1) rfl) (nomark _))))))), ?_⟩
    refine ⟨_, rfl, b, dy, _, rfl, hb, true, rfl, iteF ?_⟩
    refine ⟨_, rfl, a, _, dx, _, _, rfl, ha, T.cl_Office, T.n_sizes, of_sizes, _, rfl, b, _, dy, _, _, rfl, hb, T.cl_Office, T.n_sizes, of_sizes, dI pp.sz, dI pp.sz, h3.s.dp, h3'.s.dp, shp_I _, shp_I _, ?_⟩
    rw [eqv_dI, decide_eq_true rfl]
    refine ⟨true, rfl, iteT ?_⟩
    refine ⟨_, rfl, a, _, dx, _, _, rfl, ha, T.cl_Office, T.n_moves, of_moves, _, rfl, b, _, dy, _, _, rfl, hb, T.cl_Office, T.n_moves, of_moves, dIII pp.mv, dIII pp.mv, TIII.dp h3.m, TIII.dp h3'.m, shp_III _, shp_III _, ?_⟩
    rw [eqv_dIII, decide_eq_true rfl]
    refine ⟨true, rfl, iteT ?_⟩
    refine ⟨_, rfl, a, _, dx, _, _, rfl, ha, T.cl_Office, T.n_closings, of_closings, _, rfl, b, _, dy, _, _, rfl, hb, T.cl_Office, T.n_closings, of_closings, dII pp.cl, dII pp.cl, TII.dp h3.c, TII.dp h3'.c, shp_II _, shp_II _, ?_⟩
    rw [eqv_dII, decide_eq_true rfl]
    exact q
end
end K15

-- part D
set_option maxHeartbeats 4000000
/-! K15D: offices' texts, as the program writes them and as the law does. -/
namespace K15
open PySem PySem.Spec PyProof.Rows L2 C8
section
variable {P : Program} {w : World} {K : PySem.W.Frag} {mg : Str → Option Value} {base : Heap}
theorem sizeL {n : Nat} (h : n ≤ 16777216) : n ≤ sizeLine := by
  rw [sizeLine_eq]
  exact h
theorem sizeLt {n : Nat} (h : n < 16777216) : n < sizeLine := by
  rw [sizeLine_eq]
  exact h
/-! ### a line of words -/
/-- the words of a line, as they stand in a tuple -/
def wdsV (l : Ln) : List V := .str l.1 :: l.2.map V.int
def strsOf (l : Ln) : List Str := l.1 :: l.2.map numS
def spLine : Sp := fun vs H Q _ => ∃ (a : Addr) (l : Ln), vs = [.ref a] ∧ H a = some (.tup (wdsV l)) ∧ LnOk l ∧ ∀ H', Same H H' → Q (.str (lnFull l)) H'
theorem wds_get {l : Ln} {i : Nat} {x : V} (h : (wdsV l)[i]? = some x) : (x = .str l.1 ∧ (strsOf l)[i]? = some l.1) ∨ ∃ n, x = .int n ∧ n ∈ l.2 ∧ (strsOf l)[i]? = some (numS n) := by
  cases i with
  | zero =>
    have e : x = .str l.1 := (Option.some.inj h).symm
    exact .inl ⟨e, rfl⟩
  | succ i =>
    have h2 : (l.2.map V.int)[i]? = some x := h
    rw [List.getElem?_map] at h2
    obtain ⟨n, hn, rfl⟩ := Option.map_eq_some_iff.mp h2
    refine .inr ⟨n, rfl, List.mem_of_getElem? hn, ?_⟩
    show (l.2.map numS)[i]? = _
    rw [List.getElem?_map, hn]
    rfl
theorem take_snoc {α : Type} {l : List α} {i : Nat} {x : α} (h : l[i]? = some x) : l.take (i + 1) = l.take i ++ [x] := by
  rw [List.take_add_one, h]
  rfl
theorem take_all {α : Type} {l : List α} {n : Nat} (h : n = l.length) : l.take n = l := by
  rw [h, List.take_length]
theorem wds_len {l : Ln} : (wdsV l).length = (strsOf l).length := by simp [wdsV, strsOf]
theorem line_room {l : Ln} (h : LnOk l) : (lnText l).length + ("\n" : Str).length ≤ sizeLine := by
  have h1 := lnText_len h
  have e : ("\n" : Str).length = 1 := by decide +kernel
  rw [e]
  exact sizeL (by omega)
theorem sc_words_line : FnScope ["words", "word"] ["words"] (defScope s_words_line) := ⟨rfl, rfl, rfl, by decide +kernel, rfl, by decide +kernel, by decide +kernel⟩
theorem ok_words_line (T : Tx K mg) : Cal P w K mg base 1 "words_line" spLine [] := by
  refine cal_mk T.f_words_line T.g_words_line sc_words_line (fun vs H Q E h => ?_) (fun _ _ _ _ _ _ us hl => match us, hl with | [_], _ => rfl) (fun cdv A outer s H vs Q E hr h => ?_)
  · obtain ⟨a, l, rfl, _⟩ := h
    rfl
  · obtain ⟨a, l, rfl, ha, hl, q⟩ := h
    refine ⟨_, pss_one (ps_ret (pe_op op_add_str (pe_join pe_str (pe_lc (own := [("word", 1)]) (g := gName 1) rfl sc_words_line.nd (pi_tup (pv 0)) (blkOk_by (N := ["words", "word"]) (sc := defScope s_words_line) (by decide +kernel))
        (fun _ _ _ _ _ => pg_name (i := 1) sc_words_line.nd rfl (.inl rfl)) (fun _ _ _ _ _ => pts_nil) (fun _ _ _ _ _ => pe_fs1 (pe_fmt (pv 1))))) pe_str)), ?_⟩
    refine ⟨⟨_, rfl⟩, _, rfl, a, rfl, ⟨_, SqT.of ha⟩, fun D hD => ?_⟩
    refine lc_tupY (K := K) (a := a) (xs := wdsV l) (fun i H' => Same H H' ∧ H' D = some (.lst (((strsOf l).take i).map V.str))) ⟨same_upd hD, upd_same⟩ (fun i H' _ p => SqT.of (p.1 _ _ ha)) ?_ ?_
    · rintro i x H' hx ⟨sm, hd⟩
      have hk := hl.k
      have hi : i < 10 := by
        have h1 := (List.getElem?_eq_some_iff.mp hx).1
        have h2 : (wdsV l).length = l.2.length + 1 := by simp [wdsV]
        omega
      have hll : (((strsOf l).take i).map V.str).length < sizeLine := by
        rw [List.length_map, List.length_take]
        exact small1000 (by omega)
      refine ⟨rfl, _, rfl, ?_⟩
      rcases wds_get hx with ⟨rfl, hs⟩ | ⟨n, rfl, hn, hs⟩
      · refine .inl ⟨_, rfl, sizeL (by have := hl.w; omega), _, hd, hll, fun b o e => ?_, ?_⟩
        · rw [upd_ne (ne_of_none e hD)]
          exact sm _ _ e
        · rw [upd_same, take_snoc hs, List.map_append] <;> rfl
      · refine .inr ⟨n, rfl, sm_log (hl.n n hn), _, hd, hll, fun b o e => ?_, ?_⟩
        · rw [upd_ne (ne_of_none e hD)]
          exact sm _ _ e
        · rw [upd_same, take_snoc hs, List.map_append] <;> rfl
    · rintro H' ⟨sm, hd⟩
      rw [take_all wds_len] at hd
      exact ⟨_, D, strsOf l, rfl, rfl, .inl (SqL.of hd), line_sum hl, _, _, rfl, rfl, line_room hl, q _ sm⟩
theorem sc_law_line : FnScope ["_law_words", "_law_word"] ["_law_words"] (defScope s_law_line) := ⟨rfl, rfl, rfl, by decide +kernel, rfl, by decide +kernel, by decide +kernel⟩
theorem ok_law_line (T : Tx K mg) : Cal P w K mg base 1 "_law_line" spLine [] := by
  refine cal_mk T.f_law_line T.g_law_line sc_law_line (fun vs H Q E h => ?_) (fun _ _ _ _ _ _ us hl => match us, hl with | [_], _ => rfl) (fun cdv A outer s H vs Q E hr h => ?_)
  · obtain ⟨a, l, rfl, _⟩ := h
    rfl
  · obtain ⟨a, l, rfl, ha, hl, q⟩ := h
    refine ⟨_, pss_one (ps_ret (pe_op op_add_str (pe_join pe_str (pe_lc (own := [("_law_word", 1)]) (g := gName 1) rfl sc_law_line.nd (pi_tup (pv 0)) (blkOk_by (N := ["_law_words", "_law_word"]) (sc := defScope s_law_line) (by decide +kernel))
        (fun _ _ _ _ _ => pg_name (i := 1) sc_law_line.nd rfl (.inl rfl)) (fun _ _ _ _ _ => pts_nil) (fun _ _ _ _ _ => pe_callTy (CallR.or SkE.call_str_str call_str_int) (by rfl) T.m_str (by decide +kernel) (pa_cons (pv 1) pa_nil)))) pe_str)), ?_⟩
    refine ⟨⟨_, rfl⟩, _, rfl, a, rfl, ⟨_, SqT.of ha⟩, fun D hD => ?_⟩
    refine lc_tupY (K := K) (a := a) (xs := wdsV l) (fun i H' => Same H H' ∧ H' D = some (.lst (((strsOf l).take i).map V.str))) ⟨same_upd hD, upd_same⟩ (fun i H' _ p => SqT.of (p.1 _ _ ha)) ?_ ?_
    · rintro i x H' hx ⟨sm, hd⟩
      have hk := hl.k
      have hi : i < 10 := by
        have h1 := (List.getElem?_eq_some_iff.mp hx).1
        have h2 : (wdsV l).length = l.2.length + 1 := by simp [wdsV]
        omega
      have hll : (((strsOf l).take i).map V.str).length < sizeLine := by
        rw [List.length_map, List.length_take]
        exact small1000 (by omega)
      refine ⟨rfl, _, rfl, ?_⟩
      rcases wds_get hx with ⟨rfl, hs⟩ | ⟨n, rfl, hn, hs⟩
      · refine .inl ⟨_, rfl, _, hd, hll, fun b o e => ?_, ?_⟩
        · rw [upd_ne (ne_of_none e hD)]
          exact sm _ _ e
        · rw [upd_same, take_snoc hs, List.map_append] <;> rfl
      · refine .inr ⟨n, rfl, sm_log (hl.n n hn), _, hd, hll, fun b o e => ?_, ?_⟩
        · rw [upd_ne (ne_of_none e hD)]
          exact sm _ _ e
        · rw [upd_same, take_snoc hs, List.map_append] <;> rfl
    · rintro H' ⟨sm, hd⟩
      rw [take_all wds_len] at hd
      exact ⟨_, D, strsOf l, rfl, rfl, .inl (SqL.of hd), line_sum hl, _, _, rfl, rfl, line_room hl, q _ sm⟩
end
end K15

-- part E
set_option maxHeartbeats 4000000
/-! K15E: office_text, _law_text. -/
namespace K15
open PySem PySem.Spec PyProof.Rows L2 C8
section
variable {P : Program} {w : World} {K : PySem.W.Frag} {mg : Str → Option Value} {base : Heap}
/-- (w,) + t -/
theorem cat_line {H : Hp} {a b : Addr} {x : Str} {ns : List Int} {Q : VK} (ha : H a = some (.tup [.str x])) (hb : H b = some (.tup (ns.map V.int))) (hn : ns.length ≤ 10) (q : ∀ p H', Same H H' → H' p = some (.tup (wdsV (x, ns))) → Q (.ref p) H') :
    rCatA K (.ref a) (.ref b) H Q := by
  refine ⟨a, b, [.str x], ns.map V.int, rfl, rfl, SqT.of ha, SqT.of hb, ?_, fun e => (by cases e), fun _ e => ?_, fun _ e p hp => ?_⟩
  · rw [List.length_map]
    exact sizeL (by show 1 + _ ≤ _; omega)
  · have e2 : ns = [] := List.map_eq_nil_iff.mp e
    subst e2
    exact q a H (Same.refl H) ha
  · exact q p _ (same_upd hp) upd_same
theorem lst_map {ls : List Ln} {l : Ln} : (ls.map fun l => V.str (lnFull l)) ++ [V.str (lnFull l)] = (ls ++ [l]).map fun l => V.str (lnFull l) := by simp
theorem lst_len {ls : List Ln} {n : Nat} (h : ls.length ≤ 3000) : (ls.map fun l => V.str (lnFull l)).length < sizeLine := by
  rw [List.length_map]
  exact sizeLt (by omega)
/-! ### office_text -/
def spOfText (C : Addr) : Sp := fun vs H Q _ => ∃ (v : V) (p : Parts), vs = [v] ∧ OffAt C H v p ∧ Good p ∧ ∀ H', Same H H' → Q (.str (ofText p)) H'
theorem sc_office_text : FnScope ["office", "lines", "number", "row", "move"] ["office"] (defScope s_office_text) := ⟨rfl, rfl, rfl, by decide +kernel, rfl, by decide +kernel, by decide +kernel⟩
theorem ok_office_text (T : Tx K mg) : Cal P w K mg base 2 "office_text" (spOfText (He.ga K "Office")) [] := by
  refine cal_mk T.f_office_text T.g_office_text sc_office_text (fun vs H Q E h => ?_) (fun _ _ _ _ _ _ us hl => match us, hl with | [_], _ => rfl) (fun cdv A outer s H vs Q E hr h => ?_)
  · obtain ⟨v, p, rfl, _⟩ := h
    rfl
  · obtain ⟨v, p, rfl, ⟨o, dx, sv, mv, cv, g, rfl, ho, ⟨t, rfl, hs⟩, ⟨m1, ms, rfl, hm, hP⟩, ⟨c1, cs, rfl, hc, hPc⟩⟩, hg, q⟩ := h
    have hml : ms.length = p.mv.length := Paired.length hP
    have hcl : cs.length = p.cl.length := Paired.length hPc
    have hn := hg.n
    have hcn := hg.cn
    refine ⟨_, pss_cons (ps_set (i := 1) sc_office_text.nd rfl (.inl rfl) (pe_lst (pa_cons (pe_c (ok_words_line T) hr (by decide) (by rfl) (pa_cons (pe_op op_catA (pe_tup (pa_cons pe_str pa_nil)) (pe_fld (pv 0) rfl)) pa_nil)) pa_nil)))
      (pss_cons (ps_for PassesOwn.never rfl (pi_enumT (by rfl) T.m_enumerate (pa_cons (pe_fld (pv 0) rfl) pa_nil)) (pg_tup (by rfl) (pgs_cons (pg_name (i := 2) sc_office_text.nd rfl (.inl rfl)) (pgs_cons (pg_name (i := 3) sc_office_text.nd rfl (.inl rfl)) pgs_nil)))
        (pss_cons (ps_expr (pe_bm PySem.F.plainAttrs_list PySem.F.slot_list_append PySem.F.type_list_append mt_append (pv 1) (pa_cons (pe_c (ok_words_line T) hr (by decide) (by rfl) (pa_cons (pe_tup (pa_cons pe_str (pa_cons (pv 2) pa_nil))) pa_nil)) pa_nil)))
        (pss_cons (ps_expr (pe_bm PySem.F.plainAttrs_list PySem.F.slot_list_extend PySem.F.type_list_extend mt_extend (pv 1) (pa_cons (pe_lc (own := [("move", 4)]) (g := gName 4) rfl sc_office_text.nd (pi_tup (pv 3)) (blkOk_by (N := ["office", "lines", "number", "row", "move"]) (sc := defScope s_office_text) (by decide +kernel))
            (fun _ _ _ _ _ => pg_name (i := 4) sc_office_text.nd rfl (.inl rfl)) (fun _ _ _ _ _ => pts_nil)
            (fun _ _ _ _ _ => pe_c (ok_words_line T) hr (by decide) (by rfl) (pa_cons (pe_op (r := rCatA K) op_catA (pe_tup (pa_cons pe_str pa_nil)) (pv 4)) pa_nil))) pa_nil)))
        (pss_one (ps_expr (pe_bm PySem.F.plainAttrs_list PySem.F.slot_list_append PySem.F.type_list_append mt_append (pv 1) (pa_cons (pe_c (ok_words_line T) hr (by decide) (by rfl) (pa_cons (pe_op op_catA (pe_tup (pa_cons pe_str pa_nil)) (pe_ix ix_tup (pe_fld (pv 0) rfl) (pv 2) (fun _ _ => rfl))) pa_nil)) pa_nil)))))))
      (pss_one (ps_ret (pe_join pe_str (pv 1))))), ?_⟩
    -- lines = [words_line(("office",) + office.sizes)]
    refine ⟨(by show 1 ≤ sizeLine; decide), fun u hu => ?_⟩
    have s1 : Same H (upd H u (.tup [.str ("office" : Str)])) := same_upd hu
    refine ⟨_, rfl, o, _, dx, _, _, rfl, s1 _ _ ho, T.cl_Office, T.n_sizes, of_sizes, ?_⟩
    refine cat_line upd_same (s1 _ _ hs) (by show 3 ≤ 10; decide) fun pp H2 s2 hpp => ?_
    refine ⟨pp, _, rfl, hpp, ok_of hg, fun H3 s3 => ⟨(by show 1 ≤ sizeLine; decide), fun L hL => ?_⟩⟩
    have s13 : Same H H3 := (s1.trans s2).trans s3
    have hL0 : H L = none := s13.free hL
    have b4 : But L H (upd H3 L (.lst [.str (lnFull (("office" : Str), p.sz))])) := (sbut (s13.trans (same_upd hL)))
    have l4 : upd H3 L (.lst [.str (lnFull (("office" : Str), p.sz))]) L = some (.lst ((pfx p 0).map fun l => V.str (lnFull l))) := by
      rw [upd_same, pfx_zero]
      rfl
    generalize upd H3 L (.lst [.str (lnFull (("office" : Str), p.sz))]) = H4 at b4 l4 ⊢
    have same : ∀ {H' : Hp}, But L H H' → Same H H' := fun b => b.same hL0
    refine ⟨_, rfl, o, _, dx, _, _, rfl, same b4 _ _ ho, T.cl_Office, T.n_moves, of_moves, m1, _, rfl, SqT.of (same b4 _ _ hm), ?_⟩
    refine walk_enumT (K := K) (a := m1) (xs := ms) (fun i σ H' => ∃ v2 v3, σ = [some (.ref o), some (.ref L), v2, v3, none] ∧ H' L = some (.lst ((pfx p i).map fun l => V.str (lnFull l))) ∧ But L H H') ⟨none, none, rfl, l4, b4⟩ (fun i σ H' _ ⟨_, _, _, _, b⟩ => SqT.of (same b _ _ hm)) ?_ ?_
    · rintro i x σ H' T' hx ⟨v2, v3, rfl, hl', bb⟩ hT'
      obtain ⟨r, hr', r1, rs, rfl, hr1, hP1⟩ := paired_get hP hx
      have hi : i < p.mv.length := (List.getElem?_eq_some_iff.mp hr').1
      obtain ⟨c, hc'⟩ := good_cl_at hg hi
      obtain ⟨cx, hcx, c2, rfl, hc2⟩ := paired_get2 hPc hc'
      have hrl := (hg.mv r (List.mem_of_getElem? hr')).len
      have hpl := pfx_len hg i
      have b1 : But L H' (upd H' T' (.tup [.int (i : Nat), .ref r1])) := sbut (same_upd hT')
      have hLT : L ≠ T' := ne_of_none hl' hT'
      refine ⟨T', _, rfl, SqT.of upd_same, rfl, _, _, rfl, _, _, rfl, rfl, ?_⟩
      have l1 : upd H' T' (.tup [.int (i : Nat), .ref r1]) L = some (.lst ((pfx p i).map fun l => V.str (lnFull l))) := by
        rw [upd_ne hLT]
        exact hl'
      have bb1 : But L H (upd H' T' (.tup [.int (i : Nat), .ref r1])) := bb.trans b1
      generalize upd H' T' (.tup [.int (i : Nat), .ref r1]) = H1 at bb1 l1 ⊢
      -- lines.append(words_line(("at", number)))
      refine ⟨_, rfl, .inl ⟨rfl, _, SqL.of l1⟩, _, rfl, (by show 2 ≤ sizeLine; decide), fun u hu => ?_⟩
      refine ⟨u, atLn i, rfl, upd_same, ok_at (by omega), fun H2 s2 => ?_⟩
      have s12 := (same_upd (o := .tup [.str ("at" : Str), .int (i : Nat)]) hu).trans s2
      refine ⟨L, _, _, rfl, rfl, s12 _ _ l1, lst_len (n := 0) (by omega), ?_⟩
      rw [lst_map]
      have bb2 : But L H (upd H2 L (.lst ((pfx p i ++ [atLn i]).map fun l => V.str (lnFull l)))) := (bb1.trans (sbut s12)).upd
      have l2 : upd H2 L (.lst ((pfx p i ++ [atLn i]).map fun l => V.str (lnFull l))) L = some (.lst ((pfx p i ++ [atLn i]).map fun l => V.str (lnFull l))) := upd_same
      generalize upd H2 L (.lst ((pfx p i ++ [atLn i]).map fun l => V.str (lnFull l))) = H3' at bb2 l2 ⊢
      -- lines.extend([words_line(("move",) + move) for move in row])
      refine ⟨_, rfl, .inl ⟨rfl, _, SqL.of l2⟩, _, rfl, r1, rfl, ⟨_, SqT.of (same bb2 _ _ hr1)⟩, fun D hD => ?_⟩
      refine lc_tupY (K := K) (a := r1) (xs := rs) (fun j H' => Same H3' H' ∧ H' D = some (.lst (((r.take j).map mvLn).map fun l => V.str (lnFull l)))) ⟨same_upd hD, upd_same⟩ (fun j H' _ q => SqT.of (q.1 _ _ (same bb2 _ _ hr1))) ?_ ?_
      · rintro j y H' hy ⟨sm, hd⟩
        obtain ⟨m, hm', mt, rfl, hmt⟩ := paired_get hP1 hy
        have hmt' : H' mt = _ := sm _ _ (same bb2 _ _ hmt)
        obtain ⟨x0, x1, x2, x3, em, _⟩ := (hg.mv r (List.mem_of_getElem? hr')).ok m (List.mem_of_getElem? hm')
        have hm4 : m.length ≤ 10 := by
          rw [em]
          show 4 ≤ 10
          decide
        refine ⟨rfl, (by show 1 ≤ sizeLine; decide), fun u hu => ?_⟩
        have s1 : Same H' (upd H' u (.tup [.str ("move" : Str)])) := same_upd hu
        refine ⟨_, rfl, ?_⟩
        refine cat_line upd_same (s1 _ _ hmt') hm4 fun pp H2 s2 hpp => ?_
        refine ⟨pp, _, rfl, hpp, good_mv hg hr' (List.mem_of_getElem? hm'), fun H3 s3 => ?_⟩
        have s14 := (s1.trans s2).trans s3
        refine ⟨_, s14 _ _ hd, lst_len (n := 0) (by rw [List.length_map, List.length_take]; omega), fun b o e => ?_, ?_⟩
        · rw [upd_ne (ne_of_none e hD)]
          exact s14 _ _ (sm _ _ e)
        · rw [upd_same, take_snoc hm', List.map_append, List.map_append] <;> rfl
      · rintro H' ⟨sm, hd⟩
        have hrs : rs.length = r.length := Paired.length hP1
        rw [take_all hrs] at hd
        have hl3 := sm _ _ l2
        refine ⟨L, D, _, _, rfl, rfl, hl3, hd, ?_, ?_⟩
        · simp only [List.length_map, List.length_append, List.length_singleton]
          exact sizeL (by omega)
        have em : (((pfx p i ++ [atLn i]).map fun l => V.str (lnFull l)) ++ (r.map mvLn).map fun l => V.str (lnFull l)) = (pfx p i ++ [atLn i] ++ r.map mvLn).map fun l => V.str (lnFull l) := (List.map_append ..).symm
        rw [em]
        have bb3 : But L H (upd H' L (.lst ((pfx p i ++ [atLn i] ++ r.map mvLn).map fun l => V.str (lnFull l)))) := (bb2.trans (sbut sm)).upd
        have l3 : upd H' L (.lst ((pfx p i ++ [atLn i] ++ r.map mvLn).map fun l => V.str (lnFull l))) L = some (.lst ((pfx p i ++ [atLn i] ++ r.map mvLn).map fun l => V.str (lnFull l))) := upd_same
        generalize upd H' L (.lst ((pfx p i ++ [atLn i] ++ r.map mvLn).map fun l => V.str (lnFull l))) = H5 at bb3 l3 ⊢
        -- lines.append(words_line(("closes",) + office.closings[number]))
        refine ⟨_, rfl, .inl ⟨rfl, _, SqL.of l3⟩, (by show 1 ≤ sizeLine; decide), fun u hu => ?_⟩
        have s1 : Same H5 (upd H5 u (.tup [.str ("closes" : Str)])) := same_upd hu
        have s0 := (same bb3).trans s1
        refine ⟨_, rfl, o, _, dx, _, _, rfl, s0 _ _ ho, T.cl_Office, T.n_closings, of_closings, _, rfl, c1, _, _, _, rfl, rfl, SqT.of (s0 _ _ hc), atI_nat (j := i) hcx, ?_⟩
        have hck := (hg.cl c (List.mem_of_getElem? hc')).len
        refine cat_line upd_same (s0 _ _ hc2) (by omega) fun pp H2 s2 hpp => ?_
        refine ⟨pp, _, rfl, hpp, good_cl hg hc', fun H3 s3 => ?_⟩
        have s14 := (s1.trans s2).trans s3
        refine ⟨L, _, _, rfl, rfl, s14 _ _ l3, lst_len (n := 0) (by simp only [List.length_map, List.length_append, List.length_singleton]; omega), ?_⟩
        refine ⟨_, _, rfl, ?_, (bb3.trans (sbut s14)).upd⟩
        rw [upd_same]
        have e : pfx p (i + 1) = pfx p i ++ [atLn i] ++ r.map mvLn ++ [clLn c] := by
          rw [pfx_succ hg hr' hc']
          simp
        rw [e, lst_map]
        rfl
    · rintro σ H' ⟨v2, v3, rfl, hl', bb⟩
      rw [hml, pfx_all hg] at hl'
      have e : (ofLns p).map (fun l => V.str (lnFull l)) = ((ofLns p).map lnFull).map V.str := by
        rw [List.map_map]
        rfl
      rw [e] at hl'
      exact ⟨⟨_, rfl⟩, _, rfl, _, L, _, rfl, rfl, .inl (SqL.of hl'), text_sum (ok_lns hg) (Nat.le_trans (len_lns hg) (by decide)), q _ (same bb)⟩
/-! ### _law_text -/
def spLawText : Sp := fun vs H Q _ => ∃ (v : V) (p : Parts), vs = [v] ∧ PT3 H v p ∧ Good p ∧ ∀ H', Same H H' → Q (.str (ofText p)) H'
theorem sc_law_text : FnScope ["_law_parts_here", "_law_text_here", "_law_at", "_law_move"] ["_law_parts_here"] (defScope s_law_text) := ⟨rfl, rfl, rfl, by decide +kernel, rfl, by decide +kernel, by decide +kernel⟩
theorem snoc_room {ls : List Ln} {l : Ln} (h : ∀ x ∈ ls, LnOk x) (hl : LnOk l) (hn : ls.length ≤ 3000) : (lnsText ls).length + (lnFull l).length ≤ sizeLine := by
  have h1 := lnsText_len h
  have h2 := lnFull_len hl
  have h3 : ls.length * 36 ≤ 3000 * 36 := Nat.mul_le_mul_right 36 hn
  exact sizeL (by omega)
theorem snoc_text {ls : List Ln} {l : Ln} : lnsText ls ++ lnFull l = lnsText (ls ++ [l]) := by rw [lnsText_append, lnsText_one]
theorem ok_law_text (T : Tx K mg) : Cal P w K mg base 2 "_law_text" spLawText [] := by
  refine cal_mk T.f_law_text T.g_law_text sc_law_text (fun vs H Q E h => ?_) (fun _ _ _ _ _ _ us hl => match us, hl with | [_], _ => rfl) (fun cdv A outer s H vs Q E hr h => ?_)
  · obtain ⟨v, p, rfl, _⟩ := h
    rfl
  · obtain ⟨v, p, rfl, ⟨a, sv, mv, cv, rfl, ha, ⟨t, rfl, hs⟩, ⟨m1, ms, rfl, hm, hP⟩, ⟨c1, cs, rfl, hc, hPc⟩⟩, hg, q⟩ := h
    have hml : ms.length = p.mv.length := Paired.length hP
    have hcl : cs.length = p.cl.length := Paired.length hPc
    have hn := hg.n
    have hcn := hg.cn
    refine ⟨_, pss_cons (ps_set (i := 1) sc_law_text.nd rfl (.inl rfl) (pe_c (ok_law_line T) hr (by decide) (by rfl) (pa_cons (pe_op op_catA (pe_tup (pa_cons pe_str pa_nil)) (pe_ix ix_tup (pv 0) pe_int (fun _ _ => rfl))) pa_nil)))
      (pss_cons (ps_for PassesOwn.never rfl (pi_range1 (by rfl) T.m_range (pa_cons (pe_callB call_len_seq (by rfl) T.m_len PySem.boot_len (pa_cons (pe_ix ix_tup (pv 0) pe_int (fun _ _ => rfl)) pa_nil)) pa_nil)) (pg_name (i := 2) sc_law_text.nd rfl (.inl rfl))
        (pss_cons (ps_set (i := 1) sc_law_text.nd rfl (.inl rfl) (pe_op op_add_str (pv 1) (pe_c (ok_law_line T) hr (by decide) (by rfl) (pa_cons (pe_tup (pa_cons pe_str (pa_cons (pv 2) pa_nil))) pa_nil))))
        (pss_cons (ps_for PassesOwn.never rfl (pi_tup (pe_ix ix_tup (pe_ix ix_tup (pv 0) pe_int (fun _ _ => rfl)) (pv 2) (fun _ _ => rfl))) (pg_name (i := 3) sc_law_text.nd rfl (.inl rfl))
          (pss_one (ps_set (i := 1) sc_law_text.nd rfl (.inl rfl) (pe_op op_add_str (pv 1) (pe_c (ok_law_line T) hr (by decide) (by rfl) (pa_cons (pe_op op_catA (pe_tup (pa_cons pe_str pa_nil)) (pv 3)) pa_nil))))))
        (pss_one (ps_set (i := 1) sc_law_text.nd rfl (.inl rfl) (pe_op op_add_str (pv 1) (pe_c (ok_law_line T) hr (by decide) (by rfl) (pa_cons (pe_op op_catA (pe_tup (pa_cons pe_str pa_nil)) (pe_ix ix_tup (pe_ix ix_tup (pv 0) pe_int (fun _ _ => rfl)) (pv 2) (fun _ _ => rfl))) pa_nil))))))))
      (pss_one (ps_ret (pv 1)))), ?_⟩
    refine ⟨(by show 1 ≤ sizeLine; decide), fun u hu => ?_⟩
    have s1 : Same H (upd H u (.tup [.str ("office" : Str)])) := same_upd hu
    refine ⟨_, rfl, a, _, _, _, rfl, rfl, SqT.of (s1 _ _ ha), atI_nat (j := 0) rfl, ?_⟩
    refine cat_line upd_same (s1 _ _ hs) (by show 3 ≤ 10; decide) fun pp H2 s2 hpp => ?_
    refine ⟨pp, _, rfl, hpp, ok_of hg, fun H3 s3 => ?_⟩
    have s13 : Same H H3 := (s1.trans s2).trans s3
    have e0 : lnFull (("office" : Str), p.sz) = lnsText (pfx p 0) := by rw [pfx_zero, lnsText_one]
    rw [e0]
    refine ⟨_, rfl, a, _, _, _, rfl, rfl, SqT.of (s13 _ _ ha), atI_nat (j := 1) rfl, m1, _, rfl, .inr (SqT.of (s13 _ _ hm)), _, rfl, by omega, by omega, ?_⟩
    refine for_range (lo := 0) (n := ((ms.length : Int)).toNat) (fun i σ H' => ∃ v2 v3, σ = [some (.ref a), some (.str (lnsText (pfx p i))), v2, v3] ∧ Same H H') ⟨none, none, rfl, s13⟩ ?_ ?_
    · rintro i σ H1 hi ⟨v2, v3, rfl, s0⟩
      have hi' : i < p.mv.length := by omega
      obtain ⟨r, hr'⟩ : ∃ r, p.mv[i]? = some r := ⟨_, List.getElem?_eq_getElem hi'⟩
      obtain ⟨rx, hrx, r1, rs, rfl, hr1, hP1⟩ := paired_get2 hP hr'
      obtain ⟨c, hc'⟩ := good_cl_at hg hi'
      obtain ⟨cx, hcx, c2, rfl, hc2⟩ := paired_get2 hPc hc'
      have hrl := (hg.mv r (List.mem_of_getElem? hr')).len
      have hpl := pfx_len hg i
      have hpo := pfx_ok hg i
      have ha' := ok_at (i := i) (by omega)
      have ei : (0 + (i : Nat) : Int) = (i : Int) := by omega
      -- text + _law_line(("at", _law_at))
      refine ⟨_, rfl, _, rfl, (by show 2 ≤ sizeLine; decide), fun u hu => ?_⟩
      refine ⟨u, atLn i, rfl, (by rw [upd_same, ei]; rfl), ha', fun H2 s2 => ?_⟩
      have s02 := (s0.trans (same_upd hu)).trans s2
      refine ⟨_, _, rfl, rfl, snoc_room hpo ha' (by omega), ?_⟩
      rw [snoc_text]
      -- for _law_move in ..
      refine ⟨_, rfl, a, _, _, _, rfl, rfl, SqT.of (s02 _ _ ha), atI_nat (j := 1) rfl, _, rfl, m1, _, _, _, rfl, rfl, SqT.of (s02 _ _ hm), at_of (j := i) ei hrx, r1, rfl, ⟨_, SqT.of (s02 _ _ hr1)⟩, ?_⟩
      have po : ∀ j, ∀ l ∈ pfx p i ++ [atLn i] ++ (r.take j).map mvLn, LnOk l := fun j l hl => by
        rcases List.mem_append.mp hl with hl | hl
        · rcases List.mem_append.mp hl with hl | hl
          · exact hpo l hl
          · rw [List.mem_singleton.mp hl]
            exact ha'
        · obtain ⟨m, hm', rfl⟩ := List.mem_map.mp hl
          exact good_mv hg hr' (List.mem_of_mem_take hm')
      have pl : ∀ j, (pfx p i ++ [atLn i] ++ (r.take j).map mvLn).length ≤ 2000 := fun j => by
        simp only [List.length_map, List.length_append, List.length_singleton, List.length_take]
        omega
      refine for_tup (K := K) (a := r1) (xs := rs) (fun j σ H' => ∃ v3, σ = [some (.ref a), some (.str (lnsText (pfx p i ++ [atLn i] ++ (r.take j).map mvLn))), some (.int (0 + (i : Nat))), v3] ∧ Same H H') ⟨v3, by rw [List.take_zero, List.map_nil, List.append_nil]; rfl, s02⟩ (fun j σ H' _ ⟨_, _, q⟩ => SqT.of (q _ _ hr1)) ?_ ?_
      · rintro j y σ H' hy ⟨v3, rfl, s0'⟩
        obtain ⟨m, hm', mt, rfl, hmt⟩ := paired_get hP1 hy
        obtain ⟨x0, x1, x2, x3, em, _⟩ := (hg.mv r (List.mem_of_getElem? hr')).ok m (List.mem_of_getElem? hm')
        have hm4 : m.length ≤ 10 := by
          rw [em]
          show 4 ≤ 10
          decide
        refine ⟨_, rfl, (by show 1 ≤ sizeLine; decide), fun u hu => ?_⟩
        have s1 : Same H' (upd H' u (.tup [.str ("move" : Str)])) := same_upd hu
        refine ⟨_, rfl, ?_⟩
        refine cat_line upd_same (s1 _ _ (s0' _ _ hmt)) hm4 fun pp H2 s2 hpp => ?_
        have hmo := good_mv hg hr' (List.mem_of_getElem? hm')
        refine ⟨pp, _, rfl, hpp, hmo, fun H3 s3 => ?_⟩
        refine ⟨_, _, rfl, rfl, snoc_room (po j) hmo (by have := pl j; omega), ?_⟩
        rw [snoc_text]
        refine ⟨some (.ref mt), ?_, ((s0'.trans s1).trans s2).trans s3⟩
        have e : pfx p i ++ [atLn i] ++ (r.take j).map mvLn ++ [(("move" : Str), m)] = pfx p i ++ [atLn i] ++ (r.take (j + 1)).map mvLn := by
          rw [take_snoc hm', List.map_append]
          simp [mvLn]
        rw [e]
        rfl
      · rintro σ H' ⟨v3, rfl, s0'⟩
        have hrs : rs.length = r.length := Paired.length hP1
        have po' := po rs.length
        have pl' := pl rs.length
        rw [take_all hrs] at po' pl' ⊢
        -- text + _law_line(("closes",) + ..)
        refine ⟨_, rfl, (by show 1 ≤ sizeLine; decide), fun u hu => ?_⟩
        have s1 : Same H' (upd H' u (.tup [.str ("closes" : Str)])) := same_upd hu
        have s01 := s0'.trans s1
        refine ⟨_, rfl, a, _, _, _, rfl, rfl, SqT.of (s01 _ _ ha), atI_nat (j := 2) rfl, _, rfl, c1, _, _, _, rfl, rfl, SqT.of (s01 _ _ hc), at_of (j := i) ei hcx, ?_⟩
        have hck := (hg.cl c (List.mem_of_getElem? hc')).len
        refine cat_line upd_same (s01 _ _ hc2) (by omega) fun pp H2 s2 hpp => ?_
        have hco := good_cl hg hc'
        refine ⟨pp, _, rfl, hpp, hco, fun H3 s3 => ?_⟩
        refine ⟨_, _, rfl, rfl, snoc_room po' hco (by omega), ?_⟩
        rw [snoc_text]
        refine ⟨some (.int (0 + (i : Nat))), v3, ?_, (s01.trans s2).trans s3⟩
        have e : pfx p i ++ [atLn i] ++ r.map mvLn ++ [(("closes" : Str), c)] = pfx p (i + 1) := by
          rw [pfx_succ hg hr' hc']
          simp [clLn]
        rw [e]
        rfl
    · rintro σ H' ⟨v2, v3, rfl, s0⟩
      have e : ((ms.length : Int)).toNat = p.mv.length := by omega
      rw [e, pfx_all hg]
      exact ⟨_, rfl, q _ s0⟩
end
end K15

-- part F
set_option maxHeartbeats 4000000
/-! K15F: words and lines read. -/
namespace K15
open PySem PySem.Spec PyProof.Rows L2 C8
section
variable {P : Program} {w : World} {K : PySem.W.Frag} {mg : Str → Option Value} {base : Heap}
/-! ### number_of -/
def spNum : Sp := fun vs H Q _ => ∃ i : Int, vs = [.str (numS i)] ∧ Sm i ∧ Q (.int i) H
theorem sc_number_of : FnScope ["word"] ["word"] (defScope s_number_of) := ⟨rfl, rfl, rfl, by decide +kernel, rfl, by decide +kernel, by decide +kernel⟩
theorem zero_tl : TL.tl ("0" : Str) = [48] := by decide +kernel
theorem ok_number_of (T : Tx K mg) : Cal P w K mg base 2 "number_of" spNum [] := by
  refine cal_mk T.f_number_of T.g_number_of sc_number_of (fun vs H Q E h => ?_) (fun _ _ _ _ _ _ us hl => match us, hl with | [_], _ => rfl) (fun cdv A outer s H vs Q E hr h => ?_)
  · obtain ⟨i, rfl, _⟩ := h
    rfl
  · obtain ⟨i, rfl, hi, q⟩ := h
    obtain ⟨tF, gF⟩ := T.s_FIGURES
    obtain ⟨tM, gM⟩ := T.i_MOST_FIGURES
    have h1 := numS_len hi
    have h2 := numS_pos hi
    have hz : (numS i).length ≤ sizeLine := sizeL (by omega)
    refine ⟨_, pss_cons (ps_if (PW.pt (pw_or (pt_not (pt_val (pe_c (ok_is_string_of T) hr (by decide) (by rfl) (pa_cons (pv 0) (pa_cons (pe_glob (v := .str ("0123456789" : Str)) (by rfl) gF ⟨_, rfl⟩) pa_nil)))))
        (pw_or1 (pt_not (pt_chain op_le op_le pe_int (pe_callB call_len_str (by rfl) T.m_len PySem.boot_len (pa_cons (pv 0) pa_nil)) (pe_glob (v := .int 9) (by rfl) gM ⟨_, rfl⟩)))))) (pss_one (ps_ret pe_non)) pss_nil)
      (pss_cons (ps_if (PW.pt (pw_and (pt_cmpR op_gt (pe_callB call_len_str (by rfl) T.m_len PySem.boot_len (pa_cons (pv 0) pa_nil)) pe_int (nomark _))
        (pw_and1 (pt_cmpR op_eq (pe_ix ix_str (pv 0) pe_int (fun _ _ => rfl)) pe_str (nomark _))))) (pss_one (ps_ret pe_non)) pss_nil)
      (pss_one (ps_ret (pe_callTy call_int_str (by rfl) T.m_int (by decide +kernel) (pa_cons (pv 0) pa_nil))))), ?_⟩
    refine ⟨_, rfl, _, _, rfl, numS_figs hi, true, rfl, iteF ?_⟩
    refine ⟨_, rfl, _, rfl, hz, 1, _, rfl, rfl, true, congrArg V.bl (decide_eq_true (show (1 : Int) ≤ ((numS i).length : Int) by omega)), iteT ⟨_, 9, rfl, rfl, true, congrArg V.bl (decide_eq_true (show ((numS i).length : Int) ≤ 9 by omega)), iteF ?_⟩⟩
    refine ⟨_, rfl, _, rfl, hz, _, 1, rfl, rfl, _, rfl, ?_⟩
    have fin : ∀ {D : Ends}, D.rt = Q → tRet (tCB (fun xs H Q => ∃ a n, xs = [.str a] ∧ PySem.intText? a = some n ∧ a.length ≤ 640 ∧ Q (.int n) H) (tCons (tVar 0) tNil)) D [some (.str (numS i))] H := fun {D} e => ⟨_, rfl, _, i, rfl, numS_int hi, by omega, by rw [e]; exact q⟩
    by_cases hl : 1 < (numS i).length
    · rw [decide_eq_true (show (1 : Int) < ((numS i).length : Int) by omega)]
      obtain ⟨c, r, hc, hne⟩ := numS_head hi hl
      refine iteT ⟨_, rfl, _, 0, c, rfl, rfl, hz, atI_nat (j := 0) (by rw [show (numS i).cps.toList = c :: r from hc]; rfl), rfl, false, ?_, iteF (fin rfl)⟩
      have e : ¬ ((V.str ⟨#[c]⟩) = V.str ("0" : Str)) := fun e => by
        injection e with e
        have e2 := congrArg TL.tl e
        rw [zero_tl] at e2
        injection e2 with e3 _
        exact hne e3
      rw [decide_eq_false e]
    · rw [decide_eq_false (show ¬ (1 : Int) < ((numS i).length : Int) by omega)]
      exact iteF (iteF (fin rfl))
/-! ### numbers_behind -/
def spBehind : Sp := fun vs H Q _ => ∃ (l : Ln) (y : Str), vs = [.str (lnText l), .str y] ∧ LnOk l ∧ (l.1 ≠ y → ∀ H', Same H H' → Q .non H') ∧ (l.1 = y → ∀ H' v, Same H H' → TI H' v l.2 → Q v H')
theorem sc_numbers_behind : FnScope ["line", "word", "words", "numbers", "item"] ["line", "word"] (defScope s_numbers_behind) := ⟨rfl, rfl, rfl, by decide +kernel, rfl, by decide +kernel, by decide +kernel⟩
theorem inV_non (ns : List Int) : inV .non (ns.map V.int) = false := by
  unfold inV
  rw [List.any_eq_false]
  intro x hx
  obtain ⟨n, _, rfl⟩ := List.mem_map.mp hx
  show ¬ (false = true)
  exact Bool.false_ne_true
theorem flat_ints (ns : List Int) : (ns.map V.int).all flatV = true := by
  rw [List.all_eq_true]
  intro x hx
  obtain ⟨n, _, rfl⟩ := List.mem_map.mp hx
  rfl
theorem cut1 (xs : List V) : cutV xs (some 1) none = xs.drop 1 := by
  unfold cutV
  rw [show HT.sIx xs.length 0 (some 1) = min 1 xs.length from HT.sIx_nat xs.length 0 1, HT.sIx_none]
  cases xs with
  | nil => rfl
  | cons x r =>
    rw [show min 1 (x :: r).length = 1 by
      rw [List.length_cons]
      omega]
    show (List.take ((x :: r).length - 1) r) = r
    rw [List.length_cons, Nat.add_sub_cancel]
    exact List.take_length
theorem ok_numbers_behind (T : Tx K mg) : Cal P w K mg base 3 "numbers_behind" spBehind [] := by
  refine cal_mk T.f_numbers_behind T.g_numbers_behind sc_numbers_behind (fun vs H Q E h => ?_) (fun _ _ _ _ _ _ us hl => match us, hl with | [_, _], _ => rfl) (fun cdv A outer s H vs Q E hr h => ?_)
  · obtain ⟨l, y, rfl, _⟩ := h
    rfl
  · obtain ⟨l, y, rfl, hl, qn, qy⟩ := h
    refine ⟨_, pss_cons (ps_set (i := 2) sc_numbers_behind.nd rfl (.inl rfl) (pe_split (pv 0) pe_str))
      (pss_cons (ps_if (pt_cmpR op_ne (pe_ix ix_list (pv 2) pe_int (fun _ _ => rfl)) (pv 1) (nomark _)) (pss_one (ps_ret pe_non)) pss_nil)
      (pss_cons (ps_setLc (i := 3) (own := [("item", 4)]) (g := gName 4) rfl sc_numbers_behind.nd rfl rfl (sw_true rfl rfl rfl (by decide +kernel)) (pi_list (pe_slice sl_list (pv 2) (po_some pe_int) po_none)) (blkOk_by (N := ["line", "word", "words", "numbers", "item"]) (sc := defScope s_numbers_behind) (by decide +kernel))
        (fun _ _ _ _ _ => pg_name (i := 4) sc_numbers_behind.nd rfl (.inl rfl)) (fun _ _ _ _ _ => pts_nil) (fun _ _ _ _ _ => pe_c (ok_number_of T) hr (by decide) (by rfl) (pa_cons (pv 4) pa_nil)))
      (pss_one (ps_ret (pe_ifExp (pt_cmpR op_in_seq pe_non (pv 3) rfl) pe_non (pe_callTy call_tuple_of (by rfl) T.m_tuple (by decide +kernel) (pa_cons (pv 3) pa_nil))))))), ?_⟩
    have hk := hl.k
    have hln := lnText_len hl
    refine ⟨_, rfl, ⟨_, rfl⟩, _, (" " : Str), rfl, rfl, by decide +kernel, sizeL (by omega), fun p hp => ?_⟩
    rw [split_line hl]
    have s1 : Same H (upd H p (.lst ((l.1 :: l.2.map numS).map V.str))) := same_upd hp
    refine ⟨_, rfl, p, _, 0, .str l.1, rfl, rfl, SqL.of upd_same, atI_nat (j := 0) rfl, _, rfl, rfl, _, rfl, ?_⟩
    by_cases e : l.1 = y
    · rw [decide_eq_true (congrArg V.str e)]
      refine iteF ?_
      refine ⟨_, rfl, 1, rfl, p, _, rfl, SqL.of upd_same, fun c hc => ?_⟩
      rw [cut1]
      have s2 := s1.trans (same_upd (o := .lst (((l.1 :: l.2.map numS).map V.str).drop 1)) hc)
      refine ⟨c, rfl, ⟨_, SqL.of upd_same⟩, fun D hD => ?_⟩
      have hc2 : upd (upd H p (.lst ((l.1 :: l.2.map numS).map V.str))) c (.lst (((l.1 :: l.2.map numS).map V.str).drop 1)) c = some (.lst ((l.2.map numS).map V.str)) := upd_same
      generalize upd (upd H p (.lst ((l.1 :: l.2.map numS).map V.str))) c (.lst (((l.1 :: l.2.map numS).map V.str).drop 1)) = H3 at s2 hD hc2 ⊢
      refine lc_listY (K := K) (a := c) (xs := (l.2.map numS).map V.str) (fun i H' => Same H3 H' ∧ H' D = some (.lst ((l.2.take i).map V.int))) ⟨same_upd hD, upd_same⟩ (fun i H' _ q => SqL.of (q.1 _ _ hc2)) ?_ ?_
      · rintro i x H' hx ⟨sm, hd⟩
        rw [List.getElem?_map, List.getElem?_map] at hx
        obtain ⟨z, hz, rfl⟩ := Option.map_eq_some_iff.mp hx
        obtain ⟨n, hn, rfl⟩ := Option.map_eq_some_iff.mp hz
        refine ⟨rfl, _, rfl, n, rfl, hl.n n (List.mem_of_getElem? hn), _, hd, ?_, fun b o e => ?_, ?_⟩
        · rw [List.length_map, List.length_take]
          exact small1000 (by omega)
        · rw [upd_ne (ne_of_none e hD)]
          exact sm _ _ e
        · rw [upd_same, take_snoc hn, List.map_append] <;> rfl
      · rintro H' ⟨sm, hd⟩
        rw [take_all (by simp)] at hd
        refine ⟨_, rfl, D, _, rfl, .inl (SqL.of hd), rfl, flat_ints _, false, ?_, iteF ?_⟩
        · show V.bl (inV .non (l.2.map V.int)) = _
          rw [inV_non]
        · exact ⟨_, rfl, D, _, rfl, .inl ⟨SqL.of hd, fun f hf => qy e _ _ ((s2.trans sm).trans (same_upd hf)) ⟨f, rfl, upd_same⟩⟩⟩
    · rw [decide_eq_false (fun z => e (V.str.inj z))]
      exact iteT (qn e _ s1)
/-! ### Lines -/
/-- the lines ls, read up to k, at p (its list at r) -/
structure LinesAt (C : Addr) (H : Hp) (p r : Addr) (ls : List Ln) (k : Nat) : Prop where
  o : ∃ dx, H p = some (.ins C dx (lnF r k))
  r : H r = some (.lst (ls.map fun l => V.str (lnText l)))
  ok : ∀ l ∈ ls, LnOk l
  n : ls.length ≤ 2000
  k : k ≤ ls.length
theorem LinesAt.same {C : Addr} {H H' : Hp} {p r : Addr} {ls : List Ln} {k : Nat} (h : LinesAt C H p r ls k) (s : Same H H') : LinesAt C H' p r ls k := let ⟨dx, e⟩ := h.o; ⟨⟨dx, s _ _ e⟩, s _ _ h.r, h.ok, h.n, h.k⟩
theorem LinesAt.ne {C : Addr} {H : Hp} {p r : Addr} {ls : List Ln} {k : Nat} (h : LinesAt C H p r ls k) : r ≠ p := let ⟨dx, e⟩ := h.o; ne_of h.r e (by intro q; cases q)
theorem LinesAt.but {C : Addr} {H H' : Hp} {p r a : Addr} {ls : List Ln} {k : Nat} (h : LinesAt C H p r ls k) (s : But a H H') (hp : p ≠ a) (hr : r ≠ a) : LinesAt C H' p r ls k := let ⟨dx, e⟩ := h.o; ⟨⟨dx, s _ _ e hp⟩, s _ _ h.r hr, h.ok, h.n, h.k⟩
def spLines (C : Addr) : Sp := fun vs H Q _ => ∃ (p dx : Addr) (ls : List Ln), vs = [.ref p, .str (lnsText ls)] ∧ H p = some (.ins C dx []) ∧ (∀ l ∈ ls, LnOk l) ∧ ls.length ≤ 2000 ∧ ∀ r H', LinesAt C H' p r ls 0 → H r = none → But p H H' → Q .non H'
theorem sc_Lines : FnScope ["self", "text", "parts"] ["self", "text"] (defScope s_Lines_init) := ⟨rfl, rfl, rfl, by decide +kernel, rfl, by decide +kernel, by decide +kernel⟩
theorem cut_last (xs : List V) (v : V) : cutV (xs ++ [v]) none (some (-1)) = xs := by
  unfold cutV
  have e : HT.sIx (xs ++ [v]).length (xs ++ [v]).length (some (-1)) = xs.length := by
    show (if (-1 : Int) < 0 then (-1 + ((xs ++ [v]).length : Int)).toNat else min (-1 : Int).toNat (xs ++ [v]).length) = _
    rw [if_pos (by decide), List.length_append, List.length_singleton]
    omega
  rw [e, HT.sIx_none, List.drop_zero, Nat.sub_zero]
  simp
theorem ok_Lines (T : Tx K mg) : Mak P w K mg base 1 "Lines" (He.ga K "Lines") (spLines (He.ga K "Lines")) [] := by
  refine mak_mk T.mk_Lines T.g_Lines T.f_Lines_init sc_Lines (fun vs H Q E h => ?_) (fun _ _ _ _ _ _ us hl => match us, hl with | [_, _], _ => rfl) (fun cdv A outer s H vs Q E hr h => ?_)
  · obtain ⟨p, dx, ls, rfl, _⟩ := h
    rfl
  · obtain ⟨p, dx, ls, rfl, hp, ho, hn, q⟩ := h
    refine ⟨_, pss_cons (ps_if (pt_not (pt_val (pe_callB call_isi (by rfl) T.m_isinstance (by decide +kernel) (pa_cons (pv 1) (pa_cons (pe_bltn (v := .ty "str") (by rfl) T.m_str (by decide +kernel) rfl) pa_nil))))) (pss_one ps_never) pss_nil)
      (pss_cons (ps_set (i := 2) sc_Lines.nd rfl (.inl rfl) (pe_split (pv 1) pe_str))
      (pss_cons (ps_fld (pv 0) (pe_slice sl_list (pv 2) po_none (po_some (pe_un un_neg pe_int))) rfl)
      (pss_cons (ps_fld (pv 0) (pe_ix ix_list (pv 2) (pe_un un_neg pe_int) (fun _ _ => rfl)) rfl)
      (pss_one (ps_fld (pv 0) pe_int rfl))))), ?_⟩
    refine ⟨_, rfl, _, _, _, _, _, rfl, .ty _, .base (.str _), kit_ty kb_str_str, true, rfl, iteF ?_⟩
    have hlen := lnsText_len ho
    have h36 : ls.length * 36 ≤ 2000 * 36 := Nat.mul_le_mul_right 36 hn
    refine ⟨_, rfl, ⟨_, rfl⟩, _, ("\n" : Str), rfl, rfl, by decide +kernel, sizeL (by omega), fun a ha => ?_⟩
    rw [split_text ho, List.map_append, List.map_map, List.map_cons, List.map_nil]
    have s1 : Same H (upd H a (.lst (ls.map (V.str ∘ lnText) ++ [V.str ("" : Str)]))) := same_upd ha
    refine ⟨_, rfl, 1, rfl, -1, rfl, a, _, rfl, SqL.of upd_same, fun r hr' => ?_⟩
    rw [cut_last]
    have har : a ≠ r := ne_of_none upd_same hr'
    have s2 := s1.trans (same_upd (o := .lst (ls.map (V.str ∘ lnText))) hr')
    have hr0 : H r = none := s1.free hr'
    have ha2 : upd (upd H a (.lst (ls.map (V.str ∘ lnText) ++ [V.str ("" : Str)]))) r (.lst (ls.map (V.str ∘ lnText))) a = some (.lst (ls.map (V.str ∘ lnText) ++ [V.str ("" : Str)])) := by rw [upd_ne har, upd_same]
    have hr2 : upd (upd H a (.lst (ls.map (V.str ∘ lnText) ++ [V.str ("" : Str)]))) r (.lst (ls.map (V.str ∘ lnText))) r = some (.lst (ls.map (V.str ∘ lnText))) := upd_same
    generalize upd (upd H a (.lst (ls.map (V.str ∘ lnText) ++ [V.str ("" : Str)]))) r (.lst (ls.map (V.str ∘ lnText))) = H2 at s2 ha2 hr2 ⊢
    have hp2 := s2 _ _ hp
    have hap : a ≠ p := ne_of ha2 hp2 (by intro q; cases q)
    have hrp : r ≠ p := ne_of hr2 hp2 (by intro q; cases q)
    refine ⟨_, rfl, p, _, dx, [], rfl, hp2, T.cl_Lines, T.n_rows, (by show 0 < 1000; decide), ?_⟩
    refine ⟨_, rfl, 1, rfl, a, _, -1, _, rfl, rfl, SqL.of (by rw [upd_ne hap]; exact ha2), atI_last _ _, _, rfl, p, _, dx, _, rfl, upd_same, T.cl_Lines, T.n_rest, (by show 1 < 1000; decide), ?_⟩
    refine ⟨_, rfl, p, _, dx, _, rfl, upd_same, T.cl_Lines, T.n_at, (by show 2 < 1000; decide), ?_⟩
    rw [upd_upd, upd_upd]
    have ef : putF "at" (.int 0) (putF "rest" (.str ("" : Str)) (putF "rows" (.ref r) [])) = lnF r ((0 : Nat) : Int) := by
      show putF "at" (.int 0) (putF "rest" (.str ("" : Str)) [(("rows" : Str), .ref r)]) = _
      rw [pf_ne (by decide +kernel)]
      show putF "at" (.int 0) [(("rows" : Str), .ref r), (("rest" : Str), .str ("" : Str))] = _
      rw [pf_ne (by decide +kernel), pf_ne (by decide +kernel)]
      rfl
    rw [ef]
    exact q r _ ⟨⟨dx, upd_same⟩, by rw [upd_ne hrp]; exact hr2, ho, hn, Nat.zero_le _⟩ hr0 (sbut s2).upd
/-! ### is_out, tried, needed, check_out -/
def spOut (C : Addr) : Sp := fun vs H Q _ => ∃ (p r : Addr) (ls : List Ln) (k : Nat), vs = [.ref p] ∧ LinesAt C H p r ls k ∧ Q (.bl (decide (k = ls.length))) H
theorem sc_is_out : FnScope ["self"] ["self"] (defScope s_Lines_is_out) := ⟨rfl, rfl, rfl, by decide +kernel, rfl, by decide +kernel, by decide +kernel⟩
theorem dec_len {k n : Nat} : decide (V.int (k : Int) = V.int (n : Int)) = decide (k = n) := by
  by_cases h : k = n
  · rw [decide_eq_true h, decide_eq_true (by rw [h])]
  · rw [decide_eq_false h, decide_eq_false (fun e => h (by injection e with e; omega))]
theorem ok_is_out (T : Tx K mg) : Met P w K mg base 1 (He.ga K "Lines") "is_out" (spOut (He.ga K "Lines")) [] := by
  refine met_mk T.cl_Lines T.me_Lines_is_out T.f_Lines_is_out sc_is_out (fun vs H Q E h => ?_) (fun _ _ _ _ _ _ us hl => match us, hl with | [_], _ => rfl) (fun cdv A outer s H vs Q E hr h => ?_)
  · obtain ⟨p, r, ls, k, rfl, _⟩ := h
    rfl
  · obtain ⟨p, r, ls, k, rfl, L, q⟩ := h
    obtain ⟨dx, ho⟩ := L.o
    refine ⟨_, pss_one (ps_ret (pe_cmpR op_eq (pe_fld (pv 0) rfl) (pe_callB call_len_seq (by rfl) T.m_len PySem.boot_len (pa_cons (pe_fld (pv 0) rfl) pa_nil)) (nomark _))), ?_⟩
    refine ⟨_, rfl, p, _, dx, _, _, rfl, ho, T.cl_Lines, T.n_at, ln_at, _, rfl, p, _, dx, _, _, rfl, ho, T.cl_Lines, T.n_rows, ln_rows, r, _, rfl, .inl (SqL.of L.r), rfl, ?_⟩
    rw [List.length_map, dec_len]
    exact q
def spTried (C : Addr) : Sp := fun vs H Q _ => ∃ (p r : Addr) (ls : List Ln) (k : Nat) (y : Str) (mv : V), vs = [.ref p, .str y, mv] ∧ LinesAt C H p r ls k ∧
  ((k = ls.length ∧ ∀ H', Same H H' → Q .non H') ∨ (∃ l, ls[k]? = some l ∧ l.1 ≠ y ∧ ∀ H', Same H H' → Q .non H') ∨
    ∃ ns : List Int, ls[k]? = some (y, ns) ∧ (mv = .non ∨ mv = .int ns.length) ∧ ∀ H' a, H' a = some (.tup (ns.map V.int)) → LinesAt C H' p r ls (k + 1) → But p H H' → Q (.ref a) H')
theorem sc_tried : FnScope ["self", "word", "many", "numbers"] ["self", "word", "many"] (defScope s_Lines_tried) := ⟨rfl, rfl, rfl, by decide +kernel, rfl, by decide +kernel, by decide +kernel⟩
theorem ref_non {a : Addr} : decide (V.ref a = V.non) = false := decide_eq_false (by intro q; cases q)
theorem int_non {i : Int} : decide (V.int i = V.non) = false := decide_eq_false (by intro q; cases q)
theorem ok_tried (T : Tx K mg) : Met P w K mg base 4 (He.ga K "Lines") "tried" (spTried (He.ga K "Lines")) [] := by
  refine met_mk T.cl_Lines T.me_Lines_tried T.f_Lines_tried sc_tried (fun vs H Q E h => ?_) (fun _ _ _ _ _ _ us hl => match us, hl with | [_, _, _], _ => rfl) (fun cdv A outer s H vs Q E hr h => ?_)
  · obtain ⟨p, r, ls, k, y, mv, rfl, _⟩ := h
    rfl
  · obtain ⟨p, r, ls, k, y, mv, rfl, L, h⟩ := h
    obtain ⟨dx, ho⟩ := L.o
    refine ⟨_, pss_cons (ps_if (pt_val (pe_mt0 (ok_is_out T) hr (by decide) (pv 0))) (pss_one (ps_ret pe_non)) pss_nil)
      (pss_cons (ps_set (i := 3) sc_tried.nd rfl (.inl rfl) (pe_c (ok_numbers_behind T) hr (by decide) (by rfl) (pa_cons (pe_ix ix_list (pe_fld (pv 0) rfl) (pe_fld (pv 0) rfl) (fun _ _ => rfl)) (pa_cons (pv 1) pa_nil))))
      (pss_cons (ps_if (PW.pt (pw_or (pt_cmpR op_isN (pv 3) pe_non (nomark _)) (pw_or1 (PW.pt (pw_and (pt_cmpR op_notN (pv 2) pe_non (nomark _)) (pw_and1 (pt_cmpR op_ne (pe_callB call_len_seq (by rfl) T.m_len PySem.boot_len (pa_cons (pv 3) pa_nil)) (pv 2) (nomark _)))))))) (pss_one (ps_ret pe_non)) pss_nil)
      (pss_cons (ps_fldaug (pv 0) pe_int in_add)
      (pss_one (ps_ret (pv 3)))))), ?_⟩
    refine ⟨_, rfl, p, dx, _, rfl, ho, (by rfl), p, r, ls, k, rfl, L, _, rfl, ?_⟩
    rcases h with ⟨hk, q⟩ | h
    · rw [decide_eq_true hk]
      exact iteT (q H (Same.refl H))
    obtain ⟨l, hl⟩ : ∃ l, ls[k]? = some l := by
      rcases h with ⟨l, hl, _⟩ | ⟨ns, hl, _⟩
      · exact ⟨l, hl⟩
      · exact ⟨_, hl⟩
    have hk : k < ls.length := (List.getElem?_eq_some_iff.mp hl).1
    rw [decide_eq_false (show ¬ k = ls.length by omega)]
    refine iteF ?_
    have hx : (ls.map fun l => V.str (lnText l))[k]? = some (.str (lnText l)) := by
      rw [List.getElem?_map, hl]
      rfl
    refine ⟨_, rfl, p, _, dx, _, _, rfl, ho, T.cl_Lines, T.n_rows, ln_rows, _, rfl, p, _, dx, _, _, rfl, ho, T.cl_Lines, T.n_at, ln_at, r, _, _, _, rfl, rfl, SqL.of L.r, atI_nat (j := k) hx, _, rfl, l, y, rfl, L.ok l (List.mem_of_getElem? hl), fun hne H' sm => ?_, fun he H' v sm hv => ?_⟩
    · rcases h with ⟨l', hl', hne', q⟩ | ⟨ns, hl', _⟩
      · exact ⟨_, rfl, rfl, _, rfl, iteT (iteT (q H' sm))⟩
      · rw [hl] at hl'
        cases hl'
        exact absurd rfl hne
    · rcases h with ⟨l', hl', hne', q⟩ | ⟨ns, hl', hm, q⟩
      · rw [hl] at hl'
        cases hl'
        exact absurd he hne'
      · rw [hl] at hl'
        cases hl'
        obtain ⟨a, rfl, ha⟩ := hv
        have L' := L.same sm
        obtain ⟨dx', ho'⟩ := L'.o
        have hap : a ≠ p := ne_of ha ho' (by intro q; cases q)
        have fin : ∀ {D : Ends} {x y : Option V}, D.rt = Q → sFldAug K (tVar 0) (tC (.int 1)) rAdd "at" { D with nx := tRet (tVar 3) D } [some (.ref p), x, y, some (.ref a)] H' := fun {D x y} e => by
          refine ⟨_, rfl, p, _, dx', _, _, rfl, ho', T.cl_Lines, T.n_at, ln_at, _, _, rfl, rfl, dx', _, ho', (by show 3 < 1000; decide), _, rfl, ?_⟩
          rw [e, ln_put]
          refine q _ a (by rw [upd_ne hap]; exact ha) ⟨⟨dx', ?_⟩, by rw [upd_ne L'.ne]; exact L'.r, L'.ok, L'.n, by omega⟩ (sbut sm).upd
          rw [upd_same]
          rfl
        refine ⟨_, rfl, rfl, _, rfl, ?_⟩
        rw [ref_non]
        refine iteF ?_
        rcases hm with rfl | rfl
        · exact ⟨_, rfl, rfl, _, rfl, iteF (iteF (fin rfl))⟩
        · refine ⟨_, rfl, rfl, _, rfl, ?_⟩
          rw [int_non]
          refine iteT ⟨_, rfl, a, _, rfl, .inr (SqT.of ha), _, rfl, rfl, _, rfl, ?_⟩
          rw [List.length_map, decide_eq_true rfl]
          exact iteF (fin rfl)
end
end K15

-- part G
set_option maxHeartbeats 4000000
/-! K15G: offices read. -/
namespace K15
open PySem PySem.Spec PyProof.Rows L2 C8
section
variable {P : Program} {w : World} {K : PySem.W.Frag} {mg : Str → Option Value} {base : Heap}
/-! ### needed, check_out -/
def spNeeded (C : Addr) : Sp := fun vs H Q _ => ∃ (p r : Addr) (ls : List Ln) (k : Nat) (y : Str) (mv : V) (ns : List Int), vs = [.ref p, .str y, mv] ∧ LinesAt C H p r ls k ∧ ls[k]? = some (y, ns) ∧ (mv = .non ∨ mv = .int ns.length) ∧
  ∀ H' a, H' a = some (.tup (ns.map V.int)) → LinesAt C H' p r ls (k + 1) → But p H H' → Q (.ref a) H'
theorem sc_needed : FnScope ["self", "word", "many", "numbers"] ["self", "word", "many"] (defScope s_Lines_needed) := ⟨rfl, rfl, rfl, by decide +kernel, rfl, by decide +kernel, by decide +kernel⟩
theorem ok_needed (T : Tx K mg) : Met P w K mg base 5 (He.ga K "Lines") "needed" (spNeeded (He.ga K "Lines")) [] := by
  refine met_mk T.cl_Lines T.me_Lines_needed T.f_Lines_needed sc_needed (fun vs H Q E h => ?_) (fun _ _ _ _ _ _ us hl => match us, hl with | [_, _, _], _ => rfl) (fun cdv A outer s H vs Q E hr h => ?_)
  · obtain ⟨p, r, ls, k, y, mv, ns, rfl, _⟩ := h
    rfl
  · obtain ⟨p, r, ls, k, y, mv, ns, rfl, L, hl, hm, q⟩ := h
    obtain ⟨dx, ho⟩ := L.o
    refine ⟨_, pss_cons (ps_set (i := 3) sc_needed.nd rfl (.inl rfl) (pe_mt (ok_tried T) hr (by decide) (pv 0) (pa_cons (pv 1) (pa_cons (pv 2) pa_nil))))
      (pss_cons (ps_if (pt_cmpR op_isN (pv 3) pe_non (nomark _)) (pss_one ps_never) pss_nil)
      (pss_one (ps_ret (pv 3)))), ?_⟩
    refine ⟨_, rfl, p, dx, _, rfl, ho, (by rfl), _, rfl, _, rfl, p, r, ls, k, y, mv, rfl, L, .inr (.inr ⟨ns, hl, hm, fun H' a ha L' b => ?_⟩)⟩
    refine ⟨_, rfl, rfl, _, rfl, ?_⟩
    rw [ref_non]
    exact iteF ⟨_, rfl, q H' a ha L' b⟩
def spCheck (C : Addr) : Sp := fun vs H Q _ => ∃ (p r : Addr) (ls : List Ln), vs = [.ref p] ∧ LinesAt C H p r ls ls.length ∧ Q .non H
theorem sc_check_out : FnScope ["self"] ["self"] (defScope s_Lines_check_out) := ⟨rfl, rfl, rfl, by decide +kernel, rfl, by decide +kernel, by decide +kernel⟩
theorem ok_check_out (T : Tx K mg) : Met P w K mg base 2 (He.ga K "Lines") "check_out" (spCheck (He.ga K "Lines")) [] := by
  refine met_mk T.cl_Lines T.me_Lines_check_out T.f_Lines_check_out sc_check_out (fun vs H Q E h => ?_) (fun _ _ _ _ _ _ us hl => match us, hl with | [_], _ => rfl) (fun cdv A outer s H vs Q E hr h => ?_)
  · obtain ⟨p, r, ls, rfl, _⟩ := h
    rfl
  · obtain ⟨p, r, ls, rfl, L, q⟩ := h
    obtain ⟨dx, ho⟩ := L.o
    refine ⟨_, pss_one (ps_if (PW.pt (pw_or (pt_not (pt_val (pe_mt0 (ok_is_out T) hr (by decide) (pv 0)))) (pw_or1 (pt_cmpR op_ne (pe_fld (pv 0) rfl) pe_str (nomark _))))) (pss_one ps_never) pss_nil), ?_⟩
    refine ⟨_, rfl, p, dx, _, rfl, ho, (by rfl), p, r, ls, _, rfl, L, _, rfl, ?_⟩
    rw [decide_eq_true rfl]
    refine iteF ⟨_, rfl, p, _, dx, _, _, rfl, ho, T.cl_Lines, T.n_rest, ln_rest, rfl, _, rfl, ?_⟩
    rw [decide_eq_true rfl]
    exact iteF q
/-! ### read_standing -/
theorem at_drop {ls : List Ln} {k j : Nat} {b : List Ln} (h : ls.drop k = b) : ls[k + j]? = b[j]? := by rw [← h, List.getElem?_drop]
def spReadSt (C : Addr) : Sp := fun vs H Q _ => ∃ (p r : Addr) (ls : List Ln) (k i : Nat) (m : List (List Int)) (c : List Int) (rest : List Ln), vs = [.ref p, .int i] ∧ LinesAt C H p r ls k ∧
  ls.drop k = atLn i :: (m.map mvLn ++ (clLn c :: rest)) ∧ (∀ x ∈ m, x.length = 4) ∧ m.length ≤ 63 ∧
  ∀ H' t mv cv, H' t = some (.tup [mv, cv]) → TII H' mv m → TI H' cv c → LinesAt C H' p r ls (k + m.length + 2) → But p H H' → Q (.ref t) H'
/-- the promise of tried, not to be opened -/
@[irreducible] def spTriedI (C : Addr) : Sp := spTried C
theorem ok_triedI (T : Tx K mg) : Met P w K mg base 4 (He.ga K "Lines") "tried" (spTriedI (He.ga K "Lines")) [] := by
  unfold spTriedI
  exact ok_tried T
theorem triedI {C : Addr} {vs : List V} {H : Hp} {Q : VK} {E : XK} (h : spTried C vs H Q E) : spTriedI C vs H Q E := by
  unfold spTriedI
  exact h
theorem sc_read_standing : FnScope ["lines", "number", "moves", "move"] ["lines", "number"] (defScope s_read_standing) := ⟨rfl, rfl, rfl, by decide +kernel, rfl, by decide +kernel, by decide +kernel⟩
theorem ok_read_standing (T : Tx K mg) : Cal P w K mg base 6 "read_standing" (spReadSt (He.ga K "Lines")) [] := by
  refine cal_mk T.f_read_standing T.g_read_standing sc_read_standing (fun vs H Q E h => ?_) (fun _ _ _ _ _ _ us hl => match us, hl with | [_, _], _ => rfl) (fun cdv A outer s H vs Q E hr h => ?_)
  · obtain ⟨p, r, ls, k, i, m, c, rest, rfl, _⟩ := h
    rfl
  · obtain ⟨p, r, ls, k, i, m, c, rest, rfl, L, hd, hm4, hm63, q⟩ := h
    obtain ⟨dx, ho⟩ := L.o
    have at0 : ls[k]? = some (("at" : Str), [(i : Int)]) := by
      have := at_drop (j := 0) hd
      rw [Nat.add_zero] at this
      rw [this]
      rfl
    have atj : ∀ j x, m[j]? = some x → ls[k + 1 + j]? = some (("move" : Str), x) := fun j x hx => by
      have := at_drop (j := 1 + j) hd
      rw [← Nat.add_assoc] at this
      rw [this, Nat.add_comm 1 j, List.getElem?_cons_succ, List.getElem?_append_left (by rw [List.length_map]; exact (List.getElem?_eq_some_iff.mp hx).1), List.getElem?_map, hx]
      rfl
    have atc : ls[k + 1 + m.length]? = some (("closes" : Str), c) := by
      have := at_drop (j := 1 + m.length) hd
      rw [← Nat.add_assoc] at this
      rw [this, Nat.add_comm 1, List.getElem?_cons_succ, List.getElem?_append_right (by rw [List.length_map]; exact Nat.le_refl _), List.length_map, Nat.sub_self]
      rfl
    have ncl : (("closes" : Str)) ≠ ("move" : Str) := by decide +kernel
    /- what tried("move", 4) gives behind j moves -/
    have adv : ∀ (j : Nat) (H' : Hp) (Q' : VK), j ≤ m.length → LinesAt (He.ga K "Lines") H' p r ls (k + 1 + j) → (∀ H'' x, But p H' H'' → ((∃ a mm, x = .ref a ∧ m[j]? = some mm ∧ H'' a = some (.tup (mm.map V.int)) ∧ LinesAt (He.ga K "Lines") H'' p r ls (k + 1 + j + 1)) ∨ (j = m.length ∧ x = .non ∧ LinesAt (He.ga K "Lines") H'' p r ls (k + 1 + m.length))) → Q' x H'') →
        spTriedI (He.ga K "Lines") [.ref p, .str ("move" : Str), .int 4] H' Q' C8.E0 := fun j H' Q' hj L' q' => by
      by_cases e : j = m.length
      · subst e
        exact triedI ⟨p, r, ls, _, _, _, rfl, L', .inr (.inl ⟨_, atc, ncl, fun H'' sm => q' H'' .non (sbut sm) (.inr ⟨rfl, rfl, L'.same sm⟩)⟩)⟩
      · obtain ⟨x, hx⟩ : ∃ x, m[j]? = some x := ⟨_, List.getElem?_eq_getElem (show j < m.length by omega)⟩
        have h4 := hm4 x (List.mem_of_getElem? hx)
        exact triedI ⟨p, r, ls, _, _, _, rfl, L', .inr (.inr ⟨x, atj j x hx, .inr (by rw [h4]; rfl), fun H'' a ha L'' b => q' H'' (.ref a) b (.inl ⟨a, x, rfl, hx, ha, L''⟩)⟩)⟩
    refine ⟨_, pss_cons (ps_if (pt_cmpR (op_neD hr.units) (pe_mt (ok_needed T) hr (by decide) (pv 0) (pa_cons pe_str (pa_cons pe_int pa_nil))) (pe_tup (pa_cons (pv 1) pa_nil)) (nomark _)) (pss_cons ps_never (pss_one ps_never)) pss_nil)
      (pss_cons (ps_set (i := 2) sc_read_standing.nd rfl (.inl rfl) (pe_lst pa_nil))
      (pss_cons (ps_set (i := 3) sc_read_standing.nd rfl (.inl rfl) (pe_mt (ok_triedI T) hr (by decide) (pv 0) (pa_cons pe_str (pa_cons pe_int pa_nil))))
      (pss_cons (ps_while PassesOwn.never (pt_cmpR op_notN (pv 3) pe_non (nomark _))
        (pss_cons (ps_expr (pe_bm PySem.F.plainAttrs_list PySem.F.slot_list_append PySem.F.type_list_append mt_append (pv 2) (pa_cons (pv 3) pa_nil)))
        (pss_one (ps_set (i := 3) sc_read_standing.nd rfl (.inl rfl) (pe_mt (ok_triedI T) hr (by decide) (pv 0) (pa_cons pe_str (pa_cons pe_int pa_nil)))))))
      (pss_one (ps_ret (pe_tup (pa_cons (pe_callTy call_tuple_of (by rfl) T.m_tuple (by decide +kernel) (pa_cons (pv 2) pa_nil)) (pa_cons (pe_mt (ok_needed T) hr (by decide) (pv 0) (pa_cons pe_str (pa_cons pe_non pa_nil))) pa_nil)))))))), ?_⟩
    -- if lines.needed("at", 1) != (number,)
    refine ⟨_, rfl, p, dx, _, rfl, ho, (by rfl), p, r, ls, k, _, _, _, rfl, L, at0, .inr rfl, fun H1 a ha L1 b1 => ?_⟩
    refine ⟨_, rfl, (by show 1 ≤ sizeLine; decide), fun t ht => ?_⟩
    have hat : a ≠ t := ne_of_none ha ht
    refine ⟨dI [(i : Int)], dI [(i : Int)], TI.dp ⟨a, rfl, by rw [upd_ne hat]; exact ha⟩, TI.dp ⟨t, rfl, upd_same⟩, shp_I _, shp_I _, ?_⟩
    rw [eqv_dI, decide_eq_true rfl]
    refine ⟨false, rfl, iteF ?_⟩
    have L2' := L1.same (same_upd (o := .tup [.int (i : Int)]) ht)
    have b2 : But p H (upd H1 t (.tup [.int (i : Int)])) := b1.trans (sbut (same_upd ht))
    generalize upd H1 t (.tup [.int (i : Int)]) = H2 at L2' b2 ⊢
    -- moves = []; move = lines.tried("move", 4)
    refine ⟨Nat.zero_le _, fun l hl => ?_⟩
    have L3 := L2'.same (same_upd (o := .lst []) hl)
    have b3 : But p H (upd H2 l (.lst [])) := b2.trans (sbut (same_upd hl))
    obtain ⟨dx2, ho2⟩ := L2'.o
    have hlp : l ≠ p := (ne_of_none ho2 hl).symm
    have hlr : r ≠ l := ne_of_none L2'.r hl
    have hl0 : H l = none := b2.free hlp hl
    have hl3 : upd H2 l (.lst []) l = some (.lst []) := upd_same
    generalize upd H2 l (.lst []) = H3 at L3 b3 hl3 ⊢
    obtain ⟨dx3, ho3⟩ := L3.o
    refine ⟨_, rfl, p, dx3, _, rfl, ho3, (by rfl), adv 0 H3 _ (Nat.zero_le _) L3 fun H4 x4 b34 hx4 => ?_⟩
    -- while move is not None
    refine ⟨fun μ σ H' => ∃ j x vs, j + μ = m.length ∧ σ = [some (.ref p), some (.int i), some (.ref l), some x] ∧ H' l = some (.lst vs) ∧ Paired (TI H') vs (m.take j) ∧ But p H H' ∧
        ((∃ a mm, x = .ref a ∧ m[j]? = some mm ∧ H' a = some (.tup (mm.map V.int)) ∧ LinesAt (He.ga K "Lines") H' p r ls (k + 1 + j + 1)) ∨ (j = m.length ∧ x = .non ∧ LinesAt (He.ga K "Lines") H' p r ls (k + 1 + m.length))),
      ⟨m.length, 0, x4, [], Nat.zero_add _, rfl, b34 l _ hl3 hlp, .nil, b3.trans b34, hx4⟩, ?_⟩
    rintro μ σ H' ⟨j, x, vs, ej, rfl, hl', hP, bb, hx⟩
    rcases hx with ⟨a, mm, rfl, hmm, ha, LL⟩ | ⟨rfl, rfl, LL⟩
    · have hj : j < m.length := (List.getElem?_eq_some_iff.mp hmm).1
      refine ⟨_, rfl, rfl, _, rfl, ?_⟩
      rw [ref_non]
      refine iteT ⟨fun σ' H'' => ∃ j' x vs, j' = j + 1 ∧ σ' = [some (.ref p), some (.int i), some (.ref l), some x] ∧ H'' l = some (.lst vs) ∧ Paired (TI H'') vs (m.take j') ∧ But p H H'' ∧
        ((∃ a mm, x = .ref a ∧ m[j']? = some mm ∧ H'' a = some (.tup (mm.map V.int)) ∧ LinesAt (He.ga K "Lines") H'' p r ls (k + 1 + j' + 1)) ∨ (j' = m.length ∧ x = .non ∧ LinesAt (He.ga K "Lines") H'' p r ls (k + 1 + m.length))), ?_, ?_⟩
      · rintro σ' H'' ⟨j', x, vs, rfl, h1, h2, h3, h4, h5⟩
        exact ⟨μ - 1, by omega, j + 1, x, vs, by omega, h1, h2, h3, h4, h5⟩
      · have hvl : vs.length = j := by
          have := Paired.length hP
          rw [List.length_take] at this
          omega
        refine ⟨_, rfl, .inl ⟨rfl, _, SqL.of hl'⟩, _, rfl, l, vs, _, rfl, rfl, hl', small1000 (by omega), ?_⟩
        have hal : a ≠ l := ne_of ha hl' (by intro q; cases q)
        have tk : TK H' (upd H' l (.lst (vs ++ [.ref a]))) := But.tk (a := l) (fun b o e hb => by rw [upd_ne hb]; exact e) hl'
        have L5 := LL.but (a := l) (H' := upd H' l (.lst (vs ++ [.ref a]))) (fun b o e hb => by rw [upd_ne hb]; exact e) hlp.symm hlr
        have b5 : But p H (upd H' l (.lst (vs ++ [.ref a]))) := fun b o e hb => by
          rw [upd_ne (ne_of_none e hl0)]
          exact bb b o e hb
        have P5 : Paired (TI (upd H' l (.lst (vs ++ [.ref a])))) (vs ++ [.ref a]) (m.take (j + 1)) := by
          rw [take_snoc hmm]
          exact Paired.snoc (Paired.mapP hP fun _ _ => TI.tk tk) ⟨a, rfl, tk _ _ ha⟩
        have hl5 : upd H' l (.lst (vs ++ [.ref a])) l = some (.lst (vs ++ [.ref a])) := upd_same
        generalize upd H' l (.lst (vs ++ [.ref a])) = H5 at L5 b5 P5 hl5 ⊢
        obtain ⟨dx5, ho5⟩ := L5.o
        refine ⟨_, rfl, p, dx5, _, rfl, ho5, (by rfl), adv (j + 1) H5 _ hj L5 fun H6 x6 b56 hx6 => ?_⟩
        exact ⟨j + 1, x6, _, rfl, rfl, b56 l _ hl5 hlp, Paired.mapP P5 (fun _ _ => TI.tk (b56.tki ho5)), b5.trans b56, hx6⟩
    · refine ⟨_, rfl, rfl, _, rfl, iteF ?_⟩
      rw [List.take_length] at hP
      refine ⟨_, rfl, l, vs, rfl, .inl ⟨SqL.of hl', fun f hf => ?_⟩⟩
      have L6 := LL.same (same_upd (o := .tup vs) hf)
      have b6 : But p H (upd H' f (.tup vs)) := bb.trans (sbut (same_upd hf))
      have M6 : TII (upd H' f (.tup vs)) (.ref f) m := ⟨f, vs, rfl, upd_same, Paired.mapP hP fun _ _ => TI.tk (stk (same_upd hf))⟩
      generalize upd H' f (.tup vs) = H6 at L6 b6 M6 ⊢
      obtain ⟨dx6, ho6⟩ := L6.o
      refine ⟨_, rfl, p, dx6, _, rfl, ho6, (by rfl), p, r, ls, _, _, _, c, rfl, L6, atc, .inl rfl, fun H7 a ha L7 b7 => ?_⟩
      refine ⟨(by show 2 ≤ sizeLine; decide), fun t ht => ?_⟩
      have s8 : Same H7 (upd H7 t (.tup [.ref f, .ref a])) := same_upd ht
      refine q _ t (.ref f) (.ref a) upd_same (TII.tk (stk s8) (TII.tk (b7.tki ho6) M6)) ⟨a, rfl, s8 _ _ ha⟩ ?_ ((b6.trans b7).trans (sbut s8))
      have L8 := L7.same s8
      rw [show k + m.length + 2 = k + 1 + m.length + 1 by omega]
      exact L8
end
end K15

-- part H
set_option maxHeartbeats 4000000
/-! K15H: read_office. -/
namespace K15
open PySem PySem.Spec PyProof.Rows L2 C8
section
variable {P : Program} {w : World} {K : PySem.W.Frag} {mg : Str → Option Value} {base : Heap}
/-- one standing as it was read: its moves, its closings -/
def RS (H : Hp) (v : V) (x : List (List Int) × List Int) : Prop := ∃ t mv cv, v = .ref t ∧ H t = some (.tup [mv, cv]) ∧ TII H mv x.1 ∧ TI H cv x.2
theorem RS.tk {H H' : Hp} (k : TK H H') {v : V} {x : List (List Int) × List Int} (h : RS H v x) : RS H' v x := let ⟨t, mv, cv, e, q, a, b⟩ := h; ⟨t, mv, cv, e, k _ _ q, TII.tk k a, b.tk k⟩
theorem paired_map {α β : Type} {F : V → α → Prop} {G : V → β → Prop} {f : α → β} (h : ∀ v x, F v x → G v (f x)) : ∀ {vs : List V} {xs : List α}, Paired F vs xs → Paired G vs (xs.map f)
  | _, _, .nil => .nil
  | _, _, .cons r t => .cons (h _ _ r) (paired_map h t)
def spReadOf (C : Addr) : Sp := fun vs H Q _ => ∃ p : Parts, vs = [.str (ofText p)] ∧ Good p ∧ ∀ H' a, OffAt C H' (.ref a) p → Same H H' → Q (.ref a) H'
theorem sc_read_office : FnScope ["text", "lines", "sizes", "rows", "row"] ["text"] (defScope s_read_office) := ⟨rfl, rfl, rfl, by decide +kernel, rfl, by decide +kernel, by decide +kernel⟩
theorem st_cons {i : Nat} {m : List (List (List Int))} {c : List (List Int)} {r : List (List Int)} {k : List Int} (hm : m[i]? = some r) (hc : c[i]? = some k) : stLns i (m.drop i) (c.drop i) = atLn i :: (r.map mvLn ++ (clLn k :: stLns (i + 1) (m.drop (i + 1)) (c.drop (i + 1)))) := by
  obtain ⟨h1, e1⟩ := List.getElem?_eq_some_iff.mp hm
  obtain ⟨h2, e2⟩ := List.getElem?_eq_some_iff.mp hc
  rw [List.drop_eq_getElem_cons h1, List.drop_eq_getElem_cons h2, e1, e2]
  rfl
theorem zip_snoc {m : List (List (List Int))} {c : List (List Int)} {i : Nat} {r : List (List Int)} {k : List Int} (hm : m[i]? = some r) (hc : c[i]? = some k) : (m.zip c).take (i + 1) = (m.zip c).take i ++ [(r, k)] := by
  refine take_snoc ?_
  rw [List.getElem?_zip_eq_some]
  exact ⟨hm, hc⟩
theorem ok_read_office (T : Tx K mg) : Cal P w K mg base 7 "read_office" (spReadOf (He.ga K "Office")) [] := by
  refine cal_mk T.f_read_office T.g_read_office sc_read_office (fun vs H Q E h => ?_) (fun _ _ _ _ _ _ us hl => match us, hl with | [_], _ => rfl) (fun cdv A outer s H vs Q E hr h => ?_)
  · obtain ⟨p, rfl, _⟩ := h
    rfl
  · obtain ⟨p, rfl, hg, q⟩ := h
    refine ⟨_, pss_cons (ps_set (i := 1) sc_read_office.nd rfl (.inl rfl) (pe_mk (ok_Lines T) hr (by decide) (by rfl) (pa_cons (pv 0) pa_nil)))
      (pss_cons (ps_set (i := 2) sc_read_office.nd rfl (.inl rfl) (pe_mt (ok_needed T) hr (by decide) (pv 1) (pa_cons pe_str (pa_cons pe_int pa_nil))))
      (pss_cons (ps_set (i := 3) sc_read_office.nd rfl (.inl rfl) (pe_lst pa_nil))
      (pss_cons (ps_while PassesOwn.never (pt_not (pt_val (pe_mt0 (ok_is_out T) hr (by decide) (pv 1))))
        (pss_one (ps_expr (pe_bm PySem.F.plainAttrs_list PySem.F.slot_list_append PySem.F.type_list_append mt_append (pv 3) (pa_cons (pe_c (ok_read_standing T) hr (by decide) (by rfl) (pa_cons (pv 1) (pa_cons (pe_callB call_len_seq (by rfl) T.m_len PySem.boot_len (pa_cons (pv 3) pa_nil)) pa_nil))) pa_nil)))))
      (pss_cons (ps_expr (pe_mt0 (ok_check_out T) hr (by decide) (pv 1)))
      (pss_one (ps_ret (pe_mk (ok_Office T) hr (by decide) (by rfl) (pa_cons (pv 2)
        (pa_cons (pe_callTy call_tuple_of (by rfl) T.m_tuple (by decide +kernel) (pa_cons (pe_lc (own := [("row", 4)]) (g := gName 4) rfl sc_read_office.nd (pi_list (pv 3)) (blkOk_by (N := ["text", "lines", "sizes", "rows", "row"]) (sc := defScope s_read_office) (by decide +kernel))
          (fun _ _ _ _ _ => pg_name (i := 4) sc_read_office.nd rfl (.inl rfl)) (fun _ _ _ _ _ => pts_nil) (fun _ _ _ _ _ => pe_ix (r := rIxT K) ix_tup (pv 4) pe_int (fun _ _ => rfl))) pa_nil))
        (pa_cons (pe_callTy call_tuple_of (by rfl) T.m_tuple (by decide +kernel) (pa_cons (pe_lc (own := [("row", 4)]) (g := gName 4) rfl sc_read_office.nd (pi_list (pv 3)) (blkOk_by (N := ["text", "lines", "sizes", "rows", "row"]) (sc := defScope s_read_office) (by decide +kernel))
          (fun _ _ _ _ _ => pg_name (i := 4) sc_read_office.nd rfl (.inl rfl)) (fun _ _ _ _ _ => pts_nil) (fun _ _ _ _ _ => pe_ix (r := rIxT K) ix_tup (pv 4) pe_int (fun _ _ => rfl))) pa_nil)) pa_nil)))))))))), ?_⟩
    have hn := hg.n
    have hcn := hg.cn
    -- lines = Lines(text)
    refine ⟨_, rfl, fun x dx hx hdx ne => ⟨x, dx, ofLns p, rfl, upd_same, ok_lns hg, Nat.le_trans (len_lns hg) (by decide), fun r H1 L1 _ b1 => ⟨rfl, ?_⟩⟩⟩
    have bH : But x H H1 := fun b o e hb => b1 b o (by rw [upd_ne hb, upd_ne (ne_of_none e hdx)]; exact e) hb
    obtain ⟨dx1, ho1⟩ := L1.o
    -- sizes = lines.needed("office", 3)
    refine ⟨_, rfl, x, dx1, _, rfl, ho1, (by rfl), x, r, _, 0, _, _, p.sz, rfl, L1, rfl, .inr rfl, fun H2 s hs L2' b2 => ?_⟩
    refine ⟨Nat.zero_le _, fun l hl => ?_⟩
    have bH2 : But x H (upd H2 l (.lst [])) := (bH.trans b2).trans (sbut (same_upd hl))
    have L3 := L2'.same (same_upd (o := .lst []) hl)
    have hs3 : upd H2 l (.lst []) s = some (.tup (p.sz.map V.int)) := same_upd hl _ _ hs
    have hl3 : upd H2 l (.lst []) l = some (.lst []) := upd_same
    obtain ⟨dx2, ho2⟩ := L2'.o
    have hlx : l ≠ x := (ne_of_none ho2 hl).symm
    have hlr : r ≠ l := ne_of_none L2'.r hl
    have hl0 : H l = none := (bH.trans b2).free hlx hl
    generalize upd H2 l (.lst []) = H3 at bH2 L3 hs3 hl3 ⊢
    -- while not lines.is_out(): rows.append(read_standing(lines, len(rows)))
    refine ⟨fun μ σ H' => ∃ i k vs, i + μ = p.mv.length ∧ σ = [some (.str (ofText p)), some (.ref x), some (.ref s), some (.ref l), none] ∧ H' l = some (.lst vs) ∧ Paired (RS H') vs ((p.mv.zip p.cl).take i) ∧ H' s = some (.tup (p.sz.map V.int)) ∧ But x H H' ∧
        LinesAt (He.ga K "Lines") H' x r (ofLns p) k ∧ (ofLns p).drop k = stLns i (p.mv.drop i) (p.cl.drop i),
      ⟨p.mv.length, 0, 1, [], Nat.zero_add _, rfl, hl3, .nil, hs3, bH2, L3, rfl⟩, ?_⟩
    rintro μ σ H' ⟨i, k, vs, ei, rfl, hl', hP, hs', bb, LL, hd⟩
    obtain ⟨dx', ho'⟩ := LL.o
    refine ⟨_, rfl, x, dx', _, rfl, ho', (by rfl), x, r, _, k, rfl, LL, _, rfl, ?_⟩
    by_cases hi : i < p.mv.length
    · obtain ⟨m, hm⟩ : ∃ m, p.mv[i]? = some m := ⟨_, List.getElem?_eq_getElem hi⟩
      obtain ⟨c, hc⟩ := good_cl_at hg hi
      rw [st_cons hm hc] at hd
      have hk : k < (ofLns p).length := by
        rcases Nat.lt_or_ge k (ofLns p).length with h | h
        · exact h
        · rw [List.drop_of_length_le h] at hd
          cases hd
      rw [decide_eq_false (show ¬ k = (ofLns p).length by omega)]
      refine iteT ⟨fun σ' H'' => ∃ i' k vs, i' = i + 1 ∧ σ' = [some (.str (ofText p)), some (.ref x), some (.ref s), some (.ref l), none] ∧ H'' l = some (.lst vs) ∧ Paired (RS H'') vs ((p.mv.zip p.cl).take i') ∧ H'' s = some (.tup (p.sz.map V.int)) ∧ But x H H'' ∧
        LinesAt (He.ga K "Lines") H'' x r (ofLns p) k ∧ (ofLns p).drop k = stLns i' (p.mv.drop i') (p.cl.drop i'), ?_, ?_⟩
      · rintro σ' H'' ⟨i', k, vs, rfl, h1, h2, h3, h4, h5, h6, h7⟩
        exact ⟨μ - 1, by omega, i + 1, k, vs, by omega, h1, h2, h3, h4, h5, h6, h7⟩
      · have hvl : vs.length = i := by
          have := Paired.length hP
          rw [List.length_take, List.length_zip] at this
          omega
        have hok := hg.mv m (List.mem_of_getElem? hm)
        refine ⟨_, rfl, .inl ⟨rfl, _, SqL.of hl'⟩, _, rfl, _, rfl, l, vs, rfl, .inl (SqL.of hl'), ?_⟩
        refine ⟨x, r, ofLns p, k, i, m, c, _, by rw [hvl]; rfl, LL, hd, fun y hy => ?_, hok.len, fun H5 t mv cv ht hmv hcv L5 b5 => ?_⟩
        · obtain ⟨x0, x1, x2, x3, rfl, _⟩ := hok.ok y hy
          rfl
        have hl5 := b5 l _ hl' hlx
        have tk5 : TK H' H5 := b5.tki ho'
        refine ⟨l, vs, _, rfl, rfl, hl5, small1000 (by omega), ?_⟩
        have tk : TK H5 (upd H5 l (.lst (vs ++ [.ref t]))) := But.tk (a := l) (fun b o e hb => by rw [upd_ne hb]; exact e) hl5
        refine ⟨i + 1, k + m.length + 2, _, rfl, rfl, upd_same, ?_, tk _ _ (tk5 _ _ hs'), fun b o e hb => ?_, L5.but (a := l) (fun b o e hb => by rw [upd_ne hb]; exact e) hlx.symm hlr, ?_⟩
        · rw [zip_snoc hm hc]
          exact Paired.snoc (Paired.mapP hP fun _ _ h => RS.tk tk (RS.tk tk5 h)) ⟨t, mv, cv, rfl, tk _ _ ht, TII.tk tk hmv, hcv.tk tk⟩
        · rw [upd_ne (ne_of_none e hl0)]
          exact (bb.trans b5) b o e hb
        · have e : (ofLns p).drop (k + m.length + 2) = ((ofLns p).drop k).drop (m.length + 2) := by rw [List.drop_drop]; congr 1
          rw [e, hd, List.drop_succ_cons, List.drop_append, List.length_map, List.drop_of_length_le (by rw [List.length_map]; omega), List.nil_append, show m.length + 1 - m.length = 1 by omega]
          rfl
    · have hi2 : i = p.mv.length := by omega
      have hdn : (ofLns p).drop k = [] := by
        rw [hd, List.drop_of_length_le (by omega)]
        rfl
      have hk : k = (ofLns p).length := by
        have h1 := LL.k
        have h2 := List.drop_eq_nil_iff.mp hdn
        omega
      rw [decide_eq_true hk]
      refine iteF ?_
      subst hk
      rw [List.take_of_length_le (by rw [List.length_zip]; omega)] at hP
      -- lines.check_out()
      refine ⟨_, rfl, x, dx', _, rfl, ho', (by rfl), x, r, _, rfl, LL, ?_⟩
      -- Office(sizes, tuple([..]), tuple([..]))
      have hvl : vs.length = p.mv.length := by
        have := Paired.length hP
        rw [List.length_zip] at this
        omega
      refine ⟨_, rfl, _, rfl, l, rfl, ⟨_, SqL.of hl'⟩, fun D hD => ?_⟩
      refine lc_listY (K := K) (a := l) (xs := vs) (fun j H2 => Same H' H2 ∧ ∃ ws, H2 D = some (.lst ws) ∧ Paired (TII H') ws (((p.mv.zip p.cl).map (·.1)).take j)) ⟨same_upd hD, [], upd_same, .nil⟩ (fun j H2 _ q => SqL.of (q.1 _ _ hl')) ?_ ?_
      · rintro j y H2 hy ⟨sm, ws, hws, hPw⟩
        obtain ⟨z, hz, t, mv, cv, rfl, ht, hmv, hcv⟩ := paired_get hP hy
        have hj : j < vs.length := (List.getElem?_eq_some_iff.mp hy).1
        have hwl : ws.length ≤ 1000 := by
          have := Paired.length hPw
          rw [List.length_take] at this
          omega
        have hz2 : ((p.mv.zip p.cl).map (·.1))[j]? = some z.1 := by
          rw [List.getElem?_map, hz]
          rfl
        refine ⟨rfl, _, rfl, t, _, 0, mv, rfl, rfl, SqT.of (sm _ _ ht), atI_nat (j := 0) rfl, ws, hws, small1000 (by omega), fun b o e => ?_, _, upd_same, ?_⟩
        · rw [upd_ne (ne_of_none e hD)]
          exact sm _ _ e
        · rw [take_snoc hz2]
          exact Paired.snoc hPw hmv
      · rintro H2 ⟨sm, ws, hws, hPw⟩
        rw [take_all (by rw [List.length_map, List.length_zip]; omega), List.map_fst_zip (by omega)] at hPw
        refine ⟨D, ws, rfl, .inl ⟨SqL.of hws, fun f hf => ?_⟩⟩
        have s2 := sm.trans (same_upd (o := .tup ws) hf)
        have M3 : TIII (upd H2 f (.tup ws)) (.ref f) p.mv := ⟨f, ws, rfl, upd_same, Paired.mapP hPw fun _ _ => TII.tk (stk s2)⟩
        generalize upd H2 f (.tup ws) = H3' at s2 M3 ⊢
        have hl4 := s2 _ _ hl'
        refine ⟨_, rfl, l, rfl, ⟨_, SqL.of hl4⟩, fun D2 hD2 => ?_⟩
        refine lc_listY (K := K) (a := l) (xs := vs) (fun j H2 => Same H3' H2 ∧ ∃ ws, H2 D2 = some (.lst ws) ∧ Paired (TI H3') ws (((p.mv.zip p.cl).map (·.2)).take j)) ⟨same_upd hD2, [], upd_same, .nil⟩ (fun j H2 _ q => SqL.of (q.1 _ _ hl4)) ?_ ?_
        · rintro j y H2 hy ⟨sm, ws, hws, hPw⟩
          obtain ⟨z, hz, t, mv, cv, rfl, ht, hmv, hcv⟩ := paired_get hP hy
          have hj : j < vs.length := (List.getElem?_eq_some_iff.mp hy).1
          have hwl : ws.length ≤ 1000 := by
            have := Paired.length hPw
            rw [List.length_take] at this
            omega
          have hz2 : ((p.mv.zip p.cl).map (·.2))[j]? = some z.2 := by
            rw [List.getElem?_map, hz]
            rfl
          refine ⟨rfl, _, rfl, t, _, 0 + 1, cv, rfl, rfl, SqT.of (sm _ _ (s2 _ _ ht)), atI_nat (j := 1) rfl, ws, hws, small1000 (by omega), fun b o e => ?_, _, upd_same, ?_⟩
          · rw [upd_ne (ne_of_none e hD2)]
            exact sm _ _ e
          · rw [take_snoc hz2]
            exact Paired.snoc hPw (hcv.tk (stk s2))
        · rintro H4 ⟨sm4, ws4, hws4, hPw4⟩
          rw [take_all (by rw [List.length_map, List.length_zip]; omega), List.map_snd_zip (by omega)] at hPw4
          refine ⟨D2, ws4, rfl, .inl ⟨SqL.of hws4, fun f4 hf4 => ?_⟩⟩
          have s5 := sm4.trans (same_upd (o := .tup ws4) hf4)
          have C5 : TII (upd H4 f4 (.tup ws4)) (.ref f4) p.cl := ⟨f4, ws4, rfl, upd_same, Paired.mapP hPw4 fun _ _ => TI.tk (stk s5)⟩
          generalize upd H4 f4 (.tup ws4) = H5 at s5 C5 ⊢
          intro y dy hy hdy nyd
          have s6 : Same H5 (upd (upd H5 dy (.own y)) y (.ins (He.ga K "Office") dy [])) := fun b o e => by
            rw [upd_ne (ne_of_none e hy), upd_ne (ne_of_none e hdy)]
            exact e
          have s25 := s2.trans s5
          refine ⟨y, dy, .ref s, .ref f, .ref f4, p, rfl, upd_same, ⟨⟨s, rfl, s6 _ _ (s25 _ _ hs')⟩, TIII.tk (stk (s5.trans s6)) M3, TII.tk (stk s6) C5⟩, hg, fun g H7 h7 b7 => ⟨rfl, ?_⟩⟩
          have s7 : Same H5 H7 := fun b o e => b7 b o (s6 _ _ e) (ne_of_none e hy)
          exact q H7 y ⟨y, dy, _, _, _, .ref g, rfl, h7, ⟨s, rfl, s7 _ _ (s25 _ _ hs')⟩, TIII.tk (stk (s5.trans s7)) M3, TII.tk (stk s7) C5⟩ ((bb.same hx).trans (s25.trans s7))
end
end K15

-- part I
set_option maxHeartbeats 4000000
/-! K15I: the law's hand, its draws, a row of moves. -/
namespace K15
open PySem PySem.Spec PyProof.Rows L2 C8
section
variable {P : Program} {w : World} {K : PySem.W.Frag} {mg : Str → Option Value} {base : Heap}
/-! ### the hand -/
/-- the hand at h, its cells at c -/
def HandAt (H : Hp) (h c : Addr) : Prop := ∃ (ns : List Int) (i1 i2 i3 i4 : Int), H h = some (.lst [.ref c, .int i1, .int i2, .int i3, .int i4]) ∧ H c = some (.lst (ns.map V.int)) ∧ c ≠ h ∧ 0 ≤ i1
theorem HandAt.same {H H' : Hp} {h c : Addr} (x : HandAt H h c) (s : Same H H') : HandAt H' h c := let ⟨ns, i1, i2, i3, i4, a, b, d, e⟩ := x; ⟨ns, i1, i2, i3, i4, s _ _ a, s _ _ b, d, e⟩
theorem HandAt.but {H H' : Hp} {h c l : Addr} (x : HandAt H h c) (s : But l H H') (h1 : h ≠ l) (h2 : c ≠ l) : HandAt H' h c := let ⟨ns, i1, i2, i3, i4, a, b, d, e⟩ := x; ⟨ns, i1, i2, i3, i4, s _ _ a h1, s _ _ b h2, d, e⟩
theorem HandAt.ne {H : Hp} {h c l : Addr} (x : HandAt H h c) (n : H l = none) : h ≠ l ∧ c ≠ l := let ⟨ns, i1, i2, i3, i4, a, b, d, e⟩ := x; ⟨ne_of_none a n, ne_of_none b n⟩
theorem HandAt.tk {H H' : Hp} {h c : Addr} (x : HandAt H h c) (b : But h H H') : TK H H' := let ⟨ns, i1, i2, i3, i4, a, _⟩ := x; b.tk a
def spHand (K : PySem.W.Frag) : Sp := fun vs H Q _ => ∃ (a : Addr) (ns : List Int), vs = [.ref a] ∧ SqL K H a (ns.map V.int) ∧ ns.length ≤ 63 ∧ ∀ H' h c, HandAt H' h c → Same H H' → H h = none → Q (.ref h) H'
theorem sc_law_hand : FnScope ["_law_script", "_law_cells", "_law_cell"] ["_law_script"] (defScope s_law_hand) := ⟨rfl, rfl, rfl, by decide +kernel, rfl, by decide +kernel, by decide +kernel⟩
theorem cut_63 (xs : List V) (h : xs.length ≤ 63) : cutV xs none (some 63) = xs := by
  unfold cutV
  rw [show HT.sIx xs.length xs.length (some 63) = min 63 xs.length from HT.sIx_nat xs.length xs.length 63, HT.sIx_none, List.drop_zero, Nat.sub_zero, Nat.min_eq_right h, List.take_length]
theorem ok_law_hand (T : Tx K mg) : Cal P w K mg base 1 "_law_hand" (spHand K) [] := by
  refine cal_mk T.f_law_hand T.g_law_hand sc_law_hand (fun vs H Q E h => ?_) (fun _ _ _ _ _ _ us hl => match us, hl with | [_], _ => rfl) (fun cdv A outer s H vs Q E hr h => ?_)
  · obtain ⟨a, ns, rfl, _⟩ := h
    rfl
  · obtain ⟨a, ns, rfl, hS, hn, q⟩ := h
    refine ⟨_, pss_cons (ps_setLc (i := 1) (own := [("_law_cell", 2)]) (g := gName 2) rfl sc_law_hand.nd rfl rfl (sw_true rfl rfl rfl (by decide +kernel)) (pi_list (pe_slice sl_list (pv 0) po_none (po_some pe_int))) (blkOk_by (N := ["_law_script", "_law_cells", "_law_cell"]) (sc := defScope s_law_hand) (by decide +kernel))
        (fun _ _ _ _ _ => pg_name (i := 2) sc_law_hand.nd rfl (.inl rfl)) (fun _ _ _ _ _ => pts_nil) (fun _ _ _ _ _ => pe_callB call_abs (by rfl) T.m_abs (by decide +kernel) (pa_cons (pe_callTy call_int1 (by rfl) T.m_int (by decide +kernel) (pa_cons (pv 2) pa_nil)) pa_nil)))
      (pss_one (ps_ret (pe_lst (pa_cons (pv 1) (pa_cons pe_int (pa_cons pe_int (pa_cons (pe_op op_add pe_int (pe_callB call_len_seq (by rfl) T.m_len PySem.boot_len (pa_cons (pv 1) pa_nil))) (pa_cons pe_int pa_nil)))))))), ?_⟩
    refine ⟨_, rfl, 63, rfl, a, _, rfl, hS, fun c hc => ?_⟩
    rw [cut_63 _ (by rw [List.length_map]; exact hn)]
    have s1 : Same H (upd H c (.lst (ns.map V.int))) := same_upd hc
    have hc1 : upd H c (.lst (ns.map V.int)) c = some (.lst (ns.map V.int)) := upd_same
    generalize upd H c (.lst (ns.map V.int)) = H1 at s1 hc1 ⊢
    refine ⟨c, rfl, ⟨_, SqL.of hc1⟩, fun D hD => ?_⟩
    refine lc_listY (K := K) (a := c) (xs := ns.map V.int) (fun i H' => Same H1 H' ∧ ∃ ms : List Int, H' D = some (.lst (ms.map V.int)) ∧ ms.length = i) ⟨same_upd hD, [], upd_same, rfl⟩ (fun i H' _ q => SqL.of (q.1 _ _ hc1)) ?_ ?_
    · rintro i x H' hx ⟨sm, ms, hd, hl⟩
      rw [List.getElem?_map] at hx
      obtain ⟨n, hn', rfl⟩ := Option.map_eq_some_iff.mp hx
      have hi := (List.getElem?_eq_some_iff.mp hn').1
      refine ⟨rfl, _, rfl, .inl ⟨n, rfl, n, rfl, _, hd, small1000 (by rw [List.length_map]; omega), fun b o e => ?_, ms ++ [if n < 0 then -n else n], ?_, by rw [List.length_append, List.length_singleton, hl]⟩⟩
      · rw [upd_ne (ne_of_none e hD)]
        exact sm _ _ e
      · rw [upd_same, List.map_append] <;> rfl
    · rintro H' ⟨sm, ms, hd, hl⟩
      refine ⟨_, rfl, _, rfl, D, _, rfl, .inl (SqL.of hd), _, _, rfl, rfl, (by show 5 ≤ sizeLine; decide), fun l hl' => ?_⟩
      have s2 : Same H' (upd H' l (.lst [.ref D, .int 0, .int 0, .int (1 + ((ms.map V.int).length : Nat)), .int 0])) := same_upd hl'
      have s3 := (s1.trans sm)
      exact q _ l D ⟨ms, 0, 0, _, 0, upd_same, s2 _ _ hd, ne_of_none hd hl', Int.le_refl _⟩ (s3.trans s2) (s3.free hl')
/-! ### a draw -/
def spDraw : Sp := fun vs H Q _ => ∃ (h c : Addr) (n : Int), vs = [.ref h, .int n] ∧ HandAt H h c ∧ 0 < n ∧ n ≤ 100 ∧ ∀ d H', 0 ≤ d → d < n → HandAt H' h c → But h H H' → Q (.int d) H'
theorem sc_law_draw : FnScope ["_law_hand_here", "_law_many", "_law_cell", "_law_digit", "_law_number"] ["_law_hand_here", "_law_many"] (defScope s_law_draw) := ⟨rfl, rfl, rfl, by decide +kernel, rfl, by decide +kernel, by decide +kernel⟩
theorem ok_law_draw (T : Tx K mg) : Cal P w K mg base 1 "_law_draw" spDraw [] := by
  refine cal_mk T.f_law_draw T.g_law_draw sc_law_draw (fun vs H Q E h => ?_) (fun _ _ _ _ _ _ us hl => match us, hl with | [_, _], _ => rfl) (fun cdv A outer s H vs Q E hr h => ?_)
  · obtain ⟨h, c, n, rfl, _⟩ := h
    rfl
  · obtain ⟨h, c, n, rfl, hh, hn0, hn1, q⟩ := h
    refine ⟨_, pss_cut (ps_if (PW.pt (pw_and (pt_cmpR op_eq (pe_ix ix_list (pv 0) pe_int (fun _ _ => rfl)) pe_int (nomark _)) (pw_and1 (pt_cmpR op_lt (pe_ix ix_list (pv 0) pe_int (fun _ _ => rfl)) (pe_callB call_len_seq (by rfl) T.m_len PySem.boot_len (pa_cons (pe_ix ix_list (pv 0) pe_int (fun _ _ => rfl)) pa_nil)) (nomark _)))))
        (pss_cons (ps_set (i := 2) sc_law_draw.nd rfl (.inl rfl) (pe_ix ix_list (pe_ix ix_list (pv 0) pe_int (fun _ _ => rfl)) (pe_ix ix_list (pv 0) pe_int (fun _ _ => rfl)) (fun _ _ => rfl)))
        (pss_cons (ps_asg (pe_op op_add (pe_ix ix_list (pv 0) pe_int (fun _ _ => rfl)) pe_int) (pg_sub (pv 0) pe_int set_list))
        (pss_cons (ps_asg (pe_op op_mod (pe_callTy call_int1 (by rfl) T.m_int (by decide +kernel) (pa_cons (pe_op op_add (pe_op op_add (pe_op op_mul (pe_ix ix_list (pv 0) pe_int (fun _ _ => rfl)) pe_int) (pv 2)) pe_int) pa_nil)) pe_int) (pg_sub (pv 0) pe_int set_list))
        (pss_one (ps_if (pt_cmpR op_ge (pv 2) (pe_op op_pow pe_int pe_int) (nomark _)) (pss_one (ps_asg (pv 2) (pg_sub (pv 0) pe_int set_list))) pss_nil))))) pss_nil)
      (pss_cons (ps_if (pt_cmpR op_gt (pe_ix ix_list (pv 0) pe_int (fun _ _ => rfl)) pe_int (nomark _))
        (pss_cons (ps_set (i := 3) sc_law_draw.nd rfl (.inl rfl) (pe_op op_mod (pe_callTy call_int1 (by rfl) T.m_int (by decide +kernel) (pa_cons (pe_ix ix_list (pv 0) pe_int (fun _ _ => rfl)) pa_nil)) (pv 1)))
        (pss_cons (ps_asg (pe_op op_fdiv (pe_ix ix_list (pv 0) pe_int (fun _ _ => rfl)) (pv 1)) (pg_sub (pv 0) pe_int set_list))
        (pss_one (ps_ret (pv 3))))) pss_nil)
      (pss_cons (ps_asg (pe_op op_add (pe_ix ix_list (pv 0) pe_int (fun _ _ => rfl)) pe_int) (pg_sub (pv 0) pe_int set_list))
      (pss_cons (ps_set (i := 4) sc_law_draw.nd rfl (.inl rfl) (pe_op op_mod (pe_callTy call_int1 (by rfl) T.m_int (by decide +kernel) (pa_cons (pe_op op_mul (pe_callTy call_int1 (by rfl) T.m_int (by decide +kernel) (pa_cons (pe_op op_add (pe_ix ix_list (pv 0) pe_int (fun _ _ => rfl)) (pe_op op_mul pe_int (pe_ix ix_list (pv 0) pe_int (fun _ _ => rfl)))) pa_nil)) pe_int) pa_nil)) pe_int))
      (pss_cons (ps_set (i := 4) sc_law_draw.nd rfl (.inl rfl) (pe_op op_mod (pe_callTy call_int1 (by rfl) T.m_int (by decide +kernel) (pa_cons (pe_op op_mul (pv 4) (pe_op op_add (pe_op op_fdiv (pv 4) pe_int) pe_int)) pa_nil)) pe_int))
      (pss_cons (ps_set (i := 4) sc_law_draw.nd rfl (.inl rfl) (pe_op op_mod (pe_callTy call_int1 (by rfl) T.m_int (by decide +kernel) (pa_cons (pe_op op_mul (pv 4) (pe_op op_add (pe_op op_fdiv (pv 4) pe_int) pe_int)) pa_nil)) pe_int))
      (pss_one (ps_ret (pe_op op_mod (pe_callTy call_int1 (by rfl) T.m_int (by decide +kernel) (pa_cons (pe_op op_fdiv (pv 4) pe_int) pa_nil)) (pv 1))))))))), ?_⟩
    refine ⟨fun σ H' => ∃ v2, σ = [some (.ref h), some (.int n), v2, none, none] ∧ HandAt H' h c ∧ But h H H', ?_, ?_⟩
    · obtain ⟨ns, i1, i2, i3, i4, eh, ec, hch, h1⟩ := hh
      refine ⟨_, rfl, h, _, _, _, rfl, rfl, SqL.of eh, atI_nat (j := 2) rfl, rfl, _, rfl, ?_⟩
      refine ite2 (fun _ => ?_) (fun _ => iteF ⟨none, rfl, ⟨ns, i1, i2, i3, i4, eh, ec, hch, h1⟩, But.refl⟩)
      refine ⟨_, rfl, h, _, _, _, rfl, rfl, SqL.of eh, atI_nat (j := 1) rfl, _, rfl, h, _, _, _, rfl, rfl, SqL.of eh, atI_nat (j := 0) rfl, c, _, rfl, .inl (SqL.of ec), _, _, rfl, rfl, _, rfl, ?_⟩
      refine ite2 (fun hlt => ?_) (fun _ => ⟨none, rfl, ⟨ns, i1, i2, i3, i4, eh, ec, hch, h1⟩, But.refl⟩)
      have hlt2 : i1 < (ns.length : Int) := by
        have := of_decide_eq_true hlt
        rw [List.length_map] at this
        exact this
      obtain ⟨x, hx⟩ : ∃ x, ns[i1.toNat]? = some x := ⟨_, List.getElem?_eq_getElem (show i1.toNat < ns.length by omega)⟩
      have hx2 : (ns.map V.int)[i1.toNat]? = some (.int x) := by
        rw [List.getElem?_map, hx]
        rfl
      -- _law_cell = hand[0][hand[1]]
      refine ⟨_, rfl, h, _, _, _, rfl, rfl, SqL.of eh, atI_nat (j := 0) rfl, _, rfl, h, _, _, _, rfl, rfl, SqL.of eh, atI_nat (j := 1) rfl, c, _, _, _, rfl, rfl, SqL.of ec, at_of (j := i1.toNat) (by omega) hx2, ?_⟩
      -- hand[1] = hand[1] + 1
      refine ⟨_, rfl, h, _, _, _, rfl, rfl, SqL.of eh, atI_nat (j := 1) rfl, _, _, rfl, rfl, _, rfl, h, _, _, 1, rfl, rfl, eh, rfl, ?_⟩
      have e1 : upd H h (.lst ([.ref c, .int i1, .int i2, .int i3, .int i4].set 1 (.int (i1 + 1)))) h = some (.lst [.ref c, .int (i1 + 1), .int i2, .int i3, .int i4]) := upd_same
      have c1 : upd H h (.lst ([.ref c, .int i1, .int i2, .int i3, .int i4].set 1 (.int (i1 + 1)))) c = some (.lst (ns.map V.int)) := by
        rw [upd_ne hch]
        exact ec
      have b1 : But h H (upd H h (.lst ([.ref c, .int i1, .int i2, .int i3, .int i4].set 1 (.int (i1 + 1))))) := But.refl.upd
      generalize upd H h (.lst ([.ref c, .int i1, .int i2, .int i3, .int i4].set 1 (.int (i1 + 1)))) = H1 at e1 c1 b1 ⊢
      -- hand[3] = int(hand[3] * 69621 + cell + 11) % 2147483629
      refine ⟨_, rfl, h, _, _, _, rfl, rfl, SqL.of e1, atI_nat (j := 3) rfl, _, _, rfl, rfl, .inr ⟨by decide, by decide⟩, _, rfl, _, _, rfl, rfl, _, _, rfl, rfl, .inl ⟨_, rfl, ?_⟩⟩
      refine ⟨_, _, rfl, rfl, (by show (0 : Int) < 2147483629; decide), _, rfl, h, _, _, 3, rfl, rfl, e1, rfl, ?_⟩
      have e2 : upd H1 h (.lst ([.ref c, .int (i1 + 1), .int i2, .int i3, .int i4].set 3 (.int ((i3 * 69621 + x + 11) % 2147483629)))) h = some (.lst [.ref c, .int (i1 + 1), .int i2, .int ((i3 * 69621 + x + 11) % 2147483629), .int i4]) := upd_same
      have c2 : upd H1 h (.lst ([.ref c, .int (i1 + 1), .int i2, .int i3, .int i4].set 3 (.int ((i3 * 69621 + x + 11) % 2147483629)))) c = some (.lst (ns.map V.int)) := by
        rw [upd_ne hch]
        exact c1
      have b2 : But h H (upd H1 h (.lst ([.ref c, .int (i1 + 1), .int i2, .int i3, .int i4].set 3 (.int ((i3 * 69621 + x + 11) % 2147483629))))) := b1.upd
      generalize upd H1 h (.lst ([.ref c, .int (i1 + 1), .int i2, .int i3, .int i4].set 3 (.int ((i3 * 69621 + x + 11) % 2147483629)))) = H2 at e2 c2 b2 ⊢
      -- if cell >= 10 ** 18: hand[2] = cell
      refine ⟨_, rfl, _, _, rfl, rfl, ⟨by decide, by decide, by decide⟩, _, _, rfl, rfl, _, rfl, ?_⟩
      refine ite2 (fun _ => ?_) (fun _ => ⟨_, rfl, ⟨ns, _, _, _, _, e2, c2, hch, by omega⟩, b2⟩)
      exact ⟨_, rfl, _, rfl, h, _, _, 2, rfl, rfl, e2, rfl, _, rfl, ⟨ns, i1 + 1, x, _, i4, upd_same, (by rw [upd_ne hch]; exact c2), hch, by omega⟩, b2.upd⟩
    · rintro σ H1 ⟨v2, rfl, ⟨ns, i1, i2, i3, i4, eh, ec, hch, h1⟩, bb⟩
      refine ⟨_, rfl, h, _, _, _, rfl, rfl, SqL.of eh, atI_nat (j := 2) rfl, _, _, rfl, rfl, _, rfl, ?_⟩
      refine ite2 (fun _ => ?_) (fun _ => ?_)
      · -- digit
        refine ⟨_, rfl, h, _, _, _, rfl, rfl, SqL.of eh, atI_nat (j := 2) rfl, .inl ⟨_, rfl, _, rfl, _, _, rfl, rfl, hn0, ?_⟩⟩
        refine ⟨_, rfl, h, _, _, _, rfl, rfl, SqL.of eh, atI_nat (j := 2) rfl, _, rfl, _, _, rfl, rfl, ⟨hn0, by omega⟩, _, rfl, h, _, _, 2, rfl, rfl, eh, rfl, ?_⟩
        exact ⟨_, rfl, q _ _ (Int.emod_nonneg _ (by omega)) (Int.emod_lt_of_pos _ hn0) ⟨ns, i1, i2 / n, i3, i4, upd_same, (by rw [upd_ne hch]; exact ec), hch, h1⟩ bb.upd⟩
      · -- hand[4] = hand[4] + 1
        refine ⟨_, rfl, h, _, _, _, rfl, rfl, SqL.of eh, atI_nat (j := 4) rfl, _, _, rfl, rfl, _, rfl, h, _, _, 4, rfl, rfl, eh, rfl, ?_⟩
        have e2 : upd H1 h (.lst ([.ref c, .int i1, .int i2, .int i3, .int i4].set 4 (.int (i4 + 1)))) h = some (.lst [.ref c, .int i1, .int i2, .int i3, .int (i4 + 1)]) := upd_same
        have c2 : upd H1 h (.lst ([.ref c, .int i1, .int i2, .int i3, .int i4].set 4 (.int (i4 + 1)))) c = some (.lst (ns.map V.int)) := by
          rw [upd_ne hch]
          exact ec
        have b2 : But h H (upd H1 h (.lst ([.ref c, .int i1, .int i2, .int i3, .int i4].set 4 (.int (i4 + 1))))) := bb.upd
        generalize upd H1 h (.lst ([.ref c, .int i1, .int i2, .int i3, .int i4].set 4 (.int (i4 + 1)))) = H2 at e2 c2 b2 ⊢
        refine ⟨_, rfl, h, _, _, _, rfl, rfl, SqL.of e2, atI_nat (j := 3) rfl, _, rfl, h, _, _, _, rfl, rfl, SqL.of e2, atI_nat (j := 4) rfl, _, _, rfl, rfl, .inl ⟨by decide, by decide⟩, _, _, rfl, rfl, .inl ⟨_, rfl, ?_⟩⟩
        refine ⟨_, _, rfl, rfl, .inr ⟨by decide, by decide⟩, .inl ⟨_, rfl, _, _, rfl, rfl, (by show (0 : Int) < 2147483647; decide), ?_⟩⟩
        have g1 := Int.emod_nonneg ((i3 + 7919 * (i4 + 1)) * 48271) (show (2147483647 : Int) ≠ 0 by decide)
        have g2 := Int.emod_lt_of_pos ((i3 + 7919 * (i4 + 1)) * 48271) (show (0 : Int) < 2147483647 by decide)
        generalize (i3 + 7919 * (i4 + 1)) * 48271 % 2147483647 = z1 at g1 g2 ⊢
        refine ⟨_, rfl, _, rfl, _, _, rfl, rfl, ⟨by decide, by decide⟩, _, _, rfl, rfl, _, _, rfl, rfl, .inl ⟨by omega, by omega⟩, .inl ⟨_, rfl, _, _, rfl, rfl, (by show (0 : Int) < 2147483647; decide), ?_⟩⟩
        have g3 := Int.emod_nonneg (z1 * (z1 / 1009 + 69621)) (show (2147483647 : Int) ≠ 0 by decide)
        have g4 := Int.emod_lt_of_pos (z1 * (z1 / 1009 + 69621)) (show (0 : Int) < 2147483647 by decide)
        generalize z1 * (z1 / 1009 + 69621) % 2147483647 = z2 at g3 g4 ⊢
        refine ⟨_, rfl, _, rfl, _, _, rfl, rfl, ⟨by decide, by decide⟩, _, _, rfl, rfl, _, _, rfl, rfl, .inl ⟨by omega, by omega⟩, .inl ⟨_, rfl, _, _, rfl, rfl, (by show (0 : Int) < 2147483399; decide), ?_⟩⟩
        refine ⟨_, rfl, _, _, rfl, rfl, ⟨by decide, by decide⟩, .inl ⟨_, rfl, _, rfl, _, _, rfl, rfl, hn0, ?_⟩⟩
        exact q _ _ (Int.emod_nonneg _ (by omega)) (Int.emod_lt_of_pos _ hn0) ⟨ns, i1, i2, i3, i4 + 1, e2, c2, hch, h1⟩ b2
end
end K15

-- part J
set_option maxHeartbeats 4000000
/-! K15J: a row of moves, sorted. -/
namespace K15
open PySem PySem.Spec PyProof.Rows L2 C8
/-! ### sorted tuples -/
theorem code_lex : ∀ {ns ms : List Int}, ns.length = ms.length → TS.Bd 20 ns → TS.Bd 20 ms → TS.code 20 ns ≤ TS.code 20 ms → ns ≠ ms → HT.lexLt ns ms = true
  | [], [], _, _, _, _, h => absurd rfl h
  | [], _ :: _, h, _, _, _, _ => by simp at h
  | _ :: _, [], h, _, _, _, _ => by simp at h
  | d :: r, e :: q, hl, h1, h2, hc, hne => by
    have hl2 : r.length = q.length := by simpa using hl
    show (if d = e then HT.lexLt r q else decide (d < e)) = true
    by_cases h : d = e
    · subst h
      rw [if_pos rfl]
      refine code_lex hl2 h1.tail h2.tail ?_ fun z => hne (by rw [z])
      rcases Int.lt_or_le (TS.code 20 q) (TS.code 20 r) with z | z
      · have := (TS.code_same (d := d) hl2.symm).mpr z
        omega
      · exact z
    · rw [if_neg h]
      rcases Int.lt_or_le d e with z | z
      · exact decide_eq_true z
      · have := TS.code_lt hl2.symm h2.tail h1.tail (show e < d by omega)
        omega
theorem paired_mem {α : Type} {F : V → α → Prop} : ∀ {vs : List V} {xs : List α} {x : α}, Paired F vs xs → x ∈ xs → ∃ v, v ∈ vs ∧ F v x
  | _, _, _, .nil, h => by simp at h
  | _, _, _, .cons r t, h => by
    rcases List.mem_cons.mp h with rfl | h
    · exact ⟨_, List.mem_cons_self, r⟩
    · obtain ⟨v, h1, h2⟩ := paired_mem t h
      exact ⟨v, List.mem_cons_of_mem _ h1, h2⟩
theorem paired_mem2 {α : Type} {F : V → α → Prop} : ∀ {vs : List V} {xs : List α} {v : V}, Paired F vs xs → v ∈ vs → ∃ x, x ∈ xs ∧ F v x
  | _, _, _, .nil, h => by simp at h
  | _, _, _, .cons r t, h => by
    rcases List.mem_cons.mp h with rfl | h
    · exact ⟨_, List.mem_cons_self, r⟩
    · obtain ⟨v, h1, h2⟩ := paired_mem2 t h
      exact ⟨v, List.mem_cons_of_mem _ h1, h2⟩
theorem paired_pw {α : Type} {F : V → α → Prop} {R : V → V → Prop} {S : α → α → Prop} (m : ∀ y z a b, F y a → F z b → R y z → S a b) : ∀ {vs : List V} {xs : List α}, Paired F vs xs → vs.Pairwise R → xs.Pairwise S
  | _, _, .nil, _ => .nil
  | _, _, .cons r t, h => by
    obtain ⟨h1, h2⟩ := List.pairwise_cons.mp h
    refine List.pairwise_cons.mpr ⟨fun b hb => ?_, paired_pw m t h2⟩
    obtain ⟨z, hz, fz⟩ := paired_mem t hb
    exact m _ _ _ _ r fz (h1 z hz)
theorem mv_bd {a b c n : Int} {m : List Int} (ha : a ≤ 4) (hb : b ≤ 4) (hc : c ≤ 4) (hn : n ≤ 20) (h : MvOk a b c n m) : m.length = 4 ∧ TS.Bd 20 m := by
  obtain ⟨w, x, y, z, rfl, h1, h2, h3, h4⟩ := h
  refine ⟨rfl, fun k hk => ?_⟩
  have hk : k = w ∨ k = x ∨ k = y ∨ k = z := by simpa using hk
  omega
theorem sort_pre {K : PySem.W.Frag} {H : Hp} {vs : List V} {ms : List (List Int)} (hP : Paired (TI H) vs ms) (ok : ∀ m ∈ ms, m.length = 4 ∧ TS.Bd 20 m) : ∀ x ∈ vs, ∃ ns, TupI K H x ns ∧ ns.length = 4 ∧ TS.Bd 20 ns := fun x hx => by
  obtain ⟨m, hm, a, rfl, ha⟩ := paired_mem2 hP hx
  exact ⟨m, ⟨a, rfl, SqT.of ha⟩, (ok m hm).1, (ok m hm).2⟩
theorem sort_post {K : PySem.W.Frag} {H : Hp} {vs ys : List V} {ms : List (List Int)} (hP : Paired (TI H) vs ms) (ok : ∀ m ∈ ms, m.length = 4 ∧ TS.Bd 20 m) (nd : ms.Nodup) (hp : ys.Perm vs)
    (hw : ys.Pairwise fun x y => ∀ n m, TupI K H x n → TupI K H y m → TS.code 20 n ≤ TS.code 20 m) : ∃ ms', Paired (TI H) ys ms' ∧ ms'.Perm ms ∧ ms'.Pairwise fun x y => HT.lexLt x y = true := by
  obtain ⟨ms', h1, h2⟩ := paired_perm hp hP
  refine ⟨ms', h1, h2, ?_⟩
  have pw := paired_pw (S := fun a b => TS.code 20 a ≤ TS.code 20 b) (fun y z a b ⟨ta, ea, ha⟩ ⟨tb, eb, hb⟩ r => r a b ⟨ta, ea, SqT.of ha⟩ ⟨tb, eb, SqT.of hb⟩) h1 hw
  have nd' : ms'.Nodup := h2.nodup_iff.mpr nd
  have both := pw.and nd'
  refine List.Pairwise.imp_of_mem (fun {a b} ha hb h => ?_) both
  have oa := ok a (h2.mem_iff.mp ha)
  have ob := ok b (h2.mem_iff.mp hb)
  exact code_lex (oa.1.trans ob.1.symm) oa.2 ob.2 h.1 h.2
theorem nodup_one {α : Type} (x : α) : [x].Nodup := by simp
theorem any_dI (ms : List (List Int)) (m : List Int) : ((ms.map dI).any fun z => PyData.eqv z (dI m)) = decide (m ∈ ms) := by
  induction ms with
  | nil => simp
  | cons x r ih =>
    rw [List.map_cons, List.any_cons, ih, eqv_dI]
    by_cases h1 : x = m
    · subst h1
      simp
    · have h2 : ¬ m = x := fun e => h1 e.symm
      simp [h1, h2]
section
variable {P : Program} {w : World} {K : PySem.W.Frag} {mg : Str → Option Value} {base : Heap}
/-! ### _law_row -/
def spRow : Sp := fun vs H Q _ => ∃ (h cc : Addr) (sv : V) (a b c k n : Int), vs = [.ref h, sv, .int k, .int n] ∧ HandAt H h cc ∧ TI H sv [a, b, c] ∧ (1 ≤ a ∧ a ≤ 4) ∧ (1 ≤ b ∧ b ≤ 4) ∧ (1 ≤ c ∧ c ≤ 4) ∧ (0 ≤ k ∧ k ≤ 5) ∧ (1 ≤ n ∧ n ≤ 20) ∧
  ∀ H' f r, TII H' (.ref f) r → (∀ m ∈ r, MvOk a b c n m) → (r.Pairwise fun x y => HT.lexLt x y = true) → r.Nodup → r.length ≤ 5 → HandAt H' h cc → But h H H' → Q (.ref f) H'
theorem sc_law_row : FnScope ["_law_hand_here", "_law_sizes", "_law_many", "_law_goals", "_law_row_here", "_law_turn", "_law_move"] ["_law_hand_here", "_law_sizes", "_law_many", "_law_goals"] (defScope s_law_row) := ⟨rfl, rfl, rfl, by decide +kernel, rfl, by decide +kernel, by decide +kernel⟩
theorem ok_law_row (T : Tx K mg) : Cal P w K mg base 2 "_law_row" spRow [] := by
  refine cal_mk T.f_law_row T.g_law_row sc_law_row (fun vs H Q E h => ?_) (fun _ _ _ _ _ _ us hl => match us, hl with | [_, _, _, _], _ => rfl) (fun cdv A outer s H vs Q E hr h => ?_)
  · obtain ⟨h, cc, sv, a, b, c, k, n, rfl, _⟩ := h
    rfl
  · obtain ⟨h, cc, sv, a, b, c, k, n, rfl, hh, ⟨s1, rfl, hs⟩, ha, hb, hc, hk, hn, q⟩ := h
    have hu65 : (A.deeper (envOfC "_law_row" (defScope s_law_row) s.heap.objs.size (He.ga K "_law_row") cdv)).units + 65 < cLine := by
      have := hr.un
      omega
    refine ⟨_, pss_cons (ps_set (i := 4) sc_law_row.nd rfl (.inl rfl) (pe_lst pa_nil))
      (pss_cons (ps_for PassesOwn.never rfl (pi_range1 (by rfl) T.m_range (pa_cons (pv 2) pa_nil)) (pg_name (i := 5) sc_law_row.nd rfl (.inl rfl))
        (pss_cons (ps_set (i := 6) sc_law_row.nd rfl (.inl rfl) (pe_tup
          (pa_cons (pe_c (ok_law_draw T) hr (by decide) (by rfl) (pa_cons (pv 0) (pa_cons (pe_ix ix_tup (pv 1) pe_int (fun _ _ => rfl)) pa_nil)))
          (pa_cons (pe_c (ok_law_draw T) hr (by decide) (by rfl) (pa_cons (pv 0) (pa_cons (pe_ix ix_tup (pv 1) pe_int (fun _ _ => rfl)) pa_nil)))
          (pa_cons (pe_c (ok_law_draw T) hr (by decide) (by rfl) (pa_cons (pv 0) (pa_cons (pe_ix ix_tup (pv 1) pe_int (fun _ _ => rfl)) pa_nil)))
          (pa_cons (pe_c (ok_law_draw T) hr (by decide) (by rfl) (pa_cons (pv 0) (pa_cons (pv 3) pa_nil))) pa_nil))))))
        (pss_one (ps_if (pt_cmpR (op_notInD hu65) (pv 6) (pv 4) rfl)
          (pss_one (ps_expr (pe_bm PySem.F.plainAttrs_list PySem.F.slot_list_append PySem.F.type_list_append mt_append (pv 4) (pa_cons (pv 6) pa_nil)))) pss_nil))))
      (pss_one (ps_ret (pe_callTy call_tuple_of (by rfl) T.m_tuple (by decide +kernel) (pa_cons (pe_callB (cr_sortT (d := 4) (B := 20) (by decide)) (by rfl) T.m_sorted (by decide +kernel) (pa_cons (pv 4) pa_nil)) pa_nil))))), ?_⟩
    refine ⟨Nat.zero_le _, fun l hl => ?_⟩
    obtain ⟨nh, nc⟩ := hh.ne hl
    have sl : Same H (upd H l (.lst [])) := same_upd hl
    refine ⟨_, rfl, k, rfl, by omega, by omega, ?_⟩
    refine for_range (lo := 0) (n := k.toNat) (fun i σ H' => ∃ v5 v6 vs ms, σ = [some (.ref h), some (.ref s1), some (.int k), some (.int n), some (.ref l), v5, v6] ∧ H' l = some (.lst vs) ∧ Paired (TI H') vs ms ∧ (∀ m ∈ ms, MvOk a b c n m) ∧ ms.Nodup ∧ ms.length ≤ i ∧ HandAt H' h cc ∧ But h H H')
      ⟨none, none, [], [], rfl, upd_same, .nil, fun _ e => (by cases e), .nil, Nat.le_refl _, hh.same sl, sbut sl⟩ ?_ ?_
    · rintro i σ H1 hi ⟨v5, v6, vs, ms, rfl, hl1, hP, ok, nd, hlen, hh1, b1⟩
      have hvl : vs.length = ms.length := Paired.length hP
      have tk0 := hh.tk b1
      -- the four draws
      refine ⟨_, rfl, _, rfl, s1, _, _, _, rfl, rfl, SqT.of (tk0 _ _ hs), atI_nat (j := 0) rfl, h, cc, a, rfl, hh1, by omega, by omega, fun d0 H2 d00 d01 hh2 b2 => ?_⟩
      have tk2 := hh1.tk b2
      refine ⟨_, rfl, _, rfl, s1, _, _, _, rfl, rfl, SqT.of (tk2 _ _ (tk0 _ _ hs)), atI_nat (j := 1) rfl, h, cc, b, rfl, hh2, by omega, by omega, fun d1 H3 d10 d11 hh3 b3 => ?_⟩
      have tk3 := tk2.trans (hh2.tk b3)
      refine ⟨_, rfl, _, rfl, s1, _, _, _, rfl, rfl, SqT.of (tk3 _ _ (tk0 _ _ hs)), atI_nat (j := 2) rfl, h, cc, c, rfl, hh3, by omega, by omega, fun d2 H4 d20 d21 hh4 b4 => ?_⟩
      refine ⟨_, rfl, _, rfl, h, cc, n, rfl, hh4, by omega, by omega, fun d3 H5 d30 d31 hh5 b5 => ?_⟩
      have tk5 : TK H1 H5 := (tk3.trans (hh3.tk b4)).trans (hh4.tk b5)
      have b15 : But h H1 H5 := ((b2.trans b3).trans b4).trans b5
      refine ⟨(by show 4 ≤ sizeLine; decide), fun t ht => ?_⟩
      have s6 : Same H5 (upd H5 t (.tup [.int d0, .int d1, .int d2, .int d3])) := same_upd ht
      have hl6 := s6 _ _ (b15 l _ hl1 nh.symm)
      have hP6 : Paired (TI (upd H5 t (.tup [.int d0, .int d1, .int d2, .int d3]))) vs ms := Paired.mapP hP fun _ _ x => TI.tk (stk s6) (TI.tk tk5 x)
      have ht6 : TI (upd H5 t (.tup [.int d0, .int d1, .int d2, .int d3])) (.ref t) [d0, d1, d2, d3] := ⟨t, rfl, upd_same⟩
      have hh6 := hh5.same s6
      have b06 := (b1.trans b15).trans (sbut s6)
      generalize upd H5 t (.tup [.int d0, .int d1, .int d2, .int d3]) = H6 at hl6 hP6 ht6 hh6 b06 ⊢
      have mok : MvOk a b c n [d0, d1, d2, d3] := ⟨d0, d1, d2, d3, rfl, ⟨d00, d01⟩, ⟨d10, d11⟩, ⟨d20, d21⟩, d30, d31⟩
      -- if move not in row
      refine ⟨_, rfl, _, rfl, dI [d0, d1, d2, d3], ms.map dI, ht6.dp, .lst (SqL.of hl6) (dpAll_of (d := dI) (fun _ _ h => TI.dp h) hP6), shp_I _, shp_L ms, ?_⟩
      rw [any_dI]
      refine ⟨_, rfl, ?_⟩
      by_cases hm : [d0, d1, d2, d3] ∈ ms
      · rw [decide_eq_true hm]
        exact iteF ⟨_, _, vs, ms, rfl, hl6, hP6, ok, nd, by omega, hh6, b06⟩
      · rw [decide_eq_false hm]
        refine iteT ⟨_, rfl, .inl ⟨rfl, _, SqL.of hl6⟩, _, rfl, l, vs, _, rfl, rfl, hl6, small1000 (by omega), ?_⟩
        have bl : But l H6 (upd H6 l (.lst (vs ++ [.ref t]))) := But.refl.upd
        have tk7 := bl.tk hl6
        refine ⟨_, _, vs ++ [.ref t], ms ++ [[d0, d1, d2, d3]], rfl, upd_same, Paired.snoc (Paired.mapP hP6 fun _ _ => TI.tk tk7) (ht6.tk tk7), fun m hm' => ?_, ?_, by rw [List.length_append, List.length_singleton]; omega, hh6.but bl nh nc, fun x o e hx => ?_⟩
        · rcases List.mem_append.mp hm' with hm' | hm'
          · exact ok m hm'
          · rw [List.mem_singleton.mp hm']
            exact mok
        · refine List.nodup_append.mpr ⟨nd, nodup_one _, fun x hx y hy e => ?_⟩
          rw [List.mem_singleton.mp hy] at e
          exact hm (e ▸ hx)
        · rw [upd_ne (ne_of_none e hl)]
          exact b06 x o e hx
    · rintro σ H1 ⟨v5, v6, vs, ms, rfl, hl1, hP, ok, nd, hlen, hh1, b1⟩
      have hvl : vs.length = ms.length := Paired.length hP
      have ok4 : ∀ m ∈ ms, m.length = 4 ∧ TS.Bd 20 m := fun m hm => mv_bd ha.2 hb.2 hc.2 hn.2 (ok m hm)
      refine ⟨_, rfl, l, vs, rfl, SqL.of hl1, by omega, sort_pre hP ok4, fun ys p hpp hw hp => ?_⟩
      obtain ⟨ms', hP', hperm, hasc⟩ := sort_post hP ok4 nd hpp hw
      have s2 : Same H1 (upd H1 p (.lst ys)) := same_upd hp
      refine ⟨p, ys, rfl, .inl ⟨SqL.of upd_same, fun f hf => ?_⟩⟩
      have s3 : Same H1 (upd (upd H1 p (.lst ys)) f (.tup ys)) := s2.trans (same_upd hf)
      exact q _ f ms' ⟨f, ys, rfl, upd_same, Paired.mapP hP' fun _ _ => TI.tk (stk s3)⟩ (fun m hm => ok m (hperm.mem_iff.mp hm)) hasc (hperm.nodup_iff.mpr nd) (by rw [hperm.length_eq]; omega) (hh1.same s3) (b1.trans (sbut s3))
end
end K15

-- part K
set_option maxHeartbeats 4000000
/-! K15K: the parts of an office, drawn. -/
namespace K15
open PySem PySem.Spec PyProof.Rows L2 C8
section
variable {P : Program} {w : World} {K : PySem.W.Frag} {mg : Str → Option Value} {base : Heap}
def spParts : Sp := fun vs H Q _ => ∃ (h cc : Addr) (most : Int), vs = [.ref h, .int most, .int 4, .int 5] ∧ HandAt H h cc ∧ (1 ≤ most ∧ most ≤ 20) ∧
  ∀ H' t p, PT3 H' (.ref t) p → Good p → HandAt H' h cc → But h H H' → Q (.ref t) H'
abbrev N_parts : List Str := ["_law_hand_here", "_law_most", "_law_size", "_law_moves", "_law_sizes", "_law_many", "_law_served", "_law_rows", "_law_closings", "_law_standing", "_law_row_here", "_law_slip", "_law_turn", "_law_move", "_law_mark"]
theorem sc_law_parts : FnScope N_parts ["_law_hand_here", "_law_most", "_law_size", "_law_moves"] (defScope s_law_parts) := ⟨rfl, rfl, rfl, by decide +kernel, rfl, by decide +kernel, by decide +kernel⟩
theorem mv_head {a b c n : Int} {m : List Int} (h : MvOk a b c n m) : ∃ w r, m = w :: r := by
  obtain ⟨w, x, y, z, rfl, _⟩ := h
  exact ⟨w, _, rfl⟩
/-- between two standings: the rows' list at r7, the closings' at r8 -/
structure PSt (H H' : Hp) (h cc sz r7 r8 : Addr) (a b c n : Int) (vs : List V) (ms : List (List (List Int))) (cs : List V) (ks : List (List Int)) : Prop where
  l7 : H' r7 = some (.lst vs)
  P7 : Paired (TII H') vs ms
  ok7 : ∀ r ∈ ms, RowOk a b c n r
  l8 : H' r8 = some (.lst cs)
  P8 : Paired (TI H') cs ks
  ok8 : ∀ k ∈ ks, ClOk c k
  hh : HandAt H' h cc
  bb : But h H H'
  sz : H' sz = some (.tup (([a, b, c] : List Int).map V.int))
  h70 : H r7 = none
  h80 : H r8 = none
  n78 : r7 ≠ r8
  n7 : r7 ≠ h ∧ cc ≠ r7
  n8 : r8 ≠ h ∧ cc ≠ r8
section
variable {H H' H'' : Hp} {h cc sz r7 r8 l : Addr} {a b c n : Int} {vs cs xs ys : List V} {ms : List (List (List Int))} {ks : List (List Int)}
theorem PSt.step (x : PSt H H' h cc sz r7 r8 a b c n vs ms cs ks) (b' : But h H' H'') (hh : HandAt H'' h cc) : PSt H H'' h cc sz r7 r8 a b c n vs ms cs ks :=
  have tk := x.hh.tk b'
  ⟨b' _ _ x.l7 x.n7.1, Paired.mapP x.P7 (fun _ _ => TII.tk tk), x.ok7, b' _ _ x.l8 x.n8.1, Paired.mapP x.P8 (fun _ _ => TI.tk tk), x.ok8, hh, x.bb.trans b', tk _ _ x.sz, x.h70, x.h80, x.n78, x.n7, x.n8⟩
theorem PSt.same (x : PSt H H' h cc sz r7 r8 a b c n vs ms cs ks) (s : Same H' H'') : PSt H H'' h cc sz r7 r8 a b c n vs ms cs ks := x.step (sbut s) (x.hh.same s)
/-- another new list is changed -/
theorem PSt.lst (x : PSt H H' h cc sz r7 r8 a b c n vs ms cs ks) (hl : H' l = some (.lst xs)) (h0 : H l = none) (n7 : r7 ≠ l) (n8 : r8 ≠ l) (nh : h ≠ l) (nc : cc ≠ l) : PSt H (upd H' l (.lst ys)) h cc sz r7 r8 a b c n vs ms cs ks :=
  have bl : But l H' (upd H' l (.lst ys)) := But.refl.upd
  have tk := bl.tk hl
  ⟨bl _ _ x.l7 n7, Paired.mapP x.P7 (fun _ _ => TII.tk tk), x.ok7, bl _ _ x.l8 n8, Paired.mapP x.P8 (fun _ _ => TI.tk tk), x.ok8, x.hh.but bl nh nc, fun q o e hq => bl q o (x.bb q o e hq) (ne_of_none e h0), tk _ _ x.sz, x.h70, x.h80, x.n78, x.n7, x.n8⟩
theorem PSt.row (x : PSt H H' h cc sz r7 r8 a b c n vs ms cs ks) {f : V} {r : List (List Int)} (hf : TII H' f r) (ok : RowOk a b c n r) : PSt H (upd H' r7 (.lst (vs ++ [f]))) h cc sz r7 r8 a b c n (vs ++ [f]) (ms ++ [r]) cs ks :=
  have bl : But r7 H' (upd H' r7 (.lst (vs ++ [f]))) := But.refl.upd
  have tk := bl.tk x.l7
  ⟨upd_same, Paired.snoc (Paired.mapP x.P7 (fun _ _ => TII.tk tk)) (TII.tk tk hf), fun y hy => by
    rcases List.mem_append.mp hy with hy | hy
    · exact x.ok7 y hy
    · rw [List.mem_singleton.mp hy]
      exact ok, bl _ _ x.l8 x.n78.symm, Paired.mapP x.P8 (fun _ _ => TI.tk tk), x.ok8, x.hh.but bl x.n7.1.symm x.n7.2, fun q o e hq => bl q o (x.bb q o e hq) (ne_of_none e x.h70), tk _ _ x.sz, x.h70, x.h80, x.n78, x.n7, x.n8⟩
theorem PSt.clo (x : PSt H H' h cc sz r7 r8 a b c n vs ms cs ks) {f : V} {k : List Int} (hf : TI H' f k) (ok : ClOk c k) : PSt H (upd H' r8 (.lst (cs ++ [f]))) h cc sz r7 r8 a b c n vs ms (cs ++ [f]) (ks ++ [k]) :=
  have bl : But r8 H' (upd H' r8 (.lst (cs ++ [f]))) := But.refl.upd
  have tk := bl.tk x.l8
  ⟨bl _ _ x.l7 x.n78, Paired.mapP x.P7 (fun _ _ => TII.tk tk), x.ok7, upd_same, Paired.snoc (Paired.mapP x.P8 (fun _ _ => TI.tk tk)) (hf.tk tk), fun y hy => by
    rcases List.mem_append.mp hy with hy | hy
    · exact x.ok8 y hy
    · rw [List.mem_singleton.mp hy]
      exact ok, x.hh.but bl x.n8.1.symm x.n8.2, fun q o e hq => bl q o (x.bb q o e hq) (ne_of_none e x.h80), tk _ _ x.sz, x.h70, x.h80, x.n78, x.n7, x.n8⟩
end
theorem ok_law_parts (T : Tx K mg) : Cal P w K mg base 3 "_law_parts" spParts [] := by
  refine cal_mk T.f_law_parts T.g_law_parts sc_law_parts (fun vs H Q E h => ?_) (fun _ _ _ _ _ _ us hl => match us, hl with | [_, _, _, _], _ => rfl) (fun cdv A outer s H vs Q E hr h => ?_)
  · obtain ⟨h, cc, most, rfl, _⟩ := h
    rfl
  · obtain ⟨h, cc, most, rfl, hh, hmost, q⟩ := h
    refine ⟨_, pss_cons (ps_set (i := 4) sc_law_parts.nd rfl (.inl rfl) (pe_callTy call_tuple_of (by rfl) T.m_tuple (by decide +kernel) (pa_cons (pe_lc (own := [("_law_turn", 12)]) (g := gName 12) rfl sc_law_parts.nd (pi_range1 (by rfl) T.m_range (pa_cons pe_int pa_nil)) (blkOk_by (N := N_parts) (sc := defScope s_law_parts) (by decide +kernel))
          (fun _ _ _ _ _ => pg_name (i := 12) sc_law_parts.nd rfl (.inl rfl)) (fun _ _ _ _ _ => pts_nil) (fun _ _ _ _ _ => pe_op op_add pe_int (pe_c (ok_law_draw T) hr (by decide) (by rfl) (pa_cons (pv 0) (pa_cons (pv 2) pa_nil))))) pa_nil)))
      (pss_cons (ps_set (i := 5) sc_law_parts.nd rfl (.inl rfl) (pe_op op_add pe_int (pe_c (ok_law_draw T) hr (by decide) (by rfl) (pa_cons (pv 0) (pa_cons (pv 1) pa_nil)))))
      (pss_cons (ps_set (i := 6) sc_law_parts.nd rfl (.inl rfl) (pe_cmpR op_gt (pe_c (ok_law_draw T) hr (by decide) (by rfl) (pa_cons (pv 0) (pa_cons pe_int pa_nil))) pe_int (nomark _)))
      (pss_cons (ps_set (i := 7) sc_law_parts.nd rfl (.inl rfl) (pe_lst pa_nil))
      (pss_cons (ps_set (i := 8) sc_law_parts.nd rfl (.inl rfl) (pe_lst pa_nil))
      (pss_cons (ps_for PassesOwn.never rfl (pi_range1 (by rfl) T.m_range (pa_cons (pv 5) pa_nil)) (pg_name (i := 9) sc_law_parts.nd rfl (.inl rfl))
        (pss_cons (ps_set (i := 10) sc_law_parts.nd rfl (.inl rfl) (pe_callTy call_list_of (by rfl) T.m_list (by decide +kernel) (pa_cons (pe_c (ok_law_row T) hr (by decide) (by rfl) (pa_cons (pv 0) (pa_cons (pv 4) (pa_cons (pe_c (ok_law_draw T) hr (by decide) (by rfl) (pa_cons (pv 0) (pa_cons (pe_op op_add (pv 3) pe_int) pa_nil))) (pa_cons (pv 5) pa_nil))))) pa_nil)))
        (pss_cons (ps_for PassesOwn.never rfl (pi_range1 (by rfl) T.m_range (pa_cons (pe_ix ix_tup (pv 4) pe_int (fun _ _ => rfl)) pa_nil)) (pg_name (i := 11) sc_law_parts.nd rfl (.inr rfl))
          (pss_one (ps_if (PW.pt (pw_and (pt_val (pv 6)) (pw_and1 (pt_cmpR op_eq (pe_callB call_len_seq (by rfl) T.m_len PySem.boot_len (pa_cons (pe_lc (own := [("_law_move", 13)]) (g := gName 13) rfl sc_law_parts.nd (pi_list (pv 10)) (blkOk_by (N := N_parts) (sc := defScope s_law_parts) (by decide +kernel))
              (fun _ _ _ _ _ => pg_name (i := 13) sc_law_parts.nd rfl (.inl rfl)) (fun _ _ _ _ _ => pts_one (pt_cmpR op_eq (pe_ix (r := rIxT K) ix_tup (pv 13) pe_int (fun _ _ => rfl)) (pv 11) (nomark _))) (fun _ _ _ _ _ => pv 13)) pa_nil)) pe_int (nomark _)))))
            (pss_one (ps_expr (pe_bm PySem.F.plainAttrs_list PySem.F.slot_list_append PySem.F.type_list_append mt_append (pv 10) (pa_cons (pe_tup (pa_cons (pv 11)
              (pa_cons (pe_c (ok_law_draw T) hr (by decide) (by rfl) (pa_cons (pv 0) (pa_cons (pe_ix ix_tup (pv 4) pe_int (fun _ _ => rfl)) pa_nil)))
              (pa_cons (pe_c (ok_law_draw T) hr (by decide) (by rfl) (pa_cons (pv 0) (pa_cons (pe_ix ix_tup (pv 4) pe_int (fun _ _ => rfl)) pa_nil)))
              (pa_cons (pe_c (ok_law_draw T) hr (by decide) (by rfl) (pa_cons (pv 0) (pa_cons (pv 5) pa_nil))) pa_nil))))) pa_nil)))) pss_nil)))
        (pss_cons (ps_expr (pe_bm PySem.F.plainAttrs_list PySem.F.slot_list_append PySem.F.type_list_append mt_append (pv 7) (pa_cons (pe_callTy call_tuple_of (by rfl) T.m_tuple (by decide +kernel) (pa_cons (pe_callB (cr_sortT (d := 4) (B := 20) (by decide)) (by rfl) T.m_sorted (by decide +kernel) (pa_cons (pv 10) pa_nil)) pa_nil)) pa_nil)))
        (pss_one (ps_expr (pe_bm PySem.F.plainAttrs_list PySem.F.slot_list_append PySem.F.type_list_append mt_append (pv 8) (pa_cons (pe_callTy call_tuple_of (by rfl) T.m_tuple (by decide +kernel) (pa_cons (pe_lc (own := [("_law_mark", 14)]) (g := gName 14) rfl sc_law_parts.nd (pi_range1 (by rfl) T.m_range (pa_cons (pe_ix ix_tup (pv 4) pe_int (fun _ _ => rfl)) pa_nil)) (blkOk_by (N := N_parts) (sc := defScope s_law_parts) (by decide +kernel))
              (fun _ _ _ _ _ => pg_name (i := 14) sc_law_parts.nd rfl (.inl rfl)) (fun _ _ _ _ _ => pts_one (pt_cmpR op_gt (pe_c (ok_law_draw T) hr (by decide) (by rfl) (pa_cons (pv 0) (pa_cons pe_int pa_nil))) pe_int (nomark _))) (fun _ _ _ _ _ => pv 14)) pa_nil)) pa_nil))))))))
      (pss_one (ps_ret (pe_tup (pa_cons (pv 4) (pa_cons (pe_callTy call_tuple_of (by rfl) T.m_tuple (by decide +kernel) (pa_cons (pv 7) pa_nil)) (pa_cons (pe_callTy call_tuple_of (by rfl) T.m_tuple (by decide +kernel) (pa_cons (pv 8) pa_nil)) pa_nil)))))))))))
      , ?_⟩
    -- sizes
    refine ⟨3, rfl, by decide, by decide, fun D hD => ?_⟩
    obtain ⟨nh, nc⟩ := hh.ne hD
    have sD : Same H (upd H D (.lst [])) := same_upd hD
    refine lc_rangeY (lo := 0) (n := 3) (fun i H' => ∃ ns : List Int, H' D = some (.lst (ns.map V.int)) ∧ ns.length = i ∧ (∀ n ∈ ns, 1 ≤ n ∧ n ≤ 4) ∧ HandAt H' h cc ∧ But h H H') ⟨[], upd_same, rfl, fun _ e => (by cases e), hh.same sD, sbut sD⟩ ?_ ?_
    · rintro i H1 hi ⟨ns, hd, hl, ok, hh1, b1⟩
      refine ⟨rfl, _, rfl, _, rfl, h, cc, 4, rfl, hh1, by omega, by omega, fun d H2 d0 d1 hh2 b2 => ?_⟩
      have hd2 := b2 D _ hd nh.symm
      refine ⟨_, _, rfl, rfl, _, hd2, small1000 (by rw [List.length_map]; omega), ns ++ [1 + d], ?_, by rw [List.length_append, List.length_singleton, hl], fun n hn => ?_, hh2.but But.refl.upd nh nc, fun b o e hb => ?_⟩
      · rw [upd_same, List.map_append] <;> rfl
      · rcases List.mem_append.mp hn with hn | hn
        · exact ok n hn
        · rw [List.mem_singleton.mp hn]
          omega
      · rw [upd_ne (ne_of_none e hD)]
        exact (b1.trans b2) b o e hb
    rintro H1 ⟨ns, hd, hl, okn, hh1, b1⟩
    obtain ⟨a, b, c, rfl⟩ : ∃ a b c, ns = [a, b, c] := by
      match ns, hl with
      | [a, b, c], _ => exact ⟨a, b, c, rfl⟩
    have ha : 1 ≤ a ∧ a ≤ 4 := okn a (by simp)
    have hb : 1 ≤ b ∧ b ≤ 4 := okn b (by simp)
    have hc : 1 ≤ c ∧ c ≤ 4 := okn c (by simp)
    refine ⟨D, _, rfl, .inl ⟨SqL.of hd, fun sz hsz => ?_⟩⟩
    have s2 : Same H1 (upd H1 sz (.tup (([a, b, c] : List Int).map V.int))) := same_upd hsz
    have hsz2 : upd H1 sz (.tup (([a, b, c] : List Int).map V.int)) sz = some (.tup (([a, b, c] : List Int).map V.int)) := upd_same
    have hh2 := hh1.same s2
    have b2 : But h H (upd H1 sz (.tup (([a, b, c] : List Int).map V.int))) := b1.trans (sbut s2)
    generalize upd H1 sz (.tup (([a, b, c] : List Int).map V.int)) = H2 at hsz2 hh2 b2 ⊢
    -- many, served
    refine ⟨_, rfl, _, rfl, h, cc, most, rfl, hh2, by omega, by omega, fun d H3 d0 d1 hh3 b3 => ?_⟩
    refine ⟨_, _, rfl, rfl, ?_⟩
    obtain ⟨n, en⟩ : ∃ n, n = 1 + d := ⟨_, rfl⟩
    have hn : 1 ≤ n ∧ n ≤ 20 := by omega
    refine ⟨_, rfl, h, cc, 3, rfl, hh3, by omega, by omega, fun ds H4 ds0 ds1 hh4 b4 => ?_⟩
    refine ⟨_, _, rfl, rfl, ?_⟩
    have tk4 : TK H2 H4 := (hh2.tk b3).trans (hh3.tk b4)
    have hsz4 := tk4 _ _ hsz2
    have b04 : But h H H4 := (b2.trans b3).trans b4
    -- rows = []; closings = []
    refine ⟨Nat.zero_le _, fun r7 h7 => ⟨Nat.zero_le _, fun r8 h8 => ?_⟩⟩
    have h78 : r7 ≠ r8 := ne_of_none upd_same h8
    obtain ⟨nh7, nc7⟩ := hh4.ne h7
    have s45 : Same H4 (upd (upd H4 r7 (.lst [])) r8 (.lst [])) := (same_upd h7).trans (same_upd h8)
    obtain ⟨nh8, nc8⟩ := (hh4.same (same_upd (o := .lst []) h7)).ne h8
    have h70 : H r7 = none := b04.free nh7.symm h7
    have h80 : H r8 = none := b04.free nh8.symm ((same_upd (o := .lst []) h7).free h8)
    have X5 : PSt H (upd (upd H4 r7 (.lst [])) r8 (.lst [])) h cc sz r7 r8 a b c (1 + d) [] [] [] [] :=
      ⟨by rw [upd_ne h78, upd_same], .nil, fun _ e => (by cases e), upd_same, .nil, fun _ e => (by cases e), hh4.same s45, b04.trans (sbut s45), s45 _ _ hsz4, h70, h80, h78, ⟨nh7.symm, nc7⟩, ⟨nh8.symm, nc8⟩⟩
    generalize upd (upd H4 r7 (.lst [])) r8 (.lst []) = H5 at X5 ⊢
    obtain ⟨sv, esv⟩ : ∃ sv : Bool, sv = decide (0 < ds) := ⟨_, rfl⟩
    refine ⟨_, rfl, _, rfl, by omega, by omega, ?_⟩
    refine for_range (lo := 0) (n := (1 + d).toNat) (fun i σ H' => ∃ v9 v10 v11 vs ms cs ks, σ = [some (.ref h), some (.int most), some (.int 4), some (.int 5), some (.ref sz), some (.int (1 + d)), some (.bl (decide (0 < ds))), some (.ref r7), some (.ref r8), v9, v10, v11, none, none, none] ∧
        PSt H H' h cc sz r7 r8 a b c (1 + d) vs ms cs ks ∧ ms.length = i ∧ ks.length = i)
      ⟨none, none, none, [], [], [], [], rfl, X5, rfl, rfl⟩ ?_ ?_
    · rintro i σ H6 hi ⟨v9, v10, v11, vs, ms, cs, ks, rfl, X6, el, ek⟩
      have hvl : vs.length = ms.length := Paired.length X6.P7
      have hcl : cs.length = ks.length := Paired.length X6.P8
      -- row_here = list(_law_row(hand, sizes, draw(hand, moves + 1), many))
      refine ⟨_, rfl, _, rfl, _, rfl, _, rfl, _, _, rfl, rfl, h, cc, _, rfl, X6.hh, by decide, by decide, fun dk H7 dk0 dk1 hh7 b7 => ?_⟩
      have X7 := X6.step b7 hh7
      refine ⟨_, rfl, h, cc, .ref sz, a, b, c, dk, 1 + d, rfl, hh7, ⟨sz, rfl, X7.sz⟩, ha, hb, hc, by omega, by omega, fun H8 f r hf okr ascr ndr hrl hh8 b8 => ?_⟩
      have X8 := X7.step b8 hh8
      obtain ⟨f', ws, ef, hf', hPw⟩ := hf
      cases ef
      refine ⟨f, ws, rfl, .inr (SqT.of hf'), fun l hl => ?_⟩
      obtain ⟨nhl, ncl⟩ := hh8.ne hl
      have hl0 : H l = none := X8.bb.free nhl.symm hl
      have n7l : r7 ≠ l := ne_of_none X8.l7 hl
      have n8l : r8 ≠ l := ne_of_none X8.l8 hl
      have s9 : Same H8 (upd H8 l (.lst ws)) := same_upd hl
      have X9 := X8.same s9
      have P9 : Paired (TI (upd H8 l (.lst ws))) ws r := Paired.mapP hPw fun _ _ => TI.tk (stk s9)
      have l9 : upd H8 l (.lst ws) l = some (.lst ws) := upd_same
      generalize upd H8 l (.lst ws) = H9 at X9 P9 l9 ⊢
      -- for slip in range(sizes[0])
      refine ⟨_, rfl, sz, _, _, _, rfl, rfl, SqT.of X9.sz, atI_nat (j := 0) rfl, a, rfl, by omega, by omega, ?_⟩
      refine for_range (lo := 0) (n := a.toNat) (fun j σ H' => ∃ v11 ws r, σ = [some (.ref h), some (.int most), some (.int 4), some (.int 5), some (.ref sz), some (.int (1 + d)), some (.bl (decide (0 < ds))), some (.ref r7), some (.ref r8), some (.int (0 + (i : Nat))), some (.ref l), v11, none, none, none] ∧
          PSt H H' h cc sz r7 r8 a b c (1 + d) vs ms cs ks ∧ H' l = some (.lst ws) ∧ Paired (TI H') ws r ∧ (∀ m ∈ r, MvOk a b c (1 + d) m) ∧ r.Nodup ∧ r.length ≤ 5 + j)
        ⟨v11, ws, r, rfl, X9, l9, P9, okr, ndr, hrl⟩ ?_ ?_
      · rintro j σ H10 hj ⟨v11, ws, r, rfl, X10, l10, P10, ok10, nd10, len10⟩
        have hwl : ws.length = r.length := Paired.length P10
        refine ⟨_, rfl, _, rfl, ?_⟩
        cases decide (0 < ds) with
        | false => exact iteF (iteF ⟨_, ws, r, rfl, X10, l10, P10, ok10, nd10, by omega⟩)
        | true =>
          refine iteT ⟨_, rfl, l, rfl, ⟨_, SqL.of l10⟩, fun D2 hD2 => ?_⟩
          refine lc_list (K := K) (a := l) (xs := ws) (fun x H' => Same H10 H' ∧ ∃ us, H' D2 = some (.lst us) ∧ us.length ≤ x ∧ (us = [] → ∀ m ∈ r.take x, ∀ u, m.head? = some u → u ≠ 0 + (j : Int))) ⟨same_upd hD2, [], upd_same, Nat.le_refl _, fun _ m hm => (by cases hm)⟩ (fun x H' _ q => SqL.of (q.1 _ _ l10)) ?_ ?_
          · rintro x y H11 hy ⟨sm, us, hus, hul, hno⟩
            obtain ⟨m, hm, t, rfl, ht⟩ := paired_get P10 hy
            obtain ⟨u0, m', rfl⟩ := mv_head (ok10 m (List.mem_of_getElem? hm))
            have hx : x < ws.length := (List.getElem?_eq_some_iff.mp hy).1
            refine ⟨rfl, _, rfl, t, _, 0, _, rfl, rfl, SqT.of (sm _ _ ht), atI_nat (j := 0) rfl, _, rfl, rfl, _, rfl, ?_⟩
            refine ite2 (fun _ => ?_) (fun hne => ⟨sm, us, hus, by omega, fun e m hm2 u hu => ?_⟩)
            · refine ⟨_, rfl, us, hus, small1000 (by omega), fun b o e => ?_, us ++ [.ref t], upd_same, by rw [List.length_append, List.length_singleton]; omega, fun e => (by simp at e)⟩
              rw [upd_ne (ne_of_none e hD2)]
              exact sm _ _ e
            · rw [take_snoc hm] at hm2
              rcases List.mem_append.mp hm2 with hm2 | hm2
              · exact hno e m hm2 u hu
              · rw [List.mem_singleton.mp hm2] at hu
                cases hu
                exact fun e2 => hne (decide_eq_true (congrArg V.int e2))
          · rintro H11 ⟨sm, us, hus, hul, hno⟩
            have X11 := X10.same sm
            have l11 := sm _ _ l10
            have P11 : Paired (TI H11) ws r := Paired.mapP P10 fun _ _ => TI.tk (stk sm)
            refine ⟨D2, us, rfl, .inl (SqL.of hus), rfl, _, rfl, ?_⟩
            refine ite2 (fun e => ?_) (fun _ => ⟨_, ws, r, rfl, X11, l11, P11, ok10, nd10, by omega⟩)
            have hus0 : us = [] := by
              have e2 := of_decide_eq_true e
              injection e2 with e3
              exact List.length_eq_zero_iff.mp (by omega)
            have hnot : ∀ m ∈ r, ∀ u, m.head? = some u → u ≠ 0 + (j : Int) := by
              have := hno hus0
              rwa [take_all hwl] at this
            -- row_here.append((slip, draw, draw, draw))
            refine ⟨_, rfl, .inl ⟨rfl, _, SqL.of l11⟩, _, rfl, _, rfl, _, rfl, sz, _, _, _, rfl, rfl, SqT.of X11.sz, atI_nat (j := 1) rfl, h, cc, b, rfl, X11.hh, by omega, by omega, fun e1 H12 e10 e11 hh12 b12 => ?_⟩
            have X12 := X11.step b12 hh12
            refine ⟨_, rfl, _, rfl, sz, _, _, _, rfl, rfl, SqT.of X12.sz, atI_nat (j := 2) rfl, h, cc, c, rfl, hh12, by omega, by omega, fun e2 H13 e20 e21 hh13 b13 => ?_⟩
            have X13 := X12.step b13 hh13
            refine ⟨_, rfl, _, rfl, h, cc, 1 + d, rfl, hh13, by omega, by omega, fun e3 H14 e30 e31 hh14 b14 => ?_⟩
            have X14 := X13.step b14 hh14
            have b1114 : But h H11 H14 := (b12.trans b13).trans b14
            refine ⟨(by show 4 ≤ sizeLine; decide), fun t ht => ?_⟩
            have s15 : Same H14 (upd H14 t (.tup [.int (0 + (j : Nat)), .int e1, .int e2, .int e3])) := same_upd ht
            have X15 := X14.same s15
            have tk : TK H11 (upd H14 t (.tup [.int (0 + (j : Nat)), .int e1, .int e2, .int e3])) := (X11.hh.tk b1114).trans (stk s15)
            have l15 := s15 _ _ (b1114 l _ l11 nhl.symm)
            have P15 : Paired (TI (upd H14 t (.tup [.int (0 + (j : Nat)), .int e1, .int e2, .int e3]))) ws r := Paired.mapP P11 fun _ _ => TI.tk tk
            have t15 : TI (upd H14 t (.tup [.int (0 + (j : Nat)), .int e1, .int e2, .int e3])) (.ref t) [0 + (j : Int), e1, e2, e3] := ⟨t, rfl, upd_same⟩
            generalize upd H14 t (.tup [.int (0 + (j : Nat)), .int e1, .int e2, .int e3]) = H15 at X15 l15 P15 t15 ⊢
            have mok : MvOk a b c (1 + d) [0 + (j : Int), e1, e2, e3] := ⟨_, e1, e2, e3, rfl, ⟨by omega, by omega⟩, ⟨e10, e11⟩, ⟨e20, e21⟩, e30, e31⟩
            refine ⟨l, ws, _, rfl, rfl, l15, small1000 (by omega), ?_⟩
            have bl : But l H15 (upd H15 l (.lst (ws ++ [.ref t]))) := But.refl.upd
            have tkl := bl.tk l15
            refine ⟨_, ws ++ [.ref t], r ++ [[0 + (j : Int), e1, e2, e3]], rfl, X15.lst l15 hl0 n7l n8l nhl ncl, upd_same, Paired.snoc (Paired.mapP P15 fun _ _ => TI.tk tkl) (t15.tk tkl), fun m hm => ?_, ?_, by rw [List.length_append, List.length_singleton]; omega⟩
            · rcases List.mem_append.mp hm with hm | hm
              · exact ok10 m hm
              · rw [List.mem_singleton.mp hm]
                exact mok
            · refine List.nodup_append.mpr ⟨nd10, nodup_one _, fun x hx y hy e => ?_⟩
              rw [List.mem_singleton.mp hy] at e
              rw [e] at hx
              exact hnot _ hx _ rfl rfl
      · rintro σ H10 ⟨v11, ws, r, rfl, X10, l10, P10, ok10, nd10, len10⟩
        have hwl : ws.length = r.length := Paired.length P10
        have len9 : r.length ≤ 9 := by omega
        have ok4 : ∀ m ∈ r, m.length = 4 ∧ TS.Bd 20 m := fun m hm => mv_bd ha.2 hb.2 hc.2 (by omega) (ok10 m hm)
        -- rows.append(tuple(sorted(row_here)))
        refine ⟨_, rfl, .inl ⟨rfl, _, SqL.of X10.l7⟩, _, rfl, l, ws, rfl, SqL.of l10, by omega, sort_pre P10 ok4, fun ys p hpp hw hp => ?_⟩
        obtain ⟨ms', hP', hperm, hasc⟩ := sort_post P10 ok4 nd10 hpp hw
        refine ⟨p, ys, rfl, .inl ⟨SqL.of upd_same, fun g hg => ?_⟩⟩
        have s11 : Same H10 (upd (upd H10 p (.lst ys)) g (.tup ys)) := (same_upd hp).trans (same_upd hg)
        have X11 := X10.same s11
        have G11 : TII (upd (upd H10 p (.lst ys)) g (.tup ys)) (.ref g) ms' := ⟨g, ys, rfl, upd_same, Paired.mapP hP' fun _ _ => TI.tk (stk s11)⟩
        generalize upd (upd H10 p (.lst ys)) g (.tup ys) = H11 at X11 G11 ⊢
        refine ⟨r7, vs, _, rfl, rfl, X11.l7, small1000 (by omega), ?_⟩
        have rok : RowOk a b c (1 + d) ms' := ⟨fun m hm => ok10 m (hperm.mem_iff.mp hm), hasc, by rw [hperm.length_eq]; omega⟩
        have X12 := X11.row G11 rok
        generalize upd H11 r7 (.lst (vs ++ [.ref g])) = H12 at X12 ⊢
        -- closings.append(tuple([mark for mark in range(sizes[2]) if draw(hand, 3) > 0]))
        refine ⟨_, rfl, .inl ⟨rfl, _, SqL.of X12.l8⟩, _, rfl, sz, _, _, _, rfl, rfl, SqT.of X12.sz, atI_nat (j := 2) rfl, c, rfl, by omega, by omega, fun D2 hD2 => ?_⟩
        obtain ⟨nhD, ncD⟩ := X12.hh.ne hD2
        have hD0 : H D2 = none := X12.bb.free nhD.symm hD2
        have n7D : r7 ≠ D2 := ne_of_none X12.l7 hD2
        have n8D : r8 ≠ D2 := ne_of_none X12.l8 hD2
        refine lc_range (lo := 0) (n := c.toNat) (fun x H' => ∃ us : List Int, H' D2 = some (.lst (us.map V.int)) ∧ us.Pairwise (· < ·) ∧ (∀ u ∈ us, 0 ≤ u ∧ u < (x : Int)) ∧ us.length ≤ x ∧ PSt H H' h cc sz r7 r8 a b c (1 + d) (vs ++ [.ref g]) (ms ++ [ms']) cs ks) ⟨[], upd_same, .nil, fun _ e => (by cases e), Nat.le_refl _, X12.same (same_upd hD2)⟩ ?_ ?_
        · rintro x H13 hx ⟨us, hus, pw, bd, hul, X13⟩
          refine ⟨rfl, _, rfl, h, cc, 3, rfl, X13.hh, by omega, by omega, fun dd H14 dd0 dd1 hh14 b14 => ?_⟩
          have X14 := X13.step b14 hh14
          have hus14 := b14 D2 _ hus nhD.symm
          refine ⟨_, _, rfl, rfl, _, rfl, ?_⟩
          refine ite2 (fun _ => ?_) (fun _ => ⟨us, hus14, pw, fun u hu => by have := bd u hu; omega, by omega, X14⟩)
          refine ⟨_, rfl, _, hus14, small1000 (by rw [List.length_map]; omega), us ++ [0 + (x : Int)], ?_, ?_, fun u hu => ?_, by rw [List.length_append, List.length_singleton]; omega, X14.lst hus14 hD0 n7D n8D nhD ncD⟩
          · rw [upd_same, List.map_append] <;> rfl
          · refine List.pairwise_append.mpr ⟨pw, List.pairwise_singleton .., fun y hy z hz => ?_⟩
            rw [List.mem_singleton.mp hz]
            have := bd y hy
            omega
          · rcases List.mem_append.mp hu with hu | hu
            · have := bd u hu
              omega
            · rw [List.mem_singleton.mp hu]
              omega
        · rintro H13 ⟨us, hus, pw, bd, hul, X13⟩
          refine ⟨D2, _, rfl, .inl ⟨SqL.of hus, fun g2 hg2 => ?_⟩⟩
          have X14 := X13.same (same_upd (o := .tup (us.map V.int)) hg2)
          have G14 : TI (upd H13 g2 (.tup (us.map V.int))) (.ref g2) us := ⟨g2, rfl, upd_same⟩
          generalize upd H13 g2 (.tup (us.map V.int)) = H14 at X14 G14 ⊢
          refine ⟨r8, cs, _, rfl, rfl, X14.l8, small1000 (by omega), ?_⟩
          have cok : ClOk c us := ⟨fun u hu => by have := bd u hu; omega, pw, by omega⟩
          exact ⟨_, _, _, _, _, _, _, rfl, X14.clo G14 cok, by rw [List.length_append, List.length_singleton, el], by rw [List.length_append, List.length_singleton, ek]⟩
    · rintro σ H6 ⟨v9, v10, v11, vs, ms, cs, ks, rfl, X6, el, ek⟩
      refine ⟨_, rfl, _, rfl, r7, vs, rfl, .inl ⟨SqL.of X6.l7, fun f7 hf7 => ?_⟩⟩
      have s7 : Same H6 (upd H6 f7 (.tup vs)) := same_upd hf7
      have X7 := X6.same s7
      have F7 : TIII (upd H6 f7 (.tup vs)) (.ref f7) ms := ⟨f7, vs, rfl, upd_same, X7.P7⟩
      generalize upd H6 f7 (.tup vs) = H7 at X7 F7 ⊢
      refine ⟨_, rfl, r8, cs, rfl, .inl ⟨SqL.of X7.l8, fun f8 hf8 => ?_⟩⟩
      have s8 : Same H7 (upd H7 f8 (.tup cs)) := same_upd hf8
      have X8 := X7.same s8
      have F8 : TII (upd H7 f8 (.tup cs)) (.ref f8) ks := ⟨f8, cs, rfl, upd_same, X8.P8⟩
      have F78 := TIII.tk (stk s8) F7
      generalize upd H7 f8 (.tup cs) = H8 at X8 F8 F78 ⊢
      refine ⟨(by show 3 ≤ sizeLine; decide), fun t ht => ?_⟩
      have s9 : Same H8 (upd H8 t (.tup [.ref sz, .ref f7, .ref f8])) := same_upd ht
      have X9 := X8.same s9
      refine q _ t ⟨a, b, c, ms, ks⟩ ⟨t, .ref sz, .ref f7, .ref f8, rfl, upd_same, ⟨sz, rfl, X9.sz⟩, TIII.tk (stk s9) F78, TII.tk (stk s9) F8⟩ ⟨ha, hb, hc, ?_, ?_, ?_, X9.ok8⟩ X9.hh X9.bb
      · show 1 ≤ ms.length ∧ ms.length ≤ 20
        omega
      · intro r hr'
        have e : ((ms.length : Nat) : Int) = 1 + d := by omega
        show RowOk a b c ((ms.length : Nat) : Int) r
        rw [e]
        exact X9.ok7 r hr'
      · show ks.length = ms.length
        omega
end
end K15

-- part L
set_option maxHeartbeats 4000000
/-! K15L: an office made of parts; parts that differ in one place. -/
namespace K15
open PySem PySem.Spec PyProof.Rows L2 C8
/-! ### slices and sums of tuples, not to be opened -/
@[irreducible] def rSlI (K : PySem.W.Frag) : V → Option Int → Option Int → Hp → VK → Prop := rSlA K
@[irreducible] def rCatI (K : PySem.W.Frag) : R2 := rCatA K
theorem sl_tupI {X : Cx} : SlR X (rSlI X.K) := by
  unfold rSlI
  exact sl_tupA
theorem op_catI {X : Cx} : OpR X (binaryOp .Add) (rCatI X.K) := by
  unfold rCatI
  exact op_catA
section
variable {K : PySem.W.Frag} {H : Hp} {a b : Addr} {xs ys : List V} {Q : VK}
/-- a part of a tuple, told by its items -/
theorem sl_any {lo hi : Option Int} {zs : List V} (ha : H a = some (.tup xs)) (e : cutV xs lo hi = zs) (q : ∀ p H', Same H H' → H' p = some (.tup zs) → Q (.ref p) H') : rSlI K (.ref a) lo hi H Q := by
  unfold rSlI
  refine ⟨a, xs, rfl, SqT.of ha, fun hw => ?_, fun hw p hp => ?_⟩
  · have e2 : cutV xs lo hi = xs := by
      unfold cutV
      rw [hw.1, hw.2, List.drop_zero, Nat.sub_zero, List.take_length]
    rw [e2] at e
    rw [← e] at q
    exact q a H (Same.refl H) ha
  · rw [e]
    exact q p _ (same_upd hp) upd_same
theorem cat_any (ha : H a = some (.tup xs)) (hb : H b = some (.tup ys)) (hn : xs.length + ys.length ≤ 1000) (q : ∀ p H', Same H H' → H' p = some (.tup (xs ++ ys)) → Q (.ref p) H') : rCatI K (.ref a) (.ref b) H Q := by
  unfold rCatI
  refine ⟨a, b, xs, ys, rfl, rfl, SqT.of ha, SqT.of hb, sizeL (by omega), fun e => ?_, fun _ e => ?_, fun _ _ p hp => q p _ (same_upd hp) upd_same⟩
  · subst e
    exact q b H (Same.refl H) hb
  · subst e
    rw [List.append_nil] at q
    exact q a H (Same.refl H) ha
theorem cut_to {i : Nat} (h : i ≤ xs.length) : cutV xs none (some (i : Int)) = xs.take i := by
  unfold cutV
  rw [HT.sIx_nat, HT.sIx_none, List.drop_zero, Nat.sub_zero, Nat.min_eq_left h]
theorem cut_from {j : Nat} : cutV xs (some (j : Int)) none = xs.drop j := by
  unfold cutV
  rw [HT.sIx_nat, HT.sIx_none]
  by_cases h : j ≤ xs.length
  · rw [Nat.min_eq_left h, List.take_of_length_le (by rw [List.length_drop]; exact Nat.le_refl _)]
  · rw [Nat.min_eq_right (by omega), Nat.sub_self, List.take_zero, List.drop_of_length_le (by omega)]
theorem cut_init : cutV xs none (some (-1)) = xs.take (xs.length - 1) := by
  unfold cutV
  have e : HT.sIx xs.length xs.length (some (-1)) = xs.length - 1 := by
    show (if (-1 : Int) < 0 then (-1 + (xs.length : Int)).toNat else min (-1 : Int).toNat xs.length) = _
    rw [if_pos (by decide)]
    omega
  rw [e, HT.sIx_none, List.drop_zero, Nat.sub_zero]
end
section
variable {P : Program} {w : World} {K : PySem.W.Frag} {mg : Str → Option Value} {base : Heap}
/-! ### _law_made -/
def spMade (C : Addr) : Sp := fun vs H Q _ => ∃ (v : V) (p : Parts), vs = [v] ∧ PT3 H v p ∧ Good p ∧ ∀ H' a, OffAt C H' (.ref a) p → Same H H' → Q (.ref a) H'
theorem sc_law_made : FnScope ["_law_parts_here"] ["_law_parts_here"] (defScope s_law_made) := ⟨rfl, rfl, rfl, by decide +kernel, rfl, by decide +kernel, by decide +kernel⟩
theorem ok_law_made (T : Tx K mg) : Cal P w K mg base 7 "_law_made" (spMade (He.ga K "Office")) [] := by
  refine cal_mk T.f_law_made T.g_law_made sc_law_made (fun vs H Q E h => ?_) (fun _ _ _ _ _ _ us hl => match us, hl with | [_], _ => rfl) (fun cdv A outer s H vs Q E hr h => ?_)
  · obtain ⟨v, p, rfl, _⟩ := h
    rfl
  · obtain ⟨v, p, rfl, ⟨t, sv, mv, cv, rfl, ht, h3⟩, hg, q⟩ := h
    refine ⟨_, pss_one (ps_ret (pe_mk (ok_Office T) hr (by decide) (by rfl) (pa_cons (pe_ix ix_tup (pv 0) pe_int (fun _ _ => rfl)) (pa_cons (pe_ix ix_tup (pv 0) pe_int (fun _ _ => rfl)) (pa_cons (pe_ix ix_tup (pv 0) pe_int (fun _ _ => rfl)) pa_nil))))), ?_⟩
    refine ⟨_, rfl, t, _, _, _, rfl, rfl, SqT.of ht, atI_nat (j := 0) rfl, _, rfl, t, _, _, _, rfl, rfl, SqT.of ht, atI_nat (j := 1) rfl, _, rfl, t, _, _, _, rfl, rfl, SqT.of ht, atI_nat (j := 2) rfl, ?_⟩
    intro y dy hy hdy nyd
    have s6 : Same H (upd (upd H dy (.own y)) y (.ins (He.ga K "Office") dy [])) := fun b o e => by
      rw [upd_ne (ne_of_none e hy), upd_ne (ne_of_none e hdy)]
      exact e
    refine ⟨y, dy, sv, mv, cv, p, rfl, upd_same, h3.tk (stk s6), hg, fun g H7 h7 b7 => ⟨rfl, ?_⟩⟩
    have s7 : Same H H7 := fun b o e => b7 b o (s6 _ _ e) (ne_of_none e hy)
    exact q H7 y ⟨y, dy, sv, mv, cv, .ref g, rfl, h7, h3.tk (stk s7)⟩ s7
/-! ### _law_changed -/
theorem splice_mem {α : Type} {l : List α} {i : Nat} {y x : α} (h : x ∈ l.take i ++ [y] ++ l.drop (i + 1)) : x ∈ l ∨ x = y := by
  rcases List.mem_append.mp h with h | h
  · rcases List.mem_append.mp h with h | h
    · exact .inl (List.mem_of_mem_take h)
    · exact .inr (List.mem_singleton.mp h)
  · exact .inl (List.mem_of_mem_drop h)
theorem splice_len {α : Type} {l : List α} {i : Nat} {y : α} (h : i < l.length) : (l.take i ++ [y] ++ l.drop (i + 1)).length = l.length := by
  simp only [List.length_append, List.length_take, List.length_drop, List.length_singleton]
  omega
theorem mvOk_mono {a b b' c n n' : Int} {m : List Int} (h : MvOk a b c n m) (hb : b ≤ b') (hn : n ≤ n') : MvOk a b' c n' m := by
  obtain ⟨w, x, y, z, rfl, h1, h2, h3, h4⟩ := h
  exact ⟨w, x, y, z, rfl, h1, ⟨h2.1, by omega⟩, h3, h4.1, by omega⟩
theorem good_k0 {p : Parts} (h : Good p) {i : Nat} {r : List (List Int)} (hr : p.mv[i]? = some r) : Good ⟨p.a, p.b, p.c, p.mv.take i ++ [r.drop 1] ++ p.mv.drop (i + 1), p.cl⟩ := by
  have hi := (List.getElem?_eq_some_iff.mp hr).1
  have hl := splice_len (l := p.mv) (y := r.drop 1) hi
  refine ⟨h.a, h.b, h.c, ?_, fun x hx => ?_, ?_, h.cl⟩
  · show 1 ≤ (p.mv.take i ++ [r.drop 1] ++ p.mv.drop (i + 1)).length ∧ _
    rw [hl]
    exact h.n
  · show RowOk p.a p.b p.c (((p.mv.take i ++ [r.drop 1] ++ p.mv.drop (i + 1)).length : Nat) : Int) x
    rw [hl]
    rcases splice_mem hx with hx | rfl
    · exact h.mv x hx
    · have ok := h.mv r (List.mem_of_getElem? hr)
      exact ⟨fun m hm => ok.ok m (List.mem_of_mem_drop hm), ok.asc.sublist (List.drop_sublist _ _), by rw [List.length_drop]; have := ok.len; omega⟩
  · show p.cl.length = _
    rw [hl]
    exact h.cn
theorem good_k1 {p : Parts} (h : Good p) {i : Nat} {r : List Int} (hr : p.cl[i]? = some r) : Good ⟨p.a, p.b, p.c, p.mv, p.cl.take i ++ [r.take (r.length - 1)] ++ p.cl.drop (i + 1)⟩ := by
  have hi := (List.getElem?_eq_some_iff.mp hr).1
  have hl := splice_len (l := p.cl) (y := r.take (r.length - 1)) hi
  refine ⟨h.a, h.b, h.c, h.n, h.mv, ?_, fun x hx => ?_⟩
  · show (p.cl.take i ++ [r.take (r.length - 1)] ++ p.cl.drop (i + 1)).length = _
    rw [hl]
    exact h.cn
  · rcases splice_mem hx with hx | rfl
    · exact h.cl x hx
    · have ok := h.cl r (List.mem_of_getElem? hr)
      exact ⟨fun m hm => ok.ok m (List.mem_of_mem_take hm), ok.asc.sublist (List.take_sublist _ _), by rw [List.length_take]; have := ok.len; omega⟩
theorem good_k2 {p : Parts} (h : Good p) (hn : p.mv.length < 20) : Good ⟨p.a, p.b, p.c, p.mv ++ [[]], p.cl ++ [[]]⟩ := by
  have hn1 := h.n
  refine ⟨h.a, h.b, h.c, ?_, fun x hx => ?_, ?_, fun x hx => ?_⟩
  · show 1 ≤ (p.mv ++ [[]]).length ∧ (p.mv ++ [[]]).length ≤ 20
    rw [List.length_append, List.length_singleton]
    omega
  · have e : (((p.mv ++ [[]]).length : Nat) : Int) = (p.mv.length : Int) + 1 := by
      rw [List.length_append, List.length_singleton]
      omega
    show RowOk p.a p.b p.c (((p.mv ++ [[]]).length : Nat) : Int) x
    rw [e]
    rcases List.mem_append.mp hx with hx | hx
    · have ok := h.mv x hx
      exact ⟨fun m hm => mvOk_mono (ok.ok m hm) (Int.le_refl _) (by omega), ok.asc, ok.len⟩
    · rw [List.mem_singleton.mp hx]
      exact ⟨fun m hm => (by cases hm), .nil, Nat.zero_le _⟩
  · show (p.cl ++ [[]]).length = (p.mv ++ [[]]).length
    rw [List.length_append, List.length_append, h.cn] <;> rfl
  · rcases List.mem_append.mp hx with hx | hx
    · exact h.cl x hx
    · rw [List.mem_singleton.mp hx]
      exact ⟨fun m hm => (by cases hm), .nil, Nat.zero_le _⟩
theorem good_k3 {p : Parts} (h : Good p) {b' : Int} (hb : p.b ≤ b' ∧ b' ≤ 4) : Good ⟨p.a, b', p.c, p.mv, p.cl⟩ := by
  have hb0 := h.b
  refine ⟨h.a, ⟨by show 1 ≤ b'; omega, hb.2⟩, h.c, h.n, fun x hx => ?_, h.cn, h.cl⟩
  have ok := h.mv x hx
  exact ⟨fun m hm => mvOk_mono (ok.ok m hm) hb.1 (Int.le_refl _), ok.asc, ok.len⟩
def spChanged : Sp := fun vs H Q _ => ∃ (h cc : Addr) (v : V) (p : Parts), vs = [.ref h, v] ∧ HandAt H h cc ∧ PT3 H v p ∧ Good p ∧ ∀ H' t p', PT3 H' (.ref t) p' → Good p' → HandAt H' h cc → But h H H' → Q (.ref t) H'
theorem sc_law_changed : FnScope ["_law_hand_here", "_law_parts_here", "_law_sizes", "_law_moves", "_law_closings", "_law_at", "_law_kind"] ["_law_hand_here", "_law_parts_here"] (defScope s_law_changed) := ⟨rfl, rfl, rfl, by decide +kernel, rfl, by decide +kernel, by decide +kernel⟩
theorem ok_law_changed (T : Tx K mg) : Cal P w K mg base 2 "_law_changed" spChanged [] := by
  refine cal_mk T.f_law_changed T.g_law_changed sc_law_changed (fun vs H Q E h => ?_) (fun _ _ _ _ _ _ us hl => match us, hl with | [_, _], _ => rfl) (fun cdv A outer s H vs Q E hr h => ?_)
  · obtain ⟨h, cc, v, p, rfl, _⟩ := h
    rfl
  · obtain ⟨h, cc, v, p, rfl, hh, ⟨t, sv, mv, cv, rfl, ht, h3⟩, hg, q⟩ := h
    refine ⟨_, pss_cons (ps_asg (pv 1) (pg_tup (by rfl) (pgs_cons (pg_name (i := 2) sc_law_changed.nd rfl (.inl rfl)) (pgs_cons (pg_name (i := 3) sc_law_changed.nd rfl (.inl rfl)) (pgs_cons (pg_name (i := 4) sc_law_changed.nd rfl (.inl rfl)) pgs_nil)))))
      (pss_cons (ps_set (i := 5) sc_law_changed.nd rfl (.inl rfl) (pe_c (ok_law_draw T) hr (by decide) (by rfl) (pa_cons (pv 0) (pa_cons (pe_callB call_len_seq (by rfl) T.m_len PySem.boot_len (pa_cons (pv 3) pa_nil)) pa_nil))))
      (pss_cons (ps_set (i := 6) sc_law_changed.nd rfl (.inl rfl) (pe_c (ok_law_draw T) hr (by decide) (by rfl) (pa_cons (pv 0) (pa_cons pe_int pa_nil))))
      (pss_cons (ps_if (pt_cmpR op_eq (pv 6) pe_int (nomark _)) (pss_one (ps_ret (pe_tup (pa_cons (pv 2) (pa_cons
          (pe_op op_catI (pe_op op_catI (pe_slice sl_tupI (pv 3) po_none (po_some (pv 5))) (pe_tup (pa_cons (pe_slice sl_tupI (pe_ix ix_tup (pv 3) (pv 5) (fun _ _ => rfl)) (po_some pe_int) po_none) pa_nil))) (pe_slice sl_tupI (pv 3) (po_some (pe_op op_add (pv 5) pe_int)) po_none)) (pa_cons (pv 4) pa_nil)))))) pss_nil)
      (pss_cons (ps_if (pt_cmpR op_eq (pv 6) pe_int (nomark _)) (pss_one (ps_ret (pe_tup (pa_cons (pv 2) (pa_cons (pv 3) (pa_cons
          (pe_op op_catI (pe_op op_catI (pe_slice sl_tupI (pv 4) po_none (po_some (pv 5))) (pe_tup (pa_cons (pe_slice sl_tupI (pe_ix ix_tup (pv 4) (pv 5) (fun _ _ => rfl)) po_none (po_some (pe_un un_neg pe_int))) pa_nil))) (pe_slice sl_tupI (pv 4) (po_some (pe_op op_add (pv 5) pe_int)) po_none)) pa_nil)))))) pss_nil)
      (pss_cut (ps_if (PW.pt (pw_and (pt_cmpR op_eq (pv 6) pe_int (nomark _)) (pw_and1 (pt_cmpR op_lt (pe_callB call_len_seq (by rfl) T.m_len PySem.boot_len (pa_cons (pv 3) pa_nil)) pe_int (nomark _))))) (pss_one (ps_ret (pe_tup (pa_cons (pv 2) (pa_cons
          (pe_op op_catI (pv 3) (pe_tup (pa_cons (pe_tup pa_nil) pa_nil))) (pa_cons (pe_op op_catI (pv 4) (pe_tup (pa_cons (pe_tup pa_nil) pa_nil))) pa_nil)))))) pss_nil)
      (pss_cons (ps_if (pt_cmpR op_eq (pv 6) pe_int (nomark _)) (pss_one (ps_ret (pe_tup (pa_cons (pe_tup (pa_cons (pe_ix ix_tup (pv 2) pe_int (fun _ _ => rfl)) (pa_cons (pe_callB (call_min2 rfl) (by rfl) T.m_min (by decide +kernel) (pa_cons pe_int (pa_cons (pe_op op_add (pe_ix ix_tup (pv 2) pe_int (fun _ _ => rfl)) pe_int) pa_nil))) (pa_cons (pe_ix ix_tup (pv 2) pe_int (fun _ _ => rfl)) pa_nil)))) (pa_cons (pv 3) (pa_cons (pv 4) pa_nil)))))) pss_nil)
      (pss_one (ps_ret (pv 1))))))))), ?_⟩
    obtain ⟨⟨s1, rfl, hs⟩, ⟨m1, ms, rfl, hm, hP⟩, ⟨c1, cs, rfl, hc, hPc⟩⟩ := id h3
    have hml : ms.length = p.mv.length := Paired.length hP
    have hcl : cs.length = p.cl.length := Paired.length hPc
    have hn := hg.n
    have hcn := hg.cn
    -- sizes, moves, closings = parts
    refine ⟨_, rfl, t, _, rfl, SqT.of ht, rfl, _, _, rfl, _, _, rfl, _, _, rfl, rfl, ?_⟩
    -- at, kind
    refine ⟨_, rfl, _, rfl, m1, _, rfl, .inr (SqT.of hm), h, cc, _, rfl, hh, by omega, by omega, fun d1 H1 d10 d11 hh1 b1 => ?_⟩
    refine ⟨_, rfl, h, cc, 5, rfl, hh1, by omega, by omega, fun d2 H2 d20 d21 hh2 b2 => ?_⟩
    have tk : TK H H2 := (hh.tk b1).trans (hh1.tk b2)
    have bb : But h H H2 := b1.trans b2
    obtain ⟨i, ei⟩ : ∃ i : Nat, d1 = (i : Int) := ⟨d1.toNat, by omega⟩
    subst ei
    have hi : i < p.mv.length := by omega
    obtain ⟨r, hr'⟩ : ∃ r, p.mv[i]? = some r := ⟨_, List.getElem?_eq_getElem hi⟩
    obtain ⟨rx, hrx, r1, rs, rfl, hr1, hP1⟩ := paired_get2 hP hr'
    obtain ⟨c, hc'⟩ := good_cl_at hg hi
    obtain ⟨cx, hcx, c2, rfl, hc2⟩ := paired_get2 hPc hc'
    have hrl := (hg.mv r (List.mem_of_getElem? hr')).len
    have hrs : rs.length = r.length := Paired.length hP1
    have hck := (hg.cl c (List.mem_of_getElem? hc')).len
    have S2 : TI H2 (.ref s1) p.sz := ⟨s1, rfl, tk _ _ hs⟩
    have M2 : TIII H2 (.ref m1) p.mv := TIII.tk tk ⟨m1, ms, rfl, hm, hP⟩
    have C2 : TII H2 (.ref c1) p.cl := TII.tk tk ⟨c1, cs, rfl, hc, hPc⟩
    have hP2 := Paired.mapP hP fun _ _ => TII.tk tk
    have hPc2 := Paired.mapP hPc fun _ _ => TI.tk tk
    have hm2 := tk _ _ hm
    have hc2' := tk _ _ hc
    have hr12 := tk _ _ hr1
    have hP12 := Paired.mapP hP1 fun _ _ => TI.tk tk
    have hc22 := tk _ _ hc2
    have ht2 := tk _ _ ht
    refine ⟨_, rfl, rfl, _, rfl, ?_⟩
    refine ite2 (fun _ => ?_) (fun _ => ?_)
    · -- kind 0
      refine ⟨_, rfl, _, rfl, _, rfl, _, rfl, ?_⟩
      refine sl_any hm2 (cut_to (by omega)) fun pa Ha sa hpa => ?_
      refine ⟨_, rfl, _, rfl, m1, _, _, _, rfl, rfl, SqT.of (sa _ _ hm2), atI_nat (j := i) hrx, 1, rfl, ?_⟩
      refine sl_any (sa _ _ hr12) (cut_from (j := 1)) fun pb Hb sb hpb => ?_
      refine ⟨(by show 1 ≤ sizeLine; decide), fun u hu => ?_⟩
      have sab := (sa.trans sb).trans (same_upd (o := .tup [.ref pb]) hu)
      have hpa' := (sb.trans (same_upd (o := .tup [.ref pb]) hu)) _ _ hpa
      have hpb' := (same_upd (o := .tup [.ref pb]) hu) _ _ hpb
      have hu' : upd Hb u (.tup [.ref pb]) u = some (.tup [.ref pb]) := upd_same
      generalize upd Hb u (.tup [.ref pb]) = Hc at sab hpa' hpb' hu' ⊢
      refine cat_any hpa' hu' (by rw [List.length_take]; show _ + 1 ≤ 1000; omega) fun pc Hd sd hpd => ?_
      refine ⟨_, rfl, _, rfl, _, _, rfl, rfl, _, rfl, ?_⟩
      refine sl_any ((sab.trans sd) _ _ hm2) (cut_from (j := i + 1)) fun pe He' se hpe => ?_
      refine cat_any (se _ _ hpd) hpe (by simp only [List.length_append, List.length_take, List.length_drop, List.length_singleton]; omega) fun pf Hf sf hpf => ?_
      have s2f : Same H2 Hf := ((sab.trans sd).trans se).trans sf
      refine ⟨_, rfl, (by show 3 ≤ sizeLine; decide), fun x hx => ?_⟩
      have sx : Same Hf (upd Hf x (.tup [.ref s1, .ref pf, .ref c1])) := same_upd hx
      have s2x := s2f.trans sx
      refine q _ x ⟨p.a, p.b, p.c, p.mv.take i ++ [r.drop 1] ++ p.mv.drop (i + 1), p.cl⟩ ⟨x, .ref s1, .ref pf, .ref c1, rfl, upd_same, ⟨S2.tk (stk s2x), ⟨pf, _, rfl, sx _ _ hpf, ?_⟩, TII.tk (stk s2x) C2⟩⟩ (good_k0 hg hr') (hh2.same s2x) (bb.trans (sbut s2x))
      have hPx := Paired.mapP hP2 fun _ _ => TII.tk (stk s2x)
      refine paired_app (paired_app (paired_take i hPx) (.cons ⟨pb, rs.drop 1, rfl, ?_, paired_drop 1 (Paired.mapP hP12 fun _ _ => TI.tk (stk s2x))⟩ .nil)) (paired_drop (i + 1) hPx)
      exact sx _ _ (sf _ _ (se _ _ (sd _ _ hpb')))
    refine ⟨_, rfl, rfl, _, rfl, ?_⟩
    refine ite2 (fun _ => ?_) (fun _ => ?_)
    · -- kind 1
      refine ⟨_, rfl, _, rfl, _, rfl, _, rfl, _, rfl, ?_⟩
      refine sl_any hc2' (cut_to (by omega)) fun pa Ha sa hpa => ?_
      refine ⟨_, rfl, _, rfl, c1, _, _, _, rfl, rfl, SqT.of (sa _ _ hc2'), atI_nat (j := i) hcx, 1, rfl, -1, rfl, ?_⟩
      refine sl_any (sa _ _ hc22) cut_init fun pb Hb sb hpb => ?_
      refine ⟨(by show 1 ≤ sizeLine; decide), fun u hu => ?_⟩
      have sab := (sa.trans sb).trans (same_upd (o := .tup [.ref pb]) hu)
      have hpa' := (sb.trans (same_upd (o := .tup [.ref pb]) hu)) _ _ hpa
      have hpb' := (same_upd (o := .tup [.ref pb]) hu) _ _ hpb
      have hu' : upd Hb u (.tup [.ref pb]) u = some (.tup [.ref pb]) := upd_same
      generalize upd Hb u (.tup [.ref pb]) = Hc at sab hpa' hpb' hu' ⊢
      refine cat_any hpa' hu' (by rw [List.length_take]; show _ + 1 ≤ 1000; omega) fun pc Hd sd hpd => ?_
      refine ⟨_, rfl, _, rfl, _, _, rfl, rfl, _, rfl, ?_⟩
      refine sl_any ((sab.trans sd) _ _ hc2') (cut_from (j := i + 1)) fun pe He' se hpe => ?_
      refine cat_any (se _ _ hpd) hpe (by simp only [List.length_append, List.length_take, List.length_drop, List.length_singleton]; omega) fun pf Hf sf hpf => ?_
      have s2f : Same H2 Hf := ((sab.trans sd).trans se).trans sf
      refine ⟨(by show 3 ≤ sizeLine; decide), fun x hx => ?_⟩
      have sx : Same Hf (upd Hf x (.tup [.ref s1, .ref m1, .ref pf])) := same_upd hx
      have s2x := s2f.trans sx
      refine q _ x ⟨p.a, p.b, p.c, p.mv, p.cl.take i ++ [c.take (c.length - 1)] ++ p.cl.drop (i + 1)⟩ ⟨x, .ref s1, .ref m1, .ref pf, rfl, upd_same, ⟨S2.tk (stk s2x), TIII.tk (stk s2x) M2, ⟨pf, _, rfl, sx _ _ hpf, ?_⟩⟩⟩ (good_k1 hg hc') (hh2.same s2x) (bb.trans (sbut s2x))
      have hPx := Paired.mapP hPc2 fun _ _ => TI.tk (stk s2x)
      refine paired_app (paired_app (paired_take i hPx) (.cons ⟨pb, rfl, ?_⟩ .nil)) (paired_drop (i + 1) hPx)
      rw [sx _ _ (sf _ _ (se _ _ (sd _ _ hpb'))), List.length_map, List.map_take]
    refine ⟨fun σ' H' => σ' = [some (.ref h), some (.ref t), some (.ref s1), some (.ref m1), some (.ref c1), some (.int i), some (.int d2)] ∧ H' = H2, ?_, ?_⟩
    · refine ⟨_, rfl, rfl, _, rfl, ?_⟩
      refine ite2 (fun _ => ?_) (fun _ => iteF ⟨rfl, rfl⟩)
      refine ⟨_, rfl, m1, _, rfl, .inr (SqT.of hm2), _, _, rfl, rfl, _, rfl, ?_⟩
      refine ite2 (fun hlt => ?_) (fun _ => ⟨rfl, rfl⟩)
      have hlt2 : p.mv.length < 20 := by
        have := of_decide_eq_true hlt
        omega
      -- kind 2
      refine ⟨_, rfl, _, rfl, Nat.zero_le _, fun u hu => ⟨(by show 1 ≤ sizeLine; decide), fun u2 hu2 => ?_⟩⟩
      have s1' : Same H2 (upd (upd H2 u (.tup [])) u2 (.tup [.ref u])) := (same_upd hu).trans (same_upd hu2)
      have hu' : upd (upd H2 u (.tup [])) u2 (.tup [.ref u]) u = some (.tup []) := same_upd hu2 _ _ upd_same
      have hu2' : upd (upd H2 u (.tup [])) u2 (.tup [.ref u]) u2 = some (.tup [.ref u]) := upd_same
      generalize upd (upd H2 u (.tup [])) u2 (.tup [.ref u]) = Ha at s1' hu' hu2' ⊢
      refine cat_any (s1' _ _ hm2) hu2' (by show _ + 1 ≤ 1000; omega) fun pf Hb sb hpf => ?_
      refine ⟨_, rfl, Nat.zero_le _, fun v hv => ⟨(by show 1 ≤ sizeLine; decide), fun v2 hv2 => ?_⟩⟩
      have s2' : Same Hb (upd (upd Hb v (.tup [])) v2 (.tup [.ref v])) := (same_upd hv).trans (same_upd hv2)
      have hv' : upd (upd Hb v (.tup [])) v2 (.tup [.ref v]) v = some (.tup []) := same_upd hv2 _ _ upd_same
      have hv2' : upd (upd Hb v (.tup [])) v2 (.tup [.ref v]) v2 = some (.tup [.ref v]) := upd_same
      generalize upd (upd Hb v (.tup [])) v2 (.tup [.ref v]) = Hc at s2' hv' hv2' ⊢
      refine cat_any (((s1'.trans sb).trans s2') _ _ hc2') hv2' (by show _ + 1 ≤ 1000; omega) fun pg Hd sd hpg => ?_
      refine ⟨(by show 3 ≤ sizeLine; decide), fun x hx => ?_⟩
      have sx : Same Hd (upd Hd x (.tup [.ref s1, .ref pf, .ref pg])) := same_upd hx
      have sdx := (s2'.trans sd).trans sx
      have s2x := (s1'.trans sb).trans sdx
      refine q _ x ⟨p.a, p.b, p.c, p.mv ++ [[]], p.cl ++ [[]]⟩ ⟨x, .ref s1, .ref pf, .ref pg, rfl, upd_same, ⟨S2.tk (stk s2x), ⟨pf, _, rfl, sdx _ _ hpf, ?_⟩, ⟨pg, _, rfl, sx _ _ hpg, ?_⟩⟩⟩ (good_k2 hg hlt2) (hh2.same s2x) (bb.trans (sbut s2x))
      · exact paired_app (Paired.mapP hP2 fun _ _ => TII.tk (stk s2x)) (.cons ⟨u, [], rfl, (sb.trans sdx) _ _ hu', .nil⟩ .nil)
      · exact paired_app (Paired.mapP hPc2 fun _ _ => TI.tk (stk s2x)) (.cons ⟨v, rfl, (sd.trans sx) _ _ hv'⟩ .nil)
    · rintro σ' H' ⟨rfl, rfl⟩
      have hs2 := tk _ _ hs
      refine ⟨_, rfl, rfl, _, rfl, ?_⟩
      refine ite2 (fun _ => ?_) (fun _ => ⟨_, rfl, q _ t p ⟨t, _, _, _, rfl, ht2, ⟨S2, M2, C2⟩⟩ hg hh2 bb⟩)
      -- kind 3
      refine ⟨_, rfl, s1, _, _, _, rfl, rfl, SqT.of hs2, atI_nat (j := 0) rfl, _, rfl, s1, _, _, _, rfl, rfl, SqT.of hs2, atI_nat (j := 1) rfl, _, _, rfl, rfl, 4, _, rfl, _, rfl, s1, _, _, _, rfl, rfl, SqT.of hs2, atI_nat (j := 2) rfl, (by show 3 ≤ sizeLine; decide), fun u hu => ?_⟩
      obtain ⟨b', eb⟩ : ∃ b' : Int, b' = if p.b + 1 < 4 then p.b + 1 else 4 := ⟨_, rfl⟩
      have hb' : p.b ≤ b' ∧ b' ≤ 4 := by
        have := hg.b
        rw [eb]
        split <;> omega
      refine ⟨_, rfl, _, rfl, (by show 3 ≤ sizeLine; decide), fun x hx => ?_⟩
      have su : Same H' (upd H' u (.tup [.int p.a, .int (if p.b + 1 < 4 then p.b + 1 else 4), .int p.c])) := same_upd hu
      have sx := su.trans (same_upd (o := .tup [.ref u, .ref m1, .ref c1]) hx)
      refine q _ x ⟨p.a, b', p.c, p.mv, p.cl⟩ ⟨x, .ref u, .ref m1, .ref c1, rfl, upd_same, ⟨⟨u, rfl, ?_⟩, TIII.tk (stk sx) M2, TII.tk (stk sx) C2⟩⟩ (good_k3 hg hb') (hh2.same sx) (bb.trans (sbut sx))
      rw [eb]
      exact same_upd (o := .tup [.ref u, .ref m1, .ref c1]) hx _ _ upd_same
end
end K15

-- part M
set_option maxHeartbeats 4000000
/-! K15M: the law. -/
namespace K15
open PySem PySem.Spec PyProof.Rows L2 C8
section
variable {P : Program} {w : World} {K : PySem.W.Frag} {mg : Str → Option Value} {base : Heap}
def spLaw (K : PySem.W.Frag) : Sp := fun vs H Q _ => ∃ (a : Addr) (ns : List Int), vs = [.ref a] ∧ SqL K H a (ns.map V.int) ∧ ns.length ≤ 63 ∧ ∀ H', Q (.bl true) H'
theorem sc_law : FnScope ["_law_script", "_law_hand_here", "_law_turn", "_law_one", "_law_other", "_law_parts_here", "_law_text_here", "_law_read"] ["_law_script"] (defScope s_law) := ⟨rfl, rfl, rfl, by decide +kernel, rfl, by decide +kernel, by decide +kernel⟩
theorem same_texts {p q : Parts} (hp : Good p) (hq : Good q) : decide (V.str (ofText p) = V.str (ofText q)) = decide (p = q) := by
  by_cases e : p = q
  · subst e
    rw [decide_eq_true rfl, decide_eq_true rfl]
  · rw [decide_eq_false e, decide_eq_false fun z => e (of_inj hp hq (V.str.inj z))]
theorem ok_law (T : Tx K mg) {f : Addr} {fd : FuncData} (F : FnP K "law" "law" s_law f fd) : FnOk P w K mg base L2.CX0 8 f fd ["_law_script"] (spLaw K) := by
  refine F.ok (CX := L2.CX0) sc_law (fun vs H Q E h => ?_) (fun cdv A outer s H vs Q E hr h => ?_)
  · obtain ⟨a, ns, rfl, _⟩ := h
    rfl
  · obtain ⟨a, ns, rfl, hS, hn, q⟩ := h
    obtain ⟨fE, fdE, psE, dsE, _, me, FE, bE, dE⟩ := (ok_eq (P := P) (w := w) (base := base) T).ex
    cases dE
    have hr2 : Room 2 (A.deeper (envOfC "law" (defScope s_law) s.heap.objs.size f cdv)) := hr.mono (by decide)
    suffices hh : ∃ t, PSs (cxOf L2.CX0 P w K mg base ["_law_script", "_law_hand_here", "_law_turn", "_law_one", "_law_other", "_law_parts_here", "_law_text_here", "_law_read"] "law" (defScope s_law) f cdv A outer s H E).nox (defBody s_law) t ∧ t { nx := fun _ H' => Q .non H', rt := Q } (start ["_law_script", "_law_hand_here", "_law_turn", "_law_one", "_law_other", "_law_parts_here", "_law_text_here", "_law_read"] [.ref a]) H by
      obtain ⟨t, h1, h2⟩ := hh
      exact ⟨t, h1.nox, h2⟩
    refine ⟨_, pss_cons (ps_set (i := 1) sc_law.nd rfl (.inl rfl) (pe_c (ok_law_hand T) hr (by decide) (by rfl) (pa_cons (pv 0) pa_nil)))
      (pss_cons (ps_for PassesOwn.never rfl (pi_range1 (by rfl) T.m_range (pa_cons pe_int pa_nil)) (pg_name (i := 2) sc_law.nd rfl (.inl rfl))
        (pss_cons (ps_set (i := 3) sc_law.nd rfl (.inl rfl) (pe_c (ok_law_parts T) hr (by decide) (by rfl) (pa_cons (pv 1) (pa_cons (pe_ix ix_list (pe_lst (pa_cons pe_int (pa_cons pe_int pa_nil))) (pe_c (ok_law_draw T) hr (by decide) (by rfl) (pa_cons (pv 1) (pa_cons pe_int pa_nil))) (fun _ _ => rfl)) (pa_cons pe_int (pa_cons pe_int pa_nil))))))
        (pss_cons (ps_set (i := 4) sc_law.nd rfl (.inl rfl) (pe_c (ok_law_changed T) hr (by decide) (by rfl) (pa_cons (pv 1) (pa_cons (pv 3) pa_nil))))
        (pss_cons (ps_for PassesOwn.never rfl (pi_list (pe_lst (pa_cons (pv 3) (pa_cons (pv 4) pa_nil)))) (pg_name (i := 5) sc_law.nd rfl (.inl rfl))
          (pss_cons (ps_set (i := 6) sc_law.nd rfl (.inl rfl) (pe_c (ok_office_text T) hr (by decide) (by rfl) (pa_cons (pe_c (ok_law_made T) hr (by decide) (by rfl) (pa_cons (pv 5) pa_nil)) pa_nil)))
          (pss_cons (ps_set (i := 7) sc_law.nd rfl (.inl rfl) (pe_c (ok_read_office T) hr (by decide) (by rfl) (pa_cons (pv 6) pa_nil)))
          (pss_one (ps_if (PW.pt (pw_or (pt_cmpR op_ne (pv 6) (pe_c (ok_law_text T) hr (by decide) (by rfl) (pa_cons (pv 5) pa_nil)) (nomark _))
            (pw_or (pt_cmpR (op_neI FE hr2 (C8.pass0 (E := C8.E0)) T.ne T.insC.hm me.at_ me.fn bE) (pv 7) (pe_c (ok_law_made T) hr (by decide) (by rfl) (pa_cons (pv 5) pa_nil)) (nomark _))
            (pw_or1 (pt_cmpR (op_neD hr.units) (pe_tup (pa_cons (pe_fld (pv 7) rfl) (pa_cons (pe_fld (pv 7) rfl) (pa_cons (pe_fld (pv 7) rfl) pa_nil)))) (pv 5) (nomark _)))))) (pss_one (ps_ret pe_bl)) pss_nil)))))
        (pss_one (ps_if (pt_cmpR op_ne (pe_cmpR op_eq (pe_c (ok_office_text T) hr (by decide) (by rfl) (pa_cons (pe_c (ok_law_made T) hr (by decide) (by rfl) (pa_cons (pv 3) pa_nil)) pa_nil)) (pe_c (ok_office_text T) hr (by decide) (by rfl) (pa_cons (pe_c (ok_law_made T) hr (by decide) (by rfl) (pa_cons (pv 4) pa_nil)) pa_nil)) (nomark _))
            (pe_cmpR (op_eqD hr.units) (pv 3) (pv 4) (nomark _)) (nomark _)) (pss_one (ps_ret pe_bl)) pss_nil))))))
      (pss_one (ps_ret pe_bl))), ?_⟩
    -- hand
    refine ⟨_, rfl, a, ns, rfl, hS, hn, fun H1 h c hh1 s1 _ => ?_⟩
    refine ⟨2, rfl, by decide, by decide, ?_⟩
    refine for_range (lo := 0) (n := 2) (fun i σ H' => ∃ v2 v3 v4 v5 v6 v7, σ = [some (.ref a), some (.ref h), v2, v3, v4, v5, v6, v7] ∧ HandAt H' h c) ⟨none, none, none, none, none, none, rfl, hh1⟩ ?_ ?_
    · rintro i σ H2 hi ⟨v2, v3, v4, v5, v6, v7, rfl, hh2⟩
      -- one = _law_parts(hand, [4, 20][draw(hand, 2)], 4, 5)
      refine ⟨_, rfl, (by show 2 ≤ sizeLine; decide), fun l hl => ?_⟩
      have hh3 := hh2.same (same_upd (o := .lst [.int 4, .int 20]) hl)
      obtain ⟨nhl, ncl⟩ := hh2.ne hl
      have l3 : upd H2 l (.lst [.int 4, .int 20]) l = some (.lst [.int 4, .int 20]) := upd_same
      generalize upd H2 l (.lst [.int 4, .int 20]) = H3 at hh3 l3 ⊢
      refine ⟨_, rfl, h, c, 2, rfl, hh3, by decide, by decide, fun d H4 d0 d1 hh4 b4 => ?_⟩
      have l4 := b4 l _ l3 nhl.symm
      obtain ⟨most, hmost, hat⟩ : ∃ most : Int, (1 ≤ most ∧ most ≤ 20) ∧ atI [V.int 4, V.int 20] d = some (.int most) := by
        rcases (show d = 0 ∨ d = 1 by omega) with rfl | rfl
        · exact ⟨4, by decide, atI_nat (j := 0) rfl⟩
        · exact ⟨20, by decide, atI_nat (j := 1) rfl⟩
      refine ⟨l, _, d, _, rfl, rfl, SqL.of l4, hat, h, c, most, rfl, hh4, hmost, fun H5 t1 p1 pt1 g1 hh5 b5 => ?_⟩
      -- other = _law_changed(hand, one)
      refine ⟨_, rfl, _, rfl, h, c, .ref t1, p1, rfl, hh5, pt1, g1, fun H6 t2 p2 pt2 g2 hh6 b6 => ?_⟩
      have pt16 := pt1.tk (hh5.tk b6)
      -- for parts_here in [one, other]
      refine ⟨_, rfl, _, rfl, (by show 2 ≤ sizeLine; decide), fun l2 hl2 => ?_⟩
      have s7 := same_upd (o := .lst [.ref t1, .ref t2]) hl2
      have l7 : upd H6 l2 (.lst [.ref t1, .ref t2]) l2 = some (.lst [.ref t1, .ref t2]) := upd_same
      have hh7 := hh6.same s7
      have pt17 := pt16.tk (stk s7)
      have pt27 := pt2.tk (stk s7)
      generalize upd H6 l2 (.lst [.ref t1, .ref t2]) = H7 at l7 hh7 pt17 pt27 ⊢
      refine ⟨l2, rfl, ⟨_, SqL.of l7⟩, for_list (K := K) (a := l2) (xs := [.ref t1, .ref t2]) (fun j σ H' => ∃ v5 v6 v7, σ = [some (.ref a), some (.ref h), some (.int (0 + (i : Nat))), some (.ref t1), some (.ref t2), v5, v6, v7] ∧ Same H7 H') ⟨v5, v6, v7, rfl, Same.refl _⟩ (fun j σ H' _ ⟨_, _, _, _, q⟩ => SqL.of (q _ _ l7)) ?_ ?_⟩
      · rintro j y σ H8 hy ⟨v5, v6, v7, rfl, s78⟩
        obtain ⟨t, p, rfl, pt, gp⟩ : ∃ t p, y = .ref t ∧ PT3 H8 (.ref t) p ∧ Good p := by
          match j, hy with
          | 0, hy => exact ⟨t1, p1, (Option.some.inj hy).symm, pt17.tk (stk s78), g1⟩
          | 1, hy => exact ⟨t2, p2, (Option.some.inj hy).symm, pt27.tk (stk s78), g2⟩
          | j + 2, hy => simp at hy
        -- text, read
        refine ⟨_, rfl, .ref t, p, rfl, pt, gp, fun H9 o9 off9 s9 => ⟨.ref o9, p, rfl, off9, gp, fun H10 s10 => ?_⟩⟩
        refine ⟨_, rfl, p, rfl, gp, fun H11 o11 off11 s11 => ?_⟩
        have s811 := (s9.trans s10).trans s11
        -- text != _law_text(parts)
        refine ⟨_, rfl, _, rfl, .ref t, p, rfl, pt.tk (stk s811), gp, fun H12 s12 => ⟨rfl, _, rfl, ?_⟩⟩
        rw [decide_eq_true rfl]
        refine iteF ?_
        -- read != _law_made(parts)
        refine ⟨_, rfl, _, rfl, .ref t, p, rfl, pt.tk (stk (s811.trans s12)), gp, fun H13 o13 off13 s13 => ?_⟩
        have off11' := off11.same (s12.trans s13)
        obtain ⟨oa, dx, sv, mv, cv, g, eo, ho, h3⟩ := id off11'
        cases eo
        obtain ⟨ob, dy, sv', mv', cv', g', eo', ho', h3'⟩ := id off13
        cases eo'
        refine ⟨o11, o13, dx, dy, _, _, rfl, rfl, ho, ho', ⟨_, _, p, rfl, off11', off13, true, rfl, _, rfl, iteF ?_⟩⟩
        -- (read.sizes, read.moves, read.closings) != parts
        refine ⟨_, rfl, o11, _, dx, _, _, rfl, ho, T.cl_Office, T.n_sizes, of_sizes, _, rfl, o11, _, dx, _, _, rfl, ho, T.cl_Office, T.n_moves, of_moves, _, rfl, o11, _, dx, _, _, rfl, ho, T.cl_Office, T.n_closings, of_closings, (by show 3 ≤ sizeLine; decide), fun x hx => ?_⟩
        have sx := same_upd (o := .tup [sv, mv, cv]) hx
        have s813 := (s811.trans s12).trans (s13.trans sx)
        refine ⟨_, rfl, dP p, dP p, PT3.dp ⟨x, sv, mv, cv, rfl, upd_same, h3.tk (stk sx)⟩, (pt.tk (stk s813)).dp, shp_P p, shp_P p, ?_⟩
        rw [eqv_P, decide_eq_true rfl]
        exact ⟨false, rfl, iteF ⟨_, _, _, rfl, s78.trans s813⟩⟩
      · rintro σ H8 ⟨v5, v6, v7, rfl, s78⟩
        have pt18 := pt17.tk (stk s78)
        have pt28 := pt27.tk (stk s78)
        refine ⟨_, rfl, .ref t1, p1, rfl, pt18, g1, fun H9 o9 off9 s9 => ⟨.ref o9, p1, rfl, off9, g1, fun H10 s10 => ?_⟩⟩
        have s810 := s9.trans s10
        refine ⟨_, rfl, .ref t2, p2, rfl, pt28.tk (stk s810), g2, fun H11 o11 off11 s11 => ⟨.ref o11, p2, rfl, off11, g2, fun H12 s12 => ⟨rfl, ?_⟩⟩⟩
        have s812 := (s810.trans s11).trans s12
        refine ⟨_, rfl, _, rfl, dP p1, dP p2, (pt18.tk (stk s812)).dp, (pt28.tk (stk s812)).dp, shp_P p1, shp_P p2, rfl, _, rfl, ?_⟩
        rw [eqv_P, same_texts g1 g2, decide_eq_true rfl]
        exact iteF ⟨_, _, _, _, _, _, rfl, hh7.same (s78.trans s812)⟩
    · rintro σ H2 ⟨v2, v3, v4, v5, v6, v7, rfl, hh2⟩
      exact q _
end
end K15

-- part Head
set_option maxHeartbeats 0
namespace K15
open PySem PySem.Spec PyProof.Rows L2
abbrev R : PySem.W.OpenRow := PySem.W.OpenLaw.row PySem.Challenge.rw_falsedays_k15_whole_texts_of_offices
def ob (s : PySem.W.SharedT) : Bool × He.AlD := obsXG 6 (HandSHeadRun.getT s)
theorem ob_eq (s : PySem.W.SharedT) : ob s = (hookX 6).obs s.abs := obsXG_eq (HandSHeadRun.getT_eq s)
def loose : List Str := [("FalseError" : Str), ("BadOffice" : Str), ("BadText" : Str), ("is_integer" : Str), ("is_within" : Str), ("is_triple" : Str), ("is_string_of" : Str), ("are_ascending" : Str), ("MOST_SIZE" : Str), ("MOST_STANDINGS" : Str), ("are_sizes" : Str), ("is_move" : Str), ("are_moves" : Str), ("are_closings" : Str), ("Office" : Str), ("FIGURES" : Str), ("MOST_FIGURES" : Str), ("number_of" : Str), ("numbers_behind" : Str), ("Lines" : Str), ("read_standing" : Str), ("read_office" : Str), ("words_line" : Str), ("office_text" : Str), ("_law_hand" : Str), ("_law_draw" : Str), ("_law_row" : Str), ("_law_parts" : Str), ("_law_made" : Str), ("_law_line" : Str), ("_law_text" : Str), ("_law_day_text" : Str), ("_law_changed" : Str)]
theorem run (w : World) : HandSHeadRun.RunEq R (PySem.W.view R.prog [39]) (hookX 6) ob 4000 loose w := by
  intro os
  kernel_rfl
end K15

-- part End
set_option maxHeartbeats 0
namespace K15
open PySem PySem.Spec PyProof.Rows L2
theorem facts {P : Program} {w : World} {K : PySem.W.Frag} {h : Heap} {mg : Str → Option Value} {f : Addr} (X : K.In h) (G : h.Ns mainGlobals mg) (hfa : mg ("law" : Str) = some (.ref f)) (c : SaysX K) :
    ∃ fd : FuncData, (∀ (s : Shared) (v : Value), BindsTo s fd ⟨[v], []⟩ [("_law_script", v)]) ∧ ∀ base : Heap, K.In base → base.Ns mainGlobals mg → FnOk P w K mg base L2.CX0 8 f fd ["_law_script"] (spLaw K) := by
  have T : Tx K mg := ⟨⟨h, X, G⟩, c⟩
  obtain ⟨fd, F⟩ := T.f_law
  have e := hfa.symm.trans T.g_law
  cases e
  have b := FunD.bindsA (ps := ["_law_script"]) F fun _ _ _ _ _ _ us hl => match us, hl with | [_], _ => rfl
  exact ⟨fd, fun s v => b s [v] rfl, fun base _ _ => ok_law T F⟩
end K15
open PySem PySem.W PySem.Calls PyProof.Rows
theorem PySem.Challenge.cw_falsedays_k15_whole_texts_of_offices_holds : PySem.Challenge.rw_falsedays_k15_whole_texts_of_offices.Holds := by
  w_on; o_law
  refine HandSHeadRun.head_any (r := OpenLaw.row PySem.Challenge.rw_falsedays_k15_whole_texts_of_offices) (q := view (OpenLaw.row PySem.Challenge.rw_falsedays_k15_whole_texts_of_offices).prog [39]) (H := K15.hookX 6) (ob := K15.ob) (M := 4000) (loose := K15.loose) (d := HandSHeadRun.topDef (OpenLaw.row PySem.Challenge.rw_falsedays_k15_whole_texts_of_offices).prog 39) (kwd := []) K15.ob_eq
    (by kernel_rfl) (fun s => by kernel_rfl) K15.run (by kernel_rfl) (by kernel_rfl) (by kernel_rfl) (by rfl) (by first | assumption | decide +kernel) (by decide +kernel) ⟨rfl, rfl, rfl, rfl, rfl, by decide +kernel⟩ ?hw ?hc
  case hw => w_witness2
  case hc =>
    refine L2.walk_ofE (l := PySem.Challenge.rw_falsedays_k15_whole_texts_of_offices) (n := 63) (k := 8) (x := "_law_script") (CX := L2.CX0) rfl (by decide) (by kernel_rfl) ⟨rfl, by decide, by decide⟩ ?F (fun _ _ _ _ z => z)
    intro w mg fa h Y G hmg0
    obtain ⟨K, KX, c⟩ := Y
    have hmg : mg ("law" : PySem.Str) = some (.ref fa) := by
      have e : (HandSHeadRun.topDef (OpenLaw.row PySem.Challenge.rw_falsedays_k15_whole_texts_of_offices).prog 39).name = ("law" : PySem.Str) := by kernel_rfl
      rw [← e]
      exact hmg0
    obtain ⟨fd, hb, hF⟩ := K15.facts (P := (PySem.Challenge.rw_falsedays_k15_whole_texts_of_offices).prog) (w := w) KX G hmg c
    exact ⟨K, fd, K15.spLaw K, KX, hb, fun H a ns hl _ hS => ⟨a, ns, rfl, hS, hl, fun _ => rfl⟩, hF⟩
